import PyProof.Rows.All
import Wide.All
import OpenK.AllK
import Wide.FinOn
import HandS.ForMost
import HandS.Exc
import HandS.ExcOwn
import HandS.TryOnly
import HandS.WordsExc
import HandS.CallSlots
import HandS.IsInst
import HandS.TupAny
import HandS.Deep
import HandS.Flow
import HandS.TupLe
import KE.DataEq
import PyProof.Rows.InDataRows
import HandS.Dict
import HandS.WordsDict
import HandS.Conv
import HandS.Sort
import HandS.More
import HandS.Text
import HandS.ExcIs
import HandS.DictComp
import HandS.Property
import HandS.Defaults
import HandS.Zip
import HandS.Rev
import HandS.TryElse
import PySem.Challenge.RW_worldorpaper_k86_parts_and_places
set_option Elab.async false
set_option linter.all false
set_option maxRecDepth 100000
set_option maxHeartbeats 2000000
/-! DL: a data level over HandS. Values are plain data (D); objects that change by reference are resources (D.loc n). -/
namespace DL
open PySem L2

/-- data: what a program's value says, without addresses -/
inductive D where
  | non | bl (b : Bool) | int (i : Int) | str (x : Str)
  | tup (xs : List D) | lst (xs : List D) | dic (kvs : List (Key × D))
  | loc (n : Nat) | scr (ns : List Int) | ty (n : String) | gl (a : Addr)
  | ins (c : Nat) (fs : List D)
  | rg (lo hi : Int)

/-- a resource: an object that is changed by reference; a list's or dict's items hold no list and no dict of their own; an instance's fields may hold anything, ver counts its writes -/
inductive RO where
  | lst (xs : List D) | dic (kvs : List (Key × D)) | obj (ver c : Nat) (fs : List D)

/-- the classes by number -/
def clsNames : List Str := ["WorldOrPaperError", "BadName", "BadArity", "UnknownName", "BadTerm", "BadSentence", "BadPlace", "BadStep", "BadWorld", "BadOrder", "NotOfKind", "BadDeed", "BadText",
  "Signature", "Book", "World", "Order", "Words", "Reader", "Form", "Partial", "Branch", "Grower", "Heart", "Fillings", "Outline", "Decider", "Answer", "Bench", "Desk", "TreeReader", "LineWriter"]
/-- the fields, in the order in which they are stored -/
def fldTab : List (List Str) := [[], [], [], [], [], [], [], [], [], [], [], [], [],
  ["functions", "relations", "table"], ["signature", "sentences"], ["signature", "size", "_tables"], ["signature", "weights", "ranking", "ranks"], ["words", "at"], ["words", "at", "signature", "known"],
  ["book", "signature", "steps", "chosen", "matrices", "clauses", "origins"], ["signature", "size", "cells"], ["partial", "waiting", "cell", "entries", "below", "ends_beyond"],
  ["limit", "opened", "world", "tree", "beyond", "_clauses", "_unknowns", "_picks", "_elder_every", "_start", "_branches", "_beyond_below"],
  ["signature", "order", "picks", "given", "rows", "waiting", "kept", "steps", "refuted", "_clauses", "_heads", "_texts"]]
def fldsOf (c : Nat) : List Str := fldTab.getD c []
theorem flds_nd (c : Nat) : (fldsOf c).Nodup := by
  have h : ∀ l ∈ fldTab, l.Nodup := by decide +kernel
  unfold fldsOf
  by_cases hc : c < fldTab.length
  · rw [List.getD_eq_getElem?_getD, List.getElem?_eq_getElem hc]
    exact h _ (List.getElem_mem hc)
  · rw [List.getD_eq_getElem?_getD, List.getElem?_eq_none (by omega)]
    exact List.nodup_nil
def clsA (K : PySem.W.Frag) (c : Nat) : Addr := match PySem.W.nsIn K mainGlobals (clsNames.getD c "") with
  | some (some (.ref a)) => a
  | _ => 0
/-- the classes of errors over one -/
def subE (c d : Nat) : Bool := c == d || d == 0 && c ≤ 12

abbrev Rs := List RO
abbrev En := List (Option D)

mutual
def D.imm : D → Bool
  | .tup xs => D.imms xs
  | .lst _ => false
  | .dic _ => false
  | .scr _ => false
  | .ins _ _ => false
  | .rg _ _ => false
  | _ => true
def D.imms : List D → Bool
  | [] => true
  | x :: xs => D.imm x && D.imms xs
end
def D.immk : List (Key × D) → Bool
  | [] => true
  | p :: r => D.imm p.2 && D.immk r

section
variable (K : PySem.W.Frag) (m : List Addr) (H : Hp)
mutual
inductive Rp : D → V → Prop
  | non : Rp .non .non
  | bl (b : Bool) : Rp (.bl b) (.bl b)
  | int (i : Int) : Rp (.int i) (.int i)
  | str (x : Str) : Rp (.str x) (.str x)
  | tup {a : Addr} {xs : List V} {ds : List D} : SqT K H a xs → Rps ds xs → Rp (.tup ds) (.ref a)
  | lst {a : Addr} {xs : List V} {ds : List D} : H a = some (.lst xs) → Rps ds xs → Rp (.lst ds) (.ref a)
  | dic {a : Addr} {kvs : List (Key × V)} {kds : List (Key × D)} : Rd H a (.dK kvs) → Rpk kds kvs → Rp (.dic kds) (.ref a)
  | loc {n : Nat} {a : Addr} : m[n]? = some a → Rp (.loc n) (.ref a)
  | scr {a : Addr} {ns : List Int} : SqL K H a (ns.map V.int) → Rp (.scr ns) (.ref a)
  | ty (n : String) : Rp (.ty n) (.ty n)
  | gl (a : Addr) : Rp (.gl a) (.ref a)
  | ins {c : Nat} {a dx : Addr} {fs : List D} {vs : List V} : H a = some (.ins (clsA K c) dx ((fldsOf c).zip vs)) → vs.length ≤ (fldsOf c).length → Rps fs vs → Rp (.ins c fs) (.ref a)
  | rg {a : Addr} {lo hi : Int} : H a = some (.rng lo hi) → Rp (.rg lo hi) (.ref a)
inductive Rps : List D → List V → Prop
  | nil : Rps [] []
  | cons {d : D} {ds : List D} {v : V} {vs : List V} : Rp d v → Rps ds vs → Rps (d :: ds) (v :: vs)
inductive Rpk : List (Key × D) → List (Key × V) → Prop
  | nil : Rpk [] []
  | cons {k : Key} {d : D} {ds : List (Key × D)} {v : V} {vs : List (Key × V)} : Rp d v → Rpk ds vs → Rpk ((k, d) :: ds) ((k, v) :: vs)
end
end

/-- all of H stands in H' -/
def Sub (H H' : Hp) : Prop := ∀ a o, H a = some o → H' a = some o
theorem Sub.refl (H : Hp) : Sub H H := fun _ _ h => h
theorem Sub.trans {A B C : Hp} (a : Sub A B) (b : Sub B C) : Sub A C := fun x o h => b x o (a x o h)
theorem Sub.rd {H H' : Hp} (s : Sub H H') {a : Addr} {u : HO} (h : Rd H a u) : Rd H' a u := by
  rcases h with h | ⟨o, h⟩
  · exact .inl (s a _ h)
  · exact .inr ⟨o, s a _ h⟩
theorem Sub.sqL {K : PySem.W.Frag} {H H' : Hp} (s : Sub H H') {a : Addr} {xs : List V} (h : SqL K H a xs) : SqL K H' a xs := by
  rcases h with h | h
  · exact .inl (s.rd h)
  · exact .inr h
theorem Sub.sqT {K : PySem.W.Frag} {H H' : Hp} (s : Sub H H') {a : Addr} {xs : List V} (h : SqT K H a xs) : SqT K H' a xs := by
  rcases h with h | h
  · exact .inl (s.rd h)
  · exact .inr h

def Pre (m m' : List Addr) : Prop := ∀ (n : Nat) (a : Addr), m[n]? = some a → m'[n]? = some a
theorem Pre.refl (m : List Addr) : Pre m m := fun _ _ h => h
theorem Pre.trans {a b c : List Addr} (x : Pre a b) (y : Pre b c) : Pre a c := fun n q h => y n q (x n q h)
theorem Pre.lt {m m' : List Addr} (p : Pre m m') {n : Nat} (h : n < m.length) : n < m'.length :=
  (List.getElem?_eq_some_iff.mp (p n m[n] (List.getElem?_eq_getElem h))).1
theorem Pre.mem {m m' : List Addr} (p : Pre m m') {a : Addr} (h : a ∈ m) : a ∈ m' := by
  obtain ⟨n, hn⟩ := List.mem_iff_getElem?.mp h
  exact List.mem_iff_getElem?.mpr ⟨n, p n a hn⟩

section
variable {K : PySem.W.Frag} {m m' : List Addr} {H H' : Hp}
mutual
theorem Rp.mono (s : Sub H H') (p : Pre m m') : ∀ {d : D} {v : V}, Rp K m H d v → Rp K m' H' d v
  | _, _, .non => .non
  | _, _, .bl b => .bl b
  | _, _, .int i => .int i
  | _, _, .str x => .str x
  | _, _, .tup h r => .tup (s.sqT h) (Rps.mono s p r)
  | _, _, .lst h r => .lst (s _ _ h) (Rps.mono s p r)
  | _, _, .dic h r => .dic (s.rd h) (Rpk.mono s p r)
  | _, _, .loc h => .loc (p _ _ h)
  | _, _, .scr h => .scr (s.sqL h)
  | _, _, .ty n => .ty n
  | _, _, .gl a => .gl a
  | _, _, .ins h l r => .ins (s _ _ h) l (Rps.mono s p r)
  | _, _, .rg h => .rg (s _ _ h)
theorem Rps.mono (s : Sub H H') (p : Pre m m') : ∀ {d : List D} {v : List V}, Rps K m H d v → Rps K m' H' d v
  | _, _, .nil => .nil
  | _, _, .cons h r => .cons (Rp.mono s p h) (Rps.mono s p r)
theorem Rpk.mono (s : Sub H H') (p : Pre m m') : ∀ {d : List (Key × D)} {v : List (Key × V)}, Rpk K m H d v → Rpk K m' H' d v
  | _, _, .nil => .nil
  | _, _, .cons h r => .cons (Rp.mono s p h) (Rpk.mono s p r)
end

/-- the tuples of H stand in H' -/
def SubT (H H' : Hp) : Prop := ∀ a xs, Rd H a (.tup xs) → Rd H' a (.tup xs)
theorem SubT.sqT (s : SubT H H') {a : Addr} {xs : List V} (h : SqT K H a xs) : SqT K H' a xs := by
  rcases h with h | h
  · exact .inl (s _ _ h)
  · exact .inr h
mutual
theorem Rp.immM (s : SubT H H') (p : Pre m m') : ∀ {d : D} {v : V}, d.imm = true → Rp K m H d v → Rp K m' H' d v
  | _, _, _, .non => .non
  | _, _, _, .bl b => .bl b
  | _, _, _, .int i => .int i
  | _, _, _, .str x => .str x
  | .tup ds, _, e, .tup h r => .tup (s.sqT h) (Rps.immM s p (by rw [D.imm] at e; exact e) r)
  | .lst ds, _, e, .lst h r => by rw [D.imm] at e; cases e
  | .dic ds, _, e, .dic h r => by rw [D.imm] at e; cases e
  | _, _, _, .loc h => .loc (p _ _ h)
  | .scr ns, _, e, .scr h => by rw [D.imm] at e; cases e
  | _, _, _, .ty n => .ty n
  | _, _, _, .gl a => .gl a
  | .ins _ _, _, e, .ins h l r => by rw [D.imm] at e; cases e
  | .rg _ _, _, e, .rg h => by rw [D.imm] at e; cases e
theorem Rps.immM (s : SubT H H') (p : Pre m m') : ∀ {d : List D} {v : List V}, D.imms d = true → Rps K m H d v → Rps K m' H' d v
  | _, _, _, .nil => .nil
  | _ :: _, _, e, .cons h r => by
    rw [D.imms, Bool.and_eq_true] at e
    exact .cons (Rp.immM s p e.1 h) (Rps.immM s p e.2 r)
end
theorem Rpk.immM (s : SubT H H') (p : Pre m m') : ∀ {d : List (Key × D)} {v : List (Key × V)}, D.immk d = true → Rpk K m H d v → Rpk K m' H' d v
  | _, _, _, .nil => .nil
  | _ :: _, _, e, .cons h r => by
    rw [D.immk, Bool.and_eq_true] at e
    exact .cons (Rp.immM s p e.1 h) (Rpk.immM s p e.2 r)
theorem Sub.subT (s : Sub H H') : SubT H H' := fun _ _ h => s.rd h
theorem SubT.trans {A B C : Hp} (a : SubT A B) (b : SubT B C) : SubT A C := fun x o h => b x o (a x o h)
end

theorem Rps.length {K : PySem.W.Frag} {m : List Addr} {H : Hp} : ∀ {ds : List D} {vs : List V}, Rps K m H ds vs → ds.length = vs.length
  | _, _, .nil => rfl
  | _, _, .cons _ r => congrArg (· + 1) r.length
theorem Rps.get {K : PySem.W.Frag} {m : List Addr} {H : Hp} : ∀ {ds : List D} {vs : List V} {i : Nat} {d : D}, Rps K m H ds vs → ds[i]? = some d → ∃ v, vs[i]? = some v ∧ Rp K m H d v
  | _, _, _, _, .nil, h => by simp at h
  | _, _, 0, _, .cons r _, h => by
    simp only [List.getElem?_cons_zero, Option.some.injEq] at h
    subst h
    exact ⟨_, rfl, r⟩
  | _, _, i + 1, _, .cons _ r, h => by
    simp only [List.getElem?_cons_succ] at h
    obtain ⟨v, e, q⟩ := Rps.get r h
    exact ⟨v, by simpa using e, q⟩
theorem Rps.append {K : PySem.W.Frag} {m : List Addr} {H : Hp} : ∀ {ds es : List D} {vs ws : List V}, Rps K m H ds vs → Rps K m H es ws → Rps K m H (ds ++ es) (vs ++ ws)
  | _, _, _, _, .nil, s => s
  | _, _, _, _, .cons r t, s => .cons r (Rps.append t s)
theorem Rps.take {K : PySem.W.Frag} {m : List Addr} {H : Hp} : ∀ {ds : List D} {vs : List V} (n : Nat), Rps K m H ds vs → Rps K m H (ds.take n) (vs.take n)
  | _, _, 0, _ => by simpa using Rps.nil
  | _, _, _ + 1, .nil => by simpa using Rps.nil
  | _, _, n + 1, .cons r t => by simpa using Rps.cons r (Rps.take n t)
theorem Rps.drop {K : PySem.W.Frag} {m : List Addr} {H : Hp} : ∀ {ds : List D} {vs : List V} (n : Nat), Rps K m H ds vs → Rps K m H (ds.drop n) (vs.drop n)
  | _, _, 0, r => r
  | _, _, _ + 1, .nil => by simpa using Rps.nil
  | _, _, n + 1, .cons _ t => by simpa using Rps.drop n t
theorem Rps.set {K : PySem.W.Frag} {m : List Addr} {H : Hp} {d : D} {v : V} (h : Rp K m H d v) : ∀ {ds : List D} {vs : List V} (n : Nat), Rps K m H ds vs → Rps K m H (ds.set n d) (vs.set n v)
  | _, _, _, .nil => .nil
  | _, _, 0, .cons _ t => .cons h t
  | _, _, n + 1, .cons r t => .cons r (Rps.set h n t)
theorem Rps.one {K : PySem.W.Frag} {m : List Addr} {H : Hp} {d : D} {v : V} (h : Rp K m H d v) : Rps K m H [d] [v] := .cons h .nil

/-- where the resources stand, what of the heap is seen -/
structure Wd where
  m : List Addr
  v : Hp
  /-- how often the resources were written -/
  g : Nat → Nat

def RoAt (K : PySem.W.Frag) (m : List Addr) (v H : Hp) (a : Addr) : RO → Prop
  | .lst ds => D.imms ds = true ∧ ∃ xs, H a = some (.lst xs) ∧ Rps K m v ds xs
  | .dic ds => D.immk ds = true ∧ ∃ xs, H a = some (.dK xs) ∧ Rpk K m v ds xs
  | .obj _ c fs => ∃ dx vs, H a = some (.ins (clsA K c) dx ((fldsOf c).zip vs)) ∧ vs.length ≤ (fldsOf c).length ∧ Rps K m v fs vs

/-- the state: the seen part stands in the heap, no resource is in it, each resource holds what is told -/
structure Good (K : PySem.W.Frag) (w : Wd) (r : Rs) (H : Hp) : Prop where
  sub : Sub w.v H
  dis : ∀ a, a ∈ w.m → w.v a = none
  len : w.m.length = r.length
  nd : w.m.Nodup
  at_ : ∀ (n : Nat) (o : RO), r[n]? = some o → ∃ a, w.m[n]? = some a ∧ RoAt K w.m w.v H a o
  gv : ∀ (n i c : Nat) (fs : List D), r[n]? = some (.obj i c fs) → w.g n = i

/-- what a piece of code may do to the heap -/
structure Tr (w : Wd) (H : Hp) (w' : Wd) (H' : Hp) : Prop where
  sub : Sub w.v w'.v
  pre : Pre w.m w'.m
  keep : ∀ b o, H b = some o → b ∉ w.m → H' b = some o
  live : ∀ b, H b ≠ none → H' b ≠ none
  newv : ∀ b, w'.v b ≠ none → w.v b ≠ none ∨ H b = none
  newm : ∀ b, b ∈ w'.m → b ∈ w.m ∨ H b = none
  tups : ∀ b xs, Rd H b (.tup xs) → Rd H' b (.tup xs)
  gm : ∀ n, n < w.m.length → w.g n ≤ w'.g n
  same : ∀ (n : Nat) (a C dx : Addr) (fs : List (Str × V)), w.m[n]? = some a → H a = some (.ins C dx fs) → w'.g n = w.g n → H' a = H a
theorem Tr.refl (w : Wd) (H : Hp) : Tr w H w H := ⟨.refl _, .refl _, fun _ _ h _ => h, fun _ h => h, fun _ h => .inl h, fun _ h => .inl h, fun _ _ h => h, fun _ _ => Nat.le_refl _, fun _ _ _ _ _ _ _ _ => rfl⟩
theorem Tr.trans {a b c : Wd} {A B C : Hp} (x : Tr a A b B) (y : Tr b B c C) : Tr a A c C where
  sub := x.sub.trans y.sub
  pre := x.pre.trans y.pre
  keep := fun p o h n => by
    refine y.keep p o (x.keep p o h n) fun hm => ?_
    rcases x.newm p hm with q | q
    · exact n q
    · rw [h] at q; cases q
  live := fun p h => y.live p (x.live p h)
  newv := fun p h => by
    rcases y.newv p h with q | q
    · exact x.newv p q
    · refine .inr ?_
      cases e : A p with
      | none => rfl
      | some o => exact absurd q (x.live p (by rw [e]; intro z; cases z))
  newm := fun p h => by
    rcases y.newm p h with q | q
    · exact x.newm p q
    · refine .inr ?_
      cases e : A p with
      | none => rfl
      | some o => exact absurd q (x.live p (by rw [e]; intro z; cases z))
  tups := fun p xs h => y.tups p xs (x.tups p xs h)
  gm := fun n hn => Nat.le_trans (x.gm n hn) (y.gm n (x.pre.lt hn))
  same := fun n p C dx fs hm hp e => by
    have hn : n < a.m.length := (List.getElem?_eq_some_iff.mp hm).1
    have h1 := x.gm n hn
    have h2 := y.gm n (x.pre.lt hn)
    have e1 := x.same n p C dx fs hm hp (by omega)
    exact (y.same n p C dx fs (x.pre n p hm) (e1.trans hp) (by omega)).trans e1
theorem Tr.fresh {w w' : Wd} {H H' : Hp} (t : Tr w H w' H') {p : Addr} (h : H' p = none) : H p = none := by
  cases e : H p with
  | none => rfl
  | some o => exact absurd h (t.live p (by rw [e]; intro z; cases z))
theorem Tr.rp {K : PySem.W.Frag} {w w' : Wd} {H H' : Hp} (t : Tr w H w' H') {d : D} {v : V} (h : Rp K w.m w.v d v) : Rp K w'.m w'.v d v := h.mono t.sub t.pre
theorem Tr.rps {K : PySem.W.Frag} {w w' : Wd} {H H' : Hp} (t : Tr w H w' H') {d : List D} {v : List V} (h : Rps K w.m w.v d v) : Rps K w'.m w'.v d v := h.mono t.sub t.pre
/-- a new object that is seen -/
def Wd.see (w : Wd) (p : Addr) (o : HO) : Wd := ⟨w.m, upd w.v p o, w.g⟩
theorem Good.none_of {K : PySem.W.Frag} {w : Wd} {r : Rs} {H : Hp} (g : Good K w r H) {p : Addr} (h : H p = none) : w.v p = none := by
  cases e : w.v p with
  | none => rfl
  | some o => rw [g.sub p o e] at h; cases h
theorem Good.live {K : PySem.W.Frag} {w : Wd} {r : Rs} {H : Hp} (g : Good K w r H) {a : Addr} (h : a ∈ w.m) : H a ≠ none := by
  obtain ⟨n, hn⟩ := List.mem_iff_getElem?.mp h
  obtain ⟨hlt, _⟩ := List.getElem?_eq_some_iff.mp hn
  have hr : n < r.length := by rw [← g.len]; exact hlt
  obtain ⟨b, hb, x⟩ := g.at_ n r[n] (List.getElem?_eq_getElem hr)
  rw [hn] at hb
  cases hb
  cases hro : r[n] with
  | lst ds => rw [hro] at x; obtain ⟨_, xs, e, _⟩ := x; rw [e]; intro z; cases z
  | dic ds => rw [hro] at x; obtain ⟨_, xs, e, _⟩ := x; rw [e]; intro z; cases z
  | obj i c fs => rw [hro] at x; obtain ⟨dx, vs, e, _⟩ := x; rw [e]; intro z; cases z
theorem tr_new {K : PySem.W.Frag} {w : Wd} {r : Rs} {H : Hp} (g : Good K w r H) {p : Addr} {o : HO} (h : H p = none) : Tr w H (w.see p o) (upd H p o) where
  sub := fun a u e => by
    have hne : a ≠ p := by rintro rfl; rw [g.none_of h] at e; cases e
    show upd w.v p o a = some u
    rw [upd_ne hne]; exact e
  pre := .refl _
  keep := fun b u e _ => by rw [upd_ne (ne_of_none e h)]; exact e
  live := fun b e => by
    by_cases hb : b = p
    · subst hb; rw [upd_same]; intro z; cases z
    · rw [upd_ne hb]; exact e
  newv := fun b e => by
    by_cases hb : b = p
    · subst hb; exact .inr h
    · have e' : upd w.v p o b ≠ none := e
      rw [upd_ne hb] at e'; exact .inl e'
  newm := fun b e => .inl e
  tups := fun b xs e => by
    rcases e with e | ⟨u, e⟩
    · exact .inl (by rw [upd_ne (ne_of_none e h)]; exact e)
    · exact .inr ⟨u, by rw [upd_ne (ne_of_none e h)]; exact e⟩
  gm := fun _ _ => Nat.le_refl _
  same := fun n a C dx fs hm ha _ => upd_ne (ne_of_none ha h)
theorem roAt_mono {K : PySem.W.Frag} {m m' : List Addr} {v v' H H' : Hp} {a : Addr} {o : RO} (s : Sub v v') (p : Pre m m') (e : H' a = H a) (h : RoAt K m v H a o) : RoAt K m' v' H' a o := by
  cases o with
  | lst ds => obtain ⟨i, xs, h1, h2⟩ := h; exact ⟨i, xs, e.trans h1, h2.mono s p⟩
  | dic ds => obtain ⟨i, xs, h1, h2⟩ := h; exact ⟨i, xs, e.trans h1, h2.mono s p⟩
  | obj i c fs => obtain ⟨dx, vs, h1, hl, h2⟩ := h; exact ⟨dx, vs, e.trans h1, hl, h2.mono s p⟩
def RO.isObj : RO → Bool
  | .obj _ _ _ => true
  | _ => false
theorem roAt_monoI {K : PySem.W.Frag} {m m' : List Addr} {v v' H H' : Hp} {a : Addr} {o : RO} (n : o.isObj = false) (s : SubT v v') (p : Pre m m') (e : H' a = H a) (h : RoAt K m v H a o) : RoAt K m' v' H' a o := by
  cases o with
  | lst ds => obtain ⟨i, xs, h1, h2⟩ := h; exact ⟨i, xs, e.trans h1, h2.immM s p i⟩
  | dic ds => obtain ⟨i, xs, h1, h2⟩ := h; exact ⟨i, xs, e.trans h1, h2.immM s p i⟩
  | obj i c fs => cases n
theorem good_new {K : PySem.W.Frag} {w : Wd} {r : Rs} {H : Hp} (g : Good K w r H) {p : Addr} {o : HO} (h : H p = none) : Good K (w.see p o) r (upd H p o) where
  sub := fun a u e => by
    have e' : upd w.v p o a = some u := e
    by_cases ha : a = p
    · subst ha; rw [upd_same] at e' ⊢; exact e'
    · rw [upd_ne ha] at e' ⊢; exact g.sub a u e'
  dis := fun a ha => by
    have hne : a ≠ p := by rintro rfl; exact g.live ha h
    show upd w.v p o a = none
    rw [upd_ne hne]; exact g.dis a ha
  len := g.len
  nd := g.nd
  at_ := fun n u e => by
    obtain ⟨a, ha, x⟩ := g.at_ n u e
    refine ⟨a, ha, roAt_mono (tr_new g h).sub (.refl _) ?_ x⟩
    have hne : a ≠ p := by rintro rfl; exact g.live (List.mem_iff_getElem?.mpr ⟨n, ha⟩) h
    exact upd_ne hne
  gv := g.gv
theorem see_at {w : Wd} {p : Addr} {o : HO} : (w.see p o).v p = some o := upd_same

/-! ### outcomes -/
inductive Out (α : Type) where
  | ok (a : α) (r : Rs)
  | exc (c : Nat) (fs : List (Str × Int)) (r : Rs)
  | bad
abbrev Ex := En → Rs → Out D
abbrev Tx := En → Rs → Out Bool
abbrev Ax := En → Rs → Out (List D)

def Out.bind {α β : Type} (o : Out α) (f : α → Rs → Out β) : Out β := match o with
  | .ok a r => f a r
  | .exc c fs r => .exc c fs r
  | .bad => .bad

/-- the slots hold what the environment tells -/
structure Slots (K : PySem.W.Frag) (w : Wd) (ρ : En) (σ : St) : Prop where
  len : ρ.length = σ.length
  at_ : ∀ (i : Nat) (d : D), ρ[i]? = some (some d) → ∃ v, σ[i]? = some (some v) ∧ Rp K w.m w.v d v
theorem Slots.mono {K : PySem.W.Frag} {w w' : Wd} {H H' : Hp} {ρ : En} {σ : St} (s : Slots K w ρ σ) (t : Tr w H w' H') : Slots K w' ρ σ := ⟨s.len, fun i d e => by
  obtain ⟨v, h, r⟩ := s.at_ i d e
  exact ⟨v, h, t.rp r⟩⟩

/-- what an exception bears: cls its class's address, its own dict -/
def ExcAt (K : PySem.W.Frag) (c : Nat) (fs : List (Str × Int)) (cls : Value) (dd : Option Addr) (H : Hp) : Prop := cls = .ref (clsA K c) ∧ (fs.isEmpty = true → dd = none) ∧ (fs.isEmpty = false → ∃ d, dd = some d ∧ H d = some (.xd (fs.map fun p => (p.1, .int p.2))))

/-- behind an outcome -/
def After (K : PySem.W.Frag) (W : WX) (w : Wd) (H : Hp) (σ : St) {α : Type} (o : Out α) (Q : α → Wd → Rs → Hp → Prop) : Prop := match o with
  | .ok a r => ∀ w' H', Tr w H w' H' → Good K w' r H' → Q a w' r H'
  | .exc c fs r => ∀ w' H' cls dd, Tr w H w' H' → Good K w' r H' → ExcAt K c fs cls dd H' → W cls dd σ H'
  | .bad => False

def tE (K : PySem.W.Frag) (W : WX) (f : Ex) : TE := fun σ H Q => ∃ ρ r w, Good K w r H ∧ Slots K w ρ σ ∧
  After K W w H σ (f ρ r) fun d w' _ H' => ∀ v, Rp K w'.m w'.v d v → Q v H'
def tT (K : PySem.W.Frag) (W : WX) (f : Tx) : TT := fun σ H Q => ∃ ρ r w, Good K w r H ∧ Slots K w ρ σ ∧
  After K W w H σ (f ρ r) fun b _ _ H' => Q b H'
def tA (K : PySem.W.Frag) (W : WX) (f : Ax) : TA := fun σ H Q => ∃ ρ r w, Good K w r H ∧ Slots K w ρ σ ∧
  After K W w H σ (f ρ r) fun ds w' _ H' => ∀ vs, Rps K w'.m w'.v ds vs → Q vs H'

theorem _root_.L2.PE.imp {X : Cx} {e : Expr} {t t' : TE} (h : PE X e t) (i : ∀ σ H Q, t' σ H Q → t σ H Q) : PE X e t' := ⟨fun pins s σ H Q I q => h.run pins s σ H Q I (i σ H Q q)⟩
theorem _root_.L2.PT.imp {X : Cx} {e : Expr} {t t' : TT} (h : PT X e t) (i : ∀ σ H Q, t' σ H Q → t σ H Q) : PT X e t' := ⟨fun pins s σ H Q I q => h.run pins s σ H Q I (i σ H Q q)⟩
theorem _root_.L2.PA.imp {X : Cx} {e : List Expr} {t t' : TA} (h : PA X e t) (i : ∀ σ H Q, t' σ H Q → t σ H Q) : PA X e t' := ⟨fun pos pins s σ H Q I q => h.run pos pins s σ H Q I (i σ H Q q)⟩
theorem _root_.L2.PS.imp {X : Cx} {e : Stmt} {t t' : TS} (h : PS X e t) (i : ∀ D σ H, t' D σ H → t D σ H) : PS X e t' := ⟨fun pins s σ H D I q => h.run pins s σ H D I (i D σ H q)⟩
theorem _root_.L2.PSs.imp {X : Cx} {e : List Stmt} {t t' : TS} (h : PSs X e t) (i : ∀ D σ H, t' D σ H → t D σ H) : PSs X e t' := ⟨fun pins s σ H D I q => h.run pins s σ H D I (i D σ H q)⟩

/-- two in a row -/
theorem After.bind {K : PySem.W.Frag} {W : WX} {w : Wd} {H : Hp} {σ : St} {α β : Type} {o : Out α} {f : α → Rs → Out β} {Q : β → Wd → Rs → Hp → Prop} {Q1 : α → Wd → Rs → Hp → Prop}
    (h : After K W w H σ (o.bind f) Q) (k : ∀ a w1 r1 H1, Tr w H w1 H1 → Good K w1 r1 H1 → After K W w1 H1 σ (f a r1) Q → Q1 a w1 r1 H1) : After K W w H σ o Q1 := by
  cases o with
  | ok a r =>
    intro w1 H1 t1 g1
    refine k a w1 r H1 t1 g1 ?_
    have h' : After K W w H σ (f a r) Q := h
    revert h'
    generalize f a r = o2
    intro h'
    cases o2 with
    | ok b r2 => exact fun w2 H2 t2 g2 => h' w2 H2 (t1.trans t2) g2
    | exc c fs r2 => exact fun w2 H2 cls dd t2 g2 x => h' w2 H2 cls dd (t1.trans t2) g2 x
    | bad => exact h'
  | exc c fs r => exact h
  | bad => exact h
theorem After.mono {K : PySem.W.Frag} {W : WX} {w : Wd} {H : Hp} {σ : St} {α : Type} {o : Out α} {Q Q1 : α → Wd → Rs → Hp → Prop}
    (h : After K W w H σ o Q) (k : ∀ a w1 r1 H1, Tr w H w1 H1 → Good K w1 r1 H1 → Q a w1 r1 H1 → Q1 a w1 r1 H1) : After K W w H σ o Q1 := by
  cases o with
  | ok a r => exact fun w1 H1 t1 g1 => k a w1 r H1 t1 g1 (h w1 H1 t1 g1)
  | exc c fs r => exact h
  | bad => exact h
theorem After.ok {K : PySem.W.Frag} {W : WX} {w : Wd} {r : Rs} {H : Hp} {σ : St} {α : Type} {a : α} {Q : α → Wd → Rs → Hp → Prop} (g : Good K w r H) (h : After K W w H σ (Out.ok a r) Q) : Q a w r H := h w H (.refl _ _) g
end DL

/-! DL2: expressions. -/
namespace DL
open PySem L2

section
variable {X : Cx} {W : WX}

/-! ### names, constants -/
def xVar (i : Nat) : Ex := fun ρ r => match ρ[i]? with
  | some (some d) => .ok d r
  | _ => .bad
def xC (d : D) : Ex := fun _ r => .ok d r
theorem de_var (i : Nat) {x : Str} {pos : Pos} (hN : X.N[i]? = some x := by rfl) (hv : Vis X.env.scope x := by first | exact Or.inl rfl | exact Or.inr (Or.inl rfl) | exact Or.inr (Or.inr rfl)) (hd : (x == ("__debug__" : Str)) = false := by decide)
    (hcd : (x == ("__classdict__" : Str)) = false := by decide) : PE X (.Name x pos) (tE X.K W (xVar i)) :=
  (pe_var hN hv hd hcd).imp fun σ H Q ⟨ρ, r, w, g, s, h⟩ => by
    unfold xVar at h
    split at h
    · rename_i d e
      obtain ⟨v, hv, rp⟩ := s.at_ i d e
      exact ⟨v, hv, h.ok g v rp⟩
    · exact h.elim
theorem de_const {e : Expr} {v : V} {d : D} (h : PE X e (tC v)) (hd : ∀ (m : List Addr) (H : Hp), Rp X.K m H d v) : PE X e (tE X.K W (xC d)) :=
  h.imp fun σ H Q ⟨ρ, r, w, g, s, h⟩ => h.ok g v (hd _ _)
theorem de_int {i j pos} : PE X (.Constant (.int i) j pos) (tE X.K W (xC (.int i))) := de_const pe_int fun _ _ => .int i
theorem de_bl {b j pos} : PE X (.Constant (.bool b) j pos) (tE X.K W (xC (.bl b))) := de_const pe_bl fun _ _ => .bl b
theorem de_non {j pos} : PE X (.Constant .none j pos) (tE X.K W (xC .non)) := de_const pe_non fun _ _ => .non
theorem de_str {x j pos} : PE X (.Constant (.str x) j pos) (tE X.K W (xC (.str x))) := de_const pe_str fun _ _ => .str x

/-! ### two operands -/
def xOp (F : D → D → Option D) (f g : Ex) : Ex := fun ρ r => (f ρ r).bind fun a r1 => (g ρ r1).bind fun b r2 => match F a b with
  | some d => .ok d r2
  | none => .bad
/-- what follows a value -/
abbrev KD (K : PySem.W.Frag) (w : Wd) (r : Rs) (H : Hp) (d : D) (Q : VK) : Prop := ∀ w' H', Tr w H w' H' → Good K w' r H' → ∀ z, Rp K w'.m w'.v d z → Q z H'
theorem KD.now {K : PySem.W.Frag} {w : Wd} {r : Rs} {H : Hp} {d : D} {Q : VK} (k : KD K w r H d Q) (g : Good K w r H) {z : V} (h : Rp K w.m w.v d z) : Q z H := k w H (.refl _ _) g z h
theorem KD.new {K : PySem.W.Frag} {w : Wd} {r : Rs} {H : Hp} {d : D} {Q : VK} (k : KD K w r H d Q) (g : Good K w r H) {p : Addr} {o : HO} (hp : H p = none) (h : Rp K w.m (upd w.v p o) d (.ref p)) : Q (.ref p) (upd H p o) :=
  k (w.see p o) _ (tr_new g hp) (good_new g hp) _ h
def OpD (X : Cx) (fn : Value → Value → Sem Value) (F : D → D → Option D) : Prop := ∃ rr : R2, OpR X fn rr ∧
  ∀ (w : Wd) (r : Rs) (H : Hp) (x y : D) (v u : V) (d : D) (Q : VK), Good X.K w r H → Rp X.K w.m w.v x v → Rp X.K w.m w.v y u → F x y = some d → KD X.K w r H d Q → rr v u H Q
theorem OpD.or {fn : Value → Value → Sem Value} {F G : D → D → Option D} (h : OpD X fn F) (h' : OpD X fn G) : OpD X fn (fun x y => (F x y).orElse fun _ => G x y) := by
  obtain ⟨r1, o1, k1⟩ := h
  obtain ⟨r2, o2, k2⟩ := h'
  refine ⟨_, o1.or o2, fun w r H x y v u d Q g rx ry e k => ?_⟩
  dsimp only at e
  cases e1 : F x y with
  | some z =>
    rw [e1] at e
    cases e
    exact .inl (k1 w r H x y v u _ Q g rx ry e1 k)
  | none =>
    rw [e1] at e
    exact .inr (k2 w r H x y v u d Q g rx ry e k)
/-- the two operands evaluated -/
theorem tE_op {K : PySem.W.Frag} {f g : Ex} {F : D → D → Option D} {rr : R2} {σ : St} {H : Hp} {Q : VK}
    (k : ∀ (w : Wd) (r : Rs) (H : Hp) (x y : D) (v u : V) (d : D) (Q : VK), Good K w r H → Rp K w.m w.v x v → Rp K w.m w.v y u → F x y = some d → KD K w r H d Q → rr v u H Q)
    (h : tE K W (xOp F f g) σ H Q) : tOp rr (tE K W f) (tE K W g) σ H Q := by
  obtain ⟨ρ, r, w, gd, s, h⟩ := h
  refine ⟨ρ, r, w, gd, s, h.bind fun a w1 r1 H1 t1 g1 h1 v rv => ?_⟩
  refine ⟨ρ, r1, w1, g1, s.mono t1, h1.bind fun b w2 r2 H2 t2 g2 h2 u ru => ?_⟩
  split at h2
  · rename_i d e
    exact k w2 r2 H2 a b v u d Q g2 (t2.rp rv) ru e fun w' H' t g z rz => h2 w' H' t g z rz
  · exact h2.elim
theorem de_op {a b : Expr} {op : Operator} {pos : Pos} {F : D → D → Option D} {f g : Ex} (ho : OpD X (binaryOp op) F) (ha : PE X a (tE X.K W f)) (hb : PE X b (tE X.K W g)) : PE X (.BinOp a op b pos) (tE X.K W (xOp F f g)) := by
  obtain ⟨rr, o, k⟩ := ho
  exact (pe_op o ha hb).imp fun σ H Q h => tE_op k h
theorem de_cmp {a b : Expr} {op : CmpOp} {pos : Pos} {F : D → D → Option D} {f g : Ex} (ho : OpD X (compareOp op) F) (ha : PE X a (tE X.K W f)) (hb : PE X b (tE X.K W g)) (hm : behindInMarks op b = false := by first | exact nomark _ | rfl) : PE X (.Compare a [op] [b] pos) (tE X.K W (xOp F f g)) := by
  obtain ⟨rr, o, k⟩ := ho
  exact (pe_cmpR o ha hb hm).imp fun σ H Q h => tE_op k h

def lim : Nat := 1000000
theorem lim_le {n : Nat} (h : n ≤ lim) : n ≤ sizeLine := Nat.le_trans h (by decide)
theorem lim_lt {n : Nat} (h : n < lim) : n < sizeLine := Nat.lt_of_lt_of_le h (by decide)

/-! ### + -/
def dAddI : D → D → Option D
  | .int i, .int j => some (.int (i + j))
  | _, _ => none
def dAddS : D → D → Option D
  | .str a, .str b => if a.length + b.length ≤ lim then some (.str (a ++ b)) else none
  | _, _ => none
def dAddT : D → D → Option D
  | .tup a, .tup b => if a.length + b.length ≤ lim then some (.tup (a ++ b)) else none
  | _, _ => none
def dAddL : D → D → Option D
  | .lst a, .lst b => if a.length + b.length ≤ lim then some (.lst (a ++ b)) else none
  | _, _ => none
theorem od_addI : OpD X (binaryOp .Add) dAddI := ⟨_, op_add, fun w r H x y v u d Q g rx ry e k => by
  cases rx <;> cases ry <;> simp only [dAddI] at e <;> cases e
  exact ⟨_, _, rfl, rfl, k.now g (.int _)⟩⟩
theorem od_addS : OpD X (binaryOp .Add) dAddS := ⟨_, op_add_str, fun w r H x y v u d Q g rx ry e k => by
  cases rx <;> cases ry <;> simp only [dAddS] at e <;> try cases e
  split at e
  · rename_i h
    cases e
    exact ⟨_, _, rfl, rfl, lim_le h, k.now g (.str _)⟩
  · cases e⟩
theorem od_addT : OpD X (binaryOp .Add) dAddT := ⟨_, op_catA, fun w r H x y v u d Q g rx ry e k => by
  cases rx <;> cases ry <;> simp only [dAddT] at e <;> try cases e
  rename_i a xs ds hx rx b ys es hy ry
  split at e
  · rename_i h
    cases e
    refine ⟨a, b, xs, ys, rfl, rfl, g.sub.sqT hx, g.sub.sqT hy, by rw [← rx.length, ← ry.length]; exact lim_le h, fun e1 => ?_, fun e1 e2 => ?_, fun e1 e2 p hp => ?_⟩
    · subst e1
      cases rx
      exact k.now g (.tup hy ry)
    · subst e2
      cases ry
      rw [List.append_nil] at k
      exact k.now g (.tup hx rx)
    · refine k.new g hp (.tup (SqT.of upd_same) ?_)
      have t := (tr_new (o := .tup (xs ++ ys)) g hp)
      exact (t.rps rx).append (t.rps ry)
  · cases e⟩
theorem od_addL : OpD X (binaryOp .Add) dAddL := ⟨_, op_cat, fun w r H x y v u d Q g rx ry e k => by
  cases rx <;> cases ry <;> simp only [dAddL] at e <;> try cases e
  rename_i a xs ds hx rx b ys es hy ry
  split at e
  · rename_i h
    cases e
    refine ⟨a, b, xs, ys, rfl, rfl, g.sub _ _ hx, g.sub _ _ hy, by rw [← rx.length, ← ry.length]; exact lim_le h, fun p hp => ?_⟩
    refine k.new g hp (.lst upd_same ?_)
    have t := (tr_new (o := .lst (xs ++ ys)) g hp)
    exact (t.rps rx).append (t.rps ry)
  · cases e⟩
def dAdd : D → D → Option D
  | .int i, .int j => some (.int (i + j))
  | .str a, .str b => if a.length + b.length ≤ lim then some (.str (a ++ b)) else none
  | .tup a, .tup b => if a.length + b.length ≤ lim then some (.tup (a ++ b)) else none
  | .lst a, .lst b => if a.length + b.length ≤ lim then some (.lst (a ++ b)) else none
  | _, _ => none
theorem OpD.of {fn : Value → Value → Sem Value} {F G : D → D → Option D} (h : OpD X fn F) (e : ∀ x y d, G x y = some d → F x y = some d) : OpD X fn G := by
  obtain ⟨r1, o1, k1⟩ := h
  exact ⟨_, o1, fun w r H x y v u d Q g rx ry q k => k1 w r H x y v u d Q g rx ry (e x y d q) k⟩
theorem od_add : OpD X (binaryOp .Add) dAdd := ((od_addI.or (od_addS.or (od_addT.or od_addL)))).of fun x y d h => by
  cases x <;> cases y <;> simp only [dAdd] at h <;> (try cases h) <;> simp only [dAddI, dAddS, dAddT, dAddL, Option.orElse] <;> (try (split at h <;> (try cases h))) <;> simp_all
/-! ### other arithmetic -/
def dSub : D → D → Option D
  | .int i, .int j => some (.int (i - j))
  | _, _ => none
def small (i : Int) : Bool := decide (i.natAbs < 2 ^ 64)
theorem small_of {i : Int} (h : small i = true) : -(2 ^ 64) < i ∧ i < 2 ^ 64 := by
  unfold small at h
  rw [decide_eq_true_eq] at h
  omega
def dMul : D → D → Option D
  | .int i, .int j => if small i || small j then some (.int (i * j)) else none
  | _, _ => none
def dMod : D → D → Option D
  | .int i, .int j => if 0 < j then some (.int (i % j)) else none
  | _, _ => none
def dDiv : D → D → Option D
  | .int i, .int j => if 0 < j ∧ j < 1073741824 then some (.int (i / j)) else none
  | _, _ => none
def dPow : D → D → Option D
  | .int i, .int j => if 0 ≤ j ∧ j ≤ 1000000 ∧ i.natAbs < 2 ^ 64 then some (.int (i ^ j.toNat)) else none
  | _, _ => none
theorem od_sub : OpD X (binaryOp .Sub) dSub := ⟨_, op_sub, fun w r H x y v u d Q g rx ry e k => by
  cases rx <;> cases ry <;> simp only [dSub] at e <;> cases e
  exact ⟨_, _, rfl, rfl, k.now g (.int _)⟩⟩
theorem od_mul : OpD X (binaryOp .Mult) dMul := ⟨_, op_mul, fun w r H x y v u d Q g rx ry e k => by
  cases rx <;> cases ry <;> simp only [dMul] at e <;> try cases e
  split at e
  · rename_i h
    cases e
    rw [Bool.or_eq_true] at h
    exact ⟨_, _, rfl, rfl, h.imp small_of small_of, k.now g (.int _)⟩
  · cases e⟩
theorem od_mod : OpD X (binaryOp .Mod) dMod := ⟨_, op_mod, fun w r H x y v u d Q g rx ry e k => by
  cases rx <;> cases ry <;> simp only [dMod] at e <;> try cases e
  split at e
  · rename_i h
    cases e
    exact ⟨_, _, rfl, rfl, h, k.now g (.int _)⟩
  · cases e⟩
theorem od_div : OpD X (binaryOp .FloorDiv) dDiv := ⟨_, op_fdiv, fun w r H x y v u d Q g rx ry e k => by
  cases rx <;> cases ry <;> simp only [dDiv] at e <;> try cases e
  split at e
  · rename_i h
    cases e
    exact ⟨_, _, rfl, rfl, h, k.now g (.int _)⟩
  · cases e⟩
theorem od_pow : OpD X (binaryOp .Pow) dPow := ⟨_, op_pow, fun w r H x y v u d Q g rx ry e k => by
  cases rx <;> cases ry <;> simp only [dPow] at e <;> try cases e
  split at e
  · rename_i h
    cases e
    exact ⟨_, _, rfl, rfl, h, k.now g (.int _)⟩
  · cases e⟩
/-! ### order of ints and texts -/
def dLt : D → D → Option D
  | .int i, .int j => some (.bl (decide (i < j)))
  | .str i, .str j => some (.bl (decide (i.cps.toList < j.cps.toList)))
  | _, _ => none
def dLe : D → D → Option D
  | .int i, .int j => some (.bl (decide (i ≤ j)))
  | .str i, .str j => some (.bl (!decide (j.cps.toList < i.cps.toList)))
  | _, _ => none
def dGt : D → D → Option D
  | .int i, .int j => some (.bl (decide (j < i)))
  | .str i, .str j => some (.bl (decide (j.cps.toList < i.cps.toList)))
  | _, _ => none
def dGe : D → D → Option D
  | .int i, .int j => some (.bl (decide (j ≤ i)))
  | .str i, .str j => some (.bl (!decide (i.cps.toList < j.cps.toList)))
  | _, _ => none
theorem od_lt : OpD X (compareOp .Lt) dLt := ⟨_, op_lt.or op_lt_str, fun w r H x y v u d Q g rx ry e k => by
  cases rx <;> cases ry <;> simp only [dLt] at e <;> cases e
  · exact .inl ⟨_, _, rfl, rfl, k.now g (.bl _)⟩
  · exact .inr ⟨_, _, rfl, rfl, k.now g (.bl _)⟩⟩

theorem od_le : OpD X (compareOp .LtE) dLe := ⟨_, op_le.or op_le_str, fun w r H x y v u d Q g rx ry e k => by
  cases rx <;> cases ry <;> simp only [dLe] at e <;> cases e
  · exact .inl ⟨_, _, rfl, rfl, k.now g (.bl _)⟩
  · exact .inr ⟨_, _, rfl, rfl, k.now g (.bl _)⟩⟩
theorem od_gt : OpD X (compareOp .Gt) dGt := ⟨_, op_gt.or op_gt_str, fun w r H x y v u d Q g rx ry e k => by
  cases rx <;> cases ry <;> simp only [dGt] at e <;> cases e
  · exact .inl ⟨_, _, rfl, rfl, k.now g (.bl _)⟩
  · exact .inr ⟨_, _, rfl, rfl, k.now g (.bl _)⟩⟩
theorem od_ge : OpD X (compareOp .GtE) dGe := ⟨_, op_ge.or op_ge_str, fun w r H x y v u d Q g rx ry e k => by
  cases rx <;> cases ry <;> simp only [dGe] at e <;> cases e
  · exact .inl ⟨_, _, rfl, rfl, k.now g (.bl _)⟩
  · exact .inr ⟨_, _, rfl, rfl, k.now g (.bl _)⟩⟩
/-! ### == and in, over data at any depth -/
mutual
def D.py : D → PyData
  | .non => .none
  | .bl b => .bool b
  | .int i => .int i
  | .str x => .str x
  | .tup xs => .tuple (D.pys xs)
  | .lst xs => .list (D.pys xs)
  | _ => .dict []
def D.pys : List D → List PyData
  | [] => []
  | x :: xs => D.py x :: D.pys xs
end
def D.shaped (d : D) : Bool := SeqAt.shaped d.py
theorem lay_dict : PyData.canLay0 (.dict []) = false := by simp [PyData.canLay0]
mutual
theorem Rp.dp {K : PySem.W.Frag} {m : List Addr} {H : Hp} : ∀ {d : D} {v : V}, Rp K m H d v → d.py.canLay0 = true → Dp K H v d.py
  | _, _, .non, _ => by rw [D.py]; exact .non
  | _, _, .bl b, _ => by rw [D.py]; exact .bl b
  | _, _, .int i, _ => by rw [D.py]; exact .int i
  | _, _, .str x, _ => by rw [D.py]; exact .str x
  | .tup ds, _, .tup h r, e => by
    rw [D.py] at e ⊢
    exact .tup h (Rps.dp r (by simpa [PyData.canLay0] using e))
  | .lst ds, _, .lst h r, e => by
    rw [D.py] at e ⊢
    exact .lst (.inl (.inl h)) (Rps.dp r (by simpa [PyData.canLay0] using e))
  | .dic _, _, .dic _ _, e => by rw [D.py, lay_dict] at e; cases e; all_goals simp
  | .loc _, _, .loc _, e => by rw [D.py, lay_dict] at e; cases e; all_goals simp
  | .scr _, _, .scr _, e => by rw [D.py, lay_dict] at e; cases e; all_goals simp
  | .ty _, _, .ty _, e => by rw [D.py, lay_dict] at e; cases e; all_goals simp
  | .gl _, _, .gl _, e => by rw [D.py, lay_dict] at e; cases e; all_goals simp
theorem Rps.dp {K : PySem.W.Frag} {m : List Addr} {H : Hp} : ∀ {d : List D} {v : List V}, Rps K m H d v → PyData.canLayAll0 (D.pys d) = true → DpAll K H v (D.pys d)
  | _, _, .nil, _ => by rw [D.pys]; exact .nil
  | _ :: _, _, .cons h r, e => by
    rw [D.pys] at e ⊢
    rw [PyData.canLayAll0, Bool.and_eq_true] at e
    exact .cons (Rp.dp h e.1) (Rps.dp r e.2)
end
theorem Rp.dpS {K : PySem.W.Frag} {m : List Addr} {H : Hp} {d : D} {v : V} (h : Rp K m H d v) (e : d.shaped = true) : Dp K H v d.py := h.dp (SeqAt.canLay_of_shaped e)
def dEq (x y : D) : Option D := if x.shaped && y.shaped then some (.bl (PyData.eqv x.py y.py)) else none
def dNe (x y : D) : Option D := if x.shaped && y.shaped then some (.bl (!PyData.eqv x.py y.py)) else none
theorem dp_sub {K : PySem.W.Frag} {H H' : Hp} (s : Sub H H') : ∀ {v : V} {d : PyData}, Dp K H v d → Dp K H' v d := by
  intro v d h
  refine Dp.rec (K := K) (H := H) (motive_1 := fun v d _ => Dp K H' v d) (motive_2 := fun v d _ => DpAll K H' v d) .non .bl .int .str (fun h _ ih => .lst (s.sqL h) ih) (fun h _ ih => .tup (s.sqT h) ih) .nil (fun _ _ a b => .cons a b) h
theorem od_eq (hu : X.A.units + 64 < cLine) : OpD X (compareOp .Eq) dEq := ⟨_, op_eqD hu, fun w r H x y v u d Q g rx ry e k => by
  unfold dEq at e
  split at e
  · rename_i h
    cases e
    rw [Bool.and_eq_true] at h
    exact ⟨_, _, dp_sub g.sub (rx.dpS h.1), dp_sub g.sub (ry.dpS h.2), h.1, h.2, k.now g (.bl _)⟩
  · cases e⟩
theorem od_ne (hu : X.A.units + 64 < cLine) : OpD X (compareOp .NotEq) dNe := ⟨_, op_neD hu, fun w r H x y v u d Q g rx ry e k => by
  unfold dNe at e
  split at e
  · rename_i h
    cases e
    rw [Bool.and_eq_true] at h
    exact ⟨_, _, dp_sub g.sub (rx.dpS h.1), dp_sub g.sub (ry.dpS h.2), h.1, h.2, k.now g (.bl _)⟩
  · cases e⟩
end
end DL

/-! DL3: in, is, places, slices, tests, displays, calls. -/
namespace DL
open PySem L2
section
variable {X : Cx} {W : WX}

/-! ### in -/
def D.flat : D → Bool
  | .non => true
  | .bl _ => true
  | .int _ => true
  | .str _ => true
  | _ => false
def D.toV : D → V
  | .bl b => .bl b
  | .int i => .int i
  | .str x => .str x
  | _ => .non
theorem Rp.flat {K : PySem.W.Frag} {m : List Addr} {H : Hp} {d : D} {v : V} (h : Rp K m H d v) (f : d.flat = true) : v = d.toV := by
  cases h <;> first | rfl | (cases f)
theorem toV_flat {d : D} (f : d.flat = true) : flatV d.toV = true := by
  cases d <;> first | rfl | (cases f)
theorem Rps.flat {K : PySem.W.Frag} {m : List Addr} {H : Hp} : ∀ {ds : List D} {vs : List V}, Rps K m H ds vs → ds.all D.flat = true → vs = ds.map D.toV ∧ vs.all flatV = true
  | _, _, .nil, _ => ⟨rfl, rfl⟩
  | _, _, .cons r t, f => by
    rw [List.all_cons, Bool.and_eq_true] at f
    obtain ⟨e1, e2⟩ := Rps.flat t f.2
    have e := r.flat f.1
    refine ⟨by rw [List.map_cons, ← e1, ← e], ?_⟩
    rw [List.all_cons, e2, e, toV_flat f.1]
    rfl
theorem eqV_py {d e : D} (f : d.flat = true) (g : e.flat = true) : eqV d.toV e.toV = PyData.eqv d.py e.py := by
  cases d <;> (try cases f) <;> cases e <;> (try cases g) <;> simp only [D.toV, D.py, eqV, PyData.eqv]
theorem any_py {x : D} (g : x.flat = true) : ∀ {ds : List D}, ds.all D.flat = true → inV x.toV (ds.map D.toV) = ds.any fun z => PyData.eqv z.py x.py
  | [], _ => rfl
  | d :: ds, f => by
    rw [List.all_cons, Bool.and_eq_true] at f
    have q := any_py g f.2
    unfold inV at q ⊢
    rw [List.map_cons, List.any_cons, List.any_cons, q, eqV_py f.1 g]
theorem pys_any {x : PyData} : ∀ (ds : List D), ((D.pys ds).any fun z => PyData.eqv z x) = ds.any fun z => PyData.eqv z.py x
  | [] => by rw [D.pys]; rfl
  | d :: ds => by rw [D.pys, List.any_cons, List.any_cons, pys_any ds]
/-- x in y, as a Bool -/
def inD : D → D → Option Bool
  | x, .lst ds => if x.shaped && D.shaped (.lst ds) then some (ds.any fun z => PyData.eqv z.py x.py) else none
  | x, .tup ds => if x.flat && ds.all D.flat || x.shaped && D.shaped (.tup ds) then some (ds.any fun z => PyData.eqv z.py x.py) else none
  | .str s, .str t => match s.cps.toList with
    | [c] => some (decide (c ∈ t.cps.toList))
    | _ => none
  | _, _ => none
def dIn (x y : D) : Option D := (inD x y).map D.bl
def dNotIn (x y : D) : Option D := (inD x y).map fun b => .bl (!b)
def inL (neg : Bool) : D → D → Option D
  | x, .lst ds => if x.shaped && D.shaped (.lst ds) then some (.bl (neg.xor (ds.any fun z => PyData.eqv z.py x.py))) else none
  | _, _ => none
def inT (neg : Bool) : D → D → Option D
  | x, .tup ds => if x.flat && ds.all D.flat then some (.bl (neg.xor (ds.any fun z => PyData.eqv z.py x.py))) else none
  | _, _ => none
def inT2 (neg : Bool) : D → D → Option D
  | x, .tup ds => if x.shaped && D.shaped (.tup ds) then some (.bl (neg.xor (ds.any fun z => PyData.eqv z.py x.py))) else none
  | _, _ => none
def rInTD (K : PySem.W.Frag) : R2 := fun x y H Q => ∃ d ds, Dp K H x d ∧ Dp K H y (.tuple ds) ∧ SeqAt.shaped d = true ∧ SeqAt.shaped (.tuple ds) = true ∧ Q (.bl (ds.any fun z => PyData.eqv z d)) H
def rNotInTD (K : PySem.W.Frag) : R2 := fun x y H Q => ∃ d ds, Dp K H x d ∧ Dp K H y (.tuple ds) ∧ SeqAt.shaped d = true ∧ SeqAt.shaped (.tuple ds) = true ∧ Q (.bl (!ds.any fun z => PyData.eqv z d)) H
theorem plain_of_shaped {d : PyData} (h : SeqAt.shaped d = true) : d.plain = true := PyData.plain_of_canLay0 d (SeqAt.canLay_of_shaped h)
theorem plains_of_shaped {ds : List PyData} (h : SeqAt.shaped (.tuple ds) = true) : PyData.plainAll ds = true := PyData.plainAll_of_canLay0 ds (by have := SeqAt.canLay_of_shaped h; rwa [PyData.canLay0] at this)
theorem op_inTD (hu : X.A.units + 65 < cLine) : OpR X (compareOp .In) (rInTD X.K) := by
  intro pins s σ H x y v u Q I rx ry h
  obtain ⟨d, ds, hd, he, sd, se, q⟩ := h
  obtain ⟨as, r1⟩ := Dp.reads I d x v hd rx
  obtain ⟨bs, r2⟩ := Dp.reads I (.tuple ds) y u he ry
  exact SeqAt.in_tuple_data r2 r1 (plains_of_shaped se) (plain_of_shaped sd) (PyProof.Rows.room_in_shaped sd hu) ⟨.bl _, H, I, rfl, q⟩
theorem op_notInTD (hu : X.A.units + 65 < cLine) : OpR X (compareOp .NotIn) (rNotInTD X.K) := by
  intro pins s σ H x y v u Q I rx ry h
  obtain ⟨d, ds, hd, he, sd, se, q⟩ := h
  obtain ⟨as, r1⟩ := Dp.reads I d x v hd rx
  obtain ⟨bs, r2⟩ := Dp.reads I (.tuple ds) y u he ry
  exact SeqAt.notIn_tuple_data r2 r1 (plains_of_shaped se) (plain_of_shaped sd) (PyProof.Rows.room_in_shaped sd hu) ⟨.bl _, H, I, rfl, q⟩
theorem od_inT2 (hu : X.A.units + 65 < cLine) : OpD X (compareOp .In) (inT2 false) := ⟨_, op_inTD hu, fun w r H x y v u d Q g rx ry e k => by
  cases ry <;> simp only [inT2] at e <;> try cases e
  rename_i a xs ds hy ry
  split at e
  · rename_i h
    rw [Bool.and_eq_true] at h
    cases e
    refine ⟨_, D.pys ds, dp_sub g.sub (rx.dpS h.1), ?_, h.1, ?_, ?_⟩
    · have := dp_sub g.sub ((Rp.tup hy ry).dpS h.2)
      rwa [D.py] at this
    · have := h.2
      unfold D.shaped at this
      rwa [D.py] at this
    · rw [pys_any]
      rw [Bool.false_xor] at k
      exact k.now g (.bl _)
  · cases e⟩
theorem od_notInT2 (hu : X.A.units + 65 < cLine) : OpD X (compareOp .NotIn) (inT2 true) := ⟨_, op_notInTD hu, fun w r H x y v u d Q g rx ry e k => by
  cases ry <;> simp only [inT2] at e <;> try cases e
  rename_i a xs ds hy ry
  split at e
  · rename_i h
    rw [Bool.and_eq_true] at h
    cases e
    refine ⟨_, D.pys ds, dp_sub g.sub (rx.dpS h.1), ?_, h.1, ?_, ?_⟩
    · have := dp_sub g.sub ((Rp.tup hy ry).dpS h.2)
      rwa [D.py] at this
    · have := h.2
      unfold D.shaped at this
      rwa [D.py] at this
    · rw [pys_any]
      rw [Bool.true_xor] at k
      exact k.now g (.bl _)
  · cases e⟩
def inS (neg : Bool) : D → D → Option D
  | .str s, .str t => match s.cps.toList with
    | [c] => some (.bl (neg.xor (decide (c ∈ t.cps.toList))))
    | _ => none
  | _, _ => none
theorem od_inL (hu : X.A.units + 65 < cLine) : OpD X (compareOp .In) (inL false) := ⟨_, op_inD hu, fun w r H x y v u d Q g rx ry e k => by
  cases ry <;> simp only [inL] at e <;> try cases e
  rename_i a xs ds hy ry
  split at e
  · rename_i h
    rw [Bool.and_eq_true] at h
    cases e
    refine ⟨_, D.pys ds, dp_sub g.sub (rx.dpS h.1), ?_, h.1, ?_, ?_⟩
    · have := dp_sub g.sub ((Rp.lst hy ry).dpS h.2)
      rwa [D.py] at this
    · have := h.2
      unfold D.shaped at this
      rwa [D.py] at this
    · rw [pys_any]
      rw [Bool.false_xor] at k
      exact k.now g (.bl _)
  · cases e⟩
theorem od_notInL (hu : X.A.units + 65 < cLine) : OpD X (compareOp .NotIn) (inL true) := ⟨_, op_notInD hu, fun w r H x y v u d Q g rx ry e k => by
  cases ry <;> simp only [inL] at e <;> try cases e
  rename_i a xs ds hy ry
  split at e
  · rename_i h
    rw [Bool.and_eq_true] at h
    cases e
    refine ⟨_, D.pys ds, dp_sub g.sub (rx.dpS h.1), ?_, h.1, ?_, ?_⟩
    · have := dp_sub g.sub ((Rp.lst hy ry).dpS h.2)
      rwa [D.py] at this
    · have := h.2
      unfold D.shaped at this
      rwa [D.py] at this
    · rw [pys_any]
      rw [Bool.true_xor] at k
      exact k.now g (.bl _)
  · cases e⟩
theorem od_inT : OpD X (compareOp .In) (inT false) := ⟨_, op_in_seq, fun w r H x y v u d Q g rx ry e k => by
  cases ry <;> simp only [inT] at e <;> try cases e
  rename_i a xs ds hy ry
  split at e
  · rename_i h
    rw [Bool.and_eq_true] at h
    cases e
    obtain ⟨e1, e2⟩ := ry.flat h.2
    have e3 := rx.flat h.1
    refine ⟨a, xs, rfl, .inr (g.sub.sqT hy), by rw [e3]; exact toV_flat h.1, e2, ?_⟩
    rw [e1, e3, any_py h.1 h.2]
    rw [Bool.false_xor] at k
    exact k.now g (.bl _)
  · cases e⟩
theorem od_notInT : OpD X (compareOp .NotIn) (inT true) := ⟨_, op_notIn_seq, fun w r H x y v u d Q g rx ry e k => by
  cases ry <;> simp only [inT] at e <;> try cases e
  rename_i a xs ds hy ry
  split at e
  · rename_i h
    rw [Bool.and_eq_true] at h
    cases e
    obtain ⟨e1, e2⟩ := ry.flat h.2
    have e3 := rx.flat h.1
    refine ⟨a, xs, rfl, .inr (g.sub.sqT hy), by rw [e3]; exact toV_flat h.1, e2, ?_⟩
    rw [e1, e3, any_py h.1 h.2]
    rw [Bool.true_xor] at k
    exact k.now g (.bl _)
  · cases e⟩
theorem str_of_list {s : Str} {c : Nat} (e : s.cps.toList = [c]) : s = ⟨#[c]⟩ := by
  obtain ⟨⟨l⟩⟩ := s
  have q : l = [c] := e
  rw [q]
theorem od_inS : OpD X (compareOp .In) (inS false) := ⟨_, op_in_sign, fun w r H x y v u d Q g rx ry e k => by
  cases rx <;> cases ry <;> simp only [inS] at e <;> try cases e
  split at e
  · rename_i c h
    cases e
    rw [str_of_list h]
    rw [Bool.false_xor] at k
    exact ⟨c, _, rfl, rfl, k.now g (.bl _)⟩
  · cases e⟩
theorem od_notInS : OpD X (compareOp .NotIn) (inS true) := ⟨_, op_notIn_sign, fun w r H x y v u d Q g rx ry e k => by
  cases rx <;> cases ry <;> simp only [inS] at e <;> try cases e
  split at e
  · rename_i c h
    cases e
    rw [str_of_list h]
    rw [Bool.true_xor] at k
    exact ⟨c, _, rfl, rfl, k.now g (.bl _)⟩
  · cases e⟩
theorem in_or (neg : Bool) (x y d : D) (h : (inD x y).map (fun b => D.bl (neg.xor b)) = some d) : ((inL neg x y).orElse fun _ => (inT neg x y).orElse fun _ => (inT2 neg x y).orElse fun _ => inS neg x y) = some d := by
  cases y with
  | lst ds =>
    have e1 : inD x (.lst ds) = if x.shaped && D.shaped (.lst ds) then some (ds.any fun z => PyData.eqv z.py x.py) else none := by cases x <;> rfl
    have e2 : inL neg x (.lst ds) = if x.shaped && D.shaped (.lst ds) then some (.bl (neg.xor (ds.any fun z => PyData.eqv z.py x.py))) else none := by cases x <;> rfl
    rw [e1] at h
    rw [e2]
    split at h
    · rename_i c
      rw [if_pos c]
      exact h
    · cases h
  | tup ds =>
    have e1 : inD x (.tup ds) = if x.flat && ds.all D.flat || x.shaped && D.shaped (.tup ds) then some (ds.any fun z => PyData.eqv z.py x.py) else none := by cases x <;> rfl
    have e2 : inT neg x (.tup ds) = if x.flat && ds.all D.flat then some (.bl (neg.xor (ds.any fun z => PyData.eqv z.py x.py))) else none := by cases x <;> rfl
    have e4 : inT2 neg x (.tup ds) = if x.shaped && D.shaped (.tup ds) then some (.bl (neg.xor (ds.any fun z => PyData.eqv z.py x.py))) else none := by cases x <;> rfl
    have e3 : inL neg x (.tup ds) = none := by cases x <;> rfl
    rw [e1] at h
    rw [e2, e3, e4]
    split at h
    · rename_i c
      by_cases c1 : (x.flat && ds.all D.flat) = true
      · rw [if_pos c1]; exact h
      · rw [if_neg c1]
        rw [Bool.or_eq_true] at c
        rw [if_pos (c.resolve_left c1)]
        exact h
    · cases h
  | str t =>
    cases x with
    | str s =>
      have e1 : inS neg (.str s) (.str t) = (match s.cps.toList with | [c] => some (.bl (neg.xor (decide (c ∈ t.cps.toList)))) | _ => none) := rfl
      have e2 : inD (.str s) (.str t) = (match s.cps.toList with | [c] => some (decide (c ∈ t.cps.toList)) | _ => none) := rfl
      show inS neg (.str s) (.str t) = some d
      rw [e1]
      rw [e2] at h
      generalize s.cps.toList = l at h ⊢
      match l, h with
      | [c], h => exact h
      | [], h => cases h
      | _ :: _ :: _, h => cases h
    | _ => simp only [inD] at h; cases h
  | _ => cases x <;> simp only [inD] at h <;> cases h
theorem od_in (hu : X.A.units + 65 < cLine) : OpD X (compareOp .In) dIn := ((od_inL hu).or (od_inT.or ((od_inT2 hu).or od_inS))).of fun x y d h => in_or false x y d (by
  rw [← h]; unfold dIn; congr 1; funext b; rw [Bool.false_xor])
theorem od_notIn (hu : X.A.units + 65 < cLine) : OpD X (compareOp .NotIn) dNotIn := ((od_notInL hu).or (od_notInT.or ((od_notInT2 hu).or od_notInS))).of fun x y d h => in_or true x y d (by
  rw [← h]; unfold dNotIn; congr 1; funext b; rw [Bool.true_xor])
/-! ### is -/
def D.isN : D → Bool
  | .non => true
  | _ => false
def dIs : D → D → Option D
  | x, .non => some (.bl x.isN)
  | .bl a, .bl b => some (.bl (decide (a = b)))
  | _, _ => none
def dIsNot : D → D → Option D
  | x, .non => some (.bl (!x.isN))
  | .bl a, .bl b => some (.bl (!decide (a = b)))
  | _, _ => none
theorem Rp.isN {K : PySem.W.Frag} {m : List Addr} {H : Hp} {d : D} {v : V} (h : Rp K m H d v) : decide (v = .non) = d.isN := by
  cases h <;> rfl
theorem od_is : OpD X (compareOp .Is) dIs := ⟨_, op_isN.or op_is_bl, fun w r H x y v u d Q g rx ry e k => by
  cases ry
  case non => 
    have e' : some (D.bl x.isN) = some d := by cases x <;> exact e
    cases e'
    exact .inl ⟨rfl, by rw [rx.isN]; exact k.now g (.bl _)⟩
  case bl => 
    cases rx <;> simp only [dIs] at e <;> cases e
    exact .inr ⟨_, _, rfl, rfl, k.now g (.bl _)⟩
  all_goals (cases x <;> simp only [dIs] at e <;> cases e)⟩
theorem od_isNot : OpD X (compareOp .IsNot) dIsNot := ⟨_, op_notN.or op_isnot_bl, fun w r H x y v u d Q g rx ry e k => by
  cases ry
  case non => 
    have e' : some (D.bl (!x.isN)) = some d := by cases x <;> exact e
    cases e'
    exact .inl ⟨rfl, by rw [rx.isN]; exact k.now g (.bl _)⟩
  case bl => 
    cases rx <;> simp only [dIsNot] at e <;> cases e
    exact .inr ⟨_, _, rfl, rfl, k.now g (.bl _)⟩
  all_goals (cases x <;> simp only [dIsNot] at e <;> cases e)⟩
end
end DL

/-! DL4: places, slices, tests, displays, calls. -/
namespace DL
open PySem L2
section
variable {X : Cx} {W : WX}

/-! ### places -/
def dIx (r : Rs) : D → D → Option D
  | .lst ds, .int i => atI ds i
  | .tup ds, .int i => atI ds i
  | .str s, .int i => if s.length ≤ lim then (atI s.cps.toList i).map (fun c => .str ⟨#[c]⟩) else none
  | .scr ns, .int i => (atI ns i).map .int
  | .loc n, .int i => match r[n]? with
    | some (.lst ds) => atI ds i
    | _ => none
  | _, _ => none
def xIx (f g : Ex) : Ex := fun ρ r => (f ρ r).bind fun a r1 => (g ρ r1).bind fun b r2 => match dIx r2 a b with
  | some d => .ok d r2
  | none => .bad
theorem atI_rps {K : PySem.W.Frag} {m : List Addr} {H : Hp} {ds : List D} {vs : List V} {i : Int} {d : D} (h : Rps K m H ds vs) (e : atI ds i = some d) : ∃ v, atI vs i = some v ∧ Rp K m H d v := by
  unfold atI at e ⊢
  rw [← h.length]
  cases q : ixN ds.length i with
  | none => rw [q] at e; cases e
  | some j =>
    rw [q] at e
    exact h.get e
theorem atI_map {α β : Type} {f : α → β} {xs : List α} {i : Int} {x : α} (h : atI xs i = some x) : atI (xs.map f) i = some (f x) := by
  unfold atI at h ⊢
  rw [List.length_map]
  cases q : ixN xs.length i with
  | none => rw [q] at h; cases h
  | some j =>
    rw [q] at h
    show (xs.map f)[j]? = some (f x)
    have h' : xs[j]? = some x := h
    rw [List.getElem?_map, h']
    rfl
theorem good_loc {K : PySem.W.Frag} {w : Wd} {r : Rs} {H : Hp} (g : Good K w r H) {n : Nat} {a : Addr} (h : w.m[n]? = some a) {ds : List D} (e : r[n]? = some (.lst ds)) : D.imms ds = true ∧ ∃ xs, H a = some (.lst xs) ∧ Rps K w.m w.v ds xs := by
  obtain ⟨b, hb, x⟩ := g.at_ n _ e
  rw [h] at hb
  cases hb
  exact x
theorem ix_dl {w : Wd} {r : Rs} {H : Hp} {x y : D} {v u : V} {d : D} {Q : VK} (g : Good X.K w r H) (rx : Rp X.K w.m w.v x v) (ry : Rp X.K w.m w.v y u) (e : dIx r x y = some d) (k : KD X.K w r H d Q) : rIx X.K v u H Q := by
  cases ry <;> (try (cases rx <;> simp only [dIx] at e <;> cases e; done))
  rename_i i
  cases rx <;> simp only [dIx] at e <;> try cases e
  case str x =>
    split at e
    · rename_i hl
      cases q : atI x.cps.toList i with
      | none => rw [q] at e; cases e
      | some c =>
        rw [q] at e
        cases e
        exact .inr (.inr ⟨_, _, c, rfl, rfl, lim_le hl, q, k.now g (.str _)⟩)
    · cases e
  case tup a xs ds hx rx =>
    obtain ⟨v, q, rv⟩ := atI_rps rx e
    exact .inr (.inl ⟨_, _, _, v, rfl, rfl, g.sub.sqT hx, q, k.now g rv⟩)
  case lst a xs ds hx rx =>
    obtain ⟨v, q, rv⟩ := atI_rps rx e
    exact .inl ⟨_, _, _, v, rfl, rfl, SqL.of (g.sub _ _ hx), q, k.now g rv⟩
  case loc n a hn =>
    split at e
    · rename_i ds hr
      obtain ⟨_, xs, h1, h2⟩ := good_loc g hn hr
      obtain ⟨v, q, rv⟩ := atI_rps h2 e
      exact .inl ⟨_, _, _, v, rfl, rfl, SqL.of h1, q, k.now g rv⟩
    · cases e
  case scr a ns hs =>
    cases q : atI ns i with
    | none => rw [q] at e; cases e
    | some j =>
      rw [q] at e
      cases e
      exact .inl ⟨_, _, _, .int j, rfl, rfl, g.sub.sqL hs, atI_map q, k.now g (.int _)⟩
theorem de_ix {a b : Expr} {pos : Pos} {f g : Ex} (ha : PE X a (tE X.K W f)) (hb : PE X b (tE X.K W g)) (hs : PlainIx b := by exact fun _ _ => rfl) : PE X (.Subscript a b pos) (tE X.K W (xIx f g)) :=
  (pe_ix ix_seq ha hb hs).imp fun σ H Q h => by
    obtain ⟨ρ, r, w, gd, s, h⟩ := h
    refine ⟨ρ, r, w, gd, s, h.bind fun a w1 r1 H1 t1 g1 h1 v rv => ?_⟩
    refine ⟨ρ, r1, w1, g1, s.mono t1, h1.bind fun b w2 r2 H2 t2 g2 h2 u ru => ?_⟩
    split at h2
    · rename_i d e
      exact ix_dl g2 (t2.rp rv) ru e fun w' H' t g z rz => h2 w' H' t g z rz
    · exact h2.elim

/-! ### slices -/
abbrev Ox := En → Rs → Out (Option Int)
def tO (K : PySem.W.Frag) (W : WX) (f : Ox) : TO := fun σ H Q => ∃ ρ r w, Good K w r H ∧ Slots K w ρ σ ∧
  After K W w H σ (f ρ r) fun d w' _ H' => Q d H'
def xNoP : Ox := fun _ r => .ok none r
def xPart (f : Ex) : Ox := fun ρ r => (f ρ r).bind fun d r1 => match d with
  | .int i => .ok (some i) r1
  | _ => .bad
theorem _root_.L2.PO.imp {X : Cx} {e : Option Expr} {t t' : TO} (h : PO X e t) (i : ∀ σ H Q, t' σ H Q → t σ H Q) : PO X e t' := ⟨fun pins s σ H Q I q => h.run pins s σ H Q I (i σ H Q q)⟩
theorem do_none : PO X none (tO X.K W xNoP) := po_none.imp fun σ H Q ⟨ρ, r, w, g, s, h⟩ => h.ok g
theorem do_some {e : Expr} {f : Ex} (h : PE X e (tE X.K W f)) : PO X (some e) (tO X.K W (xPart f)) := (po_some h).imp fun σ H Q ⟨ρ, r, w, g, s, h⟩ =>
  ⟨ρ, r, w, g, s, h.bind fun d w1 r1 H1 t1 g1 h1 v rv => by
    split at h1
    · cases rv
      exact ⟨_, rfl, h1.ok g1⟩
    · exact h1.elim⟩
def cutA {α : Type} (xs : List α) (lo hi : Option Int) : List α := (xs.drop (HT.sIx xs.length 0 lo)).take (HT.sIx xs.length xs.length hi - HT.sIx xs.length 0 lo)
def dSl : D → Option Int → Option Int → Option D
  | .lst ds, lo, hi => some (.lst (cutA ds lo hi))
  | .tup ds, lo, hi => some (.tup (cutA ds lo hi))
  | .str s, lo, hi => if s.length ≤ lim then some (.str ⟨(cutA s.cps.toList lo hi).toArray⟩) else none
  | _, _, _ => none
def xSl (f : Ex) (lo hi : Ox) : Ex := fun ρ r => (f ρ r).bind fun a r1 => (lo ρ r1).bind fun l r2 => (hi ρ r2).bind fun u r3 => match dSl a l u with
  | some d => .ok d r3
  | none => .bad
theorem cut_rps {K : PySem.W.Frag} {m : List Addr} {H : Hp} {ds : List D} {vs : List V} (h : Rps K m H ds vs) (lo hi : Option Int) : Rps K m H (cutA ds lo hi) (cutV vs lo hi) := by
  unfold cutA cutV
  rw [h.length]
  exact (h.drop _).take _
theorem cutA_all {α : Type} {xs : List α} {lo hi : Option Int} (h : HT.sIx xs.length 0 lo = 0 ∧ HT.sIx xs.length xs.length hi = xs.length) : cutA xs lo hi = xs := by
  unfold cutA
  rw [h.1, h.2, List.drop_zero, Nat.sub_zero, List.take_length]
theorem cutS_is (s : Str) (lo hi : Option Int) : cutS s lo hi = ⟨(cutA s.cps.toList lo hi).toArray⟩ := by
  unfold cutS cutA
  have e : s.length = s.cps.toList.length := by simp [Str.length]
  rw [e]
theorem sl_dl {w : Wd} {r : Rs} {H : Hp} {x : D} {v : V} {lo hi : Option Int} {d : D} {Q : VK} (g : Good X.K w r H) (rx : Rp X.K w.m w.v x v) (e : dSl x lo hi = some d) (k : KD X.K w r H d Q) :
    rSlL X.K v lo hi H Q ∨ rSlA X.K v lo hi H Q ∨ rSlS v lo hi H Q := by
  cases rx <;> simp only [dSl] at e <;> try cases e
  case str x =>
    split at e
    · rename_i hl
      cases e
      exact .inr (.inr ⟨_, rfl, lim_le hl, by rw [cutS_is]; exact k.now g (.str _)⟩)
    · cases e
  case tup a xs ds hx rx =>
    refine .inr (.inl ⟨a, xs, rfl, g.sub.sqT hx, fun hw => ?_, fun _ p hp => ?_⟩)
    · rw [← rx.length] at hw
      rw [cutA_all hw] at k
      exact k.now g (.tup hx rx)
    · exact k.new g hp (.tup (SqT.of upd_same) (cut_rps ((tr_new (o := .tup (cutV xs lo hi)) g hp).rps rx) lo hi))
  case lst a xs ds hx rx =>
    refine .inl ⟨a, xs, rfl, SqL.of (g.sub _ _ hx), fun p hp => ?_⟩
    exact k.new g hp (.lst upd_same (cut_rps ((tr_new (o := .lst (cutV xs lo hi)) g hp).rps rx) lo hi))
theorem de_sl {e : Expr} {lo hi : Option Expr} {p2 pos : Pos} {f : Ex} {fl fh : Ox} (he : PE X e (tE X.K W f)) (hl : PO X lo (tO X.K W fl)) (hh : PO X hi (tO X.K W fh)) : PE X (.Subscript e (.Slice lo hi none p2) pos) (tE X.K W (xSl f fl fh)) :=
  (pe_slice (sl_list.or (sl_tupA.or sl_str)) he hl hh).imp fun σ H Q h => by
    obtain ⟨ρ, r, w, gd, s, h⟩ := h
    refine ⟨ρ, r, w, gd, s, h.bind fun a w1 r1 H1 t1 g1 h1 v rv => ?_⟩
    refine ⟨ρ, r1, w1, g1, s.mono t1, h1.bind fun b w2 r2 H2 t2 g2 h2 => ?_⟩
    refine ⟨ρ, r2, w2, g2, s.mono (t1.trans t2), h2.bind fun c w3 r3 H3 t3 g3 h3 => ?_⟩
    split at h3
    · rename_i d e
      exact sl_dl g3 ((t2.trans t3).rp rv) e fun w' H' t g z rz => h3 w' H' t g z rz
    · exact h3.elim

/-! ### tests -/
def truth (r : Rs) : D → Option Bool
  | .non => some false
  | .bl b => some b
  | .int i => some (i != 0)
  | .str s => if s.length ≤ lim then some ((s.length : Int) != 0) else none
  | .lst ds => some (!ds.isEmpty)
  | .tup ds => some (!ds.isEmpty)
  | .dic ds => some (!ds.isEmpty)
  | .scr ns => some (!ns.isEmpty)
  | .loc n => match r[n]? with
    | some (.lst ds) => some (!ds.isEmpty)
    | some (.dic ds) => some (!ds.isEmpty)
    | _ => none
  | _ => none
theorem Rps.isEmpty {K : PySem.W.Frag} {m : List Addr} {H : Hp} {ds : List D} {vs : List V} (h : Rps K m H ds vs) : ds.isEmpty = vs.isEmpty := by cases h <;> rfl
theorem Rpk.isEmpty {K : PySem.W.Frag} {m : List Addr} {H : Hp} {ds : List (Key × D)} {vs : List (Key × V)} (h : Rpk K m H ds vs) : ds.isEmpty = vs.isEmpty := by cases h <;> rfl
/-- the truth of a value; a dict may be walked just now -/
def Tru2 (K : PySem.W.Frag) (x : V) (H : Hp) (k : Bool) : Prop := TruV K x H k ∨ ∃ p kvs, x = .ref p ∧ Rd H p (.dK kvs) ∧ k = !kvs.isEmpty
theorem tru2 : TruR X (fun x H Q => ∃ k, Tru2 X.K x H k ∧ Q k H) := by
  intro pins s σ H x v Q I rx h
  obtain ⟨k, e | ⟨p, kvs, rfl, hd, rfl⟩, q⟩ := h
  · exact tru_ok pins s σ H x v Q I rx ⟨k, e, q⟩
  · obtain rfl : v = Value.ref p := rx
    exact d_truth I hd fun s' I' => ⟨H, I', q⟩
theorem pt_tru2 {a : Expr} {ta : TE} (ha : PE X a ta) (he : ∀ whole, isTrue a X.env whole = (do let v ← whole; standAt a.pos; holding [v] (truthy v))) : PT X a (fun σ H Q => ta σ H fun x H' => ∃ k, Tru2 X.K x H' k ∧ Q k H') :=
  ⟨fun pins s σ H Q I h => PyProof.Rows.isTrue_plain (thn (ha.run pins s σ H _ I h) fun v s1 ⟨x, H1, I1, r1, q1⟩ => tru2 pins s1 σ H1 x v Q I1 r1 q1) (he _)⟩
section
variable {a b : Expr} {rest : List Expr} {pos : Pos} {ta tb : TE}
/-- what a value's truth decides, the value still at hand -/
theorem tru_then {pins : List (Addr × Obj)} {s : Shared} {σ : L2.St} {H : Hp} {x : V} {v : Value} {k : Bool} {P : Bool → Shared → Prop} (I : L2.Inv X pins σ H s) (r : RelV x v) (e : Tru2 X.K x H k) (h : ∀ s', L2.Inv X pins σ H s' → P k s') : wpAny (model X.prog X.w) X.A (truthy v) P X.xe s :=
  thn (tru2 pins s σ H x v (fun c H2 => c = k ∧ H2 = H) I r ⟨k, e, rfl, rfl⟩) fun c s2 ⟨H2, I2, e1, e2⟩ => by
    subst e1
    subst e2
    exact h s2 I2
theorem pe_or2 (ha : PE X a ta) (hb : PE X (.BoolOp .Or (b :: rest) pos) tb) : PE X (.BoolOp .Or (a :: b :: rest) pos) (fun σ H Q => ta σ H fun x H1 => ∃ k, Tru2 X.K x H1 k ∧ if k = true then Q x H1 else tb σ H1 Q) :=
  ⟨fun pins s σ H Q I h => PyProof.Rows.BoolOp_or (thn (ha.run pins s σ H _ I h) fun v s1 ⟨x, H1, I1, r1, k, e, q1⟩ => tru_then I1 r1 e fun s2 I2 => by
    cases k
    · exact hb.run pins s2 σ H1 Q I2 q1
    · exact ⟨x, H1, I2, r1, q1⟩)⟩
theorem pe_and2 (ha : PE X a ta) (hb : PE X (.BoolOp .And (b :: rest) pos) tb) : PE X (.BoolOp .And (a :: b :: rest) pos) (fun σ H Q => ta σ H fun x H1 => ∃ k, Tru2 X.K x H1 k ∧ if k = true then tb σ H1 Q else Q x H1) :=
  ⟨fun pins s σ H Q I h => PyProof.Rows.BoolOp_and (thn (ha.run pins s σ H _ I h) fun v s1 ⟨x, H1, I1, r1, k, e, q1⟩ => tru_then I1 r1 e fun s2 I2 => by
    cases k
    · exact ⟨x, H1, I2, r1, q1⟩
    · exact hb.run pins s2 σ H1 Q I2 q1)⟩
theorem pe_not2 (ha : PE X a ta) : PE X (.UnaryOp .Not a pos) (fun σ H Q => ta σ H fun x H1 => ∃ k, Tru2 X.K x H1 k ∧ Q (.bl (!k)) H1) :=
  ⟨fun pins s σ H Q I h => PyProof.Rows.UnaryOp_ (thn (ha.run pins s σ H _ I h) fun v s1 ⟨x, H1, I1, r1, k, e, q1⟩ => PyProof.Rows.not_of (tru_then I1 r1 e fun s2 I2 => ⟨.bl (!k), H1, I2, rfl, q1⟩))⟩
end
theorem truth_v {w : Wd} {r : Rs} {H : Hp} {x : D} {v : V} {b : Bool} (g : Good X.K w r H) (rx : Rp X.K w.m w.v x v) (e : truth r x = some b) : Tru2 X.K v H b := by
  cases rx <;> simp only [truth] at e <;> try cases e
  case non => exact .inl rfl
  case bl => exact .inl rfl
  case int => exact .inl rfl
  case str x =>
    split at e
    · rename_i h
      cases e
      exact .inl ⟨lim_le h, rfl⟩
    · cases e
  case tup a xs ds hx rx => exact .inl (.inr (.inl ⟨xs, g.sub.sqT hx, by rw [rx.isEmpty]⟩))
  case lst a xs ds hx rx => exact .inl (.inl ⟨xs, SqL.of (g.sub _ _ hx), by rw [rx.isEmpty]⟩)
  case dic a xs ds hx rx => exact .inr ⟨_, xs, rfl, g.sub.rd hx, by rw [rx.isEmpty]⟩
  case loc n a hn =>
    split at e
    · rename_i ds hr
      cases e
      obtain ⟨_, xs, h1, h2⟩ := good_loc g hn hr
      exact .inl (.inl ⟨xs, SqL.of h1, by rw [h2.isEmpty]⟩)
    · rename_i ds hr
      cases e
      obtain ⟨a', ha', _, xs, h1, h2⟩ := g.at_ n _ hr
      rw [hn] at ha'
      cases ha'
      exact .inl (.inr (.inr ⟨xs, h1, by rw [h2.isEmpty]⟩))
    · cases e
  case scr a ns hs => exact .inl (.inl ⟨_, g.sub.sqL hs, by cases ns <;> rfl⟩)
def xTr (f : Ex) : Tx := fun ρ r => (f ρ r).bind fun d r1 => match truth r1 d with
  | some b => .ok b r1
  | none => .bad
def xB (f : Ex) : Tx := fun ρ r => (f ρ r).bind fun d r1 => match d with
  | .bl b => .ok b r1
  | _ => .bad
theorem dt_tr {e : Expr} {f : Ex} (h : PE X e (tE X.K W f)) (he : ∀ whole, isTrue e X.env whole = (do let v ← whole; standAt e.pos; holding [v] (truthy v)) := by intro _; rfl) : PT X e (tT X.K W (xTr f)) :=
  (pt_tru2 h he).imp fun σ H Q ⟨ρ, r, w, g, s, h⟩ => ⟨ρ, r, w, g, s, h.bind fun d w1 r1 H1 t1 g1 h1 v rv => by
    split at h1
    · rename_i b e
      exact ⟨b, truth_v g1 rv e, h1.ok g1⟩
    · exact h1.elim⟩
theorem dt_cmp {a b : Expr} {op : CmpOp} {pos : Pos} {F : D → D → Option D} {f g : Ex} (ho : OpD X (compareOp op) F) (ha : PE X a (tE X.K W f)) (hb : PE X b (tE X.K W g)) (hm : behindInMarks op b = false := by first | exact nomark _ | rfl) : PT X (.Compare a [op] [b] pos) (tT X.K W (xB (xOp F f g))) := by
  obtain ⟨rr, o, k⟩ := ho
  refine (pt_cmpR o ha hb hm).imp fun σ H Q h => ?_
  refine tE_op k ?_
  obtain ⟨ρ, r, w, g, s, h⟩ := h
  refine ⟨ρ, r, w, g, s, h.bind fun d w1 r1 H1 t1 g1 h1 v rv => ?_⟩
  split at h1
  · cases rv
    exact ⟨_, rfl, h1.ok g1⟩
  · exact h1.elim
/-- a < b < c -/
def xCh (F G : D → D → Option D) (f g h : Ex) : Tx := fun ρ r => (f ρ r).bind fun a r1 => (g ρ r1).bind fun b r2 => match F a b with
  | some (.bl true) => (h ρ r2).bind fun c r3 => match G b c with
    | some (.bl k) => .ok k r3
    | _ => .bad
  | some (.bl false) => .ok false r2
  | _ => .bad
theorem ch_dl {K : PySem.W.Frag} {F G : D → D → Option D} {f g h : Ex} {rr rr' : R2} {σ : L2.St} {H : Hp} {Q : Bool → Hp → Prop} {Q' : VK}
    (k : ∀ (w : Wd) (r : Rs) (H : Hp) (x y : D) (v u : V) (d : D) (Q : VK), Good K w r H → Rp K w.m w.v x v → Rp K w.m w.v y u → F x y = some d → KD K w r H d Q → rr v u H Q)
    (k' : ∀ (w : Wd) (r : Rs) (H : Hp) (x y : D) (v u : V) (d : D) (Q : VK), Good K w r H → Rp K w.m w.v x v → Rp K w.m w.v y u → G x y = some d → KD K w r H d Q → rr' v u H Q)
    (hQ : ∀ b H, Q b H → Q' (.bl b) H) (q : tT K W (xCh F G f g h) σ H Q) : tChain rr rr' (tE K W f) (tE K W g) (tE K W h) σ H Q' := by
  obtain ⟨ρ, r, w, gd, s, q⟩ := q
  refine ⟨ρ, r, w, gd, s, q.bind fun a w1 r1 H1 t1 g1 h1 v rv => ?_⟩
  refine ⟨ρ, r1, w1, g1, s.mono t1, h1.bind fun b w2 r2 H2 t2 g2 h2 u ru => ?_⟩
  split at h2
  · rename_i e
    refine k w2 r2 H2 a b v u _ _ g2 (t2.rp rv) ru e fun w3 H3 t3 g3 z rz => ?_
    cases rz
    refine ⟨true, rfl, ?_⟩
    rw [if_pos rfl]
    refine ⟨ρ, r2, w3, g3, s.mono ((t1.trans t2).trans t3), ?_⟩
    have h3 : After K W w3 H3 σ ((h ρ r2).bind fun c r3 => match G b c with
      | some (.bl k) => .ok k r3
      | _ => .bad) (fun b _ _ H' => Q b H') := by
      revert h2
      generalize ((h ρ r2).bind fun c r3 => match G b c with
        | some (.bl k) => Out.ok k r3
        | _ => .bad) = o
      intro h2
      cases o with
      | ok b r => exact fun w' H' t' g' => h2 w' H' (t3.trans t') g'
      | exc c fs r => exact fun w' H' cls dd t' g' x => h2 w' H' cls dd (t3.trans t') g' x
      | bad => exact h2
    refine h3.bind fun c w4 r4 H4 t4 g4 h4 x rx => ?_
    split at h4
    · rename_i e4
      refine k' w4 r4 H4 b c u x _ _ g4 ((t3.trans t4).rp ru) rx e4 fun w5 H5 t5 g5 z rz => ?_
      cases rz
      exact hQ _ _ (h4 w5 H5 t5 g5)
    · exact h4.elim
  · rename_i e
    refine k w2 r2 H2 a b v u _ _ g2 (t2.rp rv) ru e fun w3 H3 t3 g3 z rz => ?_
    cases rz
    refine ⟨false, rfl, ?_⟩
    rw [if_neg Bool.false_ne_true]
    exact hQ _ _ (h2 w3 H3 t3 g3)
  · exact h2.elim
theorem dt_ch {a b c : Expr} {op op' : CmpOp} {pos : Pos} {F G : D → D → Option D} {f g h : Ex} (ho : OpD X (compareOp op) F) (ho' : OpD X (compareOp op') G) (ha : PE X a (tE X.K W f)) (hb : PE X b (tE X.K W g)) (hc : PE X c (tE X.K W h))
    (hm : lastMarks [op, op'] [b, c] = false := by with_unfolding_all rfl) : PT X (.Compare a [op, op'] [b, c] pos) (tT X.K W (xCh F G f g h)) := by
  obtain ⟨rr, o, k⟩ := ho
  obtain ⟨rr', o', k'⟩ := ho'
  exact (pt_chain o o' ha hb hc hm).imp fun σ H Q q => ch_dl k k' (fun b H h => ⟨b, rfl, h⟩) q
def xV (t : Tx) : Ex := fun ρ r => (t ρ r).bind fun b r1 => .ok (.bl b) r1
theorem tT_V {K : PySem.W.Frag} {t : Tx} {σ : L2.St} {H : Hp} {Q : VK} (h : tE K W (xV t) σ H Q) : tT K W t σ H (fun b H' => Q (.bl b) H') := by
  obtain ⟨ρ, r, w, g, s, h⟩ := h
  exact ⟨ρ, r, w, g, s, h.bind fun b w1 r1 H1 t1 g1 h1 => h1.ok g1 _ (.bl b)⟩
theorem de_ch {a b c : Expr} {op op' : CmpOp} {pos : Pos} {F G : D → D → Option D} {f g h : Ex} (ho : OpD X (compareOp op) F) (ho' : OpD X (compareOp op') G) (ha : PE X a (tE X.K W f)) (hb : PE X b (tE X.K W g)) (hc : PE X c (tE X.K W h))
    (hm : lastMarks [op, op'] [b, c] = false := by with_unfolding_all rfl) : PE X (.Compare a [op, op'] [b, c] pos) (tE X.K W (xV (xCh F G f g h))) := by
  obtain ⟨rr, o, k⟩ := ho
  obtain ⟨rr', o', k'⟩ := ho'
  exact (pe_chain o o' ha hb hc hm).imp fun σ H Q q => ch_dl k k' (fun b H h => h) (tT_V q)
def xAnd (f g : Tx) : Tx := fun ρ r => (f ρ r).bind fun b r1 => if b = true then g ρ r1 else .ok false r1
def xOr (f g : Tx) : Tx := fun ρ r => (f ρ r).bind fun b r1 => if b = true then .ok true r1 else g ρ r1
def xNot (f : Tx) : Tx := fun ρ r => (f ρ r).bind fun b r1 => .ok (!b) r1
theorem tT_and {K : PySem.W.Frag} {f g : Tx} {σ : L2.St} {H : Hp} {Q : Bool → Hp → Prop} (h : tT K W (xAnd f g) σ H Q) : tAnd (tT K W f) (tT K W g) σ H Q := by
  obtain ⟨ρ, r, w, gd, s, h⟩ := h
  refine ⟨ρ, r, w, gd, s, h.bind fun b w1 r1 H1 t1 g1 h1 => ?_⟩
  cases b with
  | true => exact iteT ⟨ρ, r1, w1, g1, s.mono t1, h1⟩
  | false => exact iteF (h1.ok g1)
theorem tT_or {K : PySem.W.Frag} {f g : Tx} {σ : L2.St} {H : Hp} {Q : Bool → Hp → Prop} (h : tT K W (xOr f g) σ H Q) : tOr (tT K W f) (tT K W g) σ H Q := by
  obtain ⟨ρ, r, w, gd, s, h⟩ := h
  refine ⟨ρ, r, w, gd, s, h.bind fun b w1 r1 H1 t1 g1 h1 => ?_⟩
  cases b with
  | true => exact iteT (h1.ok g1)
  | false => exact iteF ⟨ρ, r1, w1, g1, s.mono t1, h1⟩
theorem _root_.L2.PW.imp {X : Cx} {e : Expr} {t t' : TT} (h : PW X e t) (i : ∀ σ H Q, t' σ H Q → t σ H Q) : PW X e t' := ⟨fun wh pins s σ H Q I q => h.run wh pins s σ H Q I (i σ H Q q)⟩
section
variable {a b : Expr} {rest : List Expr} {pos : Pos} {f g : Tx}
theorem dw_and1 (ha : PT X a (tT X.K W f)) : PW X (.BoolOp .And [a] pos) (tT X.K W f) := pw_and1 ha
theorem dw_or1 (ha : PT X a (tT X.K W f)) : PW X (.BoolOp .Or [a] pos) (tT X.K W f) := pw_or1 ha
theorem dw_and (ha : PT X a (tT X.K W f)) (hb : PW X (.BoolOp .And (b :: rest) pos) (tT X.K W g)) : PW X (.BoolOp .And (a :: b :: rest) pos) (tT X.K W (xAnd f g)) := (pw_and ha hb).imp fun _ _ _ h => tT_and h
theorem dw_or (ha : PT X a (tT X.K W f)) (hb : PW X (.BoolOp .Or (b :: rest) pos) (tT X.K W g)) : PW X (.BoolOp .Or (a :: b :: rest) pos) (tT X.K W (xOr f g)) := (pw_or ha hb).imp fun _ _ _ h => tT_or h
theorem dt_not (ha : PT X a (tT X.K W f)) : PT X (.UnaryOp .Not a pos) (tT X.K W (xNot f)) := (pt_not ha).imp fun σ H Q ⟨ρ, r, w, gd, s, h⟩ =>
  ⟨ρ, r, w, gd, s, h.bind fun b w1 r1 H1 t1 g1 h1 => h1.ok g1⟩
end
/-- a if t else b -/
def xIf (t : Tx) (f g : Ex) : Ex := fun ρ r => (t ρ r).bind fun b r1 => if b = true then f ρ r1 else g ρ r1
theorem de_if {c a b : Expr} {pos : Pos} {t : Tx} {f g : Ex} (hc : PT X c (tT X.K W t)) (ha : PE X a (tE X.K W f)) (hb : PE X b (tE X.K W g)) : PE X (.IfExp c a b pos) (tE X.K W (xIf t f g)) :=
  (pe_ifExp hc ha hb).imp fun σ H Q ⟨ρ, r, w, gd, s, h⟩ => ⟨ρ, r, w, gd, s, h.bind fun b w1 r1 H1 t1 g1 h1 => by
    cases b with
    | true => exact iteT ⟨ρ, r1, w1, g1, s.mono t1, h1⟩
    | false => exact iteF ⟨ρ, r1, w1, g1, s.mono t1, h1⟩⟩
/-- and, or, not as values -/
def xAndV (f g : Ex) : Ex := fun ρ r => (f ρ r).bind fun d r1 => match truth r1 d with
  | some true => g ρ r1
  | some false => .ok d r1
  | none => .bad
def xOrV (f g : Ex) : Ex := fun ρ r => (f ρ r).bind fun d r1 => match truth r1 d with
  | some true => .ok d r1
  | some false => g ρ r1
  | none => .bad
def xNotV (f : Ex) : Ex := fun ρ r => (f ρ r).bind fun d r1 => match truth r1 d with
  | some b => .ok (.bl (!b)) r1
  | none => .bad
section
variable {a b : Expr} {rest : List Expr} {pos : Pos} {f g : Ex}
theorem de_one {op} (h : PE X a (tE X.K W f)) : PE X (.BoolOp op [a] pos) (tE X.K W f) := pe_one h
theorem de_and (ha : PE X a (tE X.K W f)) (hb : PE X (.BoolOp .And (b :: rest) pos) (tE X.K W g)) : PE X (.BoolOp .And (a :: b :: rest) pos) (tE X.K W (xAndV f g)) :=
  (pe_and2 ha hb).imp fun σ H Q ⟨ρ, r, w, gd, s, h⟩ => ⟨ρ, r, w, gd, s, h.bind fun d w1 r1 H1 t1 g1 h1 v rv => by
    split at h1
    · rename_i e
      exact ⟨true, truth_v g1 rv e, iteT ⟨ρ, r1, w1, g1, s.mono t1, h1⟩⟩
    · rename_i e
      exact ⟨false, truth_v g1 rv e, iteF (h1.ok g1 v rv)⟩
    · exact h1.elim⟩
theorem de_or (ha : PE X a (tE X.K W f)) (hb : PE X (.BoolOp .Or (b :: rest) pos) (tE X.K W g)) : PE X (.BoolOp .Or (a :: b :: rest) pos) (tE X.K W (xOrV f g)) :=
  (pe_or2 ha hb).imp fun σ H Q ⟨ρ, r, w, gd, s, h⟩ => ⟨ρ, r, w, gd, s, h.bind fun d w1 r1 H1 t1 g1 h1 v rv => by
    split at h1
    · rename_i e
      exact ⟨true, truth_v g1 rv e, iteT (h1.ok g1 v rv)⟩
    · rename_i e
      exact ⟨false, truth_v g1 rv e, iteF ⟨ρ, r1, w1, g1, s.mono t1, h1⟩⟩
    · exact h1.elim⟩
theorem de_not (ha : PE X a (tE X.K W f)) : PE X (.UnaryOp .Not a pos) (tE X.K W (xNotV f)) :=
  (pe_not2 ha).imp fun σ H Q ⟨ρ, r, w, gd, s, h⟩ => ⟨ρ, r, w, gd, s, h.bind fun d w1 r1 H1 t1 g1 h1 v rv => by
    split at h1
    · rename_i b e
      exact ⟨b, truth_v g1 rv e, h1.ok g1 _ (.bl _)⟩
    · exact h1.elim⟩
def xNeg (f : Ex) : Ex := fun ρ r => (f ρ r).bind fun d r1 => match d with
  | .int i => .ok (.int (-i)) r1
  | _ => .bad
theorem de_neg (ha : PE X a (tE X.K W f)) : PE X (.UnaryOp .USub a pos) (tE X.K W (xNeg f)) :=
  (pe_un un_neg ha).imp fun σ H Q ⟨ρ, r, w, gd, s, h⟩ => ⟨ρ, r, w, gd, s, h.bind fun d w1 r1 H1 t1 g1 h1 v rv => by
    split at h1
    · cases rv
      exact ⟨_, rfl, h1.ok g1 _ (.int _)⟩
    · exact h1.elim⟩
end
/-! ### argument lists, displays -/
def xNil : Ax := fun _ r => .ok [] r
def xCons (f : Ex) (g : Ax) : Ax := fun ρ r => (f ρ r).bind fun d r1 => (g ρ r1).bind fun ds r2 => .ok (d :: ds) r2
theorem da_nil : PA X [] (tA X.K W xNil) := pa_nil.imp fun σ H Q ⟨ρ, r, w, gd, s, h⟩ => h.ok gd [] .nil
theorem da_cons {e : Expr} {es : List Expr} {f : Ex} {g : Ax} (ha : PE X e (tE X.K W f)) (hr : PA X es (tA X.K W g)) (hs : starEach (e :: es) X.env = (false, eval e X.env) :: starEach es X.env := by rfl) : PA X (e :: es) (tA X.K W (xCons f g)) :=
  (pa_cons ha hr hs).imp fun σ H Q ⟨ρ, r, w, gd, s, h⟩ => ⟨ρ, r, w, gd, s, h.bind fun d w1 r1 H1 t1 g1 h1 v rv => ⟨ρ, r1, w1, g1, s.mono t1, h1.bind fun ds w2 r2 H2 t2 g2 h2 vs rvs => h2.ok g2 _ (.cons (t2.rp rv) rvs)⟩⟩
def xTup (f : Ax) : Ex := fun ρ r => (f ρ r).bind fun ds r1 => if ds.length ≤ lim then .ok (.tup ds) r1 else .bad
def xLst (f : Ax) : Ex := fun ρ r => (f ρ r).bind fun ds r1 => if ds.length ≤ lim then .ok (.lst ds) r1 else .bad
section
variable {es : List Expr} {pos : Pos} {f : Ax}
theorem de_tup {x1} (h : PA X es (tA X.K W f)) : PE X (.Tuple es x1 pos) (tE X.K W (xTup f)) :=
  (pe_tup h).imp fun σ H Q ⟨ρ, r, w, gd, s, h⟩ => ⟨ρ, r, w, gd, s, h.bind fun ds w1 r1 H1 t1 g1 h1 vs rvs => by
    split at h1
    · rename_i hl
      refine ⟨by rw [← rvs.length]; exact lim_le hl, fun p hp => ?_⟩
      exact h1 (w1.see p (.tup vs)) _ (tr_new g1 hp) (good_new g1 hp) _ (.tup (SqT.of see_at) ((tr_new (o := .tup vs) g1 hp).rps rvs))
    · exact h1.elim⟩
theorem de_lst (h : PA X es (tA X.K W f)) : PE X (.List es pos) (tE X.K W (xLst f)) :=
  (pe_lst h).imp fun σ H Q ⟨ρ, r, w, gd, s, h⟩ => ⟨ρ, r, w, gd, s, h.bind fun ds w1 r1 H1 t1 g1 h1 vs rvs => by
    split at h1
    · rename_i hl
      refine ⟨by rw [← rvs.length]; exact lim_le hl, fun p hp => ?_⟩
      exact h1 (w1.see p (.lst vs)) _ (tr_new g1 hp) (good_new g1 hp) _ (.lst see_at ((tr_new (o := .lst vs) g1 hp).rps rvs))
    · exact h1.elim⟩
end
end
end DL

/-! DL5: calls of built-ins, of defs; comprehensions. -/
namespace DL
open PySem L2
section
variable {X : Cx} {W : WX}

/-! ### built-ins -/
def CalD (X : Cx) (fn : Value) (F : Rs → List D → Option D) : Prop := ∃ rr : List V → Hp → VK → Prop, CallR X fn rr ∧
  ∀ (w : Wd) (r : Rs) (H : Hp) (ds : List D) (vs : List V) (d : D) (Q : VK), Good X.K w r H → Rps X.K w.m w.v ds vs → F r ds = some d → KD X.K w r H d Q → rr vs H Q
def xCB (F : Rs → List D → Option D) (f : Ax) : Ex := fun ρ r => (f ρ r).bind fun ds r1 => match F r1 ds with
  | some d => .ok d r1
  | none => .bad
theorem cb_dl {K : PySem.W.Frag} {F : Rs → List D → Option D} {f : Ax} {rr : List V → Hp → VK → Prop} {σ : L2.St} {H : Hp} {Q : VK}
    (k : ∀ (w : Wd) (r : Rs) (H : Hp) (ds : List D) (vs : List V) (d : D) (Q : VK), Good K w r H → Rps K w.m w.v ds vs → F r ds = some d → KD K w r H d Q → rr vs H Q)
    (h : tE K W (xCB F f) σ H Q) : tCB rr (tA K W f) σ H Q := by
  obtain ⟨ρ, r, w, gd, s, h⟩ := h
  refine ⟨ρ, r, w, gd, s, h.bind fun ds w1 r1 H1 t1 g1 h1 vs rvs => ?_⟩
  split at h1
  · rename_i d e
    exact k w1 r1 H1 ds vs d Q g1 rvs e h1
  · exact h1.elim
section
variable {x : Str} {p pos : Pos} {e : Expr} {es : List Expr} {f : Ax} {id T : String} {F : Rs → List D → Option D}
theorem de_callB (hc : CalD X (.builtin id) F) (hg : Gl X x) (hm : X.mg x = none) (hv : bootBuiltins x = some (.builtin id)) (ha : PA X (e :: es) (tA X.K W f)) (hn : x ≠ "__name__" := by decide) (hdb : (x == ("__debug__" : Str)) = false := by decide)
    (he : starEach (e :: es) X.env = (false, eval e X.env) :: starEach es X.env := by rfl) (hpl : (backTo pos (starEach es X.env)).any (·.1) = false := by rfl) : PE X (.Call (.Name x p) (e :: es) [] pos) (tE X.K W (xCB F f)) := by
  obtain ⟨rr, o, k⟩ := hc
  exact (pe_callB o hg hm hv ha hn hdb he hpl).imp fun σ H Q h => cb_dl k h
theorem de_callTy (hc : CalD X (.type T) F) (hg : Gl X x) (hm : X.mg x = none) (hv : bootBuiltins x = some (.type T)) (ha : PA X (e :: es) (tA X.K W f)) (hn : x ≠ "__name__" := by decide) (hdb : (x == ("__debug__" : Str)) = false := by decide)
    (he : starEach (e :: es) X.env = (false, eval e X.env) :: starEach es X.env := by rfl) (hpl : (backTo pos (starEach es X.env)).any (·.1) = false := by rfl) : PE X (.Call (.Name x p) (e :: es) [] pos) (tE X.K W (xCB F f)) := by
  obtain ⟨rr, o, k⟩ := hc
  exact (pe_callTy o hg hm hv ha hn hdb he hpl).imp fun σ H Q h => cb_dl k h
/-- a built-in class as a value -/
theorem de_ty (hg : Gl X x) (hm : X.mg x = none) (hv : bootBuiltins x = some (.type T)) (hn : x ≠ "__name__" := by decide) (hdb : (x == ("__debug__" : Str)) = false := by decide) : PE X (.Name x pos) (tE X.K W (xC (.ty T))) :=
  de_const (pe_bltn (v := .ty T) hg hm hv rfl hn hdb) fun _ _ => .ty T
/-- a def's or class's name as a value -/
theorem de_gl {a : Addr} (hg : Gl X x) (hm : X.mg x = some (.ref a)) (hdb : (x == ("__debug__" : Str)) = false := by decide) : PE X (.Name x pos) (tE X.K W (xC (.gl a))) :=
  de_const (pe_glob (v := .ref a) hg hm rfl hdb) fun _ _ => .gl a
end
def cLen (r : Rs) : List D → Option D
  | [.lst ds] => some (.int ds.length)
  | [.tup ds] => some (.int ds.length)
  | [.str s] => if s.length ≤ lim then some (.int s.length) else none
  | [.scr ns] => some (.int ns.length)
  | [.loc n] => match r[n]? with
    | some (.lst ds) => some (.int ds.length)
    | some (.dic ds) => some (.int ds.length)
    | _ => none
  | [.dic ds] => some (.int ds.length)
  | _ => none
theorem rpk_len {K : PySem.W.Frag} {m : List Addr} {H : Hp} : ∀ {ds : List (Key × D)} {vs : List (Key × V)}, Rpk K m H ds vs → ds.length = vs.length
  | _, _, .nil => rfl
  | _, _, .cons _ t => by rw [List.length_cons, List.length_cons, rpk_len t]
theorem cr_lenD2 : CallR X (.builtin "len") (fun xs H Q => ∃ a kvs, xs = [V.ref a] ∧ Rd H a (.dK kvs) ∧ Q (.int kvs.length) H) := by
  intro pins s σ H xs us Q I r h
  obtain ⟨a, kvs, rfl, hd, q⟩ := h
  obtain ⟨u, rfl, ru⟩ := vals1 r
  obtain rfl : u = Value.ref a := ru
  exact d_len I hd fun t s' I' => ⟨.int kvs.length, H, I', ⟨t, rfl⟩, q⟩
theorem cd_len : CalD X (.builtin "len") cLen := ⟨_, L2.CallR.or call_len cr_lenD2, fun w r H ds vs d Q g rvs e k => by
  cases rvs with
  | nil => cases e
  | cons rv rt =>
    cases rt with
    | cons _ _ => cases rv <;> cases e
    | nil =>
      cases rv <;> simp only [cLen] at e <;> first | (cases e; done) | skip
      case str x =>
        split at e
        · rename_i h
          cases e
          exact .inl ⟨_, _, rfl, ⟨lim_le h, rfl⟩, k.now g (.int _)⟩
        · cases e
      case tup a xs ds hx rx => cases e; exact .inl ⟨_, ds.length, rfl, .inr ⟨xs, g.sub.sqT hx, rx.length⟩, k.now g (.int _)⟩
      case lst a xs ds hx rx => cases e; exact .inl ⟨_, ds.length, rfl, .inl ⟨xs, SqL.of (g.sub _ _ hx), rx.length⟩, k.now g (.int _)⟩
      case loc n a hn =>
        split at e
        · rename_i ds hr
          cases e
          obtain ⟨_, xs, h1, h2⟩ := good_loc g hn hr
          exact .inl ⟨_, ds.length, rfl, .inl ⟨xs, SqL.of h1, h2.length⟩, k.now g (.int _)⟩
        · rename_i ds hr
          cases e
          obtain ⟨a', ha', _, xs, h1, h2⟩ := g.at_ n _ hr
          rw [hn] at ha'
          cases ha'
          exact .inr ⟨_, xs, rfl, .inl h1, by rw [← rpk_len h2]; exact k.now g (.int _)⟩
        · cases e
      case dic a xs ds hx rx => cases e; exact .inr ⟨_, xs, rfl, g.sub.rd hx, by rw [← rpk_len rx]; exact k.now g (.int _)⟩
      case scr a ns hs => cases e; exact .inl ⟨_, ns.length, rfl, .inl ⟨_, g.sub.sqL hs, by rw [List.length_map]⟩, k.now g (.int _)⟩⟩
def cAbs (_ : Rs) : List D → Option D
  | [.int i] => some (.int (if i < 0 then -i else i))
  | _ => none
theorem cd_abs : CalD X (.builtin "abs") cAbs := ⟨_, call_abs, fun w r H ds vs d Q g rvs e k => by
  cases rvs with
  | nil => cases e
  | cons rv rt =>
    cases rt with
    | cons _ _ => cases rv <;> cases e
    | nil =>
      cases rv <;> simp only [cAbs] at e <;> cases e
      exact ⟨_, rfl, k.now g (.int _)⟩⟩
def cInt (_ : Rs) : List D → Option D
  | [.int i] => some (.int i)
  | [.bl b] => some (.int (if b then 1 else 0))
  | _ => none
theorem cd_int : CalD X (.type "int") cInt := ⟨_, call_int1, fun w r H ds vs d Q g rvs e k => by
  cases rvs with
  | nil => cases e
  | cons rv rt =>
    cases rt with
    | cons _ _ => cases rv <;> cases e
    | nil =>
      cases rv <;> simp only [cInt] at e <;> cases e
      · exact .inr ⟨_, rfl, k.now g (.int _)⟩
      · exact .inl ⟨_, rfl, k.now g (.int _)⟩⟩
/-! ### ranges -/
def big (i : Int) : Bool := decide (i.natAbs < 2 ^ 62)
theorem big_of {i : Int} (h : big i = true) : -(2 ^ 62) ≤ i ∧ i < 2 ^ 62 := by
  unfold big at h
  rw [decide_eq_true_eq] at h
  omega
def rng (lo : Int) (n : Nat) : List D := (List.range n).map fun i => .int (lo + (i : Nat))
theorem rng_len (lo : Int) (n : Nat) : (rng lo n).length = n := by simp [rng]
theorem rps_ints' {K : PySem.W.Frag} {m : List Addr} {H : Hp} (f : Nat → Int) : ∀ l : List Nat, Rps K m H (l.map fun i => D.int (f i)) (l.map fun i => V.int (f i))
  | [] => .nil
  | x :: xs => .cons (.int _) (rps_ints' f xs)
theorem rps_rng {K : PySem.W.Frag} {m : List Addr} {H : Hp} (lo hi : Int) : Rps K m H (rng lo (hi - lo).toNat) (rgV lo hi) := rps_ints' _ _
/-- the things of a range that is not too long -/
def rgItems (lo hi : Int) : Option (List D) := if big lo && big hi && decide ((hi - lo).toNat ≤ lim) then some (rng lo (hi - lo).toNat) else none
theorem rg_ok {lo hi : Int} {ds : List D} (h : rgItems lo hi = some ds) : RgOk lo hi ∧ ds = rng lo (hi - lo).toNat := by
  unfold rgItems at h
  split at h
  · rename_i c
    rw [Bool.and_eq_true, Bool.and_eq_true, decide_eq_true_eq] at c
    cases h
    have hl : lim = 1000000 := rfl
    exact ⟨⟨(big_of c.1.1).1, (big_of c.1.1).2, (big_of c.1.2).1, (big_of c.1.2).2, by omega⟩, rfl⟩
  · cases h
theorem cr_range1 : CallR X (.type "range") (fun vs H Q => ∃ j, vs = [V.int j] ∧ ∀ p, H p = none → Q (.ref p) (upd H p (.rng 0 j))) := by
  intro pins s σ H vs us Q I r h
  obtain ⟨j, rfl, q⟩ := h
  obtain ⟨u1, rfl, rj⟩ := vals1 r
  obtain ⟨t, rfl⟩ := rj
  refine call_range_1 ⟨.ref s.heap.objs.size, upd H s.heap.objs.size (.rng 0 j), I.laid (t' := s.toks + 1 + 1) (fun b o e => Heap.get?_push_of_some _ e) (Nat.le_refl _) ?_, rfl, q _ (I.hok.fresh (Nat.le_refl _))⟩
  exact ⟨_, t, _, Heap.get?_push_size _ rfl⟩
theorem cr_listRg (hc : X.calm = true) : CallR X (.type "list") (fun vs H Q => ∃ a lo hi, vs = [V.ref a] ∧ H a = some (.rng lo hi) ∧ RgOk lo hi ∧ ∀ q, H q = none → Q (.ref q) (upd H q (.lst (rgV lo hi)))) := by
  intro pins s σ H vs us Q I r h
  obtain ⟨a, lo, hi, rfl, ha, ⟨b1, b2, b3, b4, b5⟩, q⟩ := h
  obtain ⟨w, rfl, rw_⟩ := vals1 r
  obtain rfl : w = Value.ref a := rw_
  obtain ⟨t, u, v, ho⟩ := I.hok a _ ha
  refine call_list_range (n := (hi - lo).toNat) (I.ok.hd hc) ho (small_one b1 b2 b3 b4) (PyProof.Rows.rangeSize_nat lo hi) b5 fun h' tk acc c' hk e' hi' => ?_
  refine ⟨.ref s.heap.objs.size, upd H s.heap.objs.size (.lst (rgV lo hi)), I.laid hk (Nat.le_refl _) (show ObjOk X.prog X.w _ _ _ (.lst (rgV lo hi)) from ⟨?_, acc.toList, c', vals_rg hi', ?_⟩), rfl, q _ (I.hok.fresh (Nat.le_refl _))⟩
  · rw [rgV_length, sizeLine_eq]; omega
  · rw [Array.toArray_toList]; exact e'
theorem cr_tupRg (hc : X.calm = true) : CallR X (.type "tuple") (fun vs H Q => ∃ a lo hi, vs = [V.ref a] ∧ H a = some (.rng lo hi) ∧ RgOk lo hi ∧ ∀ q, H q = none → Q (.ref q) (upd H q (.tup (rgV lo hi)))) := by
  intro pins s σ H vs us Q I r h
  obtain ⟨a, lo, hi, rfl, ha, ⟨b1, b2, b3, b4, b5⟩, q⟩ := h
  obtain ⟨w, rfl, rw_⟩ := vals1 r
  obtain rfl : w = Value.ref a := rw_
  obtain ⟨t, u, v, ho⟩ := I.hok a _ ha
  refine call_tuple_range (n := (hi - lo).toNat) (I.ok.hd hc) ho (small_one b1 b2 b3 b4) (PyProof.Rows.rangeSize_nat lo hi) b5 fun h' tk acc hk hi' => ?_
  have I2 : Inv X pins σ H { s with heap := h', toks := tk } := I.kept hk
  refine ⟨.ref h'.objs.size, upd H h'.objs.size (.tup (rgV lo hi)), I2.laid (t' := tk) (fun c o e => Heap.get?_push_of_some _ e) (Nat.le_refl _) (show ObjOk X.prog X.w _ _ _ (.tup (rgV lo hi)) from ⟨?_, acc.toList, vals_rg hi', ?_⟩), rfl, q _ (I2.hok.fresh (Nat.le_refl _))⟩
  · rw [rgV_length, sizeLine_eq]; omega
  · rw [Array.toArray_toList]; exact PyProof.Rows.IsTup.new _ _
def iRngV (te : TE) : TI := fun σ H R => te σ H fun x H1 => ∃ a lo hi, x = V.ref a ∧ H1 a = some (.rng lo hi) ∧ -(2 ^ 62) ≤ lo ∧ lo < 2 ^ 62 ∧ -(2 ^ 62) ≤ hi ∧ hi < 2 ^ 62 ∧ R (Itr lo (hi - lo).toNat) H1
theorem pi_rngV {tg e : Expr} {te : TE} (he : PE X e te) : PI X tg e (iRngV te) := by
  refine ⟨fun pins s0 σ H0 R I0 h => ?_⟩
  refine thn (he.run pins s0 σ H0 _ I0 h) fun v0 s ⟨x, H, I, r1, q1⟩ => ?_
  obtain ⟨a, lo, hi, e, ha, h1, h2, h3, h4, q⟩ := q1
  subst e
  cases r1
  obtain ⟨t, u, v, ho⟩ := I.hok a _ ha
  refine wpAny_pyIter_range ho (small_one h1 h2 h3 h4) ?_
  refine ⟨s.heap.objs.size, [s.heap.objs.size], _, _, H, rfl, I.kept (t' := s.toks) fun b o e => Heap.get?_push_of_some _ e, turn_range _ lo (hi - lo).toNat, ?_, fun b hb => ?_, q⟩
  · have e1 : lo + ((0 : Nat) : Int) * 1 = lo := by simp
    have e2 : (((hi - lo).toNat : Nat) : Int) - ((0 : Nat) : Int) = Builtin.Range.rangeSize lo hi 1 := by rw [rangeSize_one]; split <;> omega
    show IsRangeIter _ _ (lo + ((0 : Nat) : Int) * 1) ((((hi - lo).toNat : Nat) : Int) - ((0 : Nat) : Int)) 1
    rw [e1, e2]
    exact Heap.get?_push_size _ rfl
  · have e : b = s.heap.objs.size := by simpa using hb
    subst e
    exact I.fpOk (Nat.le_refl _) (I.hok.fresh (Nat.le_refl _))
/-- range(..) as a value -/
def cRng (_ : Rs) : List D → Option D
  | [.int j] => some (.rg 0 j)
  | [.int i, .int j] => some (.rg i j)
  | _ => none
theorem cd_range : CalD X (.type "range") cRng := ⟨_, L2.CallR.or cr_range1 cr_range2, fun w r H ds vs d Q g rvs e k => by
  cases rvs with
  | nil => cases e
  | cons rv rt =>
    cases rt with
    | nil =>
      cases rv <;> simp only [cRng] at e <;> cases e
      exact .inl ⟨_, rfl, fun p hp => k.new g hp (.rg upd_same)⟩
    | cons rv2 rt =>
      cases rt with
      | cons _ _ => cases rv <;> cases rv2 <;> cases e
      | nil =>
        cases rv <;> cases rv2 <;> simp only [cRng] at e <;> cases e
        exact .inr ⟨_, _, rfl, fun p hp => k.new g hp (.rg upd_same)⟩⟩
def cList (_ : Rs) : List D → Option D
  | [.lst ds] => some (.lst ds)
  | [.tup ds] => some (.lst ds)
  | [.rg lo hi] => (rgItems lo hi).map .lst
  | _ => none
theorem cd_list (hc : X.calm = true) : CalD X (.type "list") cList := ⟨_, L2.CallR.or call_list_of (cr_listRg hc), fun w r H ds vs d Q g rvs e k => by
  cases rvs with
  | nil => cases e
  | cons rv rt =>
    cases rt with
    | cons _ _ => cases rv <;> cases e
    | nil =>
      cases rv <;> simp only [cList] at e <;> first | (cases e; done) | skip
      case rg a lo hi hx => obtain ⟨es, e1, e2⟩ := Option.map_eq_some_iff.mp e; obtain ⟨ok, rfl⟩ := rg_ok e1; cases e2; exact .inr ⟨a, lo, hi, rfl, g.sub _ _ hx, ok, fun p hp => k.new g hp (.lst upd_same (rps_rng lo hi))⟩
      case tup a xs ds hx rx => cases e; exact .inl ⟨a, xs, rfl, .inr (g.sub.sqT hx), fun p hp => k.new g hp (.lst upd_same ((tr_new (o := .lst xs) g hp).rps rx))⟩
      case lst a xs ds hx rx => cases e; exact .inl ⟨a, xs, rfl, .inl (SqL.of (g.sub _ _ hx)), fun p hp => k.new g hp (.lst upd_same ((tr_new (o := .lst xs) g hp).rps rx))⟩⟩
def cTuple (_ : Rs) : List D → Option D
  | [.lst ds] => some (.tup ds)
  | [.tup ds] => some (.tup ds)
  | [.rg lo hi] => (rgItems lo hi).map .tup
  | _ => none
theorem cd_tuple (hc : X.calm = true) : CalD X (.type "tuple") cTuple := ⟨_, L2.CallR.or call_tuple_of (cr_tupRg hc), fun w r H ds vs d Q g rvs e k => by
  cases rvs with
  | nil => cases e
  | cons rv rt =>
    cases rt with
    | cons _ _ => cases rv <;> cases e
    | nil =>
      cases rv <;> simp only [cTuple] at e <;> first | (cases e; done) | skip
      case rg a lo hi hx => obtain ⟨es, e1, e2⟩ := Option.map_eq_some_iff.mp e; obtain ⟨ok, rfl⟩ := rg_ok e1; cases e2; exact .inr ⟨a, lo, hi, rfl, g.sub _ _ hx, ok, fun p hp => k.new g hp (.tup (SqT.of upd_same) (rps_rng lo hi))⟩
      case tup a xs ds hx rx => cases e; exact .inl ⟨a, xs, rfl, .inr ⟨g.sub.sqT hx, k.now g (.tup hx rx)⟩⟩
      case lst a xs ds hx rx => cases e; exact .inl ⟨a, xs, rfl, .inl ⟨SqL.of (g.sub _ _ hx), fun p hp => k.new g hp (.tup (SqT.of upd_same) ((tr_new (o := .tup xs) g hp).rps rx))⟩⟩⟩
def intsOf : List D → Option (List Int)
  | [] => some []
  | .int i :: r => (intsOf r).map (i :: ·)
  | _ => none
theorem Rps.ints {K : PySem.W.Frag} {m : List Addr} {H : Hp} : ∀ {ds : List D} {vs : List V} {ns : List Int}, Rps K m H ds vs → intsOf ds = some ns → vs = ns.map V.int
  | _, _, _, .nil, e => by cases e; rfl
  | _, _, _, .cons r t, e => by
    cases r <;> simp only [intsOf] at e <;> try cases e
    cases q : intsOf _ with
    | none => rw [q] at e; cases e
    | some l =>
      rw [q] at e
      cases e
      rw [Rps.ints t q]
      rfl
def cSum (_ : Rs) : List D → Option D
  | [.lst ds] => (intsOf ds).map fun ns => .int ns.sum
  | _ => none
theorem cd_sum (hc : X.calm = true) : CalD X (.builtin "sum") cSum := ⟨_, cr_sum hc, fun w r H ds vs d Q g rvs e k => by
  cases rvs with
  | nil => cases e
  | cons rv rt =>
    cases rt with
    | cons _ _ => cases rv <;> cases e
    | nil =>
      cases rv <;> simp only [cSum] at e <;> try cases e
      rename_i a xs ds hx rx
      cases q : intsOf ds with
      | none => rw [q] at e; cases e
      | some ns =>
        rw [q] at e
        cases e
        have z := rx.ints q
        subst z
        exact ⟨a, ns, rfl, SqL.of (g.sub _ _ hx), k.now g (.int _)⟩⟩
/-! isinstance against a built-in class -/
def D.cls : D → Option String
  | .non => some "NoneType"
  | .bl _ => some "bool"
  | .int _ => some "int"
  | .str _ => some "str"
  | .tup _ => some "tuple"
  | .lst _ => some "list"
  | .dic _ => some "dict"
  | _ => none
def isiB (c T : String) : Option Bool := if ["NoneType", "bool", "int", "str", "tuple", "list", "dict"].contains c && ["bool", "int", "str", "tuple", "list", "dict"].contains T then some (c == T || (c == "bool" && T == "int")) else none
def cIsi (_ : Rs) : List D → Option D
  | [d, .ty T] => (d.cls.bind fun c => isiB c T).map D.bl
  | _ => none
theorem isiB_kit {c T : String} {b : Bool} (h : isiB c T = some b) : kitB c T = some b := by
  have all : ∀ c ∈ ["NoneType", "bool", "int", "str", "tuple", "list", "dict"], ∀ T ∈ ["bool", "int", "str", "tuple", "list", "dict"], kitB c T = some (c == T || (c == "bool" && T == "int")) := by decide +kernel
  unfold isiB at h
  split at h
  · rename_i q
    cases h
    rw [Bool.and_eq_true] at q
    exact all c (List.contains_iff_mem.mp q.1) T (List.contains_iff_mem.mp q.2)
  · cases h
theorem Rp.tyX {K : PySem.W.Frag} {m : List Addr} {v H : Hp} (s : Sub v H) {d : D} {x : V} {c : String} (h : Rp K m v d x) (e : d.cls = some c) : TyX K H x (.type c) := by
  cases h <;> simp only [D.cls] at e <;> cases e
  case non => exact .base .non
  case bl => exact .base (.bl _)
  case int => exact .base (.int _)
  case str => exact .base (.str _)
  case tup a xs ds hx rx =>
    rcases hx with (hx | ⟨o, hx⟩) | ⟨o, its, n, h1, h2, _⟩
    · exact .base (.tup (s _ _ hx))
    · exact .fTuple (s _ _ hx)
    · exact .kTuple h1 h2
  case lst a xs ds hx rx => exact .base (.lst (s _ _ hx))
  case dic a xs ds hx rx =>
    rcases hx with hx | ⟨o, hx⟩
    · exact .base (.dK (s _ _ hx))
    · exact .fDict (s _ _ hx)
theorem cd_isi : CalD X (.builtin "isinstance") cIsi := ⟨_, call_isi, fun w r H ds vs d Q g rvs e k => by
  cases rvs with
  | nil => cases e
  | cons rv rt =>
    rename_i x dt v vt
    cases rt with
    | nil => cases rv <;> cases e
    | cons rv2 rt2 =>
      rename_i T _ v2 _
      cases rt2 with
      | cons _ _ => cases rv2 <;> cases e
      | nil =>
        cases rv2 <;> simp only [cIsi] at e <;> try cases e
        cases q : x.cls with
        | none => rw [q] at e; cases e
        | some c =>
          rw [q] at e
          rename_i n
          cases q2 : isiB c n with
          | none => rw [Option.bind_some, q2] at e; cases e
          | some b =>
            rw [Option.bind_some, q2] at e
            cases e
            exact ⟨v, .ty n, .type c, .type n, b, rfl, .ty n, rv.tyX g.sub q, kit_ty (isiB_kit q2), k.now g (.bl _)⟩⟩
/-! ### calls of defs -/
/-- a def's promise by a plain function -/
def spD (K : PySem.W.Frag) (n : Nat) (F : List D → Rs → Out D) : Sp := fun vs H Q E => vs.length = n ∧ ∃ ds r w, Good K w r H ∧ Rps K w.m w.v ds vs ∧ match F ds r with
  | .ok d r' => ∀ w' H', Tr w H w' H' → Good K w' r' H' → ∀ v, Rp K w'.m w'.v d v → Q v H'
  | .exc c fs r' => ∀ w' H' cls dd, Tr w H w' H' → Good K w' r' H' → ExcAt K c fs cls dd H' → E cls dd H'
  | .bad => False
def xCall (F : List D → Rs → Out D) (f : Ax) : Ex := fun ρ r => (f ρ r).bind fun ds r1 => F ds r1
section
variable {k : Nat} {f : Addr} {fd : FuncData} {ps : List Str} {n : Nat} {x : Str} {p pos : Pos} {e : Expr} {es : List Expr} {F : List D → Rs → Out D} {fa : Ax}
theorem Out.bind_len {fa : Ax} {n : Nat} : True := trivial
theorem de_call (G : FnOk X.prog X.w X.K X.mg X.base (L2.CX X.prog X.w) k f fd ps (spD X.K n F)) (hr : Room k X.A) (hg : Gl X x) (hm : X.mg x = some (.ref f)) (hk : PySem.W.keepIn X.K (.ref f) = true) (hb : Binds X.K fd ps []) (tk : Takes X W)
    (ha : PA X (e :: es) (tA X.K W fa)) (hn : ∀ ρ r ds r', fa ρ r = .ok ds r' → ds.length = n) (hdb : (x == ("__debug__" : Str)) = false := by decide) (he : starEach (e :: es) X.env = (false, eval e X.env) :: starEach es X.env := by rfl) (hpl : (backTo pos (starEach es X.env)).any (·.1) = false := by rfl) :
    PE X (.Call (.Name x p) (e :: es) [] pos) (tE X.K W (xCall F fa)) :=
  (pe_callS G hr hg hm hk hb (fun σ => passAt tk σ) ha hdb he hpl).imp fun σ H Q ⟨ρ, r, w, gd, s, h⟩ => by
    refine ⟨ρ, r, w, gd, s, ?_⟩
    have hl := hn ρ r
    unfold xCall at h
    revert h hl
    generalize fa ρ r = o
    intro h hl
    cases o with
    | ok ds r1 =>
      intro w1 H1 t1 g1 vs rvs
      refine ⟨by rw [← rvs.length]; exact hl ds r1 rfl, ds, r1, w1, g1, rvs, ?_⟩
      have h' : After X.K W w H σ (F ds r1) (fun d w' _ H' => ∀ v, Rp X.K w'.m w'.v d v → Q v H') := h
      revert h'
      generalize F ds r1 = o2
      intro h'
      cases o2 with
      | ok d r2 => exact fun w2 H2 t2 g2 => h' w2 H2 (t1.trans t2) g2
      | exc c fs r2 => exact fun w2 H2 cls dd t2 g2 x => h' w2 H2 cls dd (t1.trans t2) g2 x
      | bad => exact h'
    | exc c fs r1 => exact h
    | bad => exact h
end
theorem nil_len {ρ : En} {r r' : Rs} {ds : List D} (h : xNil ρ r = .ok ds r') : ds.length = 0 := by cases h; rfl
theorem cons_len {f : Ex} {g : Ax} {n : Nat} (hg : ∀ ρ r ds r', g ρ r = .ok ds r' → ds.length = n) : ∀ ρ r ds r', xCons f g ρ r = .ok ds r' → ds.length = n + 1 := fun ρ r ds r' h => by
  unfold xCons at h
  cases q : f ρ r with
  | ok d r1 =>
    rw [q] at h
    have h' : (g ρ r1).bind (fun ds r2 => .ok (d :: ds) r2) = Out.ok ds r' := h
    cases q2 : g ρ r1 with
    | ok es r2 =>
      rw [q2] at h'
      cases h'
      rw [List.length_cons, hg _ _ _ _ q2]
    | exc c fs r2 => rw [q2] at h'; cases h'
    | bad => rw [q2] at h'; cases h'
  | exc c fs r1 => rw [q] at h; cases h
  | bad => rw [q] at h; cases h
/-- the number of arguments, by the term -/
theorem len0 : ∀ (ρ : En) (r : Rs) (ds : List D) (r' : Rs), xNil ρ r = .ok ds r' → ds.length = 0 := fun _ _ _ _ h => nil_len h
end
end DL

/-! DL6: new lists; what is walked; comprehensions. -/
namespace DL
open PySem L2
section
variable {X : Cx} {W : WX}

/-! ### a new list -/
/-- what is known of a new list's place -/
structure NewL (K : PySem.W.Frag) (w : Wd) (H0 H : Hp) (ds : List D) (p : Addr) : Prop where
  fresh : H0 p = none
  nv : w.v p = none
  nm : p ∉ w.m
  at_ : ∃ xs, H p = some (.lst xs) ∧ Rps K w.m w.v ds xs
structure NewD (K : PySem.W.Frag) (w : Wd) (H0 H : Hp) (ds : List (Key × D)) (p : Addr) : Prop where
  fresh : H0 p = none
  nv : w.v p = none
  nm : p ∉ w.m
  at_ : ∃ xs, H p = some (.dK xs) ∧ Rpk K w.m w.v ds xs
abbrev Lx := En → Rs → Out (List D)
def tN (K : PySem.W.Frag) (W : WX) (f : Lx) : TE := fun σ H Q => ∃ ρ r w, Good K w r H ∧ Slots K w ρ σ ∧
  After K W w H σ (f ρ r) fun ds w' _ H' => ∀ p, NewL K w' H H' ds p → Q (.ref p) H'
def xL (f : Lx) : Ex := fun ρ r => (f ρ r).bind fun ds r1 => .ok (.lst ds) r1
/-- an unseen object of one's own is shown -/
theorem tr_see {K : PySem.W.Frag} {w w0 : Wd} {r : Rs} {H0 H : Hp} {p : Addr} {o : HO} (g : Good K w r H) (t : Tr w0 H0 w H) (h0 : H0 p = none) (hv : w.v p = none) (hm : p ∉ w.m) (hp : H p = some o) : Tr w0 H0 (w.see p o) H ∧ Good K (w.see p o) r H := by
  have sb : Sub w.v (w.see p o).v := fun a u e => by
    have hne : a ≠ p := by rintro rfl; rw [hv] at e; cases e
    show upd w.v p o a = some u
    rw [upd_ne hne]; exact e
  refine ⟨⟨t.sub.trans sb, t.pre, t.keep, t.live, fun b e => ?_, t.newm, t.tups, t.gm, t.same⟩, ⟨fun a u e => ?_, fun a ha => ?_, g.len, g.nd, fun n u e => ?_, g.gv⟩⟩
  · by_cases hb : b = p
    · subst hb; exact .inr h0
    · have e' : upd w.v p o b ≠ none := e
      rw [upd_ne hb] at e'; exact t.newv b e'
  · have e' : upd w.v p o a = some u := e
    by_cases ha : a = p
    · subst ha; rw [upd_same] at e'; cases e'; exact hp
    · rw [upd_ne ha] at e'; exact g.sub a u e'
  · have hne : a ≠ p := by rintro rfl; exact hm ha
    show upd w.v p o a = none
    rw [upd_ne hne]; exact g.dis a ha
  · obtain ⟨a, ha, x⟩ := g.at_ n u e
    exact ⟨a, ha, roAt_mono sb (.refl _) rfl x⟩
theorem de_n {e : Expr} {f : Lx} (h : PE X e (tN X.K W f)) : PE X e (tE X.K W (xL f)) := h.imp fun σ H Q ⟨ρ, r, w, g, s, h⟩ => by
  refine ⟨ρ, r, w, g, s, ?_⟩
  unfold xL at h
  revert h
  generalize f ρ r = o
  intro h
  cases o with
  | ok ds r1 =>
    intro w1 H1 t1 g1 p n
    obtain ⟨xs, hp, rx⟩ := n.at_
    obtain ⟨t2, g2⟩ := tr_see g1 t1 n.fresh n.nv n.nm hp
    refine h (w1.see p (.lst xs)) H1 t2 g2 (.ref p) (.lst see_at ?_)
    exact rx.mono (fun a u e => by
      have hne : a ≠ p := by rintro rfl; rw [n.nv] at e; cases e
      show upd w1.v p _ a = some u
      rw [upd_ne hne]; exact e) (.refl _)
  | exc c fs r1 => exact h
  | bad => exact h
/-- a new object that is not seen -/
theorem tr_hid {K : PySem.W.Frag} {w : Wd} {r : Rs} {H : Hp} (g : Good K w r H) {p : Addr} {o : HO} (h : H p = none) : Tr w H w (upd H p o) ∧ Good K w r (upd H p o) := by
  refine ⟨⟨.refl _, .refl _, fun b u e _ => by rw [upd_ne (ne_of_none e h)]; exact e, (tr_new (o := o) g h).live, fun b e => .inl e, fun b e => .inl e, (tr_new (o := o) g h).tups, fun _ _ => Nat.le_refl _, fun n a C dx fs hm ha _ => upd_ne (ne_of_none ha h)⟩, ⟨fun a u e => ?_, g.dis, g.len, g.nd, fun n u e => ?_, g.gv⟩⟩
  · have hne : a ≠ p := by rintro rfl; rw [g.none_of h] at e; cases e
    rw [upd_ne hne]; exact g.sub a u e
  · obtain ⟨a, ha, x⟩ := g.at_ n u e
    refine ⟨a, ha, roAt_mono (.refl _) (.refl _) ?_ x⟩
    have hne : a ≠ p := by rintro rfl; exact g.live (List.mem_iff_getElem?.mpr ⟨n, ha⟩) h
    exact upd_ne hne
theorem newL_hid {K : PySem.W.Frag} {w w0 : Wd} {r : Rs} {H0 H : Hp} (g : Good K w r H) (t : Tr w0 H0 w H) {p : Addr} {ds : List D} {xs : List V} (h : H p = none) (rx : Rps K w.m w.v ds xs) : NewL K w H0 (upd H p (.lst xs)) ds p :=
  ⟨t.fresh h, g.none_of h, fun hm => g.live hm h, xs, upd_same, rx⟩
def xLst' (f : Ax) : Lx := fun ρ r => (f ρ r).bind fun ds r1 => if ds.length ≤ lim then .ok ds r1 else .bad
theorem After.fst {K : PySem.W.Frag} {w : Wd} {H : Hp} {σ : L2.St} {α β : Type} {o : Out α} {f : α → Rs → Out β} {Q : β → Wd → Rs → Hp → Prop} {Q1 : α → Wd → Rs → Hp → Prop}
    (h : After K W w H σ (o.bind f) Q) (k : ∀ a w1 r1 H1, o = .ok a r1 → Tr w H w1 H1 → Good K w1 r1 H1 → (∀ b r2, f a r1 = .ok b r2 → ∀ w2 H2, Tr w H w2 H2 → Good K w2 r2 H2 → Q b w2 r2 H2) → After K W w1 H1 σ (f a r1) Q → Q1 a w1 r1 H1) : After K W w H σ o Q1 := by
  cases o with
  | ok a r =>
    intro w1 H1 t1 g1
    have h' : After K W w H σ (f a r) Q := h
    refine k a w1 r H1 rfl t1 g1 (fun b r2 e w2 H2 t2 g2 => ?_) ?_
    · rw [e] at h'
      exact h' w2 H2 t2 g2
    · revert h'
      generalize f a r = o2
      intro h'
      cases o2 with
      | ok b r2 => exact fun w2 H2 t2 g2 => h' w2 H2 (t1.trans t2) g2
      | exc c fs r2 => exact fun w2 H2 cls dd t2 g2 x => h' w2 H2 cls dd (t1.trans t2) g2 x
      | bad => exact h'
  | exc c fs r => exact h
  | bad => exact h
theorem dn_lst {es : List Expr} {pos : Pos} {f : Ax} (h : PA X es (tA X.K W f)) : PE X (.List es pos) (tN X.K W (xLst' f)) :=
  (pe_lst h).imp fun σ H Q ⟨ρ, r, w, gd, s, h⟩ => ⟨ρ, r, w, gd, s, h.fst fun ds w1 r1 H1 _ t1 g1 q h1 vs rvs => by
    split at h1
    · rename_i hl
      refine ⟨by rw [← rvs.length]; exact lim_le hl, fun p hp => ?_⟩
      obtain ⟨t2, g2⟩ := tr_hid (o := .lst vs) g1 hp
      exact q ds r1 (if_pos hl) w1 _ (t1.trans t2) g2 p (newL_hid g1 t1 hp rvs)
    · exact h1.elim⟩
/-- list(x) -/
def cListN : List D → Option (List D)
  | [.lst ds] => some ds
  | [.tup ds] => some ds
  | [.rg lo hi] => rgItems lo hi
  | _ => none
def xListN (f : Ax) : Lx := fun ρ r => (f ρ r).bind fun ds r1 => match cListN ds with
  | some es => .ok es r1
  | none => .bad
theorem dn_list {x : Str} {p pos : Pos} {e : Expr} {es : List Expr} {f : Ax} (hc : X.calm = true) (hg : Gl X x) (hm : X.mg x = none) (hv : bootBuiltins x = some (.type "list")) (ha : PA X (e :: es) (tA X.K W f)) (hn : x ≠ "__name__" := by decide) (hdb : (x == ("__debug__" : Str)) = false := by decide)
    (he : starEach (e :: es) X.env = (false, eval e X.env) :: starEach es X.env := by rfl) (hpl : (backTo pos (starEach es X.env)).any (·.1) = false := by rfl) : PE X (.Call (.Name x p) (e :: es) [] pos) (tN X.K W (xListN f)) :=
  (pe_callTy (L2.CallR.or call_list_of (cr_listRg hc)) hg hm hv ha hn hdb he hpl).imp fun σ H Q ⟨ρ, r, w, gd, s, h⟩ => ⟨ρ, r, w, gd, s, h.fst fun ds w1 r1 H1 _ t1 g1 q h1 vs rvs => by
    split at h1
    · rename_i es e
      have e' : (match cListN ds with | some es => Out.ok es r1 | none => .bad) = .ok es r1 := by rw [e]
      cases rvs with
      | nil => cases e
      | cons rv rt =>
        cases rt with
        | cons _ _ => cases rv <;> cases e
        | nil =>
          cases rv with
          | tup hx rx =>
            cases e
            refine .inl ⟨_, _, rfl, .inr (g1.sub.sqT hx), fun p hp => ?_⟩
            obtain ⟨t2, g2⟩ := tr_hid g1 hp
            exact q _ r1 e' w1 _ (t1.trans t2) g2 p (newL_hid g1 t1 hp rx)
          | lst hx rx =>
            cases e
            refine .inl ⟨_, _, rfl, .inl (SqL.of (g1.sub _ _ hx)), fun p hp => ?_⟩
            obtain ⟨t2, g2⟩ := tr_hid g1 hp
            exact q _ r1 e' w1 _ (t1.trans t2) g2 p (newL_hid g1 t1 hp rx)
          | rg hx =>
            obtain ⟨ok, rfl⟩ := rg_ok e
            refine .inr ⟨_, _, _, rfl, g1.sub _ _ hx, ok, fun p hp => ?_⟩
            obtain ⟨t2, g2⟩ := tr_hid g1 hp
            exact q _ r1 e' w1 _ (t1.trans t2) g2 p (newL_hid g1 t1 hp (rps_rng _ _))
          | _ => cases e
    · exact h1.elim⟩

/-! ### what is walked -/
/-- the iterator gives the data one by one, as long as what is seen stands -/
def Walks (K : PySem.W.Frag) (J : It) (w : Wd) (ds : List D) : Prop := ∀ w' r' H', Sub w.v w'.v → Pre w.m w'.m → Good K w' r' H' → ∀ i : Nat,
  (∀ d, ds[i]? = some d → J.go i H' ∧ ∀ x H2, J.yld i H' x H2 → ∃ w2, Tr w' H' w2 H2 ∧ Good K w2 r' H2 ∧ Rp K w2.m w2.v d x) ∧ (ds.length ≤ i → J.stop i H')
def tI (K : PySem.W.Frag) (W : WX) (f : Lx) : TI := fun σ H R => ∃ ρ r w, Good K w r H ∧ Slots K w ρ σ ∧
  After K W w H σ (f ρ r) fun ds w' _ H' => ∀ J, Walks K J w' ds → R J H'
theorem _root_.L2.PI.imp {X : Cx} {tg e : Expr} {t t' : TI} (h : PI X tg e t) (i : ∀ σ H Q, t' σ H Q → t σ H Q) : PI X tg e t' := ⟨fun pins s σ H Q I q => h.run pins s σ H Q I (i σ H Q q)⟩
theorem _root_.L2.PI.or {X : Cx} {tg e : Expr} {t t' : TI} (h : PI X tg e t) (h' : PI X tg e t') : PI X tg e (fun σ H R => t σ H R ∨ t' σ H R) := ⟨fun pins s σ H Q I q => by
  rcases q with q | q
  · exact h.run pins s σ H Q I q
  · exact h'.run pins s σ H Q I q⟩
def signs (s : Str) : List D := s.cps.toList.map fun c => .str ⟨#[c]⟩
def items : D → Option (List D)
  | .lst ds => some ds
  | .tup ds => some ds
  | .str s => some (signs s)
  | .rg lo hi => rgItems lo hi
  | _ => none
def xItems (f : Ex) : Lx := fun ρ r => (f ρ r).bind fun d r1 => match items d with
  | some ds => .ok ds r1
  | none => .bad
theorem Rps.at_ {K : PySem.W.Frag} {m : List Addr} {H : Hp} {ds : List D} {vs : List V} {i : Nat} {d : D} {v : V} (h : Rps K m H ds vs) (e : ds[i]? = some d) (e' : vs[i]? = some v) : Rp K m H d v := by
  obtain ⟨v', h1, h2⟩ := h.get e
  rw [h1] at e'
  cases e'
  exact h2
theorem walks_lst {K : PySem.W.Frag} {w : Wd} {a : Addr} {xs : List V} {ds : List D} (hx : w.v a = some (.lst xs)) (rx : Rps K w.m w.v ds xs) : Walks K (Itl K a) w ds := by
  intro w' r' H' sb pr g i
  have h1 : SqL K H' a xs := SqL.of (g.sub _ _ (sb _ _ hx))
  refine ⟨fun d e => ?_, fun hl => ⟨xs, h1, by rw [← rx.length]; exact hl⟩⟩
  obtain ⟨v, hv, _⟩ := rx.get e
  refine ⟨⟨xs, v, h1, hv⟩, fun x H2 y => ?_⟩
  obtain ⟨e2, y⟩ := y
  subst e2
  have := y xs h1
  exact ⟨w', .refl _ _, g, (rx.mono sb pr).at_ e this⟩
theorem walks_tup {K : PySem.W.Frag} {w : Wd} {a : Addr} {xs : List V} {ds : List D} (hx : SqT K w.v a xs) (rx : Rps K w.m w.v ds xs) : Walks K (Itt K a) w ds := by
  intro w' r' H' sb pr g i
  have h1 : SqT K H' a xs := g.sub.sqT (sb.sqT hx)
  refine ⟨fun d e => ?_, fun hl => ⟨xs, h1, by rw [← rx.length]; exact hl⟩⟩
  obtain ⟨v, hv, _⟩ := rx.get e
  refine ⟨⟨xs, v, h1, hv⟩, fun x H2 y => ?_⟩
  obtain ⟨e2, y⟩ := y
  subst e2
  have := y xs h1
  exact ⟨w', .refl _ _, g, (rx.mono sb pr).at_ e this⟩
theorem signs_len (s : Str) : (signs s).length = s.cps.size := by simp [signs]
theorem walks_str {K : PySem.W.Frag} {w : Wd} (s : Str) : Walks K (Its s) w (signs s) := by
  intro w' r' H' sb pr g i
  refine ⟨fun d e => ?_, fun hl => by rw [signs_len] at hl; exact hl⟩
  have hi : i < s.cps.size := by
    rw [← signs_len]
    exact (List.getElem?_eq_some_iff.mp e).1
  refine ⟨hi, fun x H2 y => ?_⟩
  obtain ⟨e2, c, hc, ex⟩ := y
  subst e2
  subst ex
  refine ⟨w', .refl _ _, g, ?_⟩
  have hd : d = .str ⟨#[c]⟩ := by
    unfold signs at e
    rw [List.getElem?_map] at e
    have hc' : s.cps.toList[i]? = some c := by rw [Array.getElem?_toList]; exact hc
    rw [hc'] at e
    exact (Option.some.inj e).symm
  rw [hd]
  exact .str _
theorem walks_rng {K : PySem.W.Frag} {w : Wd} (lo : Int) (n : Nat) : Walks K (Itr lo n) w (rng lo n) := by
  intro w' r' H' sb pr g i
  refine ⟨fun d e => ?_, fun hl => by rw [rng_len] at hl; exact hl⟩
  have hi : i < n := by
    have := (List.getElem?_eq_some_iff.mp e).1
    rwa [rng_len] at this
  refine ⟨hi, fun x H2 y => ?_⟩
  obtain ⟨e2, ex⟩ := y
  subst e2
  subst ex
  refine ⟨w', .refl _ _, g, ?_⟩
  have hd : d = .int (lo + (i : Nat)) := by
    unfold rng at e
    rw [List.getElem?_map, List.getElem?_range hi] at e
    exact (Option.some.inj e).symm
  rw [hd]
  exact .int _
theorem di_seq {tg e : Expr} {f : Ex} (h : PE X e (tE X.K W f)) : PI X tg e (tI X.K W (xItems f)) :=
  ((pi_list h).or ((pi_tup h).or ((pi_str h).or (pi_rngV h)))).imp fun σ H R ⟨ρ, r, w, gd, s, q⟩ => by
    unfold xItems at q
    have q' := q
    revert q
    generalize ho : f ρ r = o
    intro q
    cases o with
    | ok d r1 =>
      have q1 : After X.K W w H σ (match items d with | some ds => .ok ds r1 | none => .bad) (fun ds w' _ H' => ∀ J, Walks X.K J w' ds → R J H') := q
      cases d with
      | lst ds =>
        refine .inl ⟨ρ, r, w, gd, s, ?_⟩
        rw [ho]
        intro w1 H1 t1 g1 v rv
        cases rv with
        | lst hx rx => exact ⟨_, rfl, ⟨_, SqL.of (g1.sub _ _ hx)⟩, q1 w1 H1 t1 g1 _ (walks_lst hx rx)⟩
      | tup ds =>
        refine .inr (.inl ⟨ρ, r, w, gd, s, ?_⟩)
        rw [ho]
        intro w1 H1 t1 g1 v rv
        cases rv with
        | tup hx rx => exact ⟨_, rfl, ⟨_, g1.sub.sqT hx⟩, q1 w1 H1 t1 g1 _ (walks_tup hx rx)⟩
      | str x =>
        refine .inr (.inr (.inl ⟨ρ, r, w, gd, s, ?_⟩))
        rw [ho]
        intro w1 H1 t1 g1 v rv
        cases rv with
        | str => exact ⟨_, rfl, q1 w1 H1 t1 g1 _ (walks_str x)⟩
      | rg lo hi =>
        refine .inr (.inr (.inr ⟨ρ, r, w, gd, s, ?_⟩))
        rw [ho]
        intro w1 H1 t1 g1 v rv
        have q2 : After X.K W w H σ (match rgItems lo hi with | some ds => .ok ds r1 | none => .bad) (fun ds w' _ H' => ∀ J, Walks X.K J w' ds → R J H') := q1
        cases e : rgItems lo hi with
        | none => rw [e] at q2; exact False.elim q2
        | some ds =>
          rw [e] at q2
          obtain ⟨⟨b1, b2, b3, b4, b5⟩, rfl⟩ := rg_ok e
          cases rv with
          | rg hx => exact ⟨_, lo, hi, rfl, g1.sub _ _ hx, b1, b2, b3, b4, q2 w1 H1 t1 g1 _ (walks_rng lo _)⟩
      | _ => exact False.elim q1
    | exc c fs r1 =>
      refine .inl ⟨ρ, r, w, gd, s, ?_⟩
      rw [ho]
      exact q
    | bad => exact False.elim q
def xRng1 (f : Ax) : Lx := fun ρ r => (f ρ r).bind fun ds r1 => match ds with
  | [.int j] => if big j then .ok (rng 0 j.toNat) r1 else .bad
  | _ => .bad
def xRng2 (f : Ax) : Lx := fun ρ r => (f ρ r).bind fun ds r1 => match ds with
  | [.int i, .int j] => if big i && big j then .ok (rng i (j - i).toNat) r1 else .bad
  | _ => .bad
theorem di_rng1 {tg a : Expr} {f : Ax} {p pos : Pos} (hg : Gl X "range") (hm : X.mg "range" = none) (ha : PA X [a] (tA X.K W f)) (hs : starEach [a] X.env = [(false, eval a X.env)] := by rfl) : PI X tg (.Call (.Name "range" p) [a] [] pos) (tI X.K W (xRng1 f)) :=
  (pi_range1 hg hm ha hs).imp fun σ H R ⟨ρ, r, w, gd, s, q⟩ => ⟨ρ, r, w, gd, s, q.bind fun ds w1 r1 H1 t1 g1 q1 vs rvs => by
    split at q1
    · rename_i j
      split at q1
      · rename_i hb
        cases rvs with
        | cons r1 r2 =>
          cases r1
          cases r2
          exact ⟨j, rfl, (big_of hb).1, (big_of hb).2, q1.ok g1 _ (walks_rng 0 _)⟩
      · exact q1.elim
    · exact q1.elim⟩
theorem di_rng2 {tg a b : Expr} {f : Ax} {p pos : Pos} (hg : Gl X "range") (hm : X.mg "range" = none) (ha : PA X [a, b] (tA X.K W f)) (hs : starEach [a, b] X.env = [(false, eval a X.env), (false, eval b X.env)] := by rfl) (hs2 : starEach [b] X.env = [(false, eval b X.env)] := by rfl) :
    PI X tg (.Call (.Name "range" p) [a, b] [] pos) (tI X.K W (xRng2 f)) :=
  (pi_range2 hg hm ha hs hs2).imp fun σ H R ⟨ρ, r, w, gd, s, q⟩ => ⟨ρ, r, w, gd, s, q.bind fun ds w1 r1 H1 t1 g1 q1 vs rvs => by
    split at q1
    · rename_i i j
      split at q1
      · rename_i hb
        rw [Bool.and_eq_true] at hb
        cases rvs with
        | cons r1 r2 =>
          cases r1
          cases r2 with
          | cons r3 r4 =>
            cases r3
            cases r4
            exact ⟨i, j, rfl, ⟨(big_of hb.1).1, (big_of hb.1).2, (big_of hb.2).1, (big_of hb.2).2⟩, q1.ok g1 _ (walks_rng i _)⟩
      · exact q1.elim
    · exact q1.elim⟩

/-! ### targets -/
abbrev Tg := D → En → Option En
/-- a target that stores into slots alone, those of js -/
def TgD (K : PySem.W.Frag) (g : TG) (t : Tg) (js : List Nat) : Prop := ∀ (w : Wd) (r : Rs) (H : Hp) (ρ ρ' : En) (σ : L2.St) (d : D) (v : V), Good K w r H → ρ.length = σ.length → Rp K w.m w.v d v → t d ρ = some ρ' →
  ∃ σ', (∀ Q : L2.St → Hp → Prop, Q σ' H → g v σ H Q) ∧ ρ'.length = ρ.length ∧ σ'.length = σ.length ∧ ∀ i : Nat, (ρ'[i]? = ρ[i]? ∧ σ'[i]? = σ[i]?) ∨ (i ∈ js ∧ ∃ e x, ρ'[i]? = some (some e) ∧ σ'[i]? = some (some x) ∧ Rp K w.m w.v e x)
def gNm (i : Nat) : Tg := fun d ρ => if i < ρ.length then some (ρ.set i (some d)) else none
theorem tg_name (K : PySem.W.Frag) (i : Nat) : TgD K (gName i) (gNm i) [i] := fun w r H ρ ρ' σ d v g hl rv e => by
  unfold gNm at e
  split at e
  · rename_i hi
    cases e
    refine ⟨σ.set i (some v), fun Q q => q, List.length_set, List.length_set, fun j => ?_⟩
    by_cases hj : i = j
    · subst hj
      exact .inr ⟨List.mem_singleton.mpr rfl, d, v, List.getElem?_set_self hi, List.getElem?_set_self (by rw [← hl]; exact hi), rv⟩
    · exact .inl ⟨List.getElem?_set_ne hj, List.getElem?_set_ne hj⟩
  · cases e
/-- several names in a row -/
def TgsD (K : PySem.W.Frag) (g : TGs) (t : List D → En → Option En) (js : List Nat) : Prop := ∀ (w : Wd) (r : Rs) (H : Hp) (ρ ρ' : En) (σ : L2.St) (ds : List D) (vs : List V), Good K w r H → ρ.length = σ.length → Rps K w.m w.v ds vs → t ds ρ = some ρ' →
  ∃ σ', (∀ Q : L2.St → Hp → Prop, Q σ' H → g vs σ H Q) ∧ ρ'.length = ρ.length ∧ σ'.length = σ.length ∧ ∀ i : Nat, (ρ'[i]? = ρ[i]? ∧ σ'[i]? = σ[i]?) ∨ (i ∈ js ∧ ∃ e x, ρ'[i]? = some (some e) ∧ σ'[i]? = some (some x) ∧ Rp K w.m w.v e x)
def gNil' : List D → En → Option En
  | [], ρ => some ρ
  | _, _ => none
def gCons' (t : Tg) (u : List D → En → Option En) : List D → En → Option En
  | d :: ds, ρ => (t d ρ).bind fun ρ1 => u ds ρ1
  | _, _ => none
theorem tgs_nil (K : PySem.W.Frag) : TgsD K gNil gNil' [] := fun w r H ρ ρ' σ ds vs g hl rv e => by
  cases rv with
  | nil =>
    cases e
    exact ⟨σ, fun Q q => ⟨rfl, q⟩, rfl, rfl, fun i => .inl ⟨rfl, rfl⟩⟩
  | cons _ _ => cases e
theorem tgs_cons {K : PySem.W.Frag} {g : TG} {t : Tg} {js : List Nat} {gs : TGs} {u : List D → En → Option En} {ks : List Nat} (h : TgD K g t js) (h' : TgsD K gs u ks) : TgsD K (gCons g gs) (gCons' t u) (js ++ ks) := fun w r H ρ ρ' σ ds vs gd hl rv e => by
  cases rv with
  | nil => cases e
  | cons rv rt =>
    rename_i d ds v vs
    cases e1 : t d ρ with
    | none =>
      have e' : (t d ρ).bind (fun ρ1 => u ds ρ1) = some ρ' := e
      rw [e1] at e'
      cases e'
    | some ρ1 =>
      have e' : (t d ρ).bind (fun ρ1 => u ds ρ1) = some ρ' := e
      rw [e1] at e'
      obtain ⟨σ1, a1, a2, a3, a4⟩ := h w r H ρ ρ1 σ d v gd hl rv e1
      obtain ⟨σ2, b1, b2, b3, b4⟩ := h' w r H ρ1 ρ' σ1 ds vs gd (by rw [a2, a3, hl]) rt e'
      refine ⟨σ2, fun Q q => ⟨v, vs, rfl, a1 _ (b1 Q q)⟩, by rw [b2, a2], by rw [b3, a3], fun i => ?_⟩
      rcases b4 i with ⟨q1, q2⟩ | ⟨m, q⟩
      · rcases a4 i with ⟨p1, p2⟩ | ⟨m, e, x, p1, p2, p3⟩
        · exact .inl ⟨q1.trans p1, q2.trans p2⟩
        · exact .inr ⟨List.mem_append_left _ m, e, x, q1.trans p1, q2.trans p2, p3⟩
      · exact .inr ⟨List.mem_append_right _ m, q⟩
/-- a, b = a tuple -/
def gTp (n : Nat) (u : List D → En → Option En) : Tg := fun d ρ => match d with
  | .tup ds => if ds.length = n then u ds ρ else none
  | _ => none
theorem tg_tup {K : PySem.W.Frag} {gs : TGs} {u : List D → En → Option En} {ks : List Nat} (n : Nat) (h : TgsD K gs u ks) : TgD K (gTup K n gs) (gTp n u) ks := fun w r H ρ ρ' σ d v gd hl rv e => by
  cases rv <;> simp only [gTp] at e <;> first | (cases e; done) | skip
  rename_i a xs ds hx rx
  split at e
  · rename_i hn
    obtain ⟨σ1, a1, a2, a3, a4⟩ := h w r H ρ ρ' σ _ _ gd hl rx e
    exact ⟨σ1, fun Q q => ⟨_, _, rfl, gd.sub.sqT hx, by rw [← rx.length]; exact hn, a1 Q q⟩, a2, a3, a4⟩
  · cases e
/-- a, b = a list -/
def gLs (n : Nat) (u : List D → En → Option En) : Tg := fun d ρ => match d with
  | .lst ds => if ds.length = n then u ds ρ else none
  | _ => none
theorem tg_lst {K : PySem.W.Frag} {gs : TGs} {u : List D → En → Option En} {ks : List Nat} (n : Nat) (h : TgsD K gs u ks) : TgD K (gLst K n gs) (gLs n u) ks := fun w r H ρ ρ' σ d v gd hl rv e => by
  cases rv <;> simp only [gLs] at e <;> first | (cases e; done) | skip
  rename_i a xs ds hx rx
  split at e
  · rename_i hn
    obtain ⟨σ1, a1, a2, a3, a4⟩ := h w r H ρ ρ' σ _ _ gd hl rx e
    exact ⟨σ1, fun Q q => ⟨_, _, rfl, SqL.of (gd.sub _ _ hx), by rw [← rx.length]; exact hn, a1 Q q⟩, a2, a3, a4⟩
  · cases e
theorem TgD.slots {K : PySem.W.Frag} {g : TG} {t : Tg} {js : List Nat} (h : TgD K g t js) {w : Wd} {r : Rs} {H : Hp} {ρ ρ' : En} {σ : L2.St} {d : D} {v : V} (gd : Good K w r H) (s : Slots K w ρ σ) (rv : Rp K w.m w.v d v) (e : t d ρ = some ρ') :
    ∃ σ', (∀ Q : L2.St → Hp → Prop, Q σ' H → g v σ H Q) ∧ Slots K w ρ' σ' ∧ σ'.length = σ.length ∧ ∀ i, i ∉ js → σ'[i]? = σ[i]? := by
  obtain ⟨σ', h1, h2, h4, h3⟩ := h w r H ρ ρ' σ d v gd s.len rv e
  refine ⟨σ', h1, ⟨by rw [h2, h4, s.len], fun i d' e' => ?_⟩, h4, fun i hi => ?_⟩
  · rcases h3 i with ⟨q1, q2⟩ | ⟨_, e2, x, q1, q2, q3⟩
    · rw [q1] at e'
      rw [q2]
      exact s.at_ i d' e'
    · rw [q1] at e'
      cases e'
      exact ⟨x, q2, q3⟩
  · rcases h3 i with ⟨_, q2⟩ | ⟨m, _⟩
    · exact q2
    · exact absurd m hi
end
end DL

/-! DL7: comprehensions. -/
namespace DL
open PySem L2
section
variable {X : Cx} {W : WX}
abbrev W0 : WX := fun _ _ _ _ => False

/-- an unseen object of one's own is changed -/
theorem tr_own {K : PySem.W.Frag} {w w0 : Wd} {r : Rs} {H0 H : Hp} {p : Addr} {o u : HO} (g : Good K w r H) (t : Tr w0 H0 w H) (h0 : H0 p = none) (hv : w.v p = none) (hm : p ∉ w.m) (hp : H p = some o) : Tr w0 H0 w (upd H p u) ∧ Good K w r (upd H p u) := by
  refine ⟨⟨t.sub, t.pre, fun b x e n => ?_, fun b e => ?_, t.newv, t.newm, fun b xs e => ?_, t.gm, fun n a C dx fs hn ha e => ?_⟩, ⟨fun a x e => ?_, g.dis, g.len, g.nd, fun n x e => ?_, g.gv⟩⟩
  · have hne : b ≠ p := by rintro rfl; rw [h0] at e; cases e
    rw [upd_ne hne]; exact t.keep b x e n
  · by_cases hb : b = p
    · subst hb; rw [upd_same]; intro z; cases z
    · rw [upd_ne hb]; exact t.live b e
  · have hne : b ≠ p := by
      rintro rfl
      rcases e with e | ⟨y, e⟩ <;> (rw [h0] at e; cases e)
    rcases t.tups b xs e with e | ⟨y, e⟩
    · exact .inl (by rw [upd_ne hne]; exact e)
    · exact .inr ⟨y, by rw [upd_ne hne]; exact e⟩
  · have hne : a ≠ p := by rintro rfl; rw [h0] at ha; cases ha
    rw [upd_ne hne]; exact t.same n a C dx fs hn ha e
  · have hne : a ≠ p := by rintro rfl; rw [hv] at e; cases e
    rw [upd_ne hne]; exact g.sub a x e
  · obtain ⟨a, ha, q⟩ := g.at_ n x e
    have hne : a ≠ p := by rintro rfl; exact hm (List.mem_iff_getElem?.mpr ⟨n, ha⟩)
    exact ⟨a, ha, roAt_mono (.refl _) (.refl _) (upd_ne hne) q⟩

def wipeE (ρ : En) : List Nat → En
  | [] => ρ
  | v :: vs => (wipeE ρ vs).set v none
theorem wipeE_len (ρ : En) : ∀ vs, (wipeE ρ vs).length = ρ.length
  | [] => rfl
  | v :: vs => by unfold wipeE; rw [List.length_set, wipeE_len ρ vs]
theorem wipeE_some {ρ : En} {i : Nat} {x : D} : ∀ {vs : List Nat}, (wipeE ρ vs)[i]? = some (some x) → ρ[i]? = some (some x) ∧ i ∉ vs
  | [], h => ⟨h, by simp⟩
  | v :: vs, h => by
    unfold wipeE at h
    by_cases hi : v = i
    · subst hi
      by_cases hv : v < (wipeE ρ vs).length
      · rw [List.getElem?_set_self hv] at h; cases h
      · rw [List.getElem?_eq_none (by simpa using hv)] at h; cases h
    · rw [List.getElem?_set_ne hi] at h
      obtain ⟨h1, h2⟩ := wipeE_some h
      exact ⟨h1, by simp only [List.mem_cons, not_or]; exact ⟨fun e => hi e.symm, h2⟩⟩
theorem Slots.wipe {K : PySem.W.Frag} {w : Wd} {ρ : En} {σ : L2.St} (s : Slots K w ρ σ) (vs : List Nat) : Slots K w (wipeE ρ vs) (wipe σ vs) := by
  refine ⟨by rw [wipeE_len, wipe_length, s.len], fun i d e => ?_⟩
  obtain ⟨h1, h2⟩ := wipeE_some e
  rw [wipe_out h2]
  exact s.at_ i d h1
theorem wipe_in {σ : L2.St} {i : Nat} : ∀ {vs : List Nat}, i ∈ vs → i < σ.length → (wipe σ vs)[i]? = some none
  | [], h, _ => by cases h
  | v :: vs, h, hl => by
    unfold L2.wipe
    by_cases hv : v = i
    · subst hv
      exact List.getElem?_set_self (by rw [wipe_length]; exact hl)
    · rw [List.getElem?_set_ne hv]
      rcases List.mem_cons.mp h with e | h
      · exact absurd e.symm hv
      · exact wipe_in h hl
theorem wipe_eq {σ τ : L2.St} {vs : List Nat} (hl : σ.length = τ.length) (h : ∀ i, i ∉ vs → σ[i]? = τ[i]?) : wipe σ vs = wipe τ vs := by
  apply List.ext_getElem?
  intro i
  by_cases hi : i ∈ vs
  · by_cases hlt : i < σ.length
    · rw [wipe_in hi hlt, wipe_in hi (by rw [← hl]; exact hlt)]
    · rw [List.getElem?_eq_none (by rw [wipe_length]; omega), List.getElem?_eq_none (by rw [wipe_length]; omega)]
  · rw [wipe_out hi, wipe_out hi]
    exact h i hi
theorem wipe_wipe {σ : L2.St} (vs : List Nat) : wipe (wipe σ vs) vs = wipe σ vs := wipe_eq (wipe_length _ _) fun _ hi => wipe_out hi

/-- a comprehension's turns -/
def lcGo (tg : Tg) (t : Tx) (f : Ex) (ρ : En) : List D → Rs → Option (List D × Rs)
  | [], r => some ([], r)
  | d :: ds, r => (tg d ρ).bind fun ρ1 => match t ρ1 r with
    | .ok true r1 => match f ρ1 r1 with
      | .ok e r2 => (lcGo tg t f ρ ds r2).map fun p => (e :: p.1, p.2)
      | _ => none
    | .ok false r1 => lcGo tg t f ρ ds r1
    | _ => none
def xLc (it : Lx) (tg : Tg) (t : Tx) (f : Ex) (vs : List Nat) : Lx := fun ρ r => (it ρ r).bind fun ds r1 => match lcGo tg t f (wipeE ρ vs) ds r1 with
  | some p => if p.1.length ≤ lim then .ok p.1 p.2 else .bad
  | none => .bad
def xYes : Tx := fun _ r => .ok true r
def tTs (K : PySem.W.Frag) (f : Tx) : TT := tT K W0 f
theorem _root_.L2.PTs.imp {X : Cx} {e : List Expr} {t t' : TT} (h : PTs X e t) (i : ∀ σ H Q, t' σ H Q → t σ H Q) : PTs X e t' := ⟨fun pins s σ H Q I q => h.run pins s σ H Q I (i σ H Q q)⟩
theorem dts_nil : PTs X [] (tT X.K W0 xYes) := pts_nil.imp fun σ H Q ⟨ρ, r, w, gd, s, h⟩ => h.ok gd
theorem dts_one {c : Expr} {f : Tx} (h : PT X c (tT X.K W0 f)) : PTs X [c] (tT X.K W0 f) := pts_one h
structure LcInv (K : PySem.W.Frag) (w1 : Wd) (H1 : Hp) (ps : Addr) (ds es : List D) (rE : Rs) (tg : Tg) (t : Tx) (f : Ex) (ρ : En) (i : Nat) (H : Hp) : Prop where
  le : i ≤ ds.length
  ex : ∃ w r acc done rest, Tr w1 H1 w H ∧ Good K w r H ∧ w.v ps = none ∧ ps ∉ w.m ∧ H ps = some (.lst acc) ∧ Rps K w.m w.v done acc ∧ lcGo tg t f ρ (ds.drop i) r = some (rest, rE) ∧ es = done ++ rest
/-- the turns of a list comprehension, what is walked at hand -/
theorem lc_go {K : PySem.W.Frag} {g : TG} {tg : Tg} {js : List Nat} {t : Tx} {f : Ex} {vs : List Nat} (hg : TgD K g tg js) (hj : ∀ j ∈ js, j ∈ vs) {σ : L2.St} {H1 : Hp} {Q : VK} {J : It} {w1 : Wd} {r1 rE : Rs} {ρ : En} {ds es : List D}
    (wk : Walks K J w1 ds) (s1 : Slots K w1 ρ σ) (g1 : Good K w1 r1 H1) (e : lcGo tg t f (wipeE ρ vs) ds r1 = some (es, rE)) (hl : es.length ≤ lim) (q : ∀ w2 H2, Tr w1 H1 w2 H2 → Good K w2 rE H2 → ∀ p, NewL K w2 H1 H2 es p → Q (.ref p) H2) (D : Addr) (hD : H1 D = none) :
    ∃ W : Nat → Nat → Hp → Prop, (∃ m, W 0 m (upd H1 D (.lst []))) ∧ ∀ i m H, W i m H →
      (J.stop i H ∧ Q (.ref D) H) ∨ (J.go i H ∧ ∃ Nx : Hp → Prop, (∀ H', Nx H' → ∃ m', m' < m ∧ W (i + 1) m' H') ∧ ∀ x H', J.yld i H x H' → g x (wipe σ vs) H' fun σ2 H2 => wipe σ2 vs = wipe σ vs ∧ tT K W0 t σ2 H2 fun b H3 =>
        if b = true then tE K W0 f σ2 H3 fun y H4 => ∃ acc, H4 D = some (.lst acc) ∧ acc.length < sizeLine ∧ Nx (upd H4 D (.lst (acc ++ [y]))) else Nx H3) := by
  refine ⟨fun i m H => m = ds.length - i ∧ LcInv K w1 H1 D ds es rE tg t f (wipeE ρ vs) i H, ⟨ds.length, by simp, ⟨Nat.zero_le _, ?_⟩⟩, ?_⟩
  · obtain ⟨t2, g2⟩ := tr_hid (o := .lst []) g1 hD
    exact ⟨w1, r1, [], [], es, t2, g2, g1.none_of hD, fun hm => g1.live hm hD, upd_same, .nil, by rw [List.drop_zero]; exact e, rfl⟩
  · rintro i m H' ⟨rfl, le, w', r', acc, done, rest, t', g', nv, nm, hDl, rd, hgo, hes⟩
    by_cases hlt : i < ds.length
    · refine .inr ?_
      have hd : ds[i]? = some ds[i] := List.getElem?_eq_getElem hlt
      obtain ⟨go, yl⟩ := (wk w' r' H' t'.sub t'.pre g' i).1 _ hd
      refine ⟨go, fun H2 => LcInv K w1 H1 D ds es rE tg t f (wipeE ρ vs) (i + 1) H2, fun H2 p => ⟨ds.length - (i + 1), by omega, rfl, p⟩, fun x H2 y => ?_⟩
      obtain ⟨w2, t2, g2, rx⟩ := yl x H2 y
      rw [List.drop_eq_getElem_cons hlt] at hgo
      unfold lcGo at hgo
      cases e1 : tg ds[i] (wipeE ρ vs) with
      | none => rw [e1] at hgo; cases hgo
      | some ρ1 =>
        rw [e1] at hgo
        have hgo : (match t ρ1 r' with
          | .ok true r1 => match f ρ1 r1 with
            | .ok e r2 => (lcGo tg t f (wipeE ρ vs) (ds.drop (i + 1)) r2).map fun p => (e :: p.1, p.2)
            | _ => none
          | .ok false r1 => lcGo tg t f (wipeE ρ vs) (ds.drop (i + 1)) r1
          | _ => none) = some (rest, rE) := hgo
        have sw : Slots K w2 (wipeE ρ vs) (wipe σ vs) := ((s1.mono t').mono t2).wipe vs
        obtain ⟨σ2, k1, s2, k2, k3⟩ := hg.slots g2 sw rx e1
        refine k1 _ ⟨?_, ρ1, r', w2, g2, s2, ?_⟩
        · rw [← wipe_wipe (σ := σ) vs]
          exact wipe_eq k2 fun j hj' => k3 j fun m => hj' (hj j m)
        · have t12 := t'.trans t2
          have keepD : ∀ {w3 : Wd} {H3 : Hp}, Tr w2 H2 w3 H3 → w3.v D = none ∧ D ∉ w3.m ∧ H3 D = some (.lst acc) := fun {w3 H3} t3 => by
            have a := t2.trans t3
            refine ⟨?_, fun hm => ?_, a.keep D _ hDl nm⟩
            · cases ev : w3.v D with
              | none => rfl
              | some o =>
                rcases a.newv D (by rw [ev]; intro z; cases z) with z | z
                · exact absurd nv z
                · rw [hDl] at z; cases z
            · rcases a.newm D hm with z | z
              · exact nm z
              · rw [hDl] at z; cases z
          cases et : t ρ1 r' with
          | exc c fs r3 => rw [et] at hgo; cases hgo
          | bad => rw [et] at hgo; cases hgo
          | ok b r3 =>
            rw [et] at hgo
            intro w3 H3 t3 g3
            cases b with
            | false =>
              refine iteF ⟨hlt, w3, r3, acc, done, rest, t12.trans t3, g3, (keepD t3).1, (keepD t3).2.1, (keepD t3).2.2, (t2.trans t3).rps rd, hgo, hes⟩
            | true =>
              refine iteT ⟨ρ1, r3, w3, g3, s2.mono t3, ?_⟩
              have hgo : (match f ρ1 r3 with
                | .ok e r2 => (lcGo tg t f (wipeE ρ vs) (ds.drop (i + 1)) r2).map fun p => (e :: p.1, p.2)
                | _ => none) = some (rest, rE) := hgo
              cases ef : f ρ1 r3 with
              | exc c fs r4 => rw [ef] at hgo; cases hgo
              | bad => rw [ef] at hgo; cases hgo
              | ok d r4 =>
                rw [ef] at hgo
                have hgo : (lcGo tg t f (wipeE ρ vs) (ds.drop (i + 1)) r4).map (fun p => (d :: p.1, p.2)) = some (rest, rE) := hgo
                cases el : lcGo tg t f (wipeE ρ vs) (ds.drop (i + 1)) r4 with
                | none => rw [el] at hgo; cases hgo
                | some p =>
                  rw [el] at hgo
                  obtain ⟨rest', rE'⟩ := p
                  cases hgo
                  intro w4 H4 t4 g4 y ry
                  obtain ⟨n1, n2, n3⟩ := keepD (t3.trans t4)
                  refine ⟨acc, n3, ?_, hlt, ?_⟩
                  · rw [← rd.length]
                    have : es.length = done.length + (rest'.length + 1) := by rw [hes, List.length_append, List.length_cons]
                    exact lim_lt (by omega)
                  · have tt := (t12.trans t3).trans t4
                    obtain ⟨t5, g5⟩ := tr_own (u := .lst (acc ++ [y])) g4 tt hD n1 n2 n3
                    refine ⟨w4, r4, acc ++ [y], done ++ [d], rest', t5, g5, n1, n2, upd_same, ?_, el, by rw [hes, List.append_assoc]; rfl⟩
                    exact (((t2.trans t3).trans t4).rps rd).append (.cons ry .nil)
    · have ei : i = ds.length := by omega
      subst ei
      refine .inl ⟨(wk w' r' H' t'.sub t'.pre g' ds.length).2 (Nat.le_refl _), ?_⟩
      rw [List.drop_length] at hgo
      cases hgo
      rw [List.append_nil] at hes
      subst hes
      exact q w' H' t' g' D ⟨hD, nv, nm, acc, hDl, rd⟩
theorem lc_dl {K : PySem.W.Frag} {it : Lx} {g : TG} {tg : Tg} {js : List Nat} {t : Tx} {f : Ex} {vs : List Nat} (hg : TgD K g tg js) (hj : ∀ j ∈ js, j ∈ vs) {σ : L2.St} {H : Hp} {Q : VK} (h : tN K W (xLc it tg t f vs) σ H Q) :
    tLc (tI K W it) g (tT K W0 t) (tE K W0 f) vs σ H Q := by
  obtain ⟨ρ, r, w, gd, s, h⟩ := h
  refine ⟨ρ, r, w, gd, s, h.fst fun ds w1 r1 H1 _ t1 g1 q h1 J wk D hD => ?_⟩
  cases e : lcGo tg t f (wipeE ρ vs) ds r1 with
  | none => rw [e] at h1; exact h1.elim
  | some p =>
    obtain ⟨es, rE⟩ := p
    rw [e] at h1 q
    dsimp only at h1 q
    split at h1
    · rename_i hl
      have q := q es rE (if_pos hl)
      have s1 := s.mono t1
      exact lc_go hg hj wk s1 g1 e hl (fun w2 H2 t2 g2 p n => q w2 H2 (t1.trans t2) g2 p ⟨t1.fresh n.fresh, n.nv, n.nm, n.at_⟩) D hD
    · exact h1.elim
section
variable {elt tg iter : Expr} {ifs : List Expr} {scope : Scope} {own : List (Str × Nat)} {pos : Pos} {it : Lx} {g : TG} {dt : Tg} {js : List Nat} {t : Tx} {f : Ex}
theorem dn_lc (hc : X.calm = true) (hN : X.N.Nodup) (hi : PI X tg iter (tI X.K W it)) (ok : BlkOk X.N X.env.scope scope own) (hd : TgD X.K g dt js) (hj : ∀ j ∈ js, j ∈ own.map (·.2))
    (hg : ∀ (s : Shared) (H : Hp) (C : Addr) (cl : List (Str × Addr)) (fp : List Addr), PG (X.blk s H scope (compEnvC scope cl C X.env) fp) tg g) (ht : ∀ (s : Shared) (H : Hp) (C : Addr) (cl : List (Str × Addr)) (fp : List Addr), PTs (X.blk s H scope (compEnvC scope cl C X.env) fp) ifs (tT X.K W0 t))
    (he : ∀ (s : Shared) (H : Hp) (C : Addr) (cl : List (Str × Addr)) (fp : List Addr), PE (X.blk s H scope (compEnvC scope cl C X.env) fp) elt (tE X.K W0 f)) (hs : ∀ x, foldedSetIterable iter X.env x = pure x := by intro _; rfl) :
    PE X (.ListComp elt [⟨tg, iter, ifs, 0⟩] scope pos) (tN X.K W (xLc it dt t f (own.map (·.2)))) :=
  (pe_lc hc hN hi ok hg ht he hs).imp fun σ H Q h => lc_dl hd hj h
theorem dn_setLc {i : Nat} {y : Str} {py spos : Pos} (hc : X.calm = true) (hN : X.N.Nodup) (hy : X.N[i]? = some y) (hyl : X.env.scope.names.lookup y = some .local)
    (hsw : swapsWith (.ListComp elt [⟨tg, iter, ifs, 0⟩] scope pos) (some (.Name y py)) spos.line X.env = pure true) (hi : PI X tg iter (tI X.K W it)) (ok : BlkOk X.N X.env.scope scope own) (hd : TgD X.K g dt js) (hj : ∀ j ∈ js, j ∈ own.map (·.2))
    (hg : ∀ (s : Shared) (H : Hp) (C : Addr) (cl : List (Str × Addr)) (fp : List Addr), PG (X.blk s H scope (compEnvC scope cl C X.env) fp) tg g) (ht : ∀ (s : Shared) (H : Hp) (C : Addr) (cl : List (Str × Addr)) (fp : List Addr), PTs (X.blk s H scope (compEnvC scope cl C X.env) fp) ifs (tT X.K W0 t))
    (he : ∀ (s : Shared) (H : Hp) (C : Addr) (cl : List (Str × Addr)) (fp : List Addr), PE (X.blk s H scope (compEnvC scope cl C X.env) fp) elt (tE X.K W0 f)) (hs : ∀ x, foldedSetIterable iter X.env x = pure x := by intro _; rfl) :
    PS X (.Assign [.Name y py] (.ListComp elt [⟨tg, iter, ifs, 0⟩] scope pos) spos) (tAsg (tN X.K W (xLc it dt t f (own.map (·.2)))) (gName i)) :=
  (ps_setLc hc hN hy hyl hsw hi ok hg ht he hs).imp fun D σ H h => lc_dl hd hj h
end
end
end DL

/-! DL8: statements. -/
namespace DL
open PySem L2

structure Ent where
  w : Wd
  H : Hp
/-- an object of one's own, unseen -/
def OwnD (K : PySem.W.Frag) (w : Wd) (H : Hp) (p : Addr) : D → Prop
  | .lst ds => ∃ xs, H p = some (.lst xs) ∧ Rps K w.m w.v ds xs
  | .dic ds => ∃ xs, H p = some (.dK xs) ∧ Rpk K w.m w.v ds xs
  | _ => False
theorem OwnD.live {K : PySem.W.Frag} {w : Wd} {H : Hp} {p : Addr} {d : D} (h : OwnD K w H p d) : ∃ o, H p = some o ∧ ∀ xs, ¬ Rd H p (.tup xs) := by
  cases d <;> try exact h.elim
  · obtain ⟨xs, e, _⟩ := h
    exact ⟨_, e, fun ys z => by rcases z with z | ⟨u, z⟩ <;> (rw [e] at z; cases z)⟩
  · obtain ⟨xs, e, _⟩ := h
    exact ⟨_, e, fun ys z => by rcases z with z | ⟨u, z⟩ <;> (rw [e] at z; cases z)⟩
theorem OwnD.mono {K : PySem.W.Frag} {w w' : Wd} {H H' : Hp} {p : Addr} {d : D} (h : OwnD K w H p d) (s : Sub w.v w'.v) (q : Pre w.m w'.m) (e : H' p = H p) : OwnD K w' H' p d := by
  cases d <;> try exact h.elim
  · obtain ⟨xs, e1, r⟩ := h
    exact ⟨xs, e.trans e1, r.mono s q⟩
  · obtain ⟨xs, e1, r⟩ := h
    exact ⟨xs, e.trans e1, r.mono s q⟩
/-- the state between statements: O the slots that hold objects of one's own -/
structure SIw (K : PySem.W.Frag) (E : Ent) (lo : Wd) (O : List Nat) (ρ : En) (r : Rs) (σ : St) (H : Hp) (w : Wd) : Prop where
  tr : Tr E.w E.H w H
  los : Sub lo.v w.v
  lop : Pre lo.m w.m
  gd : Good K w r H
  len : ρ.length = σ.length
  fr : ∀ (i : Nat) (d : D), ρ[i]? = some (some d) → i ∉ O → ∃ v, σ[i]? = some (some v) ∧ Rp K w.m w.v d v
  ow : ∀ (i : Nat) (d : D), ρ[i]? = some (some d) → i ∈ O → ∃ p, σ[i]? = some (some (.ref p)) ∧ OwnD K w H p d ∧ w.v p = none ∧ p ∉ w.m ∧ E.H p = none
  dj : ∀ (i j : Nat) (d e : D) (p : Addr), i ∈ O → j ∈ O → i ≠ j → ρ[i]? = some (some d) → ρ[j]? = some (some e) → σ[i]? = some (some (.ref p)) → σ[j]? ≠ some (some (.ref p))
def SI (K : PySem.W.Frag) (E : Ent) (lo : Wd) (O : List Nat) (ρ : En) (r : Rs) (σ : St) (H : Hp) : Prop := ∃ w, SIw K E lo O ρ r σ H w
section
variable {K : PySem.W.Frag} {E : Ent} {lo lo' : Wd} {O : List Nat} {ρ : En} {r r' : Rs} {σ : St} {H H' : Hp} {w w' : Wd}
theorem SI.lower (h : SI K E lo O ρ r σ H) (a : Sub lo'.v lo.v) (b : Pre lo'.m lo.m) : SI K E lo' O ρ r σ H := by
  obtain ⟨w, s⟩ := h
  exact ⟨w, s.tr, a.trans s.los, b.trans s.lop, s.gd, s.len, s.fr, s.ow, s.dj⟩
theorem SIw.slots (s : SIw K E lo O ρ r σ H w) : Slots K w (wipeE ρ O) σ := by
  refine ⟨by rw [wipeE_len]; exact s.len, fun i d e => ?_⟩
  obtain ⟨h1, h2⟩ := wipeE_some e
  exact s.fr i d h1 h2
theorem own_keep (t : Tr w H w' H') {p : Addr} {o : HO} (hp : H p = some o) (hv : w.v p = none) (hm : p ∉ w.m) : H' p = H p ∧ w'.v p = none ∧ p ∉ w'.m := by
  refine ⟨(t.keep p o hp hm).trans hp.symm, ?_, fun z => ?_⟩
  · cases e : w'.v p with
    | none => rfl
    | some u =>
      rcases t.newv p (by rw [e]; intro z; cases z) with z | z
      · exact absurd hv z
      · rw [hp] at z; cases z
  · rcases t.newm p z with z | z
    · exact hm z
    · rw [hp] at z; cases z
/-- behind an expression that saw no object of one's own -/
theorem SIw.step (s : SIw K E lo O ρ r σ H w) (t : Tr w H w' H') (g : Good K w' r' H') : SIw K E lo O ρ r' σ H' w' where
  tr := s.tr.trans t
  los := s.los.trans t.sub
  lop := s.lop.trans t.pre
  gd := g
  len := s.len
  fr := fun i d e ho => by
    obtain ⟨v, h1, h2⟩ := s.fr i d e ho
    exact ⟨v, h1, t.rp h2⟩
  ow := fun i d e ho => by
    obtain ⟨p, h1, h2, h3, h4, h5⟩ := s.ow i d e ho
    obtain ⟨o, hp, _⟩ := h2.live
    obtain ⟨k1, k2, k3⟩ := own_keep t hp h3 h4
    exact ⟨p, h1, h2.mono t.sub t.pre k1, k2, k3, h5⟩
  dj := s.dj
/-- the addresses of one's own objects -/
def Own (O : List Nat) (ρ : En) (σ : St) (b : Addr) : Prop := ∃ i ∈ O, (∃ d, ρ[i]? = some (some d)) ∧ σ[i]? = some (some (.ref b))
noncomputable instance ownDec (O : List Nat) (ρ : En) (σ : St) (b : Addr) : Decidable (Own O ρ σ b) := Classical.propDecidable _
noncomputable def visW (w : Wd) (O : List Nat) (ρ : En) (σ : St) (H : Hp) : Wd := ⟨w.m, fun b => if Own O ρ σ b then H b else w.v b, w.g⟩
noncomputable def hidW (w : Wd) (O : List Nat) (ρ : En) (σ : St) : Wd := ⟨w.m, fun b => if Own O ρ σ b then none else w.v b, w.g⟩
/-- no instance was written -/
def verOk : Rs → Rs → Bool
  | .obj i _ _ :: r, .obj j _ _ :: r1 => i == j && verOk r r1
  | .obj _ _ _ :: _, _ => false
  | .lst _ :: r, x :: r1 => !x.isObj && verOk r r1
  | .dic _ :: r, x :: r1 => !x.isObj && verOk r r1
  | [], r1 => r1.all fun x => !x.isObj
  | _ :: _, [] => false
def mixR : Rs → Rs → Rs
  | .obj i c fs :: r, _ :: r1 => .obj i c fs :: mixR r r1
  | .lst _ :: r, x :: r1 => x :: mixR r r1
  | .dic _ :: r, x :: r1 => x :: mixR r r1
  | [], r1 => r1
  | _ :: _, [] => []
theorem verOk_self : ∀ r : Rs, verOk r r = true
  | [] => rfl
  | .obj i _ _ :: r => by rw [verOk, verOk_self r]; simp
  | .lst _ :: r => by rw [verOk, verOk_self r]; rfl
  | .dic _ :: r => by rw [verOk, verOk_self r]; rfl
theorem mixR_self : ∀ r : Rs, mixR r r = r
  | [] => rfl
  | .obj i _ _ :: r => by rw [mixR, mixR_self r]
  | .lst _ :: r => by rw [mixR, mixR_self r]
  | .dic _ :: r => by rw [mixR, mixR_self r]
theorem mixR_len : ∀ {r r1 : Rs}, verOk r r1 = true → (mixR r r1).length = r1.length
  | [], r1, _ => by rw [mixR]
  | .obj i c fs :: r, [], h => by simp [verOk] at h
  | .lst _ :: r, [], h => by simp [verOk] at h
  | .dic _ :: r, [], h => by simp [verOk] at h
  | .obj i c fs :: r, .obj j _ _ :: r1, h => by
    rw [verOk, Bool.and_eq_true] at h
    rw [mixR, List.length_cons, List.length_cons, mixR_len h.2]
  | .obj i c fs :: r, .lst _ :: r1, h => by simp [verOk] at h
  | .obj i c fs :: r, .dic _ :: r1, h => by simp [verOk] at h
  | .lst _ :: r, x :: r1, h => by
    rw [verOk, Bool.and_eq_true] at h
    rw [mixR, List.length_cons, List.length_cons, mixR_len h.2]
  | .dic _ :: r, x :: r1, h => by
    rw [verOk, Bool.and_eq_true] at h
    rw [mixR, List.length_cons, List.length_cons, mixR_len h.2]
/-- each thing of the mix: an instance of before, unchanged, or no instance, of now -/
theorem mixR_get : ∀ {r r1 : Rs} {n : Nat} {o : RO}, verOk r r1 = true → (mixR r r1)[n]? = some o →
    (∃ i c fs c' fs', o = .obj i c fs ∧ r[n]? = some o ∧ r1[n]? = some (.obj i c' fs')) ∨ (o.isObj = false ∧ r1[n]? = some o)
  | [], r1, n, o, h, e => by
    rw [mixR] at e
    rw [verOk, List.all_eq_true] at h
    have := h o (List.mem_iff_getElem?.mpr ⟨n, e⟩)
    exact .inr ⟨by simpa using this, e⟩
  | .obj i c fs :: r, [], n, o, h, e => by simp [verOk] at h
  | .lst _ :: r, [], n, o, h, e => by simp [verOk] at h
  | .dic _ :: r, [], n, o, h, e => by simp [verOk] at h
  | .obj i c fs :: r, .lst _ :: r1, n, o, h, e => by simp [verOk] at h
  | .obj i c fs :: r, .dic _ :: r1, n, o, h, e => by simp [verOk] at h
  | .obj i c fs :: r, .obj j c' fs' :: r1, n, o, h, e => by
    rw [verOk, Bool.and_eq_true, beq_iff_eq] at h
    obtain ⟨rfl, h⟩ := h
    rw [mixR] at e
    cases n with
    | zero =>
      simp only [List.getElem?_cons_zero, Option.some.injEq] at e
      subst e
      exact .inl ⟨i, c, fs, c', fs', rfl, rfl, rfl⟩
    | succ n =>
      simp only [List.getElem?_cons_succ] at e ⊢
      exact mixR_get h e
  | .lst _ :: r, x :: r1, n, o, h, e => by
    rw [verOk, Bool.and_eq_true] at h
    rw [mixR] at e
    cases n with
    | zero =>
      simp only [List.getElem?_cons_zero, Option.some.injEq] at e ⊢
      subst e
      exact .inr ⟨by simpa using h.1, rfl⟩
    | succ n =>
      simp only [List.getElem?_cons_succ] at e ⊢
      exact mixR_get h.2 e
  | .dic _ :: r, x :: r1, n, o, h, e => by
    rw [verOk, Bool.and_eq_true] at h
    rw [mixR] at e
    cases n with
    | zero =>
      simp only [List.getElem?_cons_zero, Option.some.injEq] at e ⊢
      subst e
      exact .inr ⟨by simpa using h.1, rfl⟩
    | succ n =>
      simp only [List.getElem?_cons_succ] at e ⊢
      exact mixR_get h.2 e
theorem SIw.own (s : SIw K E lo O ρ r σ H w) {b : Addr} (h : Own O ρ σ b) : (∃ o, H b = some o ∧ ∀ xs, ¬ Rd H b (.tup xs)) ∧ w.v b = none ∧ b ∉ w.m ∧ E.H b = none := by
  obtain ⟨i, hi, ⟨d, hd⟩, hs⟩ := h
  obtain ⟨p, h1, h2, h3, h4, h5⟩ := s.ow i d hd hi
  rw [hs] at h1
  cases h1
  exact ⟨h2.live, h3, h4, h5⟩
theorem SIw.vis_sub (s : SIw K E lo O ρ r σ H w) : Sub w.v (visW w O ρ σ H).v := fun a o e => by
  have hn : ¬ Own O ρ σ a := fun z => by rw [(s.own z).2.1] at e; cases e
  show (if Own O ρ σ a then H a else w.v a) = some o
  rw [if_neg hn]; exact e
theorem SIw.all (s : SIw K E lo O ρ r σ H w) : Good K (visW w O ρ σ H) r H ∧ Slots K (visW w O ρ σ H) ρ σ ∧
    ∀ (w1 : Wd) (H1 : Hp) (r1 : Rs), verOk r r1 = true → Tr (visW w O ρ σ H) H w1 H1 → Good K w1 r1 H1 → Tr w H (hidW w1 O ρ σ) H1 ∧ Good K (hidW w1 O ρ σ) (mixR r r1) H1 ∧ SubT w1.v (hidW w1 O ρ σ).v := by
  refine ⟨⟨fun a o e => ?_, fun a ha => ?_, s.gd.len, s.gd.nd, fun n o e => ?_, s.gd.gv⟩, ⟨s.len, fun i d e => ?_⟩, fun w1 H1 r1 vo t g => ?_⟩
  · have e' : (if Own O ρ σ a then H a else w.v a) = some o := e
    split at e'
    · exact e'
    · exact s.gd.sub a o e'
  · have hn : ¬ Own O ρ σ a := fun z => (s.own z).2.2.1 ha
    show (if Own O ρ σ a then H a else w.v a) = none
    rw [if_neg hn]; exact s.gd.dis a ha
  · obtain ⟨a, ha, x⟩ := s.gd.at_ n o e
    exact ⟨a, ha, roAt_mono s.vis_sub (.refl _) rfl x⟩
  · by_cases ho : i ∈ O
    · obtain ⟨p, h1, h2, h3, h4, h5⟩ := s.ow i d e ho
      have hp : Own O ρ σ p := ⟨i, ho, ⟨d, e⟩, h1⟩
      have ev : (visW w O ρ σ H).v p = H p := if_pos hp
      refine ⟨_, h1, ?_⟩
      cases d <;> try exact h2.elim
      · obtain ⟨xs, e1, q⟩ := h2
        exact .lst (ev.trans e1) (q.mono s.vis_sub (.refl _))
      · obtain ⟨xs, e1, q⟩ := h2
        exact .dic (.inl (ev.trans e1)) (q.mono s.vis_sub (.refl _))
    · obtain ⟨v, h1, h2⟩ := s.fr i d e ho
      exact ⟨v, h1, h2.mono s.vis_sub (.refl _)⟩
  · have keepO : ∀ b, Own O ρ σ b → H1 b = H b ∧ b ∉ w1.m := fun b z => by
      obtain ⟨⟨o, ho, _⟩, hv, hm, _⟩ := s.own z
      refine ⟨(t.keep b o ho hm).trans ho.symm, fun q => ?_⟩
      rcases t.newm b q with q | q
      · exact hm q
      · rw [ho] at q; cases q
    have hT : SubT w1.v (hidW w1 O ρ σ).v := fun b xs q => by
      have hn : ¬ Own O ρ σ b := fun z => by
        obtain ⟨⟨o, ho, nt⟩, _⟩ := s.own z
        have q1 := g.sub.rd q
        rcases q1 with q1 | ⟨u, q1⟩
        · exact nt xs (.inl (by rw [← (keepO b z).1]; exact q1))
        · exact nt xs (.inr ⟨u, by rw [← (keepO b z).1]; exact q1⟩)
      have ev : (hidW w1 O ρ σ).v b = w1.v b := if_neg hn
      rcases q with q | ⟨u, q⟩
      · exact .inl (ev.trans q)
      · exact .inr ⟨u, ev.trans q⟩
    have sub1 : Sub w.v (hidW w1 O ρ σ).v := fun b o e => by
      have hn : ¬ Own O ρ σ b := fun z => by rw [(s.own z).2.1] at e; cases e
      have ev : (hidW w1 O ρ σ).v b = w1.v b := if_neg hn
      rw [ev]
      exact t.sub b o (s.vis_sub b o e)
    refine ⟨⟨sub1, t.pre, t.keep, t.live, fun b e => ?_, t.newm, t.tups, t.gm, t.same⟩, ⟨fun b o e => ?_, fun b hb => ?_, by rw [mixR_len vo]; exact g.len, g.nd, fun n o e => ?_, fun n i c fs e => ?_⟩, hT⟩
    · have e' : (if Own O ρ σ b then none else w1.v b) ≠ none := e
      split at e'
      · exact absurd rfl e'
      · rename_i hn
        rcases t.newv b e' with z | z
        · have ev : (visW w O ρ σ H).v b = w.v b := if_neg hn
          rw [ev] at z
          exact .inl z
        · exact .inr z
    · have e' : (if Own O ρ σ b then none else w1.v b) = some o := e
      split at e'
      · cases e'
      · exact g.sub b o e'
    · show (if Own O ρ σ b then none else w1.v b) = none
      split
      · rfl
      · exact g.dis b hb
    · rcases mixR_get vo e with ⟨i, c, fs, c', fs', rfl, e1, e2⟩ | ⟨no, e1⟩
      · obtain ⟨a, ha, x⟩ := s.gd.at_ n _ e1
        have eg : w1.g n = w.g n := (g.gv n i c' fs' e2).trans (s.gd.gv n i c fs e1).symm
        have x' := x
        obtain ⟨dx, vs, hx, _⟩ := x'
        exact ⟨a, t.pre n a ha, roAt_mono sub1 t.pre (t.same n a _ _ _ ha hx eg) x⟩
      · obtain ⟨a, ha, x⟩ := g.at_ n o e1
        exact ⟨a, ha, roAt_monoI no hT (.refl _) rfl x⟩
    · rcases mixR_get vo e with ⟨i', c1, fs1, c', fs', e0, e1, e2⟩ | ⟨no, e1⟩
      · cases e0
        exact g.gv n i c' fs' e2
      · cases no
end

/-! ### outcomes of statements -/
inductive SOut where
  | next (ρ : En) (r : Rs)
  | ret (d : D) (r : Rs)
  | brk (ρ : En) (r : Rs)
  | cont (ρ : En) (r : Rs)
  | exc (c : Nat) (fs : List (Str × Int)) (ρ : En) (r : Rs)
  | bad
abbrev Sx := En → Rs → SOut
/-- what is known of a def's answer; fr: a list is new -/
def PostD (K : PySem.W.Frag) (fr : Bool) (H0 : Hp) (w : Wd) (H : Hp) (d : D) (v : V) : Prop := match fr, d with
  | true, .lst ds => ∃ p, v = .ref p ∧ NewL K w H0 H ds p
  | true, .dic ds => ∃ p, v = .ref p ∧ NewD K w H0 H ds p
  | _, _ => Rp K w.m w.v d v
structure Sc where
  K : PySem.W.Frag
  W : WX
  E : Ent
  fr : Bool
  O : List Nat
def AfterS (c : Sc) (lo : Wd) (D : Ends) : SOut → Prop
  | .next ρ r => ∀ σ H, SI c.K c.E lo c.O ρ r σ H → D.nx σ H
  | .brk ρ r => ∀ σ H, SI c.K c.E lo c.O ρ r σ H → D.bk σ H
  | .cont ρ r => ∀ σ H, SI c.K c.E lo c.O ρ r σ H → D.ct σ H
  | .ret d r => ∀ w H v, Tr c.E.w c.E.H w H → Good c.K w r H → PostD c.K c.fr c.E.H w H d v → D.rt v H
  | .exc x fs ρ r => ∀ σ H cls dd, SI c.K c.E lo c.O ρ r σ H → ExcAt c.K x fs cls dd H → c.W cls dd σ H
  | .bad => False
def tS (c : Sc) (g : Sx) : TS := fun D σ H => ∃ ρ r lo, SI c.K c.E lo c.O ρ r σ H ∧ AfterS c lo D (g ρ r)
def SOut.bind (o : SOut) (g : Sx) : SOut := match o with
  | .next ρ r => g ρ r
  | o => o
def sSeq (f g : Sx) : Sx := fun ρ r => (f ρ r).bind g
def sNext : Sx := fun ρ r => .next ρ r
section
variable {X : Cx} {c : Sc} {st : Stmt} {rest body orelse : List Stmt} {f g h : Sx} {pos : Pos}
theorem AfterS.bind {lo : Wd} {D : Ends} {o : SOut} (h : AfterS c lo D (o.bind g)) : AfterS c lo { D with nx := tS c g D } o := by
  cases o with
  | next ρ r => exact fun σ H s => ⟨ρ, r, lo, s, h⟩
  | _ => exact h
theorem dss_nil : PSs X [] (tS c sNext) := pss_nil.imp fun D σ H ⟨ρ, r, lo, s, h⟩ => h σ H s
theorem dss_cons (h1 : PS X st (tS c f)) (h2 : PSs X rest (tS c g)) : PSs X (st :: rest) (tS c (sSeq f g)) := (pss_cons h1 h2).imp fun D σ H ⟨ρ, r, lo, s, h⟩ => ⟨ρ, r, lo, s, h.bind⟩
theorem dss_one (h1 : PS X st (tS c f)) : PSs X [st] (tS c f) := pss_one h1
theorem ds_pass : PS X (.Pass pos) (tS c sNext) := ps_pass.imp fun D σ H ⟨ρ, r, lo, s, h⟩ => h σ H s
def sBrk : Sx := fun ρ r => .brk ρ r
def sCont : Sx := fun ρ r => .cont ρ r
theorem ds_break : PS X (.Break pos) (tS c sBrk) := ps_break.imp fun D σ H ⟨ρ, r, lo, s, h⟩ => h σ H s
theorem ds_continue : PS X (.Continue pos) (tS c sCont) := ps_continue.imp fun D σ H ⟨ρ, r, lo, s, h⟩ => h σ H s
/-- an exception of an expression -/
theorem exc_after {lo : Wd} {D : Ends} {α : Type} {w w' : Wd} {H : Hp} {σ : St} {ρ : En} {r : Rs} {x : Nat} {fs : List (Str × Int)} {r1 : Rs} {Q : α → Wd → Rs → Hp → Prop} (s : SIw c.K c.E lo c.O ρ r σ H w)
    (h : AfterS c lo D (.exc x fs ρ r1)) : After c.K c.W w H σ (Out.exc (α := α) x fs r1) Q := fun w' H' cls dd t g e => h σ H' cls dd ⟨w', s.step t g⟩ e
/-- an expression that sees no object of one's own -/
def evF {α : Type} (O : List Nat) (f : En → Rs → Out α) (k : α → En → Rs → SOut) : Sx := fun ρ r => match f (wipeE ρ O) r with
  | .ok a r1 => k a ρ r1
  | .exc x fs r1 => .exc x fs ρ r1
  | .bad => .bad
/-- one that sees all -/
def evI {α : Type} (f : En → Rs → Out α) (k : α → En → Rs → SOut) : Sx := fun ρ r => match f ρ r with
  | .ok a r1 => if verOk r r1 = true then k a ρ (mixR r r1) else .bad
  | .exc x fs r1 => if verOk r r1 = true then .exc x fs ρ (mixR r r1) else .bad
  | .bad => .bad
theorem evF_dl {α : Type} {f : En → Rs → Out α} {k : α → En → Rs → SOut} {D : Ends} {σ : St} {H : Hp} {Q : α → Wd → Rs → Hp → Prop} {ρ : En} {r : Rs} {lo w : Wd} (s : SIw c.K c.E lo c.O ρ r σ H w) (h : AfterS c lo D (evF c.O f k ρ r))
    (q : ∀ a r1 w1 H1, Tr w H w1 H1 → SIw c.K c.E lo c.O ρ r1 σ H1 w1 → AfterS c lo D (k a ρ r1) → Q a w1 r1 H1) : After c.K c.W w H σ (f (wipeE ρ c.O) r) Q := by
  unfold evF at h
  revert h
  generalize f (wipeE ρ c.O) r = o
  intro h
  cases o with
  | ok a r1 => exact fun w1 H1 t g => q a r1 w1 H1 t (s.step t g) h
  | exc x fs r1 => exact fun w1 H1 cls dd t g e => h σ H1 cls dd ⟨w1, s.step t g⟩ e
  | bad => exact h
theorem evI_dl {α : Type} {f : En → Rs → Out α} {k : α → En → Rs → SOut} {D : Ends} {σ : St} {H : Hp} {Q : α → Wd → Rs → Hp → Prop} {ρ : En} {r : Rs} {lo w : Wd} (s : SIw c.K c.E lo c.O ρ r σ H w) (h : AfterS c lo D (evI f k ρ r))
    (q : ∀ a r1 r2 w1 H1, Tr (visW w c.O ρ σ H) H w1 H1 → Good c.K w1 r1 H1 → SIw c.K c.E lo c.O ρ r2 σ H1 (hidW w1 c.O ρ σ) → SubT w1.v (hidW w1 c.O ρ σ).v → AfterS c lo D (k a ρ r2) → Q a w1 r1 H1) : After c.K c.W (visW w c.O ρ σ H) H σ (f ρ r) Q := by
  obtain ⟨_, _, u⟩ := s.all
  unfold evI at h
  revert h
  generalize f ρ r = o
  intro h
  cases o with
  | ok a r1 =>
    intro w1 H1 t g
    dsimp only at h
    split at h
    · rename_i vo
      obtain ⟨t1, g1, st⟩ := u w1 H1 r1 vo t g
      exact q a r1 _ w1 H1 t g (s.step t1 g1) st h
    · exact h.elim
  | exc x fs r1 =>
    intro w1 H1 cls dd t g e
    dsimp only at h
    split at h
    · rename_i vo
      obtain ⟨t1, g1, st⟩ := u w1 H1 r1 vo t g
      exact h σ H1 cls dd ⟨_, s.step t1 g1⟩ e
    · exact h.elim
  | bad => exact h
theorem evI_dl2 {α : Type} {f : En → Rs → Out α} {k : α → En → Rs → SOut} {D : Ends} {σ : St} {H : Hp} {Q : α → Wd → Rs → Hp → Prop} {ρ : En} {r : Rs} {lo w : Wd} (s : SIw c.K c.E lo c.O ρ r σ H w) (h : AfterS c lo D (evI f k ρ r))
    (q : ∀ a r1 r2 w1 H1, Tr w H (hidW w1 c.O ρ σ) H1 → Tr (visW w c.O ρ σ H) H w1 H1 → Good c.K w1 r1 H1 → SIw c.K c.E lo c.O ρ r2 σ H1 (hidW w1 c.O ρ σ) → SubT w1.v (hidW w1 c.O ρ σ).v → AfterS c lo D (k a ρ r2) → Q a w1 r1 H1) : After c.K c.W (visW w c.O ρ σ H) H σ (f ρ r) Q := by
  obtain ⟨_, _, u⟩ := s.all
  unfold evI at h
  revert h
  generalize f ρ r = o
  intro h
  cases o with
  | ok a r1 =>
    intro w1 H1 t g
    dsimp only at h
    split at h
    · rename_i vo
      obtain ⟨t1, g1, st⟩ := u w1 H1 r1 vo t g
      exact q a r1 _ w1 H1 t1 t g (s.step t1 g1) st h
    · exact h.elim
  | exc x fs r1 =>
    intro w1 H1 cls dd t g e
    dsimp only at h
    split at h
    · rename_i vo
      obtain ⟨t1, g1, st⟩ := u w1 H1 r1 vo t g
      exact h σ H1 cls dd ⟨_, s.step t1 g1⟩ e
    · exact h.elim
  | bad => exact h
end
end DL

/-! DL9: the rules of statements; a def's promise. -/
namespace DL
open PySem L2

section
variable {K : PySem.W.Frag} {E : Ent} {lo : Wd} {O : List Nat} {ρ ρ' : En} {r r' : Rs} {σ σ' : St} {H H' : Hp} {w w' : Wd}
/-- slots stored into that are not one's own -/
theorem SIw.store {js : List Nat} (s : SIw K E lo O ρ r σ H w) (hl : ρ'.length = ρ.length) (hl' : σ'.length = σ.length) (hj : ∀ j ∈ js, j ∉ O)
    (h : ∀ i : Nat, (ρ'[i]? = ρ[i]? ∧ σ'[i]? = σ[i]?) ∨ (i ∈ js ∧ ∃ e x, ρ'[i]? = some (some e) ∧ σ'[i]? = some (some x) ∧ Rp K w.m w.v e x)) : SIw K E lo O ρ' r σ' H w where
  tr := s.tr
  los := s.los
  lop := s.lop
  gd := s.gd
  len := by rw [hl, hl', s.len]
  fr := fun i d e ho => by
    rcases h i with ⟨q1, q2⟩ | ⟨_, e2, x, q1, q2, q3⟩
    · rw [q1] at e
      rw [q2]
      exact s.fr i d e ho
    · rw [q1] at e
      cases e
      exact ⟨x, q2, q3⟩
  ow := fun i d e ho => by
    rcases h i with ⟨q1, q2⟩ | ⟨m, _⟩
    · rw [q1] at e
      rw [q2]
      exact s.ow i d e ho
    · exact absurd ho (hj i m)
  dj := fun i j d e p hi hj' hne h1 h2 h3 => by
    rcases h i with ⟨q1, q2⟩ | ⟨m, _⟩
    · rcases h j with ⟨p1, p2⟩ | ⟨m, _⟩
      · rw [q1] at h1
        rw [q2] at h3
        rw [p1] at h2
        rw [p2]
        exact s.dj i j d e p hi hj' hne h1 h2 h3
      · exact absurd hj' (hj j m)
    · exact absurd hi (hj i m)
/-- a slot forgotten -/
theorem SIw.forget (s : SIw K E lo O ρ r σ H w) (i : Nat) : SIw K E lo O (ρ.set i none) r σ H w := by
  have back : ∀ {j : Nat} {d : D}, (ρ.set i none)[j]? = some (some d) → ρ[j]? = some (some d) := fun {j d} e => by
    by_cases hj : i = j
    · subst hj
      by_cases hl : i < ρ.length
      · rw [List.getElem?_set_self hl] at e; cases e
      · rw [List.getElem?_eq_none (by simpa using hl)] at e; cases e
    · rwa [List.getElem?_set_ne hj] at e
  exact ⟨s.tr, s.los, s.lop, s.gd, by rw [List.length_set]; exact s.len, fun j d e ho => s.fr j d (back e) ho, fun j d e ho => s.ow j d (back e) ho, fun a b d e p ha hb hne h1 h2 h3 => s.dj a b d e p ha hb hne (back h1) (back h2) h3⟩
/-- an own slot gets an own object -/
theorem SIw.setOwn {i : Nat} {d : D} {p : Addr} (s : SIw K E lo O ρ r σ H w) (hi : i ∈ O) (hil : i < ρ.length) (ho : OwnD K w H p d) (hv : w.v p = none) (hm : p ∉ w.m) (hE : E.H p = none)
    (hne : ∀ j e, j ∈ O → j ≠ i → ρ[j]? = some (some e) → σ[j]? ≠ some (some (.ref p))) : SIw K E lo O (ρ.set i (some d)) r (σ.set i (some (.ref p))) H w := by
  have hil' : i < σ.length := by rw [← s.len]; exact hil
  refine ⟨s.tr, s.los, s.lop, s.gd, by rw [List.length_set, List.length_set]; exact s.len, fun j e q hj => ?_, fun j e q hj => ?_, fun a b e1 e2 q ha hb hab h1 h2 h3 => ?_⟩
  · have hji : i ≠ j := by rintro rfl; exact hj hi
    rw [List.getElem?_set_ne hji] at q ⊢
    exact s.fr j e q hj
  · by_cases hji : i = j
    · subst hji
      rw [List.getElem?_set_self hil] at q
      cases q
      exact ⟨p, List.getElem?_set_self hil', ho, hv, hm, hE⟩
    · rw [List.getElem?_set_ne hji] at q ⊢
      exact s.ow j e q hj
  · by_cases hai : i = a
    · subst hai
      rw [List.getElem?_set_self hil'] at h3
      cases h3
      rw [List.getElem?_set_ne hab] at h2 ⊢
      exact hne b e2 hb (Ne.symm hab) h2
    · rw [List.getElem?_set_ne hai] at h1 h3
      by_cases hbi : i = b
      · subst hbi
        rw [List.getElem?_set_self hil']
        intro z
        cases z
        exact hne a e1 ha (Ne.symm hai) h1 h3
      · rw [List.getElem?_set_ne hbi] at h2 ⊢
        exact s.dj a b e1 e2 q ha hb hab h1 h2 h3
/-- an own object is changed -/
theorem SIw.mut {i : Nat} {d d' : D} {p : Addr} {o : HO} (s : SIw K E lo O ρ r σ H w) (hi : i ∈ O) (hρ : ρ[i]? = some (some d)) (hσ : σ[i]? = some (some (.ref p))) (ho : OwnD K w (upd H p o) p d') : SIw K E lo O (ρ.set i (some d')) r σ (upd H p o) w := by
  obtain ⟨p', h1, h2, h3, h4, h5⟩ := s.ow i d hρ hi
  rw [hσ] at h1
  cases h1
  obtain ⟨u, hu, _⟩ := h2.live
  obtain ⟨t, g⟩ := tr_own (u := o) s.gd s.tr h5 h3 h4 hu
  have hil : i < ρ.length := (List.getElem?_eq_some_iff.mp hρ).1
  refine ⟨t, s.los, s.lop, g, by rw [List.length_set]; exact s.len, fun j e q hj => ?_, fun j e q hj => ?_, fun a b e1 e2 q ha hb hab k1 k2 k3 => ?_⟩
  · have hji : i ≠ j := by rintro rfl; exact hj hi
    rw [List.getElem?_set_ne hji] at q
    exact s.fr j e q hj
  · by_cases hji : i = j
    · subst hji
      rw [List.getElem?_set_self hil] at q
      cases q
      exact ⟨p, hσ, ho, h3, h4, h5⟩
    · rw [List.getElem?_set_ne hji] at q
      obtain ⟨p2, a1, a2, a3, a4, a5⟩ := s.ow j e q hj
      have hpp : p2 ≠ p := by
        rintro rfl
        exact s.dj i j d e p2 hi hj hji hρ q hσ a1
      exact ⟨p2, a1, a2.mono (.refl _) (.refl _) (upd_ne hpp), a3, a4, a5⟩
  · have k1' : ∃ z, ρ[a]? = some (some z) := by
      by_cases z : i = a
      · subst z; exact ⟨d, hρ⟩
      · rw [List.getElem?_set_ne z] at k1; exact ⟨e1, k1⟩
    have k2' : ∃ z, ρ[b]? = some (some z) := by
      by_cases z : i = b
      · subst z; exact ⟨d, hρ⟩
      · rw [List.getElem?_set_ne z] at k2; exact ⟨e2, k2⟩
    obtain ⟨z1, k1'⟩ := k1'
    obtain ⟨z2, k2'⟩ := k2'
    exact s.dj a b z1 z2 q ha hb hab k1' k2' k3
/-- an own object is shown, its slot forgotten -/
theorem SIw.show_ {i : Nat} {d : D} {p : Addr} (s : SIw K E lo O ρ r σ H w) (hi : i ∈ O) (hρ : ρ[i]? = some (some d)) (hσ : σ[i]? = some (some (.ref p))) : ∃ w', SIw K E lo O (ρ.set i none) r σ H w' ∧ Rp K w'.m w'.v d (.ref p) := by
  obtain ⟨p', h1, h2, h3, h4, h5⟩ := s.ow i d hρ hi
  rw [hσ] at h1
  cases h1
  obtain ⟨o, hp, _⟩ := h2.live
  obtain ⟨t, g⟩ := tr_see s.gd s.tr h5 h3 h4 hp
  have sb : Sub w.v (w.see p o).v := fun a u e => by
    have hne : a ≠ p := by rintro rfl; rw [h3] at e; cases e
    show upd w.v p o a = some u
    rw [upd_ne hne]; exact e
  have back : ∀ {j : Nat} {e : D}, (ρ.set i none)[j]? = some (some e) → ρ[j]? = some (some e) ∧ j ≠ i := fun {j e} q => by
    by_cases hj : i = j
    · subst hj
      by_cases hl : i < ρ.length
      · rw [List.getElem?_set_self hl] at q; cases q
      · rw [List.getElem?_eq_none (by simpa using hl)] at q; cases q
    · rw [List.getElem?_set_ne hj] at q
      exact ⟨q, fun z => hj z.symm⟩
  refine ⟨w.see p o, ⟨t, s.los.trans sb, s.lop, g, by rw [List.length_set]; exact s.len, fun j e q hj => ?_, fun j e q hj => ?_, fun a b e1 e2 q ha hb hab k1 k2 k3 => s.dj a b e1 e2 q ha hb hab (back k1).1 (back k2).1 k3⟩, ?_⟩
  · obtain ⟨v, a1, a2⟩ := s.fr j e (back q).1 hj
    exact ⟨v, a1, a2.mono sb (.refl _)⟩
  · obtain ⟨q1, q2⟩ := back q
    obtain ⟨p2, a1, a2, a3, a4, a5⟩ := s.ow j e q1 hj
    have hpp : p2 ≠ p := by
      rintro rfl
      exact s.dj i j d e p2 hi hj (Ne.symm q2) hρ q1 hσ a1
    refine ⟨p2, a1, a2.mono sb (.refl _) rfl, ?_, a4, a5⟩
    show upd w.v p o p2 = none
    rw [upd_ne hpp]; exact a3
  · cases d <;> try exact h2.elim
    · obtain ⟨xs, e1, q⟩ := h2
      rw [hp] at e1
      cases e1
      exact .lst upd_same (q.mono sb (.refl _))
    · obtain ⟨xs, e1, q⟩ := h2
      rw [hp] at e1
      cases e1
      exact .dic (.inl upd_same) (q.mono sb (.refl _))
theorem SIw.newL {H0 : Hp} {w0 : Wd} {ds : List D} {p : Addr} {i : Nat} (s : SIw K E lo O ρ r σ H w) (s0 : SIw K E lo O ρ r' σ H0 w0) (hi : i ∈ O) (hil : i < ρ.length) (n : NewL K w H0 H ds p) : SIw K E lo O (ρ.set i (some (.lst ds))) r (σ.set i (some (.ref p))) H w := by
  refine s.setOwn hi hil n.at_ n.nv n.nm (s0.tr.fresh n.fresh) fun j e hj hji q z => ?_
  obtain ⟨p2, a1, a2, _⟩ := s0.ow j e q hj
  rw [z] at a1
  cases a1
  obtain ⟨o, ho, _⟩ := a2.live
  rw [n.fresh] at ho
  cases ho
end

section
variable {X : Cx} {c : Sc} {st : Stmt} {pos : Pos}
/-! ### assignments -/
def kStore (tg : Tg) : D → En → Rs → SOut := fun d ρ r => match tg d ρ with
  | some ρ' => .next ρ' r
  | none => .bad
def sAsg (O : List Nat) (tg : Tg) (f : Ex) : Sx := evF O f (kStore tg)
def sAsgI (tg : Tg) (f : Ex) : Sx := evI f fun d ρ r => if d.imm = true then kStore tg d ρ r else .bad
theorem store_dl {g : TG} {tg : Tg} {js : List Nat} {lo w : Wd} {ρ : En} {r : Rs} {σ : St} {H : Hp} {D : Ends} {d : DL.D} {v : V} (hg : TgD c.K g tg js) (hj : ∀ j ∈ js, j ∉ c.O) (s : SIw c.K c.E lo c.O ρ r σ H w) (rv : Rp c.K w.m w.v d v)
    (h : AfterS c lo D (kStore tg d ρ r)) : g v σ H D.nx := by
  unfold kStore at h
  split at h
  · rename_i ρ' e
    obtain ⟨σ', h1, h2, h3, h4⟩ := hg w r H ρ ρ' σ d v s.gd s.len rv e
    exact h1 _ (h σ' H ⟨w, s.store h2 h3 hj h4⟩)
  · exact h.elim
theorem ds_asg {f : Ex} {g : TG} {tg : Tg} {js : List Nat} (h : PS X st (tAsg (tE c.K c.W f) g)) (hg : TgD c.K g tg js) (hj : ∀ j ∈ js, j ∉ c.O) : PS X st (tS c (sAsg c.O tg f)) :=
  h.imp fun D σ H ⟨ρ, r, lo, ⟨w, s⟩, h⟩ => ⟨wipeE ρ c.O, r, w, s.gd, s.slots, evF_dl s h fun d r1 w1 H1 t s1 h1 v rv => store_dl hg hj s1 rv h1⟩
theorem ds_asgI {f : Ex} {g : TG} {tg : Tg} {js : List Nat} (h : PS X st (tAsg (tE c.K c.W f) g)) (hg : TgD c.K g tg js) (hj : ∀ j ∈ js, j ∉ c.O) : PS X st (tS c (sAsgI tg f)) :=
  h.imp fun D σ H ⟨ρ, r, lo, ⟨w, s⟩, h⟩ => ⟨ρ, r, visW w c.O ρ σ H, s.all.1, s.all.2.1, evI_dl s h fun d r1 r2 w1 H1 t g1 s1 sT h1 v rv => by
    split at h1
    · rename_i hi
      exact store_dl hg hj s1 (rv.immM sT (.refl _) hi) h1
    · exact h1.elim⟩
/-- a new list of one's own -/
def kOwn (i : Nat) : List D → En → Rs → SOut := fun ds ρ r => if i < ρ.length then .next (ρ.set i (some (.lst ds))) r else .bad
def sAsgN (O : List Nat) (i : Nat) (f : Lx) : Sx := evF O f (kOwn i)
def sAsgNI (i : Nat) (f : Lx) : Sx := evI f fun ds ρ r => if D.imms ds = true then kOwn i ds ρ r else .bad
theorem ds_asgN {f : Lx} {i : Nat} (h : PS X st (tAsg (tN c.K c.W f) (gName i))) (hi : i ∈ c.O) : PS X st (tS c (sAsgN c.O i f)) :=
  h.imp fun D σ H ⟨ρ, r, lo, ⟨w, s⟩, h⟩ => ⟨wipeE ρ c.O, r, w, s.gd, s.slots, evF_dl s h fun ds r1 w1 H1 t s1 h1 p n => by
    unfold kOwn at h1
    split at h1
    · rename_i hl
      exact h1 _ _ ⟨w1, s1.newL s hi hl n⟩
    · exact h1.elim⟩
theorem ds_asgNI {f : Lx} {i : Nat} (h : PS X st (tAsg (tN c.K c.W f) (gName i))) (hi : i ∈ c.O) : PS X st (tS c (sAsgNI i f)) :=
  h.imp fun D σ H ⟨ρ, r, lo, ⟨w, s⟩, h⟩ => ⟨ρ, r, visW w c.O ρ σ H, s.all.1, s.all.2.1, evI_dl s h fun ds r1 r2 w1 H1 t g1 s1 sT h1 p n => by
    split at h1
    · rename_i hm
      unfold kOwn at h1
      split at h1
      · rename_i hl
        obtain ⟨xs, e1, q⟩ := n.at_
        refine h1 _ _ ⟨_, s1.newL s hi hl ⟨n.fresh, ?_, n.nm, xs, e1, q.immM sT (.refl _) hm⟩⟩
        show (if Own c.O ρ σ p then none else w1.v p) = none
        split
        · rfl
        · exact n.nv
      · exact h1.elim
    · exact h1.elim⟩
/-- y's own object goes to x -/
def sMove (i j : Nat) : Sx := fun ρ r => match ρ[j]? with
  | some (some d) => if i < ρ.length then .next ((ρ.set j none).set i (some d)) r else .bad
  | _ => .bad
theorem ds_move {i j : Nat} (h : PS X st (tAsg (tVar j) (gName i))) (hi : i ∈ c.O) (hj : j ∈ c.O) (hij : i ≠ j) : PS X st (tS c (sMove i j)) :=
  h.imp fun D σ H ⟨ρ, r, lo, ⟨w, s⟩, h⟩ => by
    unfold sMove at h
    split at h
    · rename_i d e
      split at h
      · rename_i hl
        obtain ⟨p, h1, h2, h3, h4, h5⟩ := s.ow j d e hj
        refine ⟨_, h1, h _ _ ⟨w, (s.forget j).setOwn hi (by rw [List.length_set]; exact hl) h2 h3 h4 h5 fun k z hk hki q q2 => ?_⟩⟩
        by_cases hkj : j = k
        · subst hkj
          rw [List.getElem?_set_self (List.getElem?_eq_some_iff.mp e).1] at q
          cases q
        · rw [List.getElem?_set_ne hkj] at q
          exact s.dj j k d z p hj hk hkj e q h1 q2
      · exact h.elim
    · exact h.elim
/-- y's own object goes to x, which is not one's own: nothing changes it from here on -/
def sGive (tg : Tg) (j : Nat) : Sx := fun ρ r => match ρ[j]? with
  | some (some d) => kStore tg d (ρ.set j none) r
  | _ => .bad
theorem ds_give {j : Nat} {g : TG} {tg : Tg} {js : List Nat} (h : PS X st (tAsg (tVar j) g)) (hg : TgD c.K g tg js) (hjs : ∀ j ∈ js, j ∉ c.O) (hj : j ∈ c.O) : PS X st (tS c (sGive tg j)) :=
  h.imp fun D σ H ⟨ρ, r, lo, ⟨w, s⟩, h⟩ => by
    unfold sGive at h
    split at h
    · rename_i d e
      obtain ⟨p, h1, _⟩ := s.ow j d e hj
      obtain ⟨w', s', rv⟩ := s.show_ hj e h1
      exact ⟨_, h1, store_dl hg hjs s' rv h⟩
    · exact h.elim
/-! ### a list of one's own changed -/
def kApp (i : Nat) : List D → En → Rs → SOut := fun ds ρ r => match ds, ρ[i]? with
  | [d], some (some (.lst xs)) => if xs.length < lim then .next (ρ.set i (some (.lst (xs ++ [d])))) r else .bad
  | _, _ => .bad
def sApp (O : List Nat) (i : Nat) (f : Ax) : Sx := evF O f (kApp i)
def sAppI (i : Nat) (f : Ax) : Sx := evI f fun ds ρ r => if D.imms ds = true then kApp i ds ρ r else .bad
theorem app_dl {i : Nat} {lo w : Wd} {ρ : En} {r : Rs} {σ : St} {H : Hp} {D : Ends} {ds : List DL.D} {vs : List V} {p : Addr} (hi : i ∈ c.O) (hσ : σ[i]? = some (some (.ref p))) (s : SIw c.K c.E lo c.O ρ r σ H w) (rv : Rps c.K w.m w.v ds vs)
    (h : AfterS c lo D (kApp i ds ρ r)) : rAppend (.ref p) vs H (fun _ H1 => D.nx σ H1) := by
  unfold kApp at h
  split at h
  · rename_i d xs e
    split at h
    · rename_i hl
      obtain ⟨p', h1, h2, h3, h4, h5⟩ := s.ow i _ e hi
      rw [hσ] at h1
      cases h1
      obtain ⟨ys, e1, q⟩ := h2
      cases rv with
      | cons rv rt =>
        cases rt
        refine ⟨p, ys, _, rfl, rfl, e1, by rw [← q.length]; exact lim_lt hl, h _ _ ⟨w, s.mut hi e hσ ⟨_, upd_same, q.append (.one rv)⟩⟩⟩
    · exact h.elim
  · exact h.elim
theorem own_ty {i : Nat} {lo w : Wd} {ρ : En} {r : Rs} {σ : St} {H : Hp} {xs : List DL.D} (hi : i ∈ c.O) (s : SIw c.K c.E lo c.O ρ r σ H w) (e : ρ[i]? = some (some (.lst xs))) : ∃ p, σ[i]? = some (some (.ref p)) ∧ tyV c.K "list" (.ref p) H := by
  obtain ⟨p, h1, h2, _⟩ := s.ow i _ e hi
  obtain ⟨ys, e1, q⟩ := h2
  exact ⟨p, h1, .inl ⟨rfl, ys, SqL.of e1⟩⟩
def isOwnL (i : Nat) (g : Sx) : Sx := fun ρ r => match ρ[i]? with
  | some (some (.lst _)) => g ρ r
  | _ => .bad
theorem isOwnL_dl {i : Nat} {g : Sx} {lo : Wd} {ρ : En} {r : Rs} {D : Ends} (h : AfterS c lo D (isOwnL i g ρ r)) : ∃ xs, ρ[i]? = some (some (.lst xs)) ∧ AfterS c lo D (g ρ r) := by
  unfold isOwnL at h
  split at h
  · rename_i xs e
    exact ⟨xs, e, h⟩
  · exact h.elim
theorem ds_app {i : Nat} {f : Ax} (h : PS X st (tDrop (tBM c.K "list" rAppend (tVar i) (tA c.K c.W f)))) (hi : i ∈ c.O) : PS X st (tS c (isOwnL i (sApp c.O i f))) :=
  h.imp fun D σ H ⟨ρ, r, lo, ⟨w, s⟩, h⟩ => by
    obtain ⟨xs, e, h⟩ := isOwnL_dl h
    obtain ⟨p, h1, ty⟩ := own_ty hi s e
    exact ⟨_, h1, ty, wipeE ρ c.O, r, w, s.gd, s.slots, evF_dl s h fun ds r1 w1 H1 t s1 h2 vs rvs => app_dl hi h1 s1 rvs h2⟩
theorem ds_appI {i : Nat} {f : Ax} (h : PS X st (tDrop (tBM c.K "list" rAppend (tVar i) (tA c.K c.W f)))) (hi : i ∈ c.O) : PS X st (tS c (isOwnL i (sAppI i f))) :=
  h.imp fun D σ H ⟨ρ, r, lo, ⟨w, s⟩, h⟩ => by
    obtain ⟨xs, e, h⟩ := isOwnL_dl h
    obtain ⟨p, h1, ty⟩ := own_ty hi s e
    refine ⟨_, h1, ty, ρ, r, visW w c.O ρ σ H, s.all.1, s.all.2.1, evI_dl s h fun ds r1 r2 w1 H1 t g1 s1 sT h2 vs rvs => ?_⟩
    split at h2
    · rename_i hm
      exact app_dl hi h1 s1 (rvs.immM sT (.refl _) hm) h2
    · exact h2.elim
/-! ### expressions as statements, returns, branches -/
def sExp (O : List Nat) (f : Ex) : Sx := evF O f fun _ ρ r => .next ρ r
theorem ds_exp {f : Ex} (h : PS X st (tDrop (tE c.K c.W f))) : PS X st (tS c (sExp c.O f)) :=
  h.imp fun D σ H ⟨ρ, r, lo, ⟨w, s⟩, h⟩ => ⟨wipeE ρ c.O, r, w, s.gd, s.slots, evF_dl s h fun d r1 w1 H1 t s1 h1 v rv => h1 σ H1 ⟨w1, s1⟩⟩
def D.isL : D → Bool
  | .lst _ => true
  | .dic _ => true
  | _ => false
theorem postD_of {K : PySem.W.Frag} {fr : Bool} {H0 H : Hp} {w : Wd} {d : D} {v : V} (h : Rp K w.m w.v d v) (e : (fr && d.isL) = false) : PostD K fr H0 w H d v := by
  unfold PostD
  cases fr with
  | false => exact h
  | true => cases d <;> first | exact h | cases e
def sRet (fr : Bool) (O : List Nat) (f : Ex) : Sx := evF O f fun d _ r => if (fr && d.isL) = true then .bad else .ret d r
def sRetI (f : Ex) : Sx := evI f fun d _ r => if d.imm = true then .ret d r else .bad
theorem imm_notL {d : D} (h : d.imm = true) (fr : Bool) : (fr && d.isL) = false := by
  have e : d.isL = false := by
    cases d <;> first | rfl | (simp [D.imm] at h)
  rw [e, Bool.and_false]
theorem ds_ret {f : Ex} (h : PS X st (tRet (tE c.K c.W f))) : PS X st (tS c (sRet c.fr c.O f)) :=
  h.imp fun D σ H ⟨ρ, r, lo, ⟨w, s⟩, h⟩ => ⟨wipeE ρ c.O, r, w, s.gd, s.slots, evF_dl s h fun d r1 w1 H1 t s1 h1 v rv => by
    split at h1
    · exact h1.elim
    · rename_i hn
      exact h1 w1 H1 v s1.tr s1.gd (postD_of rv (by simpa using hn))⟩
theorem ds_retI {f : Ex} (h : PS X st (tRet (tE c.K c.W f))) : PS X st (tS c (sRetI f)) :=
  h.imp fun D σ H ⟨ρ, r, lo, ⟨w, s⟩, h⟩ => ⟨ρ, r, visW w c.O ρ σ H, s.all.1, s.all.2.1, evI_dl s h fun d r1 r2 w1 H1 t g1 s1 sT h1 v rv => by
    split at h1
    · rename_i hm
      exact h1 _ H1 v s1.tr s1.gd (postD_of (rv.immM sT (.refl _) hm) (imm_notL hm _))
    · exact h1.elim⟩
theorem ds_retN0 (h : PS X st tRetN) : PS X st (tS c (fun _ r => .ret .non r)) :=
  h.imp fun D σ H ⟨ρ, r, lo, ⟨w, s⟩, h⟩ => h w H .non s.tr s.gd (postD_of .non (by cases c.fr <;> rfl))
/-- a new list is handed back -/
theorem postD_new {K : PySem.W.Frag} {fr : Bool} {E : Ent} {H : Hp} {w : Wd} {r : Rs} {ds : List D} {p : Addr} (t : Tr E.w E.H w H) (g : Good K w r H) (n : NewL K w E.H H ds p) : ∃ w', Tr E.w E.H w' H ∧ Good K w' r H ∧ PostD K fr E.H w' H (.lst ds) (.ref p) := by
  cases fr with
  | true => exact ⟨w, t, g, p, rfl, n⟩
  | false =>
    obtain ⟨xs, e, q⟩ := n.at_
    obtain ⟨t2, g2⟩ := tr_see g t n.fresh n.nv n.nm e
    refine ⟨_, t2, g2, .lst upd_same (q.mono (fun a u z => ?_) (.refl _))⟩
    have hne : a ≠ p := by rintro rfl; rw [n.nv] at z; cases z
    show upd w.v p _ a = some u
    rw [upd_ne hne]; exact z
theorem postD_newD {K : PySem.W.Frag} {fr : Bool} {E : Ent} {H : Hp} {w : Wd} {r : Rs} {ds : List (Key × D)} {p : Addr} (t : Tr E.w E.H w H) (g : Good K w r H) (n : NewD K w E.H H ds p) : ∃ w', Tr E.w E.H w' H ∧ Good K w' r H ∧ PostD K fr E.H w' H (.dic ds) (.ref p) := by
  cases fr with
  | true => exact ⟨w, t, g, p, rfl, n⟩
  | false =>
    obtain ⟨xs, e, q⟩ := n.at_
    obtain ⟨t2, g2⟩ := tr_see g t n.fresh n.nv n.nm e
    refine ⟨_, t2, g2, .dic (.inl upd_same) (q.mono (fun a u z => ?_) (.refl _))⟩
    have hne : a ≠ p := by rintro rfl; rw [n.nv] at z; cases z
    show upd w.v p _ a = some u
    rw [upd_ne hne]; exact z
def sRetOD (i : Nat) : Sx := fun ρ r => match ρ[i]? with
  | some (some (.dic ds)) => .ret (.dic ds) r
  | _ => .bad
theorem ds_retOD {i : Nat} (h : PS X st (tRet (tVar i))) (hi : i ∈ c.O) : PS X st (tS c (sRetOD i)) :=
  h.imp fun D σ H ⟨ρ, r, lo, ⟨w, s⟩, h⟩ => by
    unfold sRetOD at h
    split at h
    · rename_i ds e
      obtain ⟨p, h1, h2, h3, h4, h5⟩ := s.ow i _ e hi
      obtain ⟨w', t', g', q⟩ := postD_newD (fr := c.fr) s.tr s.gd ⟨h5, h3, h4, h2⟩
      exact ⟨_, h1, h w' H _ t' g' q⟩
    · exact h.elim
def sRetN (O : List Nat) (f : Lx) : Sx := evF O f fun ds _ r => .ret (.lst ds) r
def sRetNI (f : Lx) : Sx := evI f fun ds _ r => if D.imms ds = true then .ret (.lst ds) r else .bad
theorem ds_retN {f : Lx} (h : PS X st (tRet (tN c.K c.W f))) : PS X st (tS c (sRetN c.O f)) :=
  h.imp fun D σ H ⟨ρ, r, lo, ⟨w, s⟩, h⟩ => ⟨wipeE ρ c.O, r, w, s.gd, s.slots, evF_dl s h fun ds r1 w1 H1 t s1 h1 p n => by
    obtain ⟨w', t', g', q⟩ := postD_new (fr := c.fr) s1.tr s1.gd ⟨s.tr.fresh n.fresh, n.nv, n.nm, n.at_⟩
    exact h1 w' H1 _ t' g' q⟩
theorem ds_retNI {f : Lx} (h : PS X st (tRet (tN c.K c.W f))) : PS X st (tS c (sRetNI f)) :=
  h.imp fun D σ H ⟨ρ, r, lo, ⟨w, s⟩, h⟩ => ⟨ρ, r, visW w c.O ρ σ H, s.all.1, s.all.2.1, evI_dl s h fun ds r1 r2 w1 H1 t g1 s1 sT h1 p n => by
    split at h1
    · rename_i hm
      obtain ⟨xs, e1, q⟩ := n.at_
      obtain ⟨w', t', g', q⟩ := postD_new (fr := c.fr) s1.tr s1.gd ⟨s.tr.fresh n.fresh, (by
        show (if Own c.O ρ σ p then none else w1.v p) = none
        split
        · rfl
        · exact n.nv), n.nm, xs, e1, q.immM sT (.refl _) hm⟩
      exact h1 w' H1 _ t' g' q
    · exact h1.elim⟩
def sRetO (i : Nat) : Sx := fun ρ r => match ρ[i]? with
  | some (some (.lst ds)) => .ret (.lst ds) r
  | _ => .bad
theorem ds_retO {i : Nat} (h : PS X st (tRet (tVar i))) (hi : i ∈ c.O) : PS X st (tS c (sRetO i)) :=
  h.imp fun D σ H ⟨ρ, r, lo, ⟨w, s⟩, h⟩ => by
    unfold sRetO at h
    split at h
    · rename_i ds e
      obtain ⟨p, h1, h2, h3, h4, h5⟩ := s.ow i _ e hi
      obtain ⟨w', t', g', q⟩ := postD_new (fr := c.fr) s.tr s.gd ⟨h5, h3, h4, h2⟩
      exact ⟨_, h1, h w' H _ t' g' q⟩
    · exact h.elim
def sIfF (O : List Nat) (t : Tx) (f g : Sx) : Sx := evF O t fun b ρ r => if b = true then f ρ r else g ρ r
theorem ds_ifF {e : Expr} {a b : List Stmt} {t : Tx} {f g : Sx} (hc : PT X e (tT c.K c.W t)) (ha : PSs X a (tS c f)) (hb : PSs X b (tS c g)) : PS X (.If e a b pos) (tS c (sIfF c.O t f g)) :=
  (ps_if hc ha hb).imp fun D σ H ⟨ρ, r, lo, ⟨w, s⟩, h⟩ => ⟨wipeE ρ c.O, r, w, s.gd, s.slots, evF_dl s h fun b r1 w1 H1 t s1 h1 => by
    cases b with
    | true => exact iteT ⟨ρ, r1, lo, ⟨_, s1⟩, h1⟩
    | false => exact iteF ⟨ρ, r1, lo, ⟨_, s1⟩, h1⟩⟩
def sIf (t : Tx) (f g : Sx) : Sx := evI t fun b ρ r => if b = true then f ρ r else g ρ r
theorem ds_if {e : Expr} {a b : List Stmt} {t : Tx} {f g : Sx} (hc : PT X e (tT c.K c.W t)) (ha : PSs X a (tS c f)) (hb : PSs X b (tS c g)) : PS X (.If e a b pos) (tS c (sIf t f g)) :=
  (ps_if hc ha hb).imp fun D σ H ⟨ρ, r, lo, ⟨w, s⟩, h⟩ => ⟨ρ, r, visW w c.O ρ σ H, s.all.1, s.all.2.1, evI_dl s h fun b r1 r2 w1 H1 t g1 s1 sT h1 => by
    cases b with
    | true => exact iteT ⟨ρ, r2, lo, ⟨_, s1⟩, h1⟩
    | false => exact iteF ⟨ρ, r2, lo, ⟨_, s1⟩, h1⟩⟩
/-! ### loops -/
def forGo (tg : Tg) (body : Sx) : List D → En → Rs → SOut
  | [], ρ, r => .next ρ r
  | d :: ds, ρ, r => match tg d ρ with
    | none => .bad
    | some ρ1 => match body ρ1 r with
      | .next ρ2 r2 => forGo tg body ds ρ2 r2
      | .cont ρ2 r2 => forGo tg body ds ρ2 r2
      | .brk ρ2 r2 => .next ρ2 r2
      | o => o
def sFor (O : List Nat) (it : Lx) (tg : Tg) (body : Sx) : Sx := evF O it (forGo tg body)
def sForI (it : Lx) (tg : Tg) (body : Sx) : Sx := evI it fun ds ρ r => if D.imms ds = true then forGo tg body ds ρ r else .bad
theorem AfterS.lower {lo lo' : Wd} {D : Ends} {o : SOut} (h : AfterS c lo' D o) (a : Sub lo'.v lo.v) (b : Pre lo'.m lo.m) : AfterS c lo D o := by
  cases o with
  | next ρ r => exact fun σ H s => h σ H (s.lower a b)
  | brk ρ r => exact fun σ H s => h σ H (s.lower a b)
  | cont ρ r => exact fun σ H s => h σ H (s.lower a b)
  | ret d r => exact h
  | exc x fs ρ r => exact fun σ H cls dd s => h σ H cls dd (s.lower a b)
  | bad => exact h
theorem SIw.self {K : PySem.W.Frag} {E : Ent} {lo : Wd} {O : List Nat} {ρ : En} {r : Rs} {σ : St} {H : Hp} {w : Wd} (s : SIw K E lo O ρ r σ H w) : SIw K E w O ρ r σ H w := ⟨s.tr, .refl _, .refl _, s.gd, s.len, s.fr, s.ow, s.dj⟩
theorem for_dl {g : TG} {tg : Tg} {js : List Nat} {body : Sx} {tb : TS} (hg : TgD c.K g tg js) (hj : ∀ j ∈ js, j ∉ c.O) (hb : ∀ D σ H, tS c body D σ H → tb D σ H) {J : It} {lo w wk0 : Wd} {ρ : En} {r : Rs} {σ : St} {H : Hp} {D : Ends} {ds : List DL.D}
    (wk : Walks c.K J wk0 ds) (hsub : Sub wk0.v w.v) (hpre : Pre wk0.m w.m) (s : SIw c.K c.E lo c.O ρ r σ H w) (h : AfterS c lo D (forGo tg body ds ρ r)) :
    ∃ W : Nat → Nat → St → Hp → Prop, (∃ m, W 0 m σ H) ∧ ∀ i m σ H, W i m σ H →
      (J.stop i H ∧ D.nx σ H) ∨ (J.go i H ∧ ∃ N : St → Hp → Prop, (∀ σ' H', N σ' H' → ∃ m', m' < m ∧ W (i + 1) m' σ' H') ∧ ∀ x H', J.yld i H x H' → g x σ H' fun σ2 H2 => tb { D with nx := N, ct := N, bk := D.nx } σ2 H2) := by
  have hA : AfterS c w D (forGo tg body ds ρ r) := h.lower s.los s.lop
  refine ⟨fun i m σ H => m = ds.length - i ∧ i ≤ ds.length ∧ ∃ ρ r, SI c.K c.E w c.O ρ r σ H ∧ AfterS c w D (forGo tg body (ds.drop i) ρ r), ⟨ds.length, by simp, Nat.zero_le _, ρ, r, ⟨w, s.self⟩, by rw [List.drop_zero]; exact hA⟩, ?_⟩
  rintro i m σ' H' ⟨rfl, hi, ρ', r', ⟨w', s'⟩, h'⟩
  obtain ⟨hgo, hstop⟩ := wk w' r' H' (hsub.trans s'.los) (hpre.trans s'.lop) s'.gd i
  by_cases hlt : i < ds.length
  · refine .inr ?_
    obtain ⟨go, yl⟩ := hgo ds[i] (List.getElem?_eq_getElem hlt)
    rw [List.drop_eq_getElem_cons hlt] at h'
    refine ⟨go, fun σ2 H2 => ∃ ρ2 r2, SI c.K c.E w c.O ρ2 r2 σ2 H2 ∧ AfterS c w D (forGo tg body (ds.drop (i + 1)) ρ2 r2), fun σ2 H2 q => ⟨ds.length - (i + 1), by omega, rfl, hlt, q⟩, fun x H2 y => ?_⟩
    obtain ⟨w2, t2, g2, rx⟩ := yl x H2 y
    have s2 := s'.step t2 g2
    unfold forGo at h'
    cases e : tg ds[i] ρ' with
    | none => rw [e] at h'; exact h'.elim
    | some ρ1 =>
      rw [e] at h'
      obtain ⟨σ1, k1, k2, k3, k4⟩ := hg w2 r' H2 ρ' ρ1 σ' ds[i] x s2.gd s2.len rx e
      refine k1 _ (hb _ _ _ ⟨ρ1, r', w, ⟨w2, s2.store k2 k3 hj k4⟩, ?_⟩)
      have h2 : AfterS c w D (match body ρ1 r' with
        | .next ρ2 r2 => forGo tg body (ds.drop (i + 1)) ρ2 r2
        | .cont ρ2 r2 => forGo tg body (ds.drop (i + 1)) ρ2 r2
        | .brk ρ2 r2 => .next ρ2 r2
        | o => o) := h'
      revert h2
      generalize body ρ1 r' = o
      intro h2
      cases o with
      | next ρ2 r2 => exact fun σ3 H3 s3 => ⟨ρ2, r2, s3, h2⟩
      | cont ρ2 r2 => exact fun σ3 H3 s3 => ⟨ρ2, r2, s3, h2⟩
      | brk ρ2 r2 => exact fun σ3 H3 s3 => h2 σ3 H3 s3
      | ret d r2 => exact h2
      | exc y fs ρ2 r2 => exact h2
      | bad => exact h2
  · have ei : i = ds.length := by omega
    subst ei
    rw [List.drop_length] at h'
    exact .inl ⟨hstop (Nat.le_refl _), h' σ' H' ⟨w', s'⟩⟩
theorem ds_for {tgt iter : Expr} {body : List Stmt} {it : Lx} {g : TG} {tg : Tg} {js : List Nat} {f : Sx} (hp : PassesOwn (model X.prog X.w) X.A X.env X.xe) (hc : X.calm = true) (hi : PI X tgt iter (tI c.K c.W it)) (hg : PG X tgt g) (hd : TgD c.K g tg js) (hj : ∀ j ∈ js, j ∉ c.O) (hb : PSs X body (tS c f)) (hs : ∀ x, foldedSetIterable iter X.env x = pure x := by intro _; rfl) :
    PS X (.For tgt iter body [] pos) (tS c (sFor c.O it tg f)) :=
  (ps_for hp hc hi hg hb hs).imp fun D σ H ⟨ρ, r, lo, ⟨w, s⟩, h⟩ => ⟨wipeE ρ c.O, r, w, s.gd, s.slots, evF_dl s h fun ds r1 w1 H1 t s1 h1 J wk => for_dl hd hj (fun _ _ _ h => h) wk (.refl _) (.refl _) s1 h1⟩
def whileGo (t : Tx) (body : Sx) : Nat → Sx
  | 0 => fun _ _ => .bad
  | n + 1 => evI t fun b ρ r => if b = true then (match body ρ r with
    | .next ρ2 r2 => whileGo t body n ρ2 r2
    | .cont ρ2 r2 => whileGo t body n ρ2 r2
    | .brk ρ2 r2 => .next ρ2 r2
    | o => o) else .next ρ r
theorem ds_while {e : Expr} {body : List Stmt} {t : Tx} {f : Sx} (n : Nat) (hp : PassesOwn (model X.prog X.w) X.A X.env X.xe) (hc : PT X e (tT c.K c.W t)) (hb : PSs X body (tS c f)) : PS X (.While e body [] pos) (tS c (whileGo t f n)) :=
  (ps_while hp hc hb).imp fun D σ H ⟨ρ, r, lo, s, h⟩ => by
    refine ⟨fun m σ H => ∃ ρ r, SI c.K c.E lo c.O ρ r σ H ∧ AfterS c lo D (whileGo t f m ρ r), ⟨n, ρ, r, s, h⟩, ?_⟩
    rintro m σ H ⟨ρ, r, ⟨w, s⟩, h⟩
    cases m with
    | zero => exact h.elim
    | succ m =>
      refine ⟨ρ, r, visW w c.O ρ σ H, s.all.1, s.all.2.1, evI_dl s h fun b r1 r2 w1 H1 t1 g1 s1 sT h1 => ?_⟩
      cases b with
      | false =>
        rw [if_neg Bool.false_ne_true] at h1 ⊢
        exact h1 σ H1 ⟨_, s1⟩
      | true =>
        rw [if_pos rfl] at h1 ⊢
        refine ⟨fun σ2 H2 => ∃ ρ2 r2, SI c.K c.E lo c.O ρ2 r2 σ2 H2 ∧ AfterS c lo D (whileGo t f m ρ2 r2), fun σ2 H2 q => ⟨m, Nat.lt_succ_self _, q⟩, ρ, r2, lo, ⟨_, s1⟩, ?_⟩
        revert h1
        generalize f ρ r2 = o
        intro h2
        cases o with
        | next ρ2 r2 => exact fun σ3 H3 s3 => ⟨ρ2, r2, s3, h2⟩
        | cont ρ2 r2 => exact fun σ3 H3 s3 => ⟨ρ2, r2, s3, h2⟩
        | brk ρ2 r2 => exact fun σ3 H3 s3 => h2 σ3 H3 s3
        | ret d r2 => exact h2
        | exc y fs ρ2 r2 => exact h2
        | bad => exact h2
def whileGoF (O : List Nat) (t : Tx) (body : Sx) : Nat → Sx
  | 0 => fun _ _ => .bad
  | n + 1 => evF O t fun b ρ r => if b = true then (match body ρ r with
    | .next ρ2 r2 => whileGoF O t body n ρ2 r2
    | .cont ρ2 r2 => whileGoF O t body n ρ2 r2
    | .brk ρ2 r2 => .next ρ2 r2
    | o => o) else .next ρ r
theorem ds_whileF {e : Expr} {body : List Stmt} {t : Tx} {f : Sx} (n : Nat) (hp : PassesOwn (model X.prog X.w) X.A X.env X.xe) (hc : PT X e (tT c.K c.W t)) (hb : PSs X body (tS c f)) : PS X (.While e body [] pos) (tS c (whileGoF c.O t f n)) :=
  (ps_while hp hc hb).imp fun D σ H ⟨ρ, r, lo, s, h⟩ => by
    refine ⟨fun m σ H => ∃ ρ r, SI c.K c.E lo c.O ρ r σ H ∧ AfterS c lo D (whileGoF c.O t f m ρ r), ⟨n, ρ, r, s, h⟩, ?_⟩
    rintro m σ H ⟨ρ, r, ⟨w, s⟩, h⟩
    cases m with
    | zero => exact h.elim
    | succ m =>
      refine ⟨wipeE ρ c.O, r, w, s.gd, s.slots, evF_dl s h fun b r1 w1 H1 t1 s1 h1 => ?_⟩
      cases b with
      | false =>
        rw [if_neg Bool.false_ne_true] at h1 ⊢
        exact h1 σ H1 ⟨_, s1⟩
      | true =>
        rw [if_pos rfl] at h1 ⊢
        refine ⟨fun σ2 H2 => ∃ ρ2 r2, SI c.K c.E lo c.O ρ2 r2 σ2 H2 ∧ AfterS c lo D (whileGoF c.O t f m ρ2 r2), fun σ2 H2 q => ⟨m, Nat.lt_succ_self _, q⟩, ρ, r1, lo, ⟨_, s1⟩, ?_⟩
        revert h1
        generalize f ρ r1 = o
        intro h2
        cases o with
        | next ρ2 r2 => exact fun σ3 H3 s3 => ⟨ρ2, r2, s3, h2⟩
        | cont ρ2 r2 => exact fun σ3 H3 s3 => ⟨ρ2, r2, s3, h2⟩
        | brk ρ2 r2 => exact fun σ3 H3 s3 => h2 σ3 H3 s3
        | ret d r2 => exact h2
        | exc y fs ρ2 r2 => exact h2
        | bad => exact h2
/-! ### x += e over ints, raise -/
def kAug (i : Nat) (op : Int → Int → Int) : D → En → Rs → SOut := fun d ρ r => match ρ[i]?, d with
  | some (some (.int a)), .int b => .next (ρ.set i (some (.int (op a b)))) r
  | _, _ => .bad
def sAug (i : Nat) (op : Int → Int → Int) (f : Ex) : Sx := fun ρ r => match ρ[i]? with
  | some (some (.int _)) => evI f (kAug i op) ρ r
  | _ => .bad
theorem ds_aug {i : Nat} {op : Int → Int → Int} {f : Ex} (h : PS X st (tAug i (tE c.K c.W f) (ipI op))) (hi : i ∉ c.O) : PS X st (tS c (sAug i op f)) :=
  h.imp fun D σ H ⟨ρ, r, lo, ⟨w, s⟩, h⟩ => by
    unfold sAug at h
    split at h
    · rename_i a e
      obtain ⟨v, h1, h2⟩ := s.fr i _ e hi
      cases h2
      refine ⟨_, h1, ρ, r, visW w c.O ρ σ H, s.all.1, s.all.2.1, evI_dl s h fun d r1 r2 w1 H1 t1 g1 s1 sT h3 v rv => ?_⟩
      cases rv with
      | int b =>
        have h4 : AfterS c lo D (.next (ρ.set i (some (.int (op a b)))) r2) := by
          unfold kAug at h3
          rw [e] at h3
          exact h3
        refine ⟨_, _, rfl, rfl, h4 _ _ ⟨_, s1.store (js := [i]) List.length_set List.length_set (fun j hj => by rw [List.mem_singleton.mp hj]; exact hi) fun j => ?_⟩⟩
        by_cases hj : i = j
        · subst hj
          have hl := (List.getElem?_eq_some_iff.mp e).1
          exact .inr ⟨List.mem_singleton.mpr rfl, _, _, List.getElem?_set_self hl, List.getElem?_set_self (by rw [← s.len]; exact hl), .int _⟩
        · exact .inl ⟨List.getElem?_set_ne hj, List.getElem?_set_ne hj⟩
      | _ =>
        unfold kAug at h3
        rw [e] at h3
        exact h3.elim
    · exact h.elim
def sRaise (x : Nat) : Sx := fun ρ r => .exc x [] ρ r
theorem ds_raise {e : Expr} {x : Nat} (hc : X.calm = true) (tk : Takes X c.W) (he : PMk X e (fun _ H Q => Q (.ref (clsA c.K x)) none H)) : PS X (.Raise (some e) none pos) (tS c (sRaise x)) :=
  (ps_raise hc tk he).imp fun D σ H ⟨ρ, r, lo, s, h⟩ => h σ H _ _ s ⟨rfl, (fun _ => rfl), fun z => nomatch z⟩
end
/-! ### a def -/
def runF (N : Nat) (g : Sx) : List D → Rs → Out D := fun ds r => match g (ds.map some ++ List.replicate (N - ds.length) none) r with
  | .next _ r' => .ok .non r'
  | .ret d r' => .ok d r'
  | .exc x fs _ r' => .exc x fs r'
  | _ => .bad
/-- a def's promise by a plain function; fr: a list that it hands back is new -/
def spF (K : PySem.W.Frag) (n : Nat) (fr : Bool) (F : List D → Rs → Out D) : Sp := fun vs H Q E => vs.length = n ∧ ∃ ds r w, Good K w r H ∧ Rps K w.m w.v ds vs ∧ match F ds r with
  | .ok d r' => ∀ w' H' v, Tr w H w' H' → Good K w' r' H' → PostD K fr H w' H' d v → Q v H'
  | .exc c fs r' => ∀ w' H' cls dd, Tr w H w' H' → Good K w' r' H' → ExcAt K c fs cls dd H' → E cls dd H'
  | .bad => False
theorem getE_map {ds : List D} {N i : Nat} {d : D} (h : (ds.map some ++ List.replicate N none)[i]? = some (some d)) : ds[i]? = some d := by
  by_cases hi : i < ds.length
  · rw [List.getElem?_append_left (by rw [List.length_map]; exact hi), List.getElem?_map] at h
    cases e : ds[i]? with
    | none => rw [e] at h; cases h
    | some x => rw [e] at h; cases h; rfl
  · rw [List.getElem?_append_right (by rw [List.length_map]; omega)] at h
    rw [List.getElem?_replicate] at h
    split at h <;> cases h
open PyProof.Rows in
theorem ok_fn {P : Program} {w : World} {K : PySem.W.Frag} {mg : Str → Option Value} {base : Heap} {x qual : Str} {st : Stmt} {f : Addr} {fd : FuncData} {N ps : List Str} {k : Nat} {fr : Bool} (O : List Nat) {g : Sx}
    (F : Fun K x qual st f fd) (S : FnScope N ps (defScope st)) (hO : ∀ i ∈ O, ps.length ≤ i)
    (hb : ∀ (cdv : Value) (A : Around) (outer : List Env) (s : Shared) (H : Hp) (E : XK) (En : Ent), Room k (A.deeper (envOfC qual (defScope st) s.heap.objs.size f cdv)) →
      PSs (cxOf (L2.CX P w) P w K mg base N qual (defScope st) f cdv A outer s H E) (defBody st) (tS ⟨K, fun cls d _ H => E cls d H, En, fr, O⟩ g)) :
    FnOk P w K mg base (L2.CX P w) (k + 1) f fd ps (spF K ps.length fr (runF N.length g)) := by
  refine F.okX S (fun vs H Q E h => h.1) fun cdv A outer s H vs Q E hr h => ?_
  obtain ⟨hl, ds, r, w0, gd, rv, h⟩ := h
  refine ⟨_, hb cdv A outer s H E ⟨w0, H⟩ hr, ds.map some ++ List.replicate (N.length - ds.length) none, r, w0, ⟨w0, .refl _ _, .refl _, .refl _, gd, ?_, fun i d e _ => ?_, fun i d e hi => ?_, fun i j d e p hi _ _ e1 => ?_⟩, ?_⟩
  · unfold L2.start
    rw [List.length_append, List.length_append, List.length_map, List.length_map, List.length_replicate, List.length_replicate, rv.length]
  · obtain ⟨v, h1, h2⟩ := rv.get (getE_map e)
    refine ⟨v, ?_, h2⟩
    unfold L2.start
    have hi : i < vs.length := (List.getElem?_eq_some_iff.mp h1).1
    rw [List.getElem?_append_left (by rw [List.length_map]; exact hi), List.getElem?_map, h1]
    rfl
  · have hi2 := (List.getElem?_eq_some_iff.mp (getE_map e)).1
    have := hO i hi
    have := rv.length
    omega
  · have hi2 := (List.getElem?_eq_some_iff.mp (getE_map e1)).1
    have := hO i hi
    have := rv.length
    omega
  · unfold runF at h
    revert h
    generalize g (ds.map some ++ List.replicate (N.length - ds.length) none) r = o
    intro h
    cases o with
    | next ρ r' =>
      intro σ H' s
      obtain ⟨w1, s⟩ := s
      exact h w1 H' .non s.tr s.gd (postD_of .non (by cases fr <;> rfl))
    | ret d r' => exact fun w1 H' v t g q => h w1 H' v t g q
    | exc c fs ρ r' =>
      intro σ H' cls dd s e
      obtain ⟨w1, s⟩ := s
      exact h w1 H' cls dd s.tr s.gd e
    | brk ρ r' => exact h.elim
    | cont ρ r' => exact h.elim
    | bad => exact h.elim
/-- the weaker promise, as calls take it -/
theorem spF_D {K : PySem.W.Frag} {n : Nat} {fr : Bool} {F : List D → Rs → Out D} (vs : List V) (H : Hp) (Q : VK) (E : XK) (h : spD K n F vs H Q E) : spF K n fr F vs H Q E := by
  obtain ⟨hl, ds, r, w, g, rv, h⟩ := h
  refine ⟨hl, ds, r, w, g, rv, ?_⟩
  revert h
  generalize F ds r = o
  intro h
  cases o with
  | ok d r' =>
    intro w' H' v t gd q
    unfold PostD at q
    split at q
    · obtain ⟨p, rfl, n⟩ := q
      obtain ⟨xs, e, rx⟩ := n.at_
      obtain ⟨t2, g2⟩ := tr_see gd t n.fresh n.nv n.nm e
      refine h _ H' t2 g2 _ (.lst see_at (rx.mono (fun a u z => ?_) (.refl _)))
      have hne : a ≠ p := by rintro rfl; rw [n.nv] at z; cases z
      show upd w'.v p _ a = some u
      rw [upd_ne hne]; exact z
    · obtain ⟨p, rfl, n⟩ := q
      obtain ⟨xs, e, rx⟩ := n.at_
      obtain ⟨t2, g2⟩ := tr_see gd t n.fresh n.nv n.nm e
      refine h _ H' t2 g2 _ (.dic (.inl see_at) (rx.mono (fun a u z => ?_) (.refl _)))
      have hne : a ≠ p := by rintro rfl; rw [n.nv] at z; cases z
      show upd w'.v p _ a = some u
      rw [upd_ne hne]; exact z
    · exact h w' H' t gd v q
  | exc c fs r' => exact h
  | bad => exact h
theorem FnOk.d {P : Program} {w : World} {K : PySem.W.Frag} {mg : Str → Option Value} {base : Heap} {CX : CXT} {k n : Nat} {f : Addr} {fd : FuncData} {ps : List Str} {fr : Bool} {F : List D → Rs → Out D} (G : FnOk P w K mg base CX k f fd ps (spF K n fr F)) :
    FnOk P w K mg base CX k f fd ps (spD K n F) := G.imp fun vs H Q E h => spF_D vs H Q E h
end DL

/-! DL10: dicts; resources. -/
namespace DL
open PySem L2

/-! ### dicts, as data -/
def getK (kds : List (Key × D)) (k : Key) : Option D := (kds.find? fun p => decide (p.1 = k)).map (·.2)
def setK (kds : List (Key × D)) (k : Key) (d : D) : List (Key × D) :=
  if (kds.any fun p => decide (p.1 = k)) = true then kds.map (fun p => if p.1 = k then (p.1, d) else p) else kds ++ [(k, d)]
def keyOf : D → Option Key
  | .int i => some (.inl i)
  | .str x => some (.inr x)
  | _ => none
section
variable {K : PySem.W.Frag} {m : List Addr} {H : Hp}
theorem Rp.key {d : D} {v : V} {k : Key} (h : Rp K m H d v) (e : keyOf d = some k) : v = kV k := by
  cases h <;> simp only [keyOf] at e <;> cases e <;> rfl
theorem Rpk.length : ∀ {kds : List (Key × D)} {kvs : List (Key × V)}, Rpk K m H kds kvs → kds.length = kvs.length
  | _, _, .nil => rfl
  | _, _, .cons _ r => congrArg (· + 1) r.length
theorem Rpk.get (k : Key) : ∀ {kds : List (Key × D)} {kvs : List (Key × V)}, Rpk K m H kds kvs → (∃ d v, getK kds k = some d ∧ valV kvs k = some v ∧ Rp K m H d v) ∨ (getK kds k = none ∧ valV kvs k = none)
  | _, _, .nil => .inr ⟨rfl, rfl⟩
  | (k', d) :: kds, (_, v) :: kvs, .cons h r => by
    by_cases e : k' = k
    · refine .inl ⟨d, v, ?_, valV_pos e, h⟩
      unfold getK
      rw [List.find?_cons]
      simp [e]
    · have e1 : getK ((k', d) :: kds) k = getK kds k := by
        unfold getK
        rw [List.find?_cons]
        simp [e]
      rw [e1, valV_neg (p := (k', v)) e]
      exact Rpk.get k r
theorem Rpk.any (k : Key) : ∀ {kds : List (Key × D)} {kvs : List (Key × V)}, Rpk K m H kds kvs → (kds.any fun p => decide (p.1 = k)) = (kvs.any fun p => decide (p.1 = k))
  | _, _, .nil => rfl
  | _ :: _, _ :: _, .cons _ r => by rw [List.any_cons, List.any_cons, Rpk.any k r]
theorem Rpk.repl (k : Key) {d : D} {v : V} (h : Rp K m H d v) : ∀ {kds : List (Key × D)} {kvs : List (Key × V)}, Rpk K m H kds kvs → Rpk K m H (kds.map fun p => if p.1 = k then (p.1, d) else p) (kvs.map fun p => if p.1 = k then (p.1, v) else p)
  | _, _, .nil => .nil
  | (k', _) :: _, _ :: _, .cons q r => by
    rw [List.map_cons, List.map_cons]
    by_cases e : k' = k
    · rw [if_pos e, if_pos e]
      exact .cons h (Rpk.repl k h r)
    · rw [if_neg e, if_neg e]
      exact .cons q (Rpk.repl k h r)
theorem Rpk.snoc {k : Key} {d : D} {v : V} (h : Rp K m H d v) : ∀ {kds : List (Key × D)} {kvs : List (Key × V)}, Rpk K m H kds kvs → Rpk K m H (kds ++ [(k, d)]) (kvs ++ [(k, v)])
  | _, _, .nil => .cons h .nil
  | _, _, .cons q r => .cons q (Rpk.snoc h r)
theorem Rpk.put (k : Key) {d : D} {v : V} (h : Rp K m H d v) {kds : List (Key × D)} {kvs : List (Key × V)} (r : Rpk K m H kds kvs) : Rpk K m H (setK kds k d) (putK kvs k v) := by
  unfold setK putK
  rw [r.any k]
  split
  · exact r.repl k h
  · exact r.snoc h
end
section
variable {X : Cx} {W : WX}
/-- d[k], d.get(k), d.get(k, x), k in d -/
def dicR (r : Rs) : D → Option (List (Key × D))
  | .dic kds => some kds
  | .loc n => match r[n]? with
    | some (.dic kds) => some kds
    | _ => none
  | _ => none
def dGet (r : Rs) (x y : D) : Option (Option D) := match dicR r x, keyOf y with
  | some kds, some k => some (getK kds k)
  | _, _ => none
theorem dicR_dl {K : PySem.W.Frag} {w : Wd} {r : Rs} {H : Hp} {x : D} {v : V} {kds : List (Key × D)} (g : Good K w r H) (rx : Rp K w.m w.v x v) (e : dicR r x = some kds) : ∃ a kvs, v = .ref a ∧ Rd H a (.dK kvs) ∧ Rpk K w.m w.v kds kvs := by
  cases rx <;> simp only [dicR] at e <;> try (cases e; done)
  case dic a kvs kds' hx rx => cases e; exact ⟨a, kvs, rfl, g.sub.rd hx, rx⟩
  case loc n a hm =>
    cases q : r[n]? with
    | none => rw [q] at e; cases e
    | some o =>
      rw [q] at e
      cases o with
      | lst _ => cases e
      | obj _ _ _ => cases e
      | dic ds =>
        cases e
        obtain ⟨b, hb, _, xs, h1, h2⟩ := g.at_ n _ q
        rw [hm] at hb
        cases hb
        exact ⟨a, xs, rfl, .inl h1, h2⟩
theorem dGet_dl {w : Wd} {r : Rs} {H : Hp} {x y : D} {v u : V} {o : Option D} (g : Good X.K w r H) (rx : Rp X.K w.m w.v x v) (ry : Rp X.K w.m w.v y u) (e : dGet r x y = some o) :
    ∃ a o', v = .ref a ∧ IsD H a ∧ DGet H a u o' ∧ ((o = none ∧ o' = none) ∨ ∃ d z, o = some d ∧ o' = some z ∧ Rp X.K w.m w.v d z) := by
  unfold dGet at e
  cases q1 : dicR r x with
  | none => rw [q1] at e; cases e
  | some kds =>
    cases q2 : keyOf y with
    | none => rw [q1, q2] at e; cases e
    | some k =>
      rw [q1, q2] at e
      cases e
      obtain ⟨a, kvs, ev, hH, rk⟩ := dicR_dl g rx q1
      have hk := ry.key q2
      rcases rk.get k with ⟨d, z, h1, h2, h3⟩ | ⟨h1, h2⟩
      · refine ⟨a, some z, ev, .inl ⟨kvs, hH⟩, ?_, .inr ⟨d, z, h1, rfl, h3⟩⟩
        rw [hk, ← h2]
        exact .inl ⟨kvs, _, hH, rfl, rfl⟩
      · refine ⟨a, none, ev, .inl ⟨kvs, hH⟩, ?_, .inl ⟨h1, rfl⟩⟩
        rw [hk, ← h2]
        exact .inl ⟨kvs, _, hH, rfl, rfl⟩
def xDGet (f g : Ex) : Ex := fun ρ r => (f ρ r).bind fun a r1 => (g ρ r1).bind fun b r2 => match dGet r2 a b with
  | some (some d) => .ok d r2
  | _ => .bad
theorem de_dget {a b : Expr} {pos : Pos} {f g : Ex} {k : Nat} (hr : Room k X.A) (ha : PE X a (tE X.K W f)) (hb : PE X b (tE X.K W g)) (hs : NoSl b := by exact fun _ _ => rfl) : PE X (.Subscript a b pos) (tE X.K W (xDGet f g)) :=
  (pe_dget (hu_of hr) ha hb hs).imp fun σ H Q ⟨ρ, r, w, gd, s, h⟩ => ⟨ρ, r, w, gd, s, h.bind fun a w1 r1 H1 t1 g1 h1 v rv => ⟨ρ, r1, w1, g1, s.mono t1, h1.bind fun b w2 r2 H2 t2 g2 h2 u ru => by
    split at h2
    · rename_i d e
      obtain ⟨p, o', e1, _, e3, e4⟩ := dGet_dl g2 (t2.rp rv) ru e
      rcases e4 with ⟨z, _⟩ | ⟨d', z, e5, e6, e7⟩
      · cases z
      · cases e5
        subst e6
        exact ⟨p, z, e1, e3, h2.ok g2 _ e7⟩
    · exact h2.elim⟩⟩
def D.isD (r : Rs) (d : D) : Bool := (dicR r d).isSome
def xDGet1 (f g : Ex) : Ex := fun ρ r => (f ρ r).bind fun a r1 => if a.isD r1 = true then (g ρ r1).bind fun b r2 => (match dGet r2 a b with
  | some o => .ok (o.getD .non) r2
  | _ => .bad) else .bad
def xDGet2 (f g h : Ex) : Ex := fun ρ r => (f ρ r).bind fun a r1 => if a.isD r1 = true then (g ρ r1).bind fun b r2 => (h ρ r2).bind fun c r3 => (match dGet r3 a b with
  | some o => .ok (o.getD c) r3
  | _ => .bad) else .bad
theorem isD_dl {w : Wd} {r : Rs} {H : Hp} {x : D} {v : V} (g : Good X.K w r H) (rx : Rp X.K w.m w.v x v) (e : x.isD r = true) : ∃ a, v = .ref a ∧ IsD H a := by
  unfold D.isD at e
  rw [Option.isSome_iff_exists] at e
  obtain ⟨kds, e⟩ := e
  obtain ⟨a, kvs, ev, hH, _⟩ := dicR_dl g rx e
  exact ⟨a, ev, .inl ⟨kvs, hH⟩⟩
def xDIn (f g : Ex) : Tx := fun ρ r => (f ρ r).bind fun a r1 => (g ρ r1).bind fun b r2 => match dGet r2 b a with
  | some o => .ok o.isSome r2
  | _ => .bad
theorem dIn_dl {K : PySem.W.Frag} {neg : Bool} {f g : Ex} {σ : L2.St} {H : Hp} {Q : Bool → Hp → Prop} {X : Cx} (eK : X.K = K) (h : tT K W (xDIn f g) σ H (fun b H => Q (neg.xor b) H)) :
    tE K W f σ H fun y H1 => tE K W g σ H1 fun x H2 => ∃ a o, x = .ref a ∧ DGet H2 a y o ∧ Q (neg.xor o.isSome) H2 := by
  subst eK
  obtain ⟨ρ, r, w, gd, s, h⟩ := h
  refine ⟨ρ, r, w, gd, s, h.bind fun a w1 r1 H1 t1 g1 h1 v rv => ⟨ρ, r1, w1, g1, s.mono t1, h1.bind fun b w2 r2 H2 t2 g2 h2 u ru => ?_⟩⟩
  split at h2
  · rename_i o e
    obtain ⟨p, o', e1, _, e3, e4⟩ := dGet_dl g2 ru (t2.rp rv) e
    refine ⟨p, o', e1, e3, ?_⟩
    have h3 := h2.ok g2
    rcases e4 with ⟨z1, z2⟩ | ⟨d', z, e5, e6, e7⟩
    · subst z1; subst z2; exact h3
    · subst e5; subst e6; exact h3
  · exact h2.elim
theorem dt_din {a b : Expr} {pos : Pos} {f g : Ex} {k : Nat} (hr : Room k X.A) (ha : PE X a (tE X.K W f)) (hb : PE X b (tE X.K W g)) (hm : behindInMarks .In b = false := by rfl) : PT X (.Compare a [.In] [b] pos) (tT X.K W (xDIn f g)) :=
  (pt_cmp (pc_din (hu_of hr) ha hb) hm).imp fun σ H Q h => by
    have q := dIn_dl (neg := false) (X := X) (Q := Q) rfl (by simpa using h)
    obtain ⟨ρ, r, w, gd, s, q⟩ := q
    exact ⟨ρ, r, w, gd, s, q.mono fun d w1 r1 H1 t1 g1 q v rv => by
      obtain ⟨ρ2, r2, w2, gd2, s2, q2⟩ := q v rv
      exact ⟨ρ2, r2, w2, gd2, s2, q2.mono fun d2 w3 r3 H3 t3 g3 q3 v3 rv3 => by
        obtain ⟨a, o, e1, e2, e3⟩ := q3 v3 rv3
        exact ⟨a, o, e1, e2, _, rfl, by simpa using e3⟩⟩⟩
theorem dt_dnotin {a b : Expr} {pos : Pos} {f g : Ex} {k : Nat} (hr : Room k X.A) (ha : PE X a (tE X.K W f)) (hb : PE X b (tE X.K W g)) (hm : behindInMarks .NotIn b = false := by rfl) : PT X (.Compare a [.NotIn] [b] pos) (tT X.K W (xNot (xDIn f g))) :=
  (pt_cmp (pc_dnotin (hu_of hr) ha hb) hm).imp fun σ H Q h => by
    have h' : tT X.K W (xDIn f g) σ H (fun b H => Q (!b) H) := by
      obtain ⟨ρ, r, w, gd, s, h⟩ := h
      exact ⟨ρ, r, w, gd, s, h.bind fun b w1 r1 H1 t1 g1 h1 => h1.ok g1⟩
    have q := dIn_dl (neg := true) (X := X) (Q := Q) rfl (by simpa using h')
    obtain ⟨ρ, r, w, gd, s, q⟩ := q
    exact ⟨ρ, r, w, gd, s, q.mono fun d w1 r1 H1 t1 g1 q v rv => by
      obtain ⟨ρ2, r2, w2, gd2, s2, q2⟩ := q v rv
      exact ⟨ρ2, r2, w2, gd2, s2, q2.mono fun d2 w3 r3 H3 t3 g3 q3 v3 rv3 => by
        obtain ⟨a, o, e1, e2, e3⟩ := q3 v3 rv3
        exact ⟨a, o, e1, e2, _, rfl, by simpa using e3⟩⟩⟩
section
variable {o e f : Expr} {apos cpos : Pos} {fo fe ff : Ex} {k : Nat}
theorem de_get1 (hr : Room k X.A) (ho : PE X o (tE X.K W fo)) (he : PE X e (tE X.K W fe)) (m : M1 X o "get" apos e cpos := by exact ⟨rfl, rfl, rfl, rfl⟩) : PE X (.Call (.Attribute o "get" apos) [e] [] cpos) (tE X.K W (xDGet1 fo fe)) :=
  (pe_dget1 (hu_of hr) ho he m).imp fun σ H Q ⟨ρ, r, w, gd, s, h⟩ => ⟨ρ, r, w, gd, s, h.bind fun a w1 r1 H1 t1 g1 h1 v rv => by
    split at h1
    · rename_i hd
      obtain ⟨p, ep, ip⟩ := isD_dl g1 rv hd
      refine ⟨p, ep, ip, ρ, r1, w1, g1, s.mono t1, h1.bind fun b w2 r2 H2 t2 g2 h2 u ru => ?_⟩
      split at h2
      · rename_i o e
        obtain ⟨p', o', e1, _, e3, e4⟩ := dGet_dl g2 (t2.rp rv) ru e
        rw [ep] at e1
        cases e1
        refine ⟨o', e3, ?_⟩
        rcases e4 with ⟨z1, z2⟩ | ⟨d', z, e5, e6, e7⟩
        · subst z1; subst z2
          exact h2.ok g2 _ .non
        · subst e5; subst e6
          exact h2.ok g2 _ e7
      · exact h2.elim
    · exact h1.elim⟩
theorem de_get2 (hr : Room k X.A) (ho : PE X o (tE X.K W fo)) (he : PE X e (tE X.K W fe)) (hf : PE X f (tE X.K W ff)) (m : M2 X o "get" apos e f cpos := by exact ⟨rfl, rfl, rfl, rfl⟩) : PE X (.Call (.Attribute o "get" apos) [e, f] [] cpos) (tE X.K W (xDGet2 fo fe ff)) :=
  (pe_dget2 (hu_of hr) ho he hf m).imp fun σ H Q ⟨ρ, r, w, gd, s, h⟩ => ⟨ρ, r, w, gd, s, h.bind fun a w1 r1 H1 t1 g1 h1 v rv => by
    split at h1
    · rename_i hd
      obtain ⟨p, ep, ip⟩ := isD_dl g1 rv hd
      refine ⟨p, ep, ip, ρ, r1, w1, g1, s.mono t1, h1.bind fun b w2 r2 H2 t2 g2 h2 u ru => ⟨ρ, r2, w2, g2, s.mono (t1.trans t2), h2.bind fun c w3 r3 H3 t3 g3 h3 x rx => ?_⟩⟩
      split at h3
      · rename_i o e
        obtain ⟨p', o', e1, _, e3, e4⟩ := dGet_dl g3 ((t2.trans t3).rp rv) (t3.rp ru) e
        rw [ep] at e1
        cases e1
        refine ⟨o', e3, ?_⟩
        rcases e4 with ⟨z1, z2⟩ | ⟨d', z, e5, e6, e7⟩
        · subst z1; subst z2
          exact h3.ok g3 _ rx
        · subst e5; subst e6
          exact h3.ok g3 _ e7
      · exact h3.elim
    · exact h1.elim⟩
end
/-- a written dict's item -/
def xKD (tab : List (Str × D)) (g : Ex) : Ex := fun ρ r => (g ρ r).bind fun b r1 => match b with
  | .str x => (match tab.lookup x with
    | some d => .ok d r1
    | none => .bad)
  | _ => .bad
theorem de_kd {a b : Expr} {pos : Pos} {g : Ex} {p : Addr} {tab : List (Str × D)} (ha : PE X a (tC (.ref p))) (hb : PE X b (tE X.K W g)) (ht : ∀ x d, tab.lookup x = some d → ∃ v, KDct X.K X.w p x v ∧ ∀ m H, Rp X.K m H d v) (hs : PlainIx b := by exact fun _ _ => rfl) :
    PE X (.Subscript a b pos) (tE X.K W (xKD tab g)) :=
  (pe_ix ix_kdict ha hb hs).imp fun σ H Q ⟨ρ, r, w, gd, s, h⟩ => ⟨ρ, r, w, gd, s, h.bind fun b w1 r1 H1 t1 g1 h1 v rv => by
    split at h1
    · split at h1
      · rename_i d e
        obtain ⟨z, k1, k2⟩ := ht _ d e
        cases rv
        exact ⟨p, _, z, rfl, rfl, k1, h1.ok g1 _ (k2 _ _)⟩
      · exact h1.elim
    · exact h1.elim⟩
/-! ### a new dict -/
abbrev Dx := En → Rs → Out (List (Key × D))
def tND (K : PySem.W.Frag) (W : WX) (f : Dx) : TE := fun σ H Q => ∃ ρ r w, Good K w r H ∧ Slots K w ρ σ ∧
  After K W w H σ (f ρ r) fun ds w' _ H' => ∀ p, NewD K w' H H' ds p → Q (.ref p) H'
def xD (f : Dx) : Ex := fun ρ r => (f ρ r).bind fun ds r1 => .ok (.dic ds) r1
theorem de_nd {e : Expr} {f : Dx} (h : PE X e (tND X.K W f)) : PE X e (tE X.K W (xD f)) := h.imp fun σ H Q ⟨ρ, r, w, g, s, h⟩ => ⟨ρ, r, w, g, s, h.fst fun ds w1 r1 H1 _ t1 g1 q _ p n => by
  obtain ⟨xs, hp, rx⟩ := n.at_
  obtain ⟨t2, g2⟩ := tr_see g1 t1 n.fresh n.nv n.nm hp
  refine q _ r1 rfl (w1.see p (.dK xs)) H1 t2 g2 (.ref p) (.dic (.inl see_at) ?_)
  exact rx.mono (fun a u e => by
    have hne : a ≠ p := by rintro rfl; rw [n.nv] at e; cases e
    show upd w1.v p _ a = some u
    rw [upd_ne hne]; exact e) (.refl _)⟩
theorem newD_hid {K : PySem.W.Frag} {w w0 : Wd} {r : Rs} {H0 H : Hp} (g : Good K w r H) (t : Tr w0 H0 w H) {p : Addr} {ds : List (Key × D)} {xs : List (Key × V)} (h : H p = none) (rx : Rpk K w.m w.v ds xs) : NewD K w H0 (upd H p (.dK xs)) ds p :=
  ⟨t.fresh h, g.none_of h, fun hm => g.live hm h, xs, upd_same, rx⟩
def xDNew : Dx := fun _ r => .ok [] r
theorem dnd_new {pos : Pos} : PE X (.Dict [] [] pos) (tND X.K W xDNew) := pe_dnewK.imp fun σ H Q ⟨ρ, r, w, g, s, h⟩ p hp => by
  obtain ⟨t2, g2⟩ := tr_hid (o := .dK []) g hp
  exact h w _ t2 g2 p (newD_hid g (.refl _ _) hp .nil)
/-- dict(x): a copy -/
theorem call_dictC : CallR X (.type "dict") (fun xs H Q => ∃ a kvs, xs = [.ref a] ∧ Rd H a (.dK kvs) ∧ ∀ p, H p = none → Q (.ref p) (upd H p (.dK kvs))) := by
  intro pins s σ H xs us Q I r h
  obtain ⟨a, kvs, rfl, e, q⟩ := h
  obtain ⟨u, rfl, ru⟩ := vals1 r
  obtain rfl : u = Value.ref a := ru
  exact d_copyOf I e fun p s' hp I' => ⟨.ref p, _, I', rfl, q p hp⟩
def dicOf : List D → Option (List (Key × D))
  | [.dic kds] => some kds
  | _ => none
def xDCopy (f : Ax) : Dx := fun ρ r => (f ρ r).bind fun ds r1 => match dicOf ds with
  | some kds => .ok kds r1
  | none => .bad
theorem dnd_copy {x : Str} {p pos : Pos} {e : Expr} {es : List Expr} {f : Ax} (hg : Gl X x) (hm : X.mg x = none) (hv : bootBuiltins x = some (.type "dict")) (ha : PA X (e :: es) (tA X.K W f)) (hn : x ≠ "__name__" := by decide) (hdb : (x == ("__debug__" : Str)) = false := by decide)
    (he : starEach (e :: es) X.env = (false, eval e X.env) :: starEach es X.env := by rfl) (hpl : (backTo pos (starEach es X.env)).any (·.1) = false := by rfl) : PE X (.Call (.Name x p) (e :: es) [] pos) (tND X.K W (xDCopy f)) :=
  (pe_callTy call_dictC hg hm hv ha hn hdb he hpl).imp fun σ H Q ⟨ρ, r, w, gd, s, h⟩ => ⟨ρ, r, w, gd, s, h.fst fun ds w1 r1 H1 _ t1 g1 q h1 vs rvs => by
    split at h1
    · rename_i kds e
      have e' : (match dicOf ds with | some kds => Out.ok kds r1 | none => .bad) = .ok kds r1 := by rw [e]
      cases rvs with
      | nil => cases e
      | cons rv rt =>
        cases rt with
        | cons _ _ => cases rv <;> cases e
        | nil =>
          cases rv with
          | dic hx rx =>
            cases e
            refine ⟨_, _, rfl, g1.sub.rd hx, fun p hp => ?_⟩
            obtain ⟨t2, g2⟩ := tr_hid g1 hp
            exact q _ r1 e' w1 _ (t1.trans t2) g2 p (newD_hid g1 t1 hp rx)
          | _ => cases e
    · exact h1.elim⟩
/-! the display {k: v, ..} -/
def xPs : List (Ex × Ex) → En → Rs → Out (List (Key × D))
  | [], _, r => .ok [] r
  | (f, g) :: ps, ρ, r => (f ρ r).bind fun a r1 => (g ρ r1).bind fun b r2 => match keyOf a with
    | some k => (xPs ps ρ r2).bind fun l r3 => .ok ((k, b) :: l) r3
    | none => .bad
def mergeD (kds more : List (Key × D)) : List (Key × D) := more.foldl (fun acc p => setK acc p.1 p.2) kds
theorem Rpk.merge {K : PySem.W.Frag} {m : List Addr} {H : Hp} : ∀ {more : List (Key × D)} {mv : List (Key × V)} {kds : List (Key × D)} {kvs : List (Key × V)}, Rpk K m H more mv → Rpk K m H kds kvs → Rpk K m H (mergeD kds more) (mergeK kvs mv)
  | _, _, _, _, .nil, r => r
  | (k, d) :: more, (_, v) :: mv, kds, kvs, .cons h t, r => by
    show Rpk K m H (mergeD (setK kds k d) more) (mergeK (putK kvs k v) mv)
    exact Rpk.merge t (r.put k h)
/-- the pairs' readings -/
def tPr (K : PySem.W.Frag) (W : WX) (ps : List (Ex × Ex)) : List (TE × TE) := ps.map fun p => (tE K W p.1, tE K W p.2)
theorem pairs_dl {K : PySem.W.Frag} {σ : L2.St} : ∀ (ps : List (Ex × Ex)) {H : Hp} {Q : List (V × V) → Hp → Prop} {ρ : En} {r : Rs} {w : Wd}, Good K w r H → Slots K w ρ σ →
    After K W w H σ (xPs ps ρ r) (fun l w' _ H' => ∀ vs : List (Key × V), Rpk K w'.m w'.v l vs → Q (vs.map fun kv => (kV kv.1, kv.2)) H') → tPairs (tPr K W ps) σ H Q
  | [], H, Q, ρ, r, w, g, s, h => h.ok g [] .nil
  | (f, k) :: ps, H, Q, ρ, r, w, g, s, h => by
    refine ⟨ρ, r, w, g, s, h.bind fun a w1 r1 H1 t1 g1 h1 v rv => ⟨ρ, r1, w1, g1, s.mono t1, h1.bind fun b w2 r2 H2 t2 g2 h2 u ru => ?_⟩⟩
    split at h2
    · rename_i k e
      refine pairs_dl ps g2 (s.mono (t1.trans t2)) (h2.bind fun l w3 r3 H3 t3 g3 h3 vs rvs => ?_)
      have := h3.ok g3 ((k, u) :: vs) (.cons (t3.rp ru) rvs)
      rw [List.map_cons] at this
      rw [rv.key e]
      exact this
    · exact h2.elim
def xDisp (ps : List (Ex × Ex)) : Dx := fun ρ r => (xPs ps ρ r).bind fun l r1 => if l.length ≤ 15 then .ok (mergeD [] l) r1 else .bad
theorem xPs_len : ∀ {ps : List (Ex × Ex)} {ρ : En} {r : Rs} {l : List (Key × D)} {r' : Rs}, xPs ps ρ r = .ok l r' → l.length = ps.length := by
  intro ps
  induction ps with
  | nil => intro ρ r l r' h; cases h; rfl
  | cons p ps ih =>
    intro ρ r l r' h
    obtain ⟨f, g⟩ := p
    unfold xPs at h
    cases e1 : f ρ r with
    | exc c fs r1 => rw [e1] at h; cases h
    | bad => rw [e1] at h; cases h
    | ok a r1 =>
      rw [e1] at h
      have h : ((g ρ r1).bind fun b r2 => match keyOf a with | some k => (xPs ps ρ r2).bind fun l r3 => .ok ((k, b) :: l) r3 | none => .bad) = Out.ok l r' := h
      cases e2 : g ρ r1 with
      | exc c fs r2 => rw [e2] at h; cases h
      | bad => rw [e2] at h; cases h
      | ok b r2 =>
        rw [e2] at h
        have h : (match keyOf a with | some k => (xPs ps ρ r2).bind fun l r3 => .ok ((k, b) :: l) r3 | none => .bad) = Out.ok l r' := h
        cases e3 : keyOf a with
        | none => rw [e3] at h; cases h
        | some k =>
          rw [e3] at h
          have h : ((xPs ps ρ r2).bind fun l r3 => .ok ((k, b) :: l) r3) = Out.ok l r' := h
          cases e4 : xPs ps ρ r2 with
          | exc c fs r2 => rw [e4] at h; cases h
          | bad => rw [e4] at h; cases h
          | ok l2 r3 =>
            rw [e4] at h
            cases h
            rw [List.length_cons, List.length_cons, ih e4]
theorem dnd_disp {pos : Pos} {keys : List (Option Expr)} {values : List Expr} {ps : List (Ex × Ex)} (h : PPs X pos keys values (tPr X.K W ps)) (hall : keys.all (·.isSome) = true) (hl : keys.length = values.length) (h0 : keys ≠ []) (h15 : keys.length ≤ 15) :
    PE X (.Dict keys values pos) (tND X.K W (xDisp ps)) :=
  (pe_disp h hall hl h0 h15).imp fun σ H Q ⟨ρ, r, w, g, s, h⟩ p hp => by
    obtain ⟨t0, g0⟩ := tr_hid (o := .dK []) g hp
    have hv := g.none_of hp
    have hm : p ∉ w.m := fun z => g.live z hp
    have h' : After X.K W w (upd H p (.dK [])) σ (xPs ps ρ r) (fun l w' _ H' => ∀ vs : List (Key × V), Rpk X.K w'.m w'.v l vs → H' p = some (.dK []) ∧ ∃ kvs : List (Key × V), vs.map (fun kv => (kV kv.1, kv.2)) = kvs.map (fun kv => (kV kv.1, kv.2)) ∧ kvs.length ≤ 15 ∧ Q (.ref p) (upd H' p (.dK (mergeK [] kvs)))) := by
      unfold xDisp at h
      revert h
      generalize xPs ps ρ r = o
      intro h
      cases o with
      | ok l r1 =>
        intro w1 H1 t1 g1 vs rvs
        have t := t0.trans t1
        obtain ⟨k1, k2, k3⟩ := own_keep t1 (upd_same : upd H p (.dK []) p = _) hv hm
        have hp1 : H1 p = some (.dK []) := k1.trans upd_same
        have h : After X.K W w H σ (if l.length ≤ 15 then Out.ok (mergeD [] l) r1 else .bad) _ := h
        split at h
        · rename_i hl15
          refine ⟨hp1, vs, rfl, by rw [← rvs.length]; exact hl15, ?_⟩
          obtain ⟨t2, g2⟩ := tr_own (u := .dK (mergeK [] vs)) g1 t hp k2 k3 hp1
          exact h w1 _ t2 g2 p ⟨hp, k2, k3, _, upd_same, Rpk.merge rvs .nil⟩
        · exact h.elim
      | exc c fs r1 => exact fun w1 H1 cls dd t1 g1 e => h w1 H1 cls dd (t0.trans t1) g1 e
      | bad => exact h
    exact pairs_dl ps g0 ⟨s.len, s.at_⟩ h'
end
/-! ### statements over dicts of one's own -/
section
variable {X : Cx} {c : Sc} {st : Stmt} {pos : Pos}
theorem SIw.newD {K : PySem.W.Frag} {E : Ent} {lo : Wd} {O : List Nat} {ρ : En} {r r' : Rs} {σ : L2.St} {H H0 : Hp} {w w0 : Wd} {ds : List (Key × D)} {p : Addr} {i : Nat} (s : SIw K E lo O ρ r σ H w) (s0 : SIw K E lo O ρ r' σ H0 w0) (hi : i ∈ O) (hil : i < ρ.length) (n : NewD K w H0 H ds p) :
    SIw K E lo O (ρ.set i (some (.dic ds))) r (σ.set i (some (.ref p))) H w := by
  refine s.setOwn hi hil n.at_ n.nv n.nm (s0.tr.fresh n.fresh) fun j e hj hji q z => ?_
  obtain ⟨p2, a1, a2, _⟩ := s0.ow j e q hj
  rw [z] at a1
  cases a1
  obtain ⟨o, ho, _⟩ := a2.live
  rw [n.fresh] at ho
  cases ho
def kOwnD (i : Nat) : List (Key × D) → En → Rs → SOut := fun ds ρ r => if i < ρ.length then .next (ρ.set i (some (.dic ds))) r else .bad
def sAsgD (O : List Nat) (i : Nat) (f : Dx) : Sx := evF O f (kOwnD i)
theorem ds_asgD {f : Dx} {i : Nat} (h : PS X st (tAsg (tND c.K c.W f) (gName i))) (hi : i ∈ c.O) : PS X st (tS c (sAsgD c.O i f)) :=
  h.imp fun D σ H ⟨ρ, r, lo, ⟨w, s⟩, h⟩ => ⟨wipeE ρ c.O, r, w, s.gd, s.slots, evF_dl s h fun ds r1 w1 H1 t s1 h1 p n => by
    unfold kOwnD at h1
    split at h1
    · rename_i hl
      exact h1 _ _ ⟨w1, s1.newD s hi hl n⟩
    · exact h1.elim⟩
/-- d[k] = v, d of one's own -/
def kDPut (i : Nat) (v : D) : D → En → Rs → SOut := fun k ρ r => match keyOf k, ρ[i]? with
  | some k, some (some (.dic kds)) => if kds.length < lim then .next (ρ.set i (some (.dic (setK kds k v)))) r else .bad
  | _, _ => .bad
def sDPut' (O : List Nat) (i : Nat) (fk fv : Ex) : Sx := evF O fv fun v => evF O fk (kDPut i v)
def isOwnD (i : Nat) (g : Sx) : Sx := fun ρ r => match ρ[i]? with
  | some (some (.dic _)) => g ρ r
  | _ => .bad
theorem ds_dput {i : Nat} {fk fv : Ex} (h : PS X st (sDPut (tVar i) (tE c.K c.W fk) (tE c.K c.W fv))) (hi : i ∈ c.O) : PS X st (tS c (isOwnD i (sDPut' c.O i fk fv))) :=
  h.imp fun D σ H ⟨ρ, r, lo, ⟨w, s⟩, h⟩ => by
    unfold isOwnD at h
    split at h
    · rename_i kds e
      obtain ⟨p, h1, h2, _⟩ := s.ow i _ e hi
      refine ⟨wipeE ρ c.O, r, w, s.gd, s.slots, evF_dl s h fun v r1 w1 H1 t s1 h2 x rx => ⟨_, h1, wipeE ρ c.O, r1, w1, s1.gd, s1.slots, evF_dl s1 h2 fun k r2 w2 H2 t2 s2 h3 y ry => ?_⟩⟩
      unfold kDPut at h3
      split at h3
      · rename_i k' kds' q1 q2
        split at h3
        · rename_i hl
          obtain ⟨p', a1, a2, _⟩ := s2.ow i _ q2 hi
          rw [h1] at a1
          cases a1
          obtain ⟨kvs, b1, b2⟩ := a2
          refine ⟨p, _, rfl, .inl ⟨kvs, k', b1, ry.key q1, by rw [← b2.length]; exact lim_lt hl, rfl⟩, h3 _ _ ⟨w2, s2.mut hi q2 h1 ⟨_, upd_same, b2.put k' (t2.rp rx)⟩⟩⟩
        · exact h3.elim
      · exact h3.elim
    · exact h.elim
end
/-! ### resources -/
section
variable {X : Cx} {W : WX}
theorem roAt_live {K : PySem.W.Frag} {m : List Addr} {v H : Hp} {a : Addr} {o : RO} (h : RoAt K m v H a o) : ∃ u, H a = some u ∧ ∀ xs, ¬ Rd H a (.tup xs) := by
  cases o with
  | lst ds => obtain ⟨_, xs, e, _⟩ := h; exact ⟨_, e, fun ys z => by rcases z with z | ⟨u, z⟩ <;> (rw [e] at z; cases z)⟩
  | dic ds => obtain ⟨_, xs, e, _⟩ := h; exact ⟨_, e, fun ys z => by rcases z with z | ⟨u, z⟩ <;> (rw [e] at z; cases z)⟩
  | obj i c fs => obtain ⟨dx, xs, e, _⟩ := h; exact ⟨_, e, fun ys z => by rcases z with z | ⟨u, z⟩ <;> (rw [e] at z; cases z)⟩
/-- a resource is changed -/
theorem good_res {K : PySem.W.Frag} {w : Wd} {r : Rs} {H : Hp} (g : Good K w r H) {n : Nat} {a : Addr} {o o' : RO} {u : HO} (hm : w.m[n]? = some a) (hr : r[n]? = some o) (ho : o.isObj = false) (ho' : o'.isObj = false) (h : RoAt K w.m w.v (upd H a u) a o') : Tr w H w (upd H a u) ∧ Good K w (r.set n o') (upd H a u) := by
  have ha : a ∈ w.m := List.mem_iff_getElem?.mpr ⟨n, hm⟩
  obtain ⟨a', ha', x⟩ := g.at_ n o hr
  rw [hm] at ha'
  cases ha'
  obtain ⟨u0, hu, nt⟩ := roAt_live x
  refine ⟨⟨.refl _, .refl _, fun b q e n => ?_, fun b e => ?_, fun b e => .inl e, fun b e => .inl e, fun b xs e => ?_, fun _ _ => Nat.le_refl _, fun j b C dx fs hj hb _ => ?_⟩, ⟨fun b q e => ?_, g.dis, by rw [List.length_set]; exact g.len, g.nd, fun j q e => ?_, fun j i c fs e => ?_⟩⟩
  · have hne : b ≠ a := by rintro rfl; exact n ha
    rw [upd_ne hne]; exact e
  · by_cases hb : b = a
    · subst hb; rw [upd_same]; intro z; cases z
    · rw [upd_ne hb]; exact e
  · have hne : b ≠ a := by rintro rfl; exact nt xs e
    rcases e with e | ⟨z, e⟩
    · exact .inl (by rw [upd_ne hne]; exact e)
    · exact .inr ⟨z, by rw [upd_ne hne]; exact e⟩
  · have hne : b ≠ a := by
      rintro rfl
      cases o with
      | lst ds => obtain ⟨_, xs, e, _⟩ := x; rw [e] at hb; cases hb
      | dic ds => obtain ⟨_, xs, e, _⟩ := x; rw [e] at hb; cases hb
      | obj i c fs => cases ho
    exact upd_ne hne
  · have hne : b ≠ a := by rintro rfl; rw [g.dis b ha] at e; cases e
    rw [upd_ne hne]; exact g.sub b q e
  · by_cases hj : n = j
    · subst hj
      rw [List.getElem?_set_self (List.getElem?_eq_some_iff.mp hr).1] at e
      cases e
      exact ⟨a, hm, h⟩
    · rw [List.getElem?_set_ne hj] at e
      obtain ⟨b, hb, y⟩ := g.at_ j q e
      refine ⟨b, hb, roAt_mono (.refl _) (.refl _) (upd_ne ?_) y⟩
      rintro rfl
      obtain ⟨l1, e1⟩ := List.getElem?_eq_some_iff.mp hm
      obtain ⟨l2, e2⟩ := List.getElem?_eq_some_iff.mp hb
      exact hj ((List.getElem_inj g.nd).mp (e1.trans e2.symm))
  · by_cases hj : n = j
    · subst hj
      rw [List.getElem?_set_self (List.getElem?_eq_some_iff.mp hr).1] at e
      cases e
      cases ho'
    · rw [List.getElem?_set_ne hj] at e
      exact g.gv j i c fs e
/-- xs.append(e), xs a resource -/
def xAppR (f : Ex) (g : Ax) : Ex := fun ρ r => (f ρ r).bind fun a r1 => match a with
  | .loc n => (match r1[n]? with
    | some (.lst _) => (g ρ r1).bind fun ds r2 => (match ds, r2[n]? with
      | [d], some (.lst xs) => if d.imm && decide (xs.length < lim) then .ok .non (r2.set n (.lst (xs ++ [d]))) else .bad
      | _, _ => .bad)
    | _ => .bad)
  | _ => .bad
theorem imms_snoc {d : D} (h : d.imm = true) : ∀ {xs : List D}, D.imms xs = true → D.imms (xs ++ [d]) = true
  | [], _ => by show D.imms [d] = true; simp [D.imms, h]
  | x :: xs, e => by
    rw [D.imms, Bool.and_eq_true] at e
    show D.imms (x :: (xs ++ [d])) = true
    rw [D.imms, e.1, imms_snoc h e.2]
    rfl
theorem imms_set {d : D} (h : d.imm = true) : ∀ {xs : List D} (n : Nat), D.imms xs = true → D.imms (xs.set n d) = true
  | [], _, _ => rfl
  | x :: xs, 0, e => by
    rw [D.imms, Bool.and_eq_true] at e
    show D.imms (d :: xs) = true
    rw [D.imms, h, e.2]
    rfl
  | x :: xs, n + 1, e => by
    rw [D.imms, Bool.and_eq_true] at e
    show D.imms (x :: xs.set n d) = true
    rw [D.imms, e.1, imms_set h n e.2]
    rfl
theorem de_appR {e : Expr} {f : Ex} {g : Ax} (h : PE X e (tBM X.K "list" rAppend (tE X.K W f) (tA X.K W g))) : PE X e (tE X.K W (xAppR f g)) :=
  h.imp fun σ H Q ⟨ρ, r, w, gd, s, h⟩ => ⟨ρ, r, w, gd, s, h.bind fun a w1 r1 H1 t1 g1 h1 v rv => by
    split at h1
    · rename_i n
      split at h1
      · rename_i ds0 hr0
        cases rv with
        | loc hm =>
          obtain ⟨_, ys, k1, _⟩ := good_loc g1 hm hr0
          refine ⟨.inl ⟨rfl, ys, SqL.of k1⟩, ρ, r1, w1, g1, s.mono t1, h1.bind fun ds w2 r2 H2 t2 g2 h2 vs rvs => ?_⟩
          split at h2
          · rename_i d xs hr
            split at h2
            · rename_i hc
              rw [Bool.and_eq_true, decide_eq_true_eq] at hc
              have hm2 := t2.pre _ _ hm
              obtain ⟨im, zs, q1, q2⟩ := good_loc g2 hm2 hr
              cases rvs with
              | cons ry rt =>
                cases rt
                refine ⟨_, zs, _, rfl, rfl, q1, by rw [← q2.length]; exact lim_lt hc.2, ?_⟩
                obtain ⟨t3, g3⟩ := good_res g2 hm2 hr rfl rfl (o' := .lst (xs ++ [d])) (u := .lst (zs ++ [_])) ⟨imms_snoc hc.1 im, _, upd_same, q2.append (.one ry)⟩
                exact h2 w2 _ t3 g3 _ .non
            · exact h2.elim
          · exact h2.elim
      · exact h1.elim
    · exact h1.elim⟩
/-- a new resource -/
theorem good_add {K : PySem.W.Frag} {w : Wd} {r : Rs} {H0 H : Hp} {w0 : Wd} (g : Good K w r H) (t : Tr w0 H0 w H) {ds : List D} {p : Addr} (n : NewL K w H0 H ds p) (hi : D.imms ds = true) :
    Tr w0 H0 ⟨w.m ++ [p], w.v, w.g⟩ H ∧ Good K ⟨w.m ++ [p], w.v, w.g⟩ (r ++ [.lst ds]) H ∧ (w.m ++ [p])[r.length]? = some p := by
  have pr : Pre w.m (w.m ++ [p]) := fun k a e => by rw [List.getElem?_append_left (List.getElem?_eq_some_iff.mp e).1]; exact e
  have hp : (w.m ++ [p])[r.length]? = some p := by
    rw [← g.len, List.getElem?_append_right (Nat.le_refl _), Nat.sub_self]
    rfl
  refine ⟨⟨t.sub, t.pre.trans pr, t.keep, t.live, t.newv, fun b hb => ?_, t.tups, t.gm, t.same⟩, ⟨g.sub, fun a ha => ?_, ?_, ?_, fun k o e => ?_, fun k i c fs e => ?_⟩, hp⟩
  · rcases List.mem_append.mp hb with z | z
    · exact t.newm b z
    · rw [List.mem_singleton.mp z]; exact .inr n.fresh
  · rcases List.mem_append.mp ha with z | z
    · exact g.dis a z
    · rw [List.mem_singleton.mp z]; exact n.nv
  · rw [List.length_append, List.length_append, g.len]; rfl
  · refine List.nodup_append.mpr ⟨g.nd, by simp, fun a ha b hb => ?_⟩
    rw [List.mem_singleton.mp hb]
    rintro rfl
    exact n.nm ha
  · by_cases hk : k < r.length
    · rw [List.getElem?_append_left hk] at e
      obtain ⟨a, ha, x⟩ := g.at_ k o e
      exact ⟨a, pr k a ha, roAt_mono (.refl _) pr rfl x⟩
    · have hk2 : k = r.length := by
        have := (List.getElem?_eq_some_iff.mp e).1
        rw [List.length_append] at this
        simp only [List.length_singleton] at this
        omega
      subst hk2
      rw [List.getElem?_append_right (Nat.le_refl _), Nat.sub_self] at e
      cases e
      obtain ⟨xs, e1, q⟩ := n.at_
      exact ⟨p, hp, hi, xs, e1, q.mono (.refl _) pr⟩
  · by_cases hk : k < r.length
    · rw [List.getElem?_append_left hk] at e
      exact g.gv k i c fs e
    · have hk2 : k = r.length := by
        have := (List.getElem?_eq_some_iff.mp e).1
        rw [List.length_append] at this
        simp only [List.length_singleton] at this
        omega
      subst hk2
      rw [List.getElem?_append_right (Nat.le_refl _), Nat.sub_self] at e
      cases e
def xRes (f : Lx) : Ex := fun ρ r => (f ρ r).bind fun ds r1 => if D.imms ds = true then .ok (.loc r1.length) (r1 ++ [.lst ds]) else .bad
theorem de_res {e : Expr} {f : Lx} (h : PE X e (tN X.K W f)) : PE X e (tE X.K W (xRes f)) := h.imp fun σ H Q ⟨ρ, r, w, g, s, h⟩ => ⟨ρ, r, w, g, s, h.fst fun ds w1 r1 H1 _ t1 g1 q h1 p n => by
  split at h1
  · rename_i hi
    obtain ⟨t2, g2, hp⟩ := good_add g1 t1 n hi
    have q := q (.loc r1.length) (r1 ++ [.lst ds]) (if_pos hi) ⟨w1.m ++ [p], w1.v, w1.g⟩ H1 t2 g2
    exact q (.ref p) (.loc hp)
  · exact h1.elim⟩
end
section
variable {X : Cx} {c : Sc} {st : Stmt} {pos : Pos}
/-- xs[i] = e, xs a resource -/
def kSetR (v o : D) : D → En → Rs → SOut := fun i ρ r => match o, i with
  | .loc n, .int k => (match r[n]? with
    | some (.lst xs) => (match ixN xs.length k with
      | some j => if v.imm = true then .next ρ (r.set n (.lst (xs.set j v))) else .bad
      | none => .bad)
    | _ => .bad)
  | _, _ => .bad
def sSetR (O : List Nat) (fo fi fv : Ex) : Sx := evF O fv fun v => evF O fo fun o => evF O fi (kSetR v o)
theorem ds_setR {fo fi fv : Ex} (h : PS X st (tAsg (tE c.K c.W fv) (gSub (tE c.K c.W fo) (tE c.K c.W fi) rSetL))) : PS X st (tS c (sSetR c.O fo fi fv)) :=
  h.imp fun D σ H ⟨ρ, r, lo, ⟨w, s⟩, h⟩ => ⟨wipeE ρ c.O, r, w, s.gd, s.slots, evF_dl s h fun v r1 w1 H1 t1 s1 h1 x rx => ⟨wipeE ρ c.O, r1, w1, s1.gd, s1.slots, evF_dl s1 h1 fun o r2 w2 H2 t2 s2 h2 y ry => ⟨wipeE ρ c.O, r2, w2, s2.gd, s2.slots, evF_dl s2 h2 fun i r3 w3 H3 t3 s3 h3 z rz => by
    unfold kSetR at h3
    split at h3
    · rename_i n k
      split at h3
      · rename_i xs hr
        split at h3
        · rename_i j hj
          split at h3
          · rename_i hv
            cases rz
            cases (t3.rp ry) with
            | loc hm =>
              obtain ⟨im, zs, q1, q2⟩ := good_loc s3.gd hm hr
              refine ⟨_, zs, k, j, rfl, rfl, q1, by rw [← q2.length]; exact hj, ?_⟩
              obtain ⟨t4, g4⟩ := good_res s3.gd hm hr rfl rfl (o' := .lst (xs.set j v)) (u := .lst (zs.set j x)) ⟨imms_set hv j im, _, upd_same, q2.set ((t2.trans t3).rp rx) j⟩
              exact h3 _ _ ⟨w3, s3.step t4 g4⟩
          · exact h3.elim
        · exact h3.elim
      · exact h3.elim
    · exact h3.elim⟩⟩⟩
end
end DL

/-! DL11: the rest of the rules, the end. -/
namespace DL
open PySem L2
theorem r65 {k : Nat} {A : Around} (r : Room k A) : A.units + 65 < cLine := by have := r.un; omega
section
variable {X : Cx} {c : Sc} {st : Stmt} {pos : Pos}
/-- x = [..] that is not one's own -/
theorem asg_n {f : Lx} {g : TG} (h : PS X st (tAsg (tN c.K c.W f) g)) : PS X st (tAsg (tE c.K c.W (xL f)) g) := h.imp fun D σ H ⟨ρ, r, w, gd, s, q⟩ => ⟨ρ, r, w, gd, s, q.fst fun ds w1 r1 H1 _ t1 g1 q _ p n => by
  obtain ⟨xs, hp, rx⟩ := n.at_
  obtain ⟨t2, g2⟩ := tr_see g1 t1 n.fresh n.nv n.nm hp
  refine q _ r1 rfl (w1.see p (.lst xs)) H1 t2 g2 (.ref p) (.lst see_at ?_)
  exact rx.mono (fun a u e => by
    have hne : a ≠ p := by rintro rfl; rw [n.nv] at e; cases e
    show upd w1.v p _ a = some u
    rw [upd_ne hne]; exact e) (.refl _)⟩
/-- x, y = a, b -/
def kPar (i j : Nat) : List D → En → Rs → SOut := fun ds ρ r => match ds with
  | [a, b] => if i < ρ.length ∧ j < ρ.length then .next ((ρ.set i (some a)).set j (some b)) r else .bad
  | _ => .bad
def sPar (O : List Nat) (i j : Nat) (f : Ax) : Sx := evF O f (kPar i j)
theorem ds_par {i j : Nat} {f : Ax} (h : PS X st (tPar i j (tA c.K c.W f))) (hi : i ∉ c.O) (hj : j ∉ c.O) : PS X st (tS c (sPar c.O i j f)) :=
  h.imp fun D σ H ⟨ρ, r, lo, ⟨w, s⟩, h⟩ => ⟨wipeE ρ c.O, r, w, s.gd, s.slots, evF_dl s h fun ds r1 w1 H1 t s1 h1 vs rvs => by
    unfold kPar at h1
    split at h1
    · split at h1
      · rename_i hl
        cases rvs with
        | cons r1 r2 =>
          cases r2 with
          | cons r2 r3 =>
            cases r3
            refine ⟨_, _, rfl, h1 _ _ ⟨w1, s1.store (js := [i, j]) (by rw [List.length_set, List.length_set]) (by rw [List.length_set, List.length_set]) (fun k hk => ?_) fun k => ?_⟩⟩
            · rcases List.mem_cons.mp hk with z | z
              · rw [z]; exact hi
              · rw [List.mem_singleton.mp z]; exact hj
            · have l1 : i < σ.length := by rw [← s1.len]; exact hl.1
              have l2 : j < σ.length := by rw [← s1.len]; exact hl.2
              by_cases e2 : j = k
              · subst e2
                exact .inr ⟨by simp, _, _, List.getElem?_set_self (by rw [List.length_set]; exact hl.2), List.getElem?_set_self (by rw [List.length_set]; exact l2), r2⟩
              · rw [List.getElem?_set_ne e2, List.getElem?_set_ne e2]
                by_cases e1 : i = k
                · subst e1
                  exact .inr ⟨by simp, _, _, List.getElem?_set_self hl.1, List.getElem?_set_self l1, r1⟩
                · exact .inl ⟨List.getElem?_set_ne e1, List.getElem?_set_ne e1⟩
      · exact h1.elim
    · exact h1.elim⟩
end
theorem fnOk0 {P : Program} {w : World} {K : PySem.W.Frag} {mg : Str → Option Value} {base : Heap} {CX : CXT} {n : Nat} {f : Addr} {fd : FuncData} {ps : List Str} : FnOk P w K mg base CX 0 f fd ps (spF K n false fun _ _ => .bad) := by
  have no : ∀ vs H Q E, ¬ spF K n false (fun _ _ => .bad) vs H Q E := fun vs H Q E h => by
    obtain ⟨_, ds, r, w, g, rv, z⟩ := h
    exact z
  exact ⟨fun vs H Q E h => absurd h (no vs H Q E), fun A outer s H args us vs Q E _ _ _ _ h => absurd h (no vs H Q E)⟩
theorem lookup_mem {β : Type} {x : Str} {d : β} : ∀ {l : List (Str × β)}, l.lookup x = some d → (x, d) ∈ l
  | [], h => by cases h
  | (y, e) :: l, h => by
    rw [List.lookup_cons] at h
    split at h
    · rename_i q
      cases h
      rw [beq_iff_eq] at q
      subst q
      exact List.mem_cons_self
    · exact List.mem_cons_of_mem _ (lookup_mem h)
/-- what law(script) promises -/
def spLaw (K : PySem.W.Frag) : Sp := fun vs H Q _ => ∃ (a : Addr) (ns : List Int), vs = [.ref a] ∧ SqL K H a (ns.map V.int) ∧ ns.length ≤ 63 ∧ ∀ H', Q (.bl true) H'
theorem FnOk.law {P : Program} {w : World} {K : PySem.W.Frag} {mg : Str → Option Value} {base : Heap} {k : Nat} {f : Addr} {fd : FuncData} {ps : List Str} {F : List D → Rs → Out D} (G : FnOk P w K mg base (L2.CX P w) k f fd ps (spF K 1 false F))
    (h : ∀ ns : List Int, ns.length ≤ 63 → ∃ r, F [.scr ns] [] = .ok (.bl true) r) : FnOk P w K mg base (L2.CX P w) k f fd ps (spLaw K) := G.imp fun vs H Q E q => by
  obtain ⟨a, ns, rfl, hs, hl, q⟩ := q
  obtain ⟨r, e⟩ := h ns hl
  refine ⟨rfl, [.scr ns], [], ⟨[], H, fun _ => 0⟩, ⟨.refl _, (fun a h => absurd h (by simp)), rfl, List.nodup_nil, (fun n o e => by simp at e), fun n i c fs e => by simp at e⟩, .one (.scr hs), ?_⟩
  rw [e]
  intro w' H' v t g p
  cases p
  exact q H'
theorem walk {l : PySem.W.OpenLaw} {q : Program} {loose : List Str} {XP : (Str → Option Value) → Heap → Prop} {YP : World → Heap → Prop} {d : DefRec} {K : Params → PySem.W.Frag} {k : Nat} {x : Str} (hn : l.most = some 63) (hdf : d.params.defaults = []) (hr : Room k callerA)
    (hY : ∀ (w : World) (h : Heap), YP w h → (K w.params).In h)
    (F : ∀ (w : World) (mg : Str → Option Value) (fa : Addr) (h : Heap), (K w.params).In h → h.Ns mainGlobals mg → mg d.name = some (.ref fa) →
      ∃ fd : FuncData, (∀ (s : Shared) (u : Value), BindsTo s fd ⟨[u], []⟩ [(x, u)]) ∧ ∀ base : Heap, (K w.params).In base → base.Ns mainGlobals mg → FnOk l.prog w (K w.params) mg base (L2.CX l.prog w) k fa fd [x] (spLaw (K w.params))) :
    PySem.W.WalkO q loose XP YP l.row.toRowW d [] (fun f vs => PySem.call f vs) :=
  L2.walk_of (n := 63) (k := k) (x := x) (CX := fun w => L2.CX l.prog w) (sp := fun w => spLaw (K w.params)) hn (by decide) hdf hr hY F (fun _ _ a ns hl _ hS => ⟨a, ns, rfl, hS, hl, fun _ => rfl⟩) fun _ _ _ _ _ z => by
    obtain ⟨_, _, _, _, _, _, _, _, _, _, _, _, z⟩ := z
    exact z
end DL

/-! DL12: more rules: x[i] = v in a list of one's own. -/
namespace DL
open PySem L2
section
variable {X : Cx} {c : Sc} {st : Stmt}
def kSetO (i : Nat) (v : D) : D → En → Rs → SOut := fun k ρ r => match k, ρ[i]? with
  | .int j, some (some (.lst ds)) => (match ixN ds.length j with
    | some n => .next (ρ.set i (some (.lst (ds.set n v)))) r
    | none => .bad)
  | _, _ => .bad
def sSetO (O : List Nat) (i : Nat) (fi fv : Ex) : Sx := evF O fv fun v => evF O fi (kSetO i v)
theorem ds_setO {i : Nat} {fi fv : Ex} (h : PS X st (tAsg (tE c.K c.W fv) (gSub (tVar i) (tE c.K c.W fi) rSetL))) (hi : i ∈ c.O) : PS X st (tS c (isOwnL i (sSetO c.O i fi fv))) :=
  h.imp fun D σ H ⟨ρ, r, lo, ⟨w, s⟩, h⟩ => by
    obtain ⟨xs, e, h⟩ := isOwnL_dl h
    obtain ⟨p, h1, _⟩ := s.ow i _ e hi
    refine ⟨wipeE ρ c.O, r, w, s.gd, s.slots, evF_dl s h fun v r1 w1 H1 t1 s1 h2 x rx => ⟨_, h1, wipeE ρ c.O, r1, w1, s1.gd, s1.slots, evF_dl s1 h2 fun k r2 w2 H2 t2 s2 h3 y ry => ?_⟩⟩
    unfold kSetO at h3
    split at h3
    · rename_i j ds q2
      split at h3
      · rename_i n hn
        cases ry
        obtain ⟨p', a1, a2, _⟩ := s2.ow i _ q2 hi
        rw [h1] at a1
        cases a1
        obtain ⟨zs, b1, b2⟩ := a2
        exact ⟨_, zs, j, n, rfl, rfl, b1, by rw [← b2.length]; exact hn, h3 _ _ ⟨w2, s2.mut hi q2 h1 ⟨_, upd_same, b2.set (t2.rp rx) n⟩⟩⟩
      · exact h3.elim
    · exact h3.elim
/-- xs.insert(i, y) -/
def kIns (i : Nat) : List D → En → Rs → SOut := fun ds ρ r => match ds, ρ[i]? with
  | [.int j, d], some (some (.lst xs)) => if xs.length < lim ∧ 0 ≤ j ∧ big j = true then .next (ρ.set i (some (.lst (xs.take j.toNat ++ [d] ++ xs.drop j.toNat)))) r else .bad
  | _, _ => .bad
def sIns (O : List Nat) (i : Nat) (f : Ax) : Sx := evF O f (kIns i)
abbrev rIns : V → List V → Hp → VK → Prop := fun x vs H Q => ∃ (l : Addr) (xs : List V) (i : Int) (y : V), x = .ref l ∧ vs = [.int i, y] ∧ H l = some (.lst xs) ∧ xs.length < sizeLine ∧ 0 ≤ i ∧ i < 2 ^ 63 ∧ Q .non (upd H l (.lst (xs.take i.toNat ++ [y] ++ xs.drop i.toNat)))
theorem Rps.takeD {K : PySem.W.Frag} {m : List Addr} {H : Hp} : ∀ {ds : List DL.D} {vs : List V} (n : Nat), Rps K m H ds vs → Rps K m H (ds.take n) (vs.take n)
  | _, _, 0, _ => .nil
  | _, _, _ + 1, .nil => .nil
  | _, _, n + 1, .cons h t => .cons h (Rps.takeD n t)
theorem Rps.dropD {K : PySem.W.Frag} {m : List Addr} {H : Hp} : ∀ {ds : List DL.D} {vs : List V} (n : Nat), Rps K m H ds vs → Rps K m H (ds.drop n) (vs.drop n)
  | _, _, 0, h => h
  | _, _, _ + 1, .nil => .nil
  | _, _, n + 1, .cons _ t => Rps.dropD n t
theorem ds_ins {i : Nat} {f : Ax} (h : PS X st (tDrop (tBM c.K "list" rIns (tVar i) (tA c.K c.W f)))) (hi : i ∈ c.O) : PS X st (tS c (isOwnL i (sIns c.O i f))) :=
  h.imp fun D σ H ⟨ρ, r, lo, ⟨w, s⟩, h⟩ => by
    obtain ⟨xs, e, h⟩ := isOwnL_dl h
    obtain ⟨p, h1, ty⟩ := own_ty hi s e
    refine ⟨_, h1, ty, wipeE ρ c.O, r, w, s.gd, s.slots, evF_dl s h fun ds r1 w1 H1 t s1 h2 vs rvs => ?_⟩
    unfold kIns at h2
    split at h2
    · rename_i j d zs e2
      split at h2
      · rename_i hl
        obtain ⟨p', a1, a2, _⟩ := s1.ow i _ e2 hi
        rw [h1] at a1
        cases a1
        obtain ⟨ys, b1, b2⟩ := a2
        cases rvs with
        | cons q1 q2 =>
          cases q1
          cases q2 with
          | cons q2 q3 =>
            cases q3
            refine ⟨p, ys, j, _, rfl, rfl, b1, by rw [← b2.length]; exact lim_lt hl.1, hl.2.1, by have := (big_of hl.2.2).2; omega, h2 _ _ ⟨w1, s1.mut hi e2 h1 ⟨_, upd_same, ((b2.takeD _).append (.one q2)).append (b2.dropD _)⟩⟩⟩
      · exact h2.elim
    · exact h2.elim
/-- y = xs.pop(): the last thing of a list of one's own -/
def sPop (i : Nat) (k : DL.D → En → Rs → SOut) : Sx := fun ρ r => match ρ[i]? with
  | some (some (.lst xs)) => (match xs[xs.length - 1]? with
    | some d => k d (ρ.set i (some (.lst xs.dropLast))) r
    | none => .bad)
  | _ => .bad
theorem dropLast_rps {K : PySem.W.Frag} {m : List Addr} {H : Hp} {ds : List DL.D} {vs : List V} (h : Rps K m H ds vs) : Rps K m H ds.dropLast vs.dropLast := by
  rw [List.dropLast_eq_take, List.dropLast_eq_take, h.length]
  exact h.take _
theorem pop_dl {i : Nat} {k : DL.D → En → Rs → SOut} {lo w : Wd} {ρ : En} {r : Rs} {σ : St} {H : Hp} {D : Ends} {Q : V → Hp → Prop} (s : SIw c.K c.E lo c.O ρ r σ H w) (hi : i ∈ c.O) (h : AfterS c lo D (sPop i k ρ r))
    (q : ∀ d v ρ' H', SIw c.K c.E lo c.O ρ' r σ H' w → Rp c.K w.m w.v d v → AfterS c lo D (k d ρ' r) → Q v H') : ∃ v, σ[i]? = some (some v) ∧ tyV c.K "list" v H ∧ rPop v [] H Q := by
  unfold sPop at h
  split at h
  · rename_i xs e
    split at h
    · rename_i d hd
      obtain ⟨p, h1, h2, _⟩ := s.ow i _ e hi
      obtain ⟨ys, e1, rx⟩ := h2
      obtain ⟨v, hv, rv⟩ := rx.get hd
      exact ⟨.ref p, h1, .inl ⟨rfl, ys, SqL.of e1⟩, p, ys, v, rfl, rfl, e1, by rw [← rx.length]; exact hv, q d v _ _ (s.mut (d' := .lst xs.dropLast) hi e h1 ⟨_, upd_same, dropLast_rps rx⟩) rv h⟩
    · exact h.elim
  · exact h.elim
theorem ds_pop {i : Nat} {g : TG} {tg : Tg} {js : List Nat} (h : PS X st (tAsg (tBM0 c.K "list" rPop (tVar i)) g)) (hi : i ∈ c.O) (hg : TgD c.K g tg js) (hj : ∀ j ∈ js, j ∉ c.O) : PS X st (tS c (sPop i (kStore tg))) :=
  h.imp fun D σ H ⟨ρ, r, lo, ⟨w, s⟩, h⟩ => pop_dl s hi h fun d v ρ' H' s1 rv h1 => store_dl hg hj s1 rv h1
theorem ds_popX {i : Nat} (h : PS X st (tDrop (tBM0 c.K "list" rPop (tVar i)))) (hi : i ∈ c.O) : PS X st (tS c (sPop i fun _ ρ r => .next ρ r)) :=
  h.imp fun D σ H ⟨ρ, r, lo, ⟨w, s⟩, h⟩ => pop_dl s hi h fun d v ρ' H' s1 rv h1 => h1 σ H' ⟨w, s1⟩
/-- xs.extend(a list) -/
def kExt (i : Nat) : List DL.D → En → Rs → SOut := fun ds ρ r => match ds, ρ[i]? with
  | [.lst es], some (some (.lst xs)) => if xs.length + es.length ≤ lim then .next (ρ.set i (some (.lst (xs ++ es)))) r else .bad
  | _, _ => .bad
def sExt (O : List Nat) (i : Nat) (f : Ax) : Sx := evF O f (kExt i)
theorem ds_ext {i : Nat} {f : Ax} (h : PS X st (tDrop (tBM c.K "list" rExtend (tVar i) (tA c.K c.W f)))) (hi : i ∈ c.O) : PS X st (tS c (isOwnL i (sExt c.O i f))) :=
  h.imp fun D σ H ⟨ρ, r, lo, ⟨w, s⟩, h⟩ => by
    obtain ⟨xs, e, h⟩ := isOwnL_dl h
    obtain ⟨p, h1, ty⟩ := own_ty hi s e
    refine ⟨_, h1, ty, wipeE ρ c.O, r, w, s.gd, s.slots, evF_dl s h fun ds r1 w1 H1 t s1 h2 vs rvs => ?_⟩
    unfold kExt at h2
    split at h2
    · rename_i es zs e2
      split at h2
      · rename_i hl
        obtain ⟨p', a1, a2, _⟩ := s1.ow i _ e2 hi
        rw [h1] at a1
        cases a1
        obtain ⟨ys, b1, b2⟩ := a2
        cases rvs with
        | cons q1 q2 =>
          cases q2
          cases q1 with
          | lst hx rx =>
            exact ⟨p, _, ys, _, rfl, rfl, b1, s1.gd.sub _ _ hx, by rw [← b2.length, ← rx.length]; exact lim_le hl, h2 _ _ ⟨w1, s1.mut hi e2 h1 ⟨_, upd_same, b2.append rx⟩⟩⟩
      · exact h2.elim
    · exact h2.elim
end
end DL

/-! DL13: join. -/
namespace DL
open PySem L2
def strsOf : List D → Option (List Str)
  | [] => some []
  | .str x :: ds => (strsOf ds).map (x :: ·)
  | _ => none
def seqOf : D → Option (List D)
  | .lst ds => some ds
  | .tup ds => some ds
  | _ => none
theorem strsOf_rps {K : PySem.W.Frag} {m : List Addr} {H : Hp} : ∀ {ds : List D} {vs : List V} {xs : List Str}, Rps K m H ds vs → strsOf ds = some xs → vs = xs.map V.str
  | _, _, _, .nil, e => by cases e; rfl
  | d :: ds, _, _, .cons r t, e => by
    cases r <;> try (cases e; done)
    rename_i vs x
    simp only [strsOf] at e
    cases q : strsOf ds with
    | none => rw [q] at e; cases e
    | some ys =>
      rw [q] at e
      cases e
      rw [List.map_cons, ← strsOf_rps t q]
def rJoin (K : PySem.W.Frag) : V → List V → Hp → VK → Prop := fun x xs H Q => ∃ a p, ∃ ys : List Str, x = .str a ∧ xs = [.ref p] ∧ (SqL K H p (ys.map V.str) ∨ SqT K H p (ys.map V.str)) ∧
    (ys.map (·.length)).sum + ys.length * a.length ≤ 16777216 ∧ Q (.str (Txt.join a ys)) H
def joinD (x : Str) (b : D) : Option D := (seqOf b).bind fun ds => (strsOf ds).bind fun ys => if (ys.map (·.length)).sum + ys.length * x.length ≤ lim then some (.str (Txt.join x ys)) else none
def xJoin (f : Ex) (g : Ax) : Ex := fun ρ r => (f ρ r).bind fun a r1 => match a with
  | .str x => (g ρ r1).bind fun ds r2 => (match ds with
    | [b] => (match joinD x b with
      | some d => .ok d r2
      | none => .bad)
    | _ => .bad)
  | _ => .bad
section
variable {X : Cx} {W : WX}
theorem de_join {e : Expr} {f : Ex} {g : Ax} (h : PE X e (tBM X.K "str" (rJoin X.K) (tE X.K W f) (tA X.K W g))) : PE X e (tE X.K W (xJoin f g)) := h.imp fun σ H Q ⟨ρ, r, w, gd, s, h⟩ => ⟨ρ, r, w, gd, s, h.bind fun a w1 r1 H1 t1 g1 h1 v rv => by
  split at h1
  · rename_i x
    cases rv
    refine ⟨rfl, ρ, r1, w1, g1, s.mono t1, h1.bind fun ds w2 r2 H2 t2 g2 h2 us rus => ?_⟩
    split at h2
    · rename_i b
      split at h2
      · rename_i d hd
        unfold joinD at hd
        rw [Option.bind_eq_some_iff] at hd
        obtain ⟨es, q1, hd⟩ := hd
        rw [Option.bind_eq_some_iff] at hd
        obtain ⟨ys, q2, hd⟩ := hd
        split at hd
        · rename_i hl
          cases hd
          cases rus with
          | cons ru rt =>
            cases rt
            cases ru <;> simp only [seqOf] at q1 <;> try (cases q1; done)
            · rename_i a zs es' hx rx
              cases q1
              rw [strsOf_rps rx q2] at hx
              exact ⟨x, a, ys, rfl, rfl, .inr (g2.sub.sqT hx), Nat.le_trans hl (by decide), h2.ok g2 _ (.str _)⟩
            · rename_i a zs es' hx rx
              cases q1
              rw [strsOf_rps rx q2] at hx
              exact ⟨x, a, ys, rfl, rfl, .inl (.inl (.inl (g2.sub _ _ hx))), Nat.le_trans hl (by decide), h2.ok g2 _ (.str _)⟩
        · cases hd
      · exact h2.elim
    · exact h2.elim
  · exact h1.elim⟩
end
end DL

/-! DL14: classes and their instances. -/
namespace DL
open PySem L2

/-! ### fields by place -/
theorem zip_look : ∀ {ns : List Str} {vs : List V} {i : Nat} {x : Str} {v : V}, ns.Nodup → ns[i]? = some x → vs[i]? = some v → (ns.zip vs).lookup x = some v
  | [], _, _, _, _, _, h, _ => by simp at h
  | _ :: _, [], _, _, _, _, _, h => by simp at h
  | n :: ns, v :: vs, 0, x, u, nd, h1, h2 => by
    simp only [List.getElem?_cons_zero, Option.some.injEq] at h1 h2
    subst h1 h2
    rw [List.zip_cons_cons, List.lookup_cons]
    simp
  | n :: ns, v :: vs, i + 1, x, u, nd, h1, h2 => by
    simp only [List.getElem?_cons_succ] at h1 h2
    have hx : x ∈ ns := List.mem_iff_getElem?.mpr ⟨i, h1⟩
    have hne : x ≠ n := by rintro rfl; exact (List.nodup_cons.mp nd).1 hx
    rw [List.zip_cons_cons, List.lookup_cons, beq_eq_false_iff_ne.mpr hne]
    exact zip_look (List.nodup_cons.mp nd).2 h1 h2
theorem zip_none : ∀ {ns : List Str} {vs : List V} {x : Str}, x ∉ ns → (ns.zip vs).lookup x = none
  | [], _, _, _ => rfl
  | _ :: _, [], _, _ => rfl
  | n :: ns, v :: vs, x, h => by
    rw [List.mem_cons, not_or] at h
    rw [List.zip_cons_cons, List.lookup_cons, beq_eq_false_iff_ne.mpr h.1]
    exact zip_none h.2
theorem zip_put : ∀ {ns : List Str} {vs : List V} {i : Nat} {x : Str} {v : V}, ns.Nodup → ns[i]? = some x → i < vs.length → putF x v (ns.zip vs) = ns.zip (vs.set i v)
  | [], _, _, _, _, _, h, _ => by simp at h
  | _ :: _, [], _, _, _, _, _, h => by simp at h
  | n :: ns, v :: vs, 0, x, u, nd, h1, h2 => by
    simp only [List.getElem?_cons_zero, Option.some.injEq] at h1
    subst h1
    rw [List.zip_cons_cons, putF, if_pos rfl]
    rfl
  | n :: ns, v :: vs, i + 1, x, u, nd, h1, h2 => by
    simp only [List.getElem?_cons_succ] at h1
    have hx : x ∈ ns := List.mem_iff_getElem?.mpr ⟨i, h1⟩
    have hne : n ≠ x := by rintro rfl; exact (List.nodup_cons.mp nd).1 hx
    rw [List.zip_cons_cons, putF, if_neg hne, zip_put (List.nodup_cons.mp nd).2 h1 (by simpa using h2)]
    rfl
theorem zip_add : ∀ {ns : List Str} {vs : List V} {x : Str} {v : V}, ns.Nodup → ns[vs.length]? = some x → putF x v (ns.zip vs) = ns.zip (vs ++ [v])
  | [], _, _, _, _, h => by simp at h
  | n :: ns, [], x, u, nd, h1 => by
    simp only [List.length_nil, List.getElem?_cons_zero, Option.some.injEq] at h1
    subst h1
    simp [putF]
  | n :: ns, v :: vs, x, u, nd, h1 => by
    simp only [List.length_cons, List.getElem?_cons_succ] at h1
    have hx : x ∈ ns := List.mem_iff_getElem?.mpr ⟨_, h1⟩
    have hne : n ≠ x := by rintro rfl; exact (List.nodup_cons.mp nd).1 hx
    rw [List.zip_cons_cons, putF, if_neg hne, zip_add (List.nodup_cons.mp nd).2 h1]
    rfl

def insOf (r : Rs) : D → Option (Nat × List D)
  | .ins c fs => some (c, fs)
  | .loc n => match r[n]? with
    | some (.obj _ c fs) => some (c, fs)
    | _ => none
  | _ => none
theorem ins_dl {K : PySem.W.Frag} {w : Wd} {r : Rs} {H : Hp} {a : D} {v : V} {c : Nat} {fs : List D} (g : Good K w r H) (rv : Rp K w.m w.v a v) (e : insOf r a = some (c, fs)) :
    ∃ p dx vs, v = .ref p ∧ H p = some (.ins (clsA K c) dx ((fldsOf c).zip vs)) ∧ vs.length ≤ (fldsOf c).length ∧ Rps K w.m w.v fs vs := by
  cases rv <;> simp only [insOf] at e <;> try (cases e; done)
  case loc n a hm =>
    cases q : r[n]? with
    | none => rw [q] at e; cases e
    | some o =>
      rw [q] at e
      cases o with
      | lst _ => cases e
      | dic _ => cases e
      | obj i c' fs' =>
        cases e
        obtain ⟨b, hb, dx, vs, h1, h2, h3⟩ := g.at_ n _ q
        rw [hm] at hb
        cases hb
        exact ⟨a, dx, vs, rfl, h1, h2, h3⟩
  case ins c' a dx fs' vs h1 h2 h3 =>
    cases e
    exact ⟨a, dx, vs, rfl, g.sub _ _ h1, h2, h3⟩
section
variable {X : Cx} {W : WX}
/-- e.x, the field at i of an instance of class c0 -/
def fldD (r : Rs) (c0 i : Nat) (a : D) : Option D := match insOf r a with
  | some (c, fs) => if c = c0 then fs[i]? else none
  | none => none
def xFld (c0 i : Nat) (f : Ex) : Ex := fun ρ r => (f ρ r).bind fun a r1 => match fldD r1 c0 i a with
  | some d => .ok d r1
  | none => .bad
theorem fld_dl {K : PySem.W.Frag} {w : Wd} {r : Rs} {H : Hp} {a d : D} {v : V} {c0 i : Nat} {x : Str} (g : Good K w r H) (rv : Rp K w.m w.v a v) (hx : (fldsOf c0)[i]? = some x) (e : fldD r c0 i a = some d) :
    ∃ p dx fs u, v = .ref p ∧ H p = some (.ins (clsA K c0) dx fs) ∧ fs.lookup x = some u ∧ Rp K w.m w.v d u := by
  unfold fldD at e
  cases q : insOf r a with
  | none => rw [q] at e; cases e
  | some p =>
    obtain ⟨c, fs⟩ := p
    rw [q] at e
    dsimp only at e
    split at e
    · rename_i hc
      subst hc
      obtain ⟨p, dx, vs, h1, h2, h3, h4⟩ := ins_dl g rv q
      obtain ⟨u, hu, ru⟩ := h4.get e
      exact ⟨p, dx, _, u, h1, h2, zip_look (flds_nd c) hx hu, ru⟩
    · cases e
theorem de_fld {e : Expr} {x : Str} {pos : Pos} {f : Ex} (c0 i : Nat) (cl : Cls X.K (clsA X.K c0)) (na : NoAttr X.K (clsA X.K c0) x) (hx : (fldsOf c0)[i]? = some x) (he : PE X e (tE X.K W f)) (hb : attributeBase e x X.env (eval e X.env) = eval e X.env := by rfl) :
    PE X (.Attribute e x pos) (tE X.K W (xFld c0 i f)) :=
  (pe_fld he hb).imp fun σ H Q ⟨ρ, r, w, gd, s, h⟩ => ⟨ρ, r, w, gd, s, h.bind fun a w1 r1 H1 t1 g1 h1 v rv => by
    split at h1
    · rename_i d e
      obtain ⟨p, dx, fs, u, e1, e2, e3, ru⟩ := fld_dl g1 rv hx e
      exact ⟨p, _, dx, fs, u, e1, e2, cl, na, e3, h1.ok g1 u ru⟩
    · exact h1.elim⟩
/-- e.x, a constant of the class -/
def xCon (c0 : Nat) (d : D) (f : Ex) : Ex := fun ρ r => (f ρ r).bind fun a r1 => match insOf r1 a with
  | some (c, _) => if c = c0 then .ok d r1 else .bad
  | none => .bad
theorem de_con {e : Expr} {x : Str} {pos : Pos} {f : Ex} {d : D} {v0 : V} {u0 : Value} (c0 : Nat) (cl : Cls X.K (clsA X.K c0)) (k : Con X.K (clsA X.K c0) x v0 u0) (hd : ∀ (m : List Addr) (H : Hp), Rp X.K m H d v0) (hx : x ∉ fldsOf c0) (he : PE X e (tE X.K W f))
    (hb : attributeBase e x X.env (eval e X.env) = eval e X.env := by rfl) : PE X (.Attribute e x pos) (tE X.K W (xCon c0 d f)) :=
  (pe_con he hb).imp fun σ H Q ⟨ρ, r, w, gd, s, h⟩ => ⟨ρ, r, w, gd, s, h.bind fun a w1 r1 H1 t1 g1 h1 v rv => by
    split at h1
    · rename_i c fs e
      split at h1
      · rename_i hc
        subst hc
        obtain ⟨p, dx, vs, e1, e2, e3, ru⟩ := ins_dl g1 rv e
        exact ⟨p, _, dx, _, v0, u0, e1, e2, cl, k, zip_none hx, h1.ok g1 v0 (hd _ _)⟩
      · exact h1.elim
    · exact h1.elim⟩

/-! ### methods -/
def tMethS (C : Addr) (m : Str) (sp : Sp) (E : St → XK) (ta : TE) (t : TA) : TE := fun σ H Q => ta σ H fun x H1 => ∃ a dx fs, x = .ref a ∧ H1 a = some (.ins C dx fs) ∧ fs.lookup m = none ∧
  t σ H1 fun vs H2 => sp (x :: vs) H2 Q (E σ)
section
variable {CX : CXT} {k : Nat} {f C : Addr} {fd : FuncData} {ps : List Str} {sp : Sp} {E : St → XK} {x m : Str} {p pos apos : Pos} {e o : Expr} {es : List Expr} {ta : TE} {t : TA}
theorem pe_methT {pl : Sem Bool} (he : PE X o ta) (c : Cls X.K C) (hm : Meth X.K C m f) (F : FnOk X.prog X.w X.K X.mg X.base CX k f fd ps sp) (hr : Room k X.A) (hb : Binds X.K fd ps []) (hx : ∀ σ, PassesAt CX X σ (E σ)) (ha : PA X (e :: es) t)
    (hst : starEach (e :: es) X.env = (false, eval e X.env) :: starEach es X.env := by rfl) (hpl : (backTo pos (starEach es X.env)).any (·.1) = false := by rfl)
    (ht : eval (.Call (.Attribute o m apos) (e :: es) [] pos) X.env = (do
      let ov ← eval o X.env
      standAt apos.atName
      let (f, first) ← holding [ov] (getMethod ov m pl)
      callWith pos f first (backTo pos (starEach (e :: es) X.env)) (backToKw pos (keywordEach [] X.env))) := by rfl) :
    PE X (.Call (.Attribute o m apos) (e :: es) [] pos) (tMethS C m sp E ta t) := by
  refine ⟨fun pins s σ H Q I h => ?_⟩
  refine PySem.W.methodCall_KW (pl := pl) (thn (he.run pins s σ H _ I h) fun u s1 ⟨x, H1, I1, rx, a, dx, fs, ex, ea, l, q⟩ => ?_) ht
  subst ex
  obtain rfl : u = Value.ref a := rx
  refine getmeth_ok I1 ea c hm l ?_
  refine PySem.W.callWith_K (first := [.ref a]) (h₀ := X.base) I.ok.mod.kin hm.kp (thn (ha.run pos pins s1 σ H1 _ I1 q) fun us s2 ⟨vs, H2, I2, r, q2⟩ => ⟨I2.kIn, ?_⟩) hst hpl
  exact run_fnS (us := .ref a :: us) (vs := .ref a :: vs) F hr hb (hx σ) I2 (.cons rfl r) q2
theorem pe_methT0 {pl : Sem Bool} (he : PE X o ta) (c : Cls X.K C) (hm : Meth X.K C m f) (F : FnOk X.prog X.w X.K X.mg X.base CX k f fd ps sp) (hr : Room k X.A) (hb : Binds X.K fd ps []) (hx : ∀ σ, PassesAt CX X σ (E σ))
    (ht : eval (.Call (.Attribute o m apos) [] [] pos) X.env = (do
      let ov ← eval o X.env
      standAt apos.atName
      let (f, first) ← holding [ov] (getMethod ov m pl)
      callWith pos f first (backTo pos (starEach [] X.env)) (backToKw pos (keywordEach [] X.env))) := by rfl) :
    PE X (.Call (.Attribute o m apos) [] [] pos) (tMethS C m sp E ta tNil) := by
  refine ⟨fun pins s σ H Q I h => ?_⟩
  refine PySem.W.methodCall_KW (pl := pl) (thn (he.run pins s σ H _ I h) fun u s1 ⟨x, H1, I1, rx, a, dx, fs, ex, ea, l, q⟩ => ?_) ht
  subst ex
  obtain rfl : u = Value.ref a := rx
  refine getmeth_ok I1 ea c hm l ?_
  exact PySem.W.callWith_K0 (first := [.ref a]) I1.kIn hm.kp (run_fnS (us := [.ref a]) (vs := [.ref a]) F hr hb (hx σ) I1 (.cons rfl .nil) q)
end
/-- behind a callee's promise -/
theorem after_fn {K : PySem.W.Frag} {n : Nat} {F : List D → Rs → Out D} {w : Wd} {H : Hp} {σ : L2.St} {w1 : Wd} {H1 : Hp} {ds : List D} {vs : List V} {r1 : Rs} {Q : VK} (t1 : Tr w H w1 H1) (g1 : Good K w1 r1 H1) (rvs : Rps K w1.m w1.v ds vs) (hl : ds.length = n)
    (h : After K W w1 H1 σ (F ds r1) (fun d w' _ H' => ∀ v, Rp K w'.m w'.v d v → Q v H')) : spD K n F vs H1 Q (WE W σ) := by
  refine ⟨by rw [← rvs.length]; exact hl, ds, r1, w1, g1, rvs, ?_⟩
  revert h
  generalize F ds r1 = o2
  intro h
  cases o2 with
  | ok d r2 => exact fun w2 H2 t2 g2 => h w2 H2 t2 g2
  | exc c fs r2 => exact fun w2 H2 cls dd t2 g2 x => h w2 H2 cls dd t2 g2 x
  | bad => exact h
def xMeth (c0 : Nat) (F : List D → Rs → Out D) (f : Ex) (g : Ax) : Ex := fun ρ r => (f ρ r).bind fun a r1 => match insOf r1 a with
  | some (c, _) => if c = c0 then (g ρ r1).bind fun ds r2 => F (a :: ds) r2 else .bad
  | none => .bad
section
variable {k n : Nat} {g : Addr} {fd : FuncData} {ps : List Str} {F : List D → Rs → Out D} {x m : Str} {p pos apos : Pos} {e o : Expr} {es : List Expr} {f : Ex} {fa : Ax}
theorem meth_dl {c0 : Nat} (hn : ∀ ρ r ds r', fa ρ r = .ok ds r' → ds.length = n) (hx : m ∉ fldsOf c0) {σ : L2.St} {H : Hp} {Q : VK} (h : tE X.K W (xMeth c0 F f fa) σ H Q) :
    tMethS (clsA X.K c0) m (spD X.K (n + 1) F) (WE W) (tE X.K W f) (tA X.K W fa) σ H Q := by
  obtain ⟨ρ, r, w, gd, s, h⟩ := h
  refine ⟨ρ, r, w, gd, s, h.bind fun a w1 r1 H1 t1 g1 h1 v rv => ?_⟩
  split at h1
  · rename_i c fs e
    split at h1
    · rename_i hc
      subst hc
      obtain ⟨p, dx, vs, e1, e2, e3, ru⟩ := ins_dl g1 rv e
      refine ⟨p, dx, _, e1, e2, zip_none hx, ρ, r1, w1, g1, s.mono t1, ?_⟩
      have hl := hn ρ r1
      revert h1 hl
      generalize fa ρ r1 = o
      intro h1 hl
      cases o with
      | ok ds r2 =>
        intro w2 H2 t2 g2 vs2 rvs
        refine after_fn (t1.trans t2) g2 (.cons (t2.rp rv) rvs) (by rw [List.length_cons, hl ds r2 rfl]) ?_
        have h' : After X.K W w1 H1 σ (F (a :: ds) r2) (fun d w' _ H' => ∀ v, Rp X.K w'.m w'.v d v → Q v H') := h1
        revert h'
        generalize F (a :: ds) r2 = o2
        intro h'
        cases o2 with
        | ok d r3 => exact fun w3 H3 t3 g3 => h' w3 H3 (t2.trans t3) g3
        | exc c fs r3 => exact fun w3 H3 cls dd t3 g3 x => h' w3 H3 cls dd (t2.trans t3) g3 x
        | bad => exact h'
      | exc c fs r2 => exact h1
      | bad => exact h1
    · exact h1.elim
  · exact h1.elim
theorem de_meth {pl : Sem Bool} (c0 : Nat) (cl : Cls X.K (clsA X.K c0)) (hm : Meth X.K (clsA X.K c0) m g) (hx : m ∉ fldsOf c0) (G : FnOk X.prog X.w X.K X.mg X.base (L2.CX X.prog X.w) k g fd ps (spD X.K (n + 1) F)) (hr : Room k X.A) (hb : Binds X.K fd ps []) (tk : Takes X W)
    (ho : PE X o (tE X.K W f)) (ha : PA X (e :: es) (tA X.K W fa)) (hn : ∀ ρ r ds r', fa ρ r = .ok ds r' → ds.length = n)
    (hst : starEach (e :: es) X.env = (false, eval e X.env) :: starEach es X.env := by rfl) (hpl : (backTo pos (starEach es X.env)).any (·.1) = false := by rfl)
    (ht : eval (.Call (.Attribute o m apos) (e :: es) [] pos) X.env = (do
      let ov ← eval o X.env
      standAt apos.atName
      let (f, first) ← holding [ov] (getMethod ov m pl)
      callWith pos f first (backTo pos (starEach (e :: es) X.env)) (backToKw pos (keywordEach [] X.env))) := by rfl) :
    PE X (.Call (.Attribute o m apos) (e :: es) [] pos) (tE X.K W (xMeth c0 F f fa)) :=
  (pe_methT (pl := pl) (E := WE W) ho cl hm G hr hb (fun σ => passAt tk σ) ha hst hpl ht).imp fun σ H Q h => meth_dl hn hx h
theorem de_meth0 {pl : Sem Bool} (c0 : Nat) (cl : Cls X.K (clsA X.K c0)) (hm : Meth X.K (clsA X.K c0) m g) (hx : m ∉ fldsOf c0) (G : FnOk X.prog X.w X.K X.mg X.base (L2.CX X.prog X.w) k g fd ps (spD X.K 1 F)) (hr : Room k X.A) (hb : Binds X.K fd ps []) (tk : Takes X W)
    (ho : PE X o (tE X.K W f))
    (ht : eval (.Call (.Attribute o m apos) [] [] pos) X.env = (do
      let ov ← eval o X.env
      standAt apos.atName
      let (f, first) ← holding [ov] (getMethod ov m pl)
      callWith pos f first (backTo pos (starEach [] X.env)) (backToKw pos (keywordEach [] X.env))) := by rfl) :
    PE X (.Call (.Attribute o m apos) [] [] pos) (tE X.K W (xMeth c0 F f xNil)) :=
  (pe_methT0 (pl := pl) (E := WE W) ho cl hm G hr hb (fun σ => passAt tk σ) ht).imp fun σ H Q h => by
    obtain ⟨ρ, r, w, gd, s, q⟩ := meth_dl (fa := xNil) (n := 0) len0 hx h
    exact ⟨ρ, r, w, gd, s, q.mono fun a w1 r1 H1 t1 g1 q v rv => by
      obtain ⟨p, dx, fs, e1, e2, e3, ρ2, r2, w2, gd2, s2, q2⟩ := q v rv
      exact ⟨p, dx, fs, e1, e2, e3, q2.ok gd2 [] .nil⟩⟩
end
end
end DL

/-! DL15: instances made: that change (a resource), or that stay as their __init__ left them (data). -/
namespace DL
open PySem L2

/-! ### the call -/
def tMakeS (C : Addr) (sp : Sp) (E : St → XK) (t : TA) : TE := fun σ H Q => t σ H fun vs H1 => ∀ x dx, H1 x = none → H1 dx = none → dx ≠ x →
  sp (.ref x :: vs) (upd (upd H1 dx (.own x)) x (.ins C dx [])) (fun v H2 => v = .non ∧ Q (.ref x) H2) (E σ)
section
variable {X : Cx} {CX : CXT} {k : Nat} {f C : Addr} {fd : FuncData} {ps : List Str} {sp : Sp} {E : St → XK} {x : Str} {p pos : Pos} {e : Expr} {es : List Expr} {t : TA} {σ : L2.St} {H : Hp} {s : Shared}
theorem run_makeS {pins : List (Addr × Obj)} {Q : VK} {us : List Value} {vs : List V} (M : Mk X.K C f) (F : FnOk X.prog X.w X.K X.mg X.base CX k f fd ps sp) (hr : Room (k + 1) X.A) (hb : Binds X.K fd ps [])
    (hx : PassesAt CX X σ (E σ)) (I : Inv X pins σ H s) (r : Vals vs us)
    (h : ∀ x dx, H x = none → H dx = none → dx ≠ x → sp (.ref x :: vs) (upd (upd H dx (.own x)) x (.ins C dx [])) (fun v H2 => v = .non ∧ Q (.ref x) H2) (E σ)) :
    wpAny (model X.prog X.w) X.A (call (.ref C) us) (EP X pins σ Q) X.xe s := by
  have hq := h (s.heap.objs.size + 1) s.heap.objs.size (I.hok.fresh (Nat.le_succ _)) (I.hok.fresh (Nat.le_refl _)) (Nat.ne_of_lt (Nat.lt_succ_self _))
  have I2 := Inv.made (C := C) I
  have r2 : Vals (V.ref (s.heap.objs.size + 1) :: vs) (Value.ref (s.heap.objs.size + 1) :: us) := .cons rfl r
  have hl : (Value.ref (s.heap.objs.size + 1) :: us).length = ps.length := by
    have e := r2.length
    rw [F.len _ _ _ _ hq] at e
    exact e.symm
  have b := hb _ (Value.ref (s.heap.objs.size + 1) :: us) I2.kIn (by rw [List.append_nil]; exact hl)
  rw [List.append_nil] at b
  refine wpAny_call (make_map (f := f) I.kIn M.makes M.init (beq_iff_eq.mp M.fn) (codeAny_mono (F.run _ X.stack _ _ ⟨Value.ref (s.heap.objs.size + 1) :: us, []⟩ (Value.ref (s.heap.objs.size + 1) :: us) _ _ (E σ) (hr.make C us [])
    (I2.env0.make C us []) b r2 hq) fun r s' hq' => ?_))
  cases r with
  | error e => exact hx pins _ _ e s' I2 hq'
  | ok fl =>
    cases fl with
    | ret u =>
      obtain ⟨v, H', I3, rv, ev, q3⟩ := I2.after hq'
      subst ev
      exact ⟨rv, ⟨V.ref (s.heap.objs.size + 1), H', I3, rfl, q3⟩⟩
    | next => exact False.elim hq'
    | brk => exact False.elim hq'
    | cont => exact False.elim hq'
theorem pe_makeT (M : Mk X.K C f) (F : FnOk X.prog X.w X.K X.mg X.base CX k f fd ps sp) (hr : Room (k + 1) X.A) (hg : Gl X x) (hm : X.mg x = some (.ref C)) (hb : Binds X.K fd ps []) (hx : ∀ σ, PassesAt CX X σ (E σ))
    (ha : PA X (e :: es) t) (hdb : (x == ("__debug__" : Str)) = false := by decide) (he : starEach (e :: es) X.env = (false, eval e X.env) :: starEach es X.env := by rfl) (hpl : (backTo pos (starEach es X.env)).any (·.1) = false := by rfl) :
    PE X (.Call (.Name x p) (e :: es) [] pos) (tMakeS C sp E t) := by
  refine ⟨fun pins s σ H Q I h => ?_⟩
  refine wpAny_Call_Name_kw (ld_glob I hg hm ?_ hdb)
  refine PySem.W.callWith_K (h₀ := X.base) I.ok.mod.kin M.kp (thn (ha.run pos pins s σ H _ I h) fun us s1 ⟨vs, H1, I1, r, q⟩ => ⟨I1.kIn, ?_⟩) he hpl
  exact run_makeS M F hr hb (hx σ) I1 r q
end

/-! ### the new resource -/
theorem good_make {K : PySem.W.Frag} {w : Wd} {r : Rs} {H : Hp} (g : Good K w r H) {x dx : Addr} (c : Nat) (hx : H x = none) (hdx : H dx = none) (hne : dx ≠ x) :
    ∃ w2, w2.m = w.m ++ [x] ∧ w2.v = w.v ∧ (∀ n, n < w.m.length → w2.g n = w.g n) ∧ Tr w H w2 (upd (upd H dx (.own x)) x (.ins (clsA K c) dx [])) ∧
      Good K w2 (r ++ [.obj 0 c []]) (upd (upd H dx (.own x)) x (.ins (clsA K c) dx [])) ∧ Rp K w2.m w2.v (.loc r.length) (.ref x) := by
  have other : ∀ {b : Addr} {o : HO}, H b = some o → upd (upd H dx (.own x)) x (.ins (clsA K c) dx []) b = some o := fun {b o} e => by
    have h1 : b ≠ x := ne_of_none e hx
    have h2 : b ≠ dx := ne_of_none e hdx
    rw [upd_ne h1, upd_ne h2]; exact e
  have pr : Pre w.m (w.m ++ [x]) := fun k a e => by rw [List.getElem?_append_left (List.getElem?_eq_some_iff.mp e).1]; exact e
  have hp : (w.m ++ [x])[r.length]? = some x := by
    rw [← g.len, List.getElem?_append_right (Nat.le_refl _), Nat.sub_self]
    rfl
  have hnm : x ∉ w.m := fun hm => g.live hm hx
  have gl : ∀ n, n < w.m.length → (if n = r.length then 0 else w.g n) = w.g n := fun n hn => by rw [if_neg (by have := g.len; omega)]
  refine ⟨⟨w.m ++ [x], w.v, fun n => if n = r.length then 0 else w.g n⟩, rfl, rfl, gl, ⟨.refl _, pr, fun b o e _ => other e, fun b e => ?_, fun b e => .inl e, fun b hb => ?_, fun b xs e => ?_, fun n hn => Nat.le_of_eq (gl n hn).symm, fun n a C' dx' fs hm ha _ => (other ha).trans ha.symm⟩,
    ⟨fun a o e => other (g.sub a o e), fun a ha => ?_, ?_, ?_, fun k o e => ?_, fun k i c' fs e => ?_⟩, .loc hp⟩
  · by_cases h1 : b = x
    · subst h1; rw [upd_same]; intro z; cases z
    · rw [upd_ne h1]
      by_cases h2 : b = dx
      · subst h2; rw [upd_same]; intro z; cases z
      · rw [upd_ne h2]; exact e
  · rcases List.mem_append.mp hb with z | z
    · exact .inl z
    · rw [List.mem_singleton.mp z]; exact .inr hx
  · rcases e with e | ⟨u, e⟩
    · exact .inl (other e)
    · exact .inr ⟨u, other e⟩
  · rcases List.mem_append.mp ha with z | z
    · exact g.dis a z
    · rw [List.mem_singleton.mp z]; exact g.none_of hx
  · show (w.m ++ [x]).length = _
    rw [List.length_append, List.length_append, g.len]; rfl
  · refine List.nodup_append.mpr ⟨g.nd, by simp, fun a ha b hb => ?_⟩
    rw [List.mem_singleton.mp hb]
    rintro rfl
    exact hnm ha
  · by_cases hk : k < r.length
    · rw [List.getElem?_append_left hk] at e
      obtain ⟨a, ha, y⟩ := g.at_ k o e
      have hax : a ≠ x := by rintro rfl; exact hnm (List.mem_iff_getElem?.mpr ⟨k, ha⟩)
      have had : a ≠ dx := by rintro rfl; exact g.live (List.mem_iff_getElem?.mpr ⟨k, ha⟩) hdx
      exact ⟨a, pr k a ha, roAt_mono (.refl _) pr (by rw [upd_ne hax, upd_ne had]) y⟩
    · have hk2 : k = r.length := by
        have := (List.getElem?_eq_some_iff.mp e).1
        rw [List.length_append] at this
        simp only [List.length_singleton] at this
        omega
      subst hk2
      rw [List.getElem?_append_right (Nat.le_refl _), Nat.sub_self] at e
      cases e
      exact ⟨x, hp, dx, [], by rw [upd_same]; simp, Nat.zero_le _, .nil⟩
  · show (if k = r.length then 0 else w.g k) = i
    by_cases hk : k < r.length
    · rw [List.getElem?_append_left hk] at e
      rw [if_neg (by omega)]
      exact g.gv k i c' fs e
    · have hk2 : k = r.length := by
        have := (List.getElem?_eq_some_iff.mp e).1
        rw [List.length_append] at this
        simp only [List.length_singleton] at this
        omega
      subst hk2
      rw [List.getElem?_append_right (Nat.le_refl _), Nat.sub_self] at e
      cases e
      rw [if_pos rfl]

/-! ### no later resource is in it -/
mutual
def D.blw (L : Nat) : D → Bool
  | .tup xs => D.blws L xs
  | .lst xs => D.blws L xs
  | .ins _ xs => D.blws L xs
  | .dic kvs => D.blwk L kvs
  | .loc n => decide (n < L)
  | _ => true
def D.blws (L : Nat) : List D → Bool
  | [] => true
  | x :: xs => D.blw L x && D.blws L xs
def D.blwk (L : Nat) : List (Key × D) → Bool
  | [] => true
  | (_, d) :: r => D.blw L d && D.blwk L r
end
section
variable {K : PySem.W.Frag} {m m' : List Addr} {H H' : Hp} {L : Nat}
mutual
theorem Rp.lower (s : Sub H H') (p : ∀ (n : Nat) (a : Addr), n < L → m[n]? = some a → m'[n]? = some a) : ∀ {d : D} {v : V}, d.blw L = true → Rp K m H d v → Rp K m' H' d v
  | _, _, _, .non => .non
  | _, _, _, .bl b => .bl b
  | _, _, _, .int i => .int i
  | _, _, _, .str x => .str x
  | .tup ds, _, e, .tup h r => .tup (s.sqT h) (Rps.lower s p (by rw [D.blw] at e; exact e) r)
  | .lst ds, _, e, .lst h r => .lst (s _ _ h) (Rps.lower s p (by rw [D.blw] at e; exact e) r)
  | .dic ds, _, e, .dic h r => .dic (s.rd h) (Rpk.lower s p (by rw [D.blw] at e; exact e) r)
  | .loc n, _, e, .loc h => .loc (p n _ (by rw [D.blw, decide_eq_true_eq] at e; exact e) h)
  | _, _, _, .scr h => .scr (s.sqL h)
  | _, _, _, .ty n => .ty n
  | _, _, _, .gl a => .gl a
  | .ins c fs, _, e, .ins h l r => .ins (s _ _ h) l (Rps.lower s p (by rw [D.blw] at e; exact e) r)
  | _, _, _, .rg h => .rg (s _ _ h)
theorem Rps.lower (s : Sub H H') (p : ∀ (n : Nat) (a : Addr), n < L → m[n]? = some a → m'[n]? = some a) : ∀ {d : List D} {v : List V}, D.blws L d = true → Rps K m H d v → Rps K m' H' d v
  | _, _, _, .nil => .nil
  | _ :: _, _, e, .cons h r => by
    rw [D.blws, Bool.and_eq_true] at e
    exact .cons (Rp.lower s p e.1 h) (Rps.lower s p e.2 r)
theorem Rpk.lower (s : Sub H H') (p : ∀ (n : Nat) (a : Addr), n < L → m[n]? = some a → m'[n]? = some a) : ∀ {d : List (Key × D)} {v : List (Key × V)}, D.blwk L d = true → Rpk K m H d v → Rpk K m' H' d v
  | _, _, _, .nil => .nil
  | (_, _) :: _, _, e, .cons h r => by
    rw [D.blwk, Bool.and_eq_true] at e
    exact .cons (Rp.lower s p e.1 h) (Rpk.lower s p e.2 r)
end
end
def RO.blw (L : Nat) : RO → Bool
  | .lst xs => D.blws L xs
  | .dic kvs => D.blwk L kvs
  | .obj _ _ fs => D.blws L fs
/-- a field's value, its own list or dict shown -/
def frzD (L : Nat) (r : Rs) : D → Option D
  | .loc n => if n < L then some (.loc n) else match r[n]? with
    | some (.lst xs) => if D.blws L xs then some (.lst xs) else none
    | some (.dic kvs) => if D.blwk L kvs then some (.dic kvs) else none
    | _ => none
  | d => if d.blw L then some d else none
def frzs (L : Nat) (r : Rs) : List D → Option (List D)
  | [] => some []
  | d :: ds => (frzD L r d).bind fun e => (frzs L r ds).map (e :: ·)
/-- the resources from L on are gone -/
def popOk (L : Nat) (r : Rs) : Bool := (r.take L).all (·.blw L)
theorem popR_dl {K : PySem.W.Frag} {w1 w2 w' : Wd} {r1 r' : Rs} {H1 H2 H' : Hp} {x dx : Addr} {c : Nat} {L : Nat} (g1 : Good K w1 r1 H1) (hL : L = r1.length) (hx : H1 x = none) (hdx : H1 dx = none) (hne : dx ≠ x)
    (e2 : H2 = upd (upd H1 dx (.own x)) x (.ins (clsA K c) dx [])) (em : w2.m = w1.m ++ [x]) (ev : w2.v = w1.v) (eg : ∀ n, n < w1.m.length → w2.g n = w1.g n) (t : Tr w2 H2 w' H') (g : Good K w' r' H') (ok : popOk L r' = true) :
    ∃ w3, w3.m = w1.m ∧ Tr w1 H1 w3 H' ∧ Good K w3 (r'.take L) H' ∧ Sub w'.v w3.v ∧ (∀ (n : Nat) (a : Addr), n < L → w'.m[n]? = some a → w3.m[n]? = some a) ∧
      ∀ (n : Nat) (a : Addr), L ≤ n → w'.m[n]? = some a → w3.v a = H' a := by
  have hlen : w1.m.length = L := by rw [hL]; exact g1.len
  have other : ∀ {b : Addr} {o : HO}, H1 b = some o → H2 b = some o := fun {b o} e => by
    rw [e2, upd_ne (ne_of_none e hx), upd_ne (ne_of_none e hdx)]; exact e
  have back : ∀ {b : Addr}, H2 b = none → H1 b = none := fun {b} e => by
    cases q : H1 b with
    | none => rfl
    | some o => rw [other q] at e; cases e
  have hnm : x ∉ w1.m := fun hm => g1.live hm hx
  have pre1 : ∀ (n : Nat) (a : Addr), w1.m[n]? = some a → w'.m[n]? = some a := fun n a e => t.pre n a (by
    rw [em, List.getElem?_append_left (List.getElem?_eq_some_iff.mp e).1]; exact e)
  have take1 : ∀ (n : Nat) (a : Addr), n < L → w'.m[n]? = some a → w1.m[n]? = some a := fun n a hn e => by
    have hn' : n < w1.m.length := by omega
    have := pre1 n _ (List.getElem?_eq_getElem hn')
    rw [e] at this
    cases this
    exact List.getElem?_eq_getElem hn'
  have late : ∀ {b : Addr}, b ∈ w'.m.drop L → b ∉ w1.m := fun {b} hb hm => by
    obtain ⟨n, hn⟩ := List.mem_iff_getElem?.mp hm
    obtain ⟨k, hk⟩ := List.mem_iff_getElem?.mp hb
    rw [List.getElem?_drop] at hk
    have h1 := pre1 n b hn
    have hn2 : n < w1.m.length := (List.getElem?_eq_some_iff.mp hn).1
    obtain ⟨l1, q1⟩ := List.getElem?_eq_some_iff.mp h1
    obtain ⟨l2, q2⟩ := List.getElem?_eq_some_iff.mp hk
    have := (List.getElem_inj g.nd).mp (q1.trans q2.symm)
    omega
  have lateN : ∀ {b : Addr}, b ∈ w'.m.drop L → H1 b = none := fun {b} hb => by
    rcases t.newm b (List.mem_of_mem_drop hb) with z | z
    · rw [em] at z
      rcases List.mem_append.mp z with z | z
      · exact absurd z (late hb)
      · rw [List.mem_singleton.mp z]; exact hx
    · exact back z
  have subv : Sub w'.v (fun b => if b ∈ w'.m.drop L then H' b else w'.v b) := fun b o e => by
    have hb : b ∉ w'.m.drop L := fun hb => by rw [g.dis b (List.mem_of_mem_drop hb)] at e; cases e
    show (if b ∈ w'.m.drop L then H' b else w'.v b) = some o
    rw [if_neg hb]; exact e
  refine ⟨⟨w1.m, fun b => if b ∈ w'.m.drop L then H' b else w'.v b, w'.g⟩, rfl, ⟨fun b o e => subv b o (t.sub b o (by rw [ev]; exact e)), .refl _, fun b o e hm => ?_, fun b e => ?_, fun b e => ?_, fun b hb => .inl hb, fun b xs e => ?_, fun n hn => ?_, fun n a C dx' fs hm ha e => ?_⟩,
    ⟨fun b o e => ?_, fun a ha => ?_, ?_, g1.nd, fun n o e => ?_, fun n i c' fs e => ?_⟩, subv, take1, fun n a hn ha => ?_⟩
  · refine t.keep b o (other e) fun z => ?_
    rw [em] at z
    rcases List.mem_append.mp z with z | z
    · exact hm z
    · rw [List.mem_singleton.mp z, hx] at e; cases e
  · refine t.live b fun z => e (back z)
  · have e' : (if b ∈ w'.m.drop L then H' b else w'.v b) ≠ none := e
    split at e'
    · rename_i hb
      exact .inr (lateN hb)
    · rcases t.newv b e' with z | z
      · rw [ev] at z; exact .inl z
      · exact .inr (back z)
  · refine t.tups b xs ?_
    rcases e with e | ⟨u, e⟩
    · exact .inl (other e)
    · exact .inr ⟨u, other e⟩
  · have := t.gm n (by rw [em, List.length_append]; omega)
    rw [eg n hn] at this
    exact this
  · have hn : n < w1.m.length := (List.getElem?_eq_some_iff.mp hm).1
    have h2 := t.same n a C dx' fs (by rw [em, List.getElem?_append_left hn]; exact hm) (other ha) (by rw [eg n hn]; exact e)
    rw [h2, other ha, ha]
  · have e' : (if b ∈ w'.m.drop L then H' b else w'.v b) = some o := e
    split at e'
    · exact e'
    · exact g.sub b o e'
  · have hb : a ∉ w'.m.drop L := fun hb => late hb ha
    show (if a ∈ w'.m.drop L then H' a else w'.v a) = none
    rw [if_neg hb]
    obtain ⟨n, hn⟩ := List.mem_iff_getElem?.mp ha
    exact g.dis a (List.mem_iff_getElem?.mpr ⟨n, pre1 n a hn⟩)
  · show w1.m.length = (r'.take L).length
    rw [List.length_take, ← g.len, hlen]
    have : L ≤ w'.m.length := by
      by_cases h0 : L = 0
      · omega
      · have h1 : L - 1 < w1.m.length := by omega
        have := (List.getElem?_eq_some_iff.mp (pre1 (L - 1) _ (List.getElem?_eq_getElem h1))).1
        omega
    omega
  · have hn : n < L := by
      have := (List.getElem?_eq_some_iff.mp e).1
      rw [List.length_take] at this
      omega
    have hb : o.blw L = true := by
      unfold popOk at ok
      rw [List.all_eq_true] at ok
      exact ok o (List.mem_iff_getElem?.mpr ⟨n, e⟩)
    rw [List.getElem?_take, if_pos hn] at e
    obtain ⟨a, ha, y⟩ := g.at_ n o e
    refine ⟨a, take1 n a hn ha, ?_⟩
    cases o with
    | lst ds => obtain ⟨i, xs, h1, h2⟩ := y; exact ⟨i, xs, h1, h2.lower subv take1 hb⟩
    | dic ds => obtain ⟨i, xs, h1, h2⟩ := y; exact ⟨i, xs, h1, h2.lower subv take1 hb⟩
    | obj i c fs => obtain ⟨dx, vs, h1, hl, h2⟩ := y; exact ⟨dx, vs, h1, hl, h2.lower subv take1 hb⟩
  · rw [List.getElem?_take] at e
    split at e
    · exact g.gv n i c' fs e
    · cases e
  · have hb : a ∈ w'.m.drop L := List.mem_iff_getElem?.mpr ⟨n - L, by rw [List.getElem?_drop, show L + (n - L) = n by omega]; exact ha⟩
    exact if_pos hb
theorem frzD_dl {K : PySem.W.Frag} {w' w3 : Wd} {r' : Rs} {H' : Hp} {L : Nat} (g : Good K w' r' H') (sv : Sub w'.v w3.v) (tk : ∀ (n : Nat) (a : Addr), n < L → w'.m[n]? = some a → w3.m[n]? = some a)
    (lt : ∀ (n : Nat) (a : Addr), L ≤ n → w'.m[n]? = some a → w3.v a = H' a) {d e : D} {v : V} (h : frzD L r' d = some e) (rv : Rp K w'.m w'.v d v) : Rp K w3.m w3.v e v := by
  by_cases hd : ∃ n, d = .loc n
  · obtain ⟨n, rfl⟩ := hd
    by_cases hn : n < L
    · rw [frzD, if_pos hn] at h
      cases h
      exact rv.lower sv tk (by rw [D.blw, decide_eq_true_eq]; exact hn)
    · rw [frzD, if_neg hn] at h
      cases rv with
      | loc hm =>
        cases q : r'[n]? with
        | none => rw [q] at h; cases h
        | some o =>
          rw [q] at h
          obtain ⟨a, ha, y⟩ := g.at_ n o q
          rw [hm] at ha
          cases ha
          have hv := lt n _ (by omega) hm
          cases o with
          | lst xs =>
            dsimp only at h
            split at h
            · rename_i hb
              cases h
              obtain ⟨_, ys, h1, h2⟩ := y
              exact .lst (hv.trans h1) (h2.lower sv tk hb)
            · cases h
          | dic xs =>
            dsimp only at h
            split at h
            · rename_i hb
              cases h
              obtain ⟨_, ys, h1, h2⟩ := y
              exact .dic (.inl (hv.trans h1)) (h2.lower sv tk hb)
            · cases h
          | obj i c fs => cases h
  · have h' : (if d.blw L then some d else none) = some e := by
      cases d <;> first | exact h | exact absurd ⟨_, rfl⟩ hd
    split at h'
    · rename_i hb
      cases h'
      exact rv.lower sv tk hb
    · cases h'
theorem frzs_dl {K : PySem.W.Frag} {w' w3 : Wd} {r' : Rs} {H' : Hp} {L : Nat} (g : Good K w' r' H') (sv : Sub w'.v w3.v) (tk : ∀ (n : Nat) (a : Addr), n < L → w'.m[n]? = some a → w3.m[n]? = some a)
    (lt : ∀ (n : Nat) (a : Addr), L ≤ n → w'.m[n]? = some a → w3.v a = H' a) : ∀ {ds es : List D} {vs : List V}, frzs L r' ds = some es → Rps K w'.m w'.v ds vs → Rps K w3.m w3.v es vs
  | [], _, _, h, .nil => by cases h; exact .nil
  | d :: ds, es, _, h, .cons rv rt => by
    unfold frzs at h
    cases q : frzD L r' d with
    | none => rw [q] at h; cases h
    | some e =>
      rw [q] at h
      have h : (frzs L r' ds).map (e :: ·) = some es := h
      cases q2 : frzs L r' ds with
      | none => rw [q2] at h; cases h
      | some es' =>
        rw [q2] at h
        cases h
        exact .cons (frzD_dl g sv tk lt q rv) (frzs_dl g sv tk lt q2 rt)

/-! ### the rules -/
/-- C(..), an instance that changes -/
def xNewR (c0 : Nat) (F : List D → Rs → Out D) (g : Ax) : Ex := fun ρ r => (g ρ r).bind fun ds r1 => (F (.loc r1.length :: ds) (r1 ++ [.obj 0 c0 []])).bind fun d r2 => match d with
  | .non => .ok (.loc r1.length) r2
  | _ => .bad
/-- C(..), an instance that stays as it is -/
def frzO (L : Nat) (r : Rs) : Out D := if popOk L r then (match r[L]? with
  | some (.obj _ c fs) => (match frzs L r fs with
    | some es => .ok (.ins c es) (r.take L)
    | none => .bad)
  | _ => .bad) else .bad
def kNewF (L : Nat) : Out D → Out D
  | .ok .non r2 => frzO L r2
  | .exc c fs r2 => if popOk L r2 then .exc c fs (r2.take L) else .bad
  | _ => .bad
def xNewF (c0 : Nat) (F : List D → Rs → Out D) (g : Ax) : Ex := fun ρ r => (g ρ r).bind fun ds r1 => kNewF r1.length (F (.loc r1.length :: ds) (r1 ++ [.obj 0 c0 []]))
section
variable {X : Cx} {W : WX} {k n : Nat} {f : Addr} {fd : FuncData} {ps : List Str} {F : List D → Rs → Out D} {x : Str} {p pos : Pos} {e : Expr} {es : List Expr} {fa : Ax}
theorem de_newR (c0 : Nat) (M : Mk X.K (clsA X.K c0) f) (G : FnOk X.prog X.w X.K X.mg X.base (L2.CX X.prog X.w) k f fd ps (spD X.K (n + 1) F)) (hr : Room (k + 1) X.A) (hg : Gl X x) (hm : X.mg x = some (.ref (clsA X.K c0))) (hb : Binds X.K fd ps []) (tk : Takes X W)
    (ha : PA X (e :: es) (tA X.K W fa)) (hn : ∀ ρ r ds r', fa ρ r = .ok ds r' → ds.length = n) (hdb : (x == ("__debug__" : Str)) = false := by decide) (he : starEach (e :: es) X.env = (false, eval e X.env) :: starEach es X.env := by rfl) (hpl : (backTo pos (starEach es X.env)).any (·.1) = false := by rfl) :
    PE X (.Call (.Name x p) (e :: es) [] pos) (tE X.K W (xNewR c0 F fa)) :=
  (pe_makeT (E := WE W) M G hr hg hm hb (fun σ => passAt tk σ) ha hdb he hpl).imp fun σ H Q ⟨ρ, r, w, gd, s, h⟩ => by
    refine ⟨ρ, r, w, gd, s, ?_⟩
    have hl := hn ρ r
    unfold xNewR at h
    revert h hl
    generalize fa ρ r = o
    intro h hl
    cases o with
    | ok ds r1 =>
      intro w1 H1 t1 g1 vs rvs x dx hx hdx hne
      obtain ⟨w2, em, ev, eg, t2, g2, rx⟩ := good_make g1 c0 hx hdx hne
      refine after_fn (σ := σ) (t1.trans t2) g2 (.cons rx (t2.rps rvs)) (by rw [List.length_cons, hl ds r1 rfl]) ?_
      have h' : After X.K W w H σ ((F (.loc r1.length :: ds) (r1 ++ [.obj 0 c0 []])).bind fun d r2 => match d with
        | .non => Out.ok (.loc r1.length) r2
        | _ => .bad) (fun d w' _ H' => ∀ v, Rp X.K w'.m w'.v d v → Q v H') := h
      revert h'
      generalize F (.loc r1.length :: ds) (r1 ++ [.obj 0 c0 []]) = o2
      intro h'
      cases o2 with
      | ok d r2 =>
        intro w3 H3 t3 g3 v rv
        cases d <;> try exact h'.elim
        cases rv
        exact ⟨rfl, h' w3 H3 ((t1.trans t2).trans t3) g3 _ (t3.rp rx)⟩
      | exc c fs r2 => exact fun w3 H3 cls dd t3 g3 z => h' w3 H3 cls dd ((t1.trans t2).trans t3) g3 z
      | bad => exact h'
    | exc c fs r1 => exact h
    | bad => exact h
theorem de_newF (c0 : Nat) (M : Mk X.K (clsA X.K c0) f) (G : FnOk X.prog X.w X.K X.mg X.base (L2.CX X.prog X.w) k f fd ps (spD X.K (n + 1) F)) (hr : Room (k + 1) X.A) (hg : Gl X x) (hm : X.mg x = some (.ref (clsA X.K c0))) (hb : Binds X.K fd ps []) (tk : Takes X W)
    (ha : PA X (e :: es) (tA X.K W fa)) (hn : ∀ ρ r ds r', fa ρ r = .ok ds r' → ds.length = n) (hdb : (x == ("__debug__" : Str)) = false := by decide) (he : starEach (e :: es) X.env = (false, eval e X.env) :: starEach es X.env := by rfl) (hpl : (backTo pos (starEach es X.env)).any (·.1) = false := by rfl) :
    PE X (.Call (.Name x p) (e :: es) [] pos) (tE X.K W (xNewF c0 F fa)) :=
  (pe_makeT (E := WE W) M G hr hg hm hb (fun σ => passAt tk σ) ha hdb he hpl).imp fun σ H Q ⟨ρ, r, w, gd, s, h⟩ => by
    refine ⟨ρ, r, w, gd, s, ?_⟩
    have hl := hn ρ r
    unfold xNewF at h
    revert h hl
    generalize fa ρ r = o
    intro h hl
    cases o with
    | ok ds r1 =>
      intro w1 H1 t1 g1 vs rvs x dx hx hdx hne
      obtain ⟨w2, em, ev, eg, t2, g2, rx⟩ := good_make g1 c0 hx hdx hne
      refine after_fn (σ := σ) (t1.trans t2) g2 (.cons rx (t2.rps rvs)) (by rw [List.length_cons, hl ds r1 rfl]) ?_
      have h' : After X.K W w H σ (kNewF r1.length (F (.loc r1.length :: ds) (r1 ++ [.obj 0 c0 []]))) (fun d w' _ H' => ∀ v, Rp X.K w'.m w'.v d v → Q v H') := h
      revert h'
      generalize F (.loc r1.length :: ds) (r1 ++ [.obj 0 c0 []]) = o2
      intro h'
      cases o2 with
      | ok d r2 =>
        intro w3 H3 t3 g3 v rv
        cases d <;> try exact h'.elim
        cases rv
        refine ⟨rfl, ?_⟩
        have h2 : After X.K W w H σ (frzO r1.length r2) (fun d w' _ H' => ∀ v, Rp X.K w'.m w'.v d v → Q v H') := h'
        unfold frzO at h2
        split at h2
        · rename_i ok
          obtain ⟨w4, em4, t4, g4, sv, tk4, lt4⟩ := popR_dl g1 rfl hx hdx hne rfl em ev eg t3 g3 ok
          split at h2
          · rename_i i c fs q
            split at h2
            · rename_i es q2
              refine h2 w4 H3 (t1.trans t4) g4 (.ref x) ?_
              obtain ⟨a, ha, dx', vs', k1, k2, k3⟩ := g3.at_ _ _ q
              cases (t3.rp rx) with
              | loc hm =>
                rw [hm] at ha
                cases ha
                exact .ins ((lt4 _ _ (Nat.le_refl _) hm).trans k1) k2 (frzs_dl g3 sv tk4 lt4 q2 k3)
            · exact h2.elim
          · exact h2.elim
        · exact h2.elim
      | exc c fs r2 =>
        intro w3 H3 cls dd t3 g3 z
        have h2 : After X.K W w H σ (if popOk r1.length r2 then Out.exc c fs (r2.take r1.length) else .bad) (fun d w' _ H' => ∀ v, Rp X.K w'.m w'.v d v → Q v H') := h'
        split at h2
        · rename_i ok
          obtain ⟨w4, em4, t4, g4, sv, tk4, lt4⟩ := popR_dl g1 rfl hx hdx hne rfl em ev eg t3 g3 ok
          exact h2 w4 H3 cls dd (t1.trans t4) g4 z
        · exact h2.elim
      | bad => exact h'
    | exc c fs r1 => exact h
    | bad => exact h
end

/-! ### o.x = e, o an instance that changes -/
section
variable {X : Cx} {c : Sc} {st : Stmt} {pos pos' : Pos}
def putI (i : Nat) (v : D) (fs : List D) : Option (List D) := if i < fs.length then some (fs.set i v) else if i = fs.length then some (fs ++ [v]) else none
def kSetF (c0 i : Nat) (v : D) : D → En → Rs → SOut := fun o ρ r => match o with
  | .loc n => (match r[n]? with
    | some (.obj j c fs) => if c = c0 then (match putI i v fs with
      | some fs' => .next ρ (r.set n (.obj (j + 1) c fs'))
      | none => .bad) else .bad
    | _ => .bad)
  | _ => .bad
def sSetF (O : List Nat) (c0 i : Nat) (fo fv : Ex) : Sx := evF O fv fun v => evF O fo (kSetF c0 i v)
theorem good_obj {K : PySem.W.Frag} {w : Wd} {r : Rs} {H : Hp} (g : Good K w r H) {n j c : Nat} {a dx : Addr} {fs fs' : List D} {vs : List V} (hm : w.m[n]? = some a) (hr : r[n]? = some (.obj j c fs)) (hl : vs.length ≤ (fldsOf c).length) (rv : Rps K w.m w.v fs' vs) :
    ∃ w', w'.m = w.m ∧ w'.v = w.v ∧ Tr w H w' (upd H a (.ins (clsA K c) dx ((fldsOf c).zip vs))) ∧ Good K w' (r.set n (.obj (j + 1) c fs')) (upd H a (.ins (clsA K c) dx ((fldsOf c).zip vs))) := by
  have ha : a ∈ w.m := List.mem_iff_getElem?.mpr ⟨n, hm⟩
  obtain ⟨a', ha', x⟩ := g.at_ n _ hr
  rw [hm] at ha'
  cases ha'
  obtain ⟨u0, hu, nt⟩ := roAt_live x
  have hgn := g.gv n j c fs hr
  have inj : ∀ {i : Nat}, w.m[i]? = some a → i = n := fun {i} hi => by
    obtain ⟨l1, e1⟩ := List.getElem?_eq_some_iff.mp hm
    obtain ⟨l2, e2⟩ := List.getElem?_eq_some_iff.mp hi
    exact (List.getElem_inj g.nd).mp (e2.trans e1.symm)
  refine ⟨⟨w.m, w.v, fun i => if i = n then j + 1 else w.g i⟩, rfl, rfl, ⟨.refl _, .refl _, fun b q e nb => ?_, fun b e => ?_, fun b e => .inl e, fun b e => .inl e, fun b xs e => ?_, fun i _ => ?_, fun i b C' dx' fs2 hb hH e => ?_⟩,
    ⟨fun b q e => ?_, g.dis, by rw [List.length_set]; exact g.len, g.nd, fun i q e => ?_, fun i j' c' fs2 e => ?_⟩⟩
  · have hne : b ≠ a := by rintro rfl; exact nb ha
    rw [upd_ne hne]; exact e
  · by_cases hb : b = a
    · subst hb; rw [upd_same]; intro z; cases z
    · rw [upd_ne hb]; exact e
  · have hne : b ≠ a := by rintro rfl; exact nt xs e
    rcases e with e | ⟨z, e⟩
    · exact .inl (by rw [upd_ne hne]; exact e)
    · exact .inr ⟨z, by rw [upd_ne hne]; exact e⟩
  · show w.g i ≤ if i = n then j + 1 else w.g i
    split
    · rename_i h; subst h; omega
    · exact Nat.le_refl _
  · by_cases hba : b = a
    · subst hba
      have := inj hb
      subst this
      have e' : (if i = i then j + 1 else w.g i) = w.g i := e
      rw [if_pos rfl] at e'
      omega
    · exact upd_ne hba
  · have hne : b ≠ a := by rintro rfl; rw [g.dis b ha] at e; cases e
    rw [upd_ne hne]; exact g.sub b q e
  · by_cases hj : n = i
    · subst hj
      rw [List.getElem?_set_self (List.getElem?_eq_some_iff.mp hr).1] at e
      cases e
      exact ⟨a, hm, dx, vs, upd_same, hl, rv⟩
    · rw [List.getElem?_set_ne hj] at e
      obtain ⟨b, hb, y⟩ := g.at_ i q e
      refine ⟨b, hb, roAt_mono (.refl _) (.refl _) (upd_ne ?_) y⟩
      rintro rfl
      exact hj (inj hb).symm
  · show (if i = n then j + 1 else w.g i) = j'
    by_cases hj : n = i
    · subst hj
      rw [List.getElem?_set_self (List.getElem?_eq_some_iff.mp hr).1] at e
      cases e
      rw [if_pos rfl]
    · rw [List.getElem?_set_ne hj] at e
      rw [if_neg (fun z => hj z.symm)]
      exact g.gv i j' c' fs2 e
theorem ds_setF {fo fv : Ex} {x : Str} (c0 i : Nat) (cl : Cls c.K (clsA c.K c0)) (na : NoAttr c.K (clsA c.K c0) x) (hx : (fldsOf c0)[i]? = some x) (h : PS X st (sFld c.K (tE c.K c.W fo) (tE c.K c.W fv) x)) : PS X st (tS c (sSetF c.O c0 i fo fv)) :=
  h.imp fun D σ H ⟨ρ, r, lo, ⟨w, s⟩, h⟩ => ⟨wipeE ρ c.O, r, w, s.gd, s.slots, evF_dl s h fun v r1 w1 H1 t1 s1 h1 y ry => ⟨wipeE ρ c.O, r1, w1, s1.gd, s1.slots, evF_dl s1 h1 fun o r2 w2 H2 t2 s2 h2 z rz => by
    unfold kSetF at h2
    split at h2
    · rename_i n
      split at h2
      · rename_i j c' fs hr
        split at h2
        · rename_i hc
          subst hc
          split at h2
          · rename_i fs' hp
            cases rz with
            | loc hm =>
              obtain ⟨a', ha', dx, vs, k1, k2, k3⟩ := s2.gd.at_ n _ hr
              rw [hm] at ha'
              cases ha'
              have ry2 := t2.rp ry
              have hi : i < (fldsOf c').length := (List.getElem?_eq_some_iff.mp hx).1
              have small : ((fldsOf c').zip vs).length < 1000 := by
                have h1 : (fldsOf c').length < 1000 := by
                  have : ∀ l ∈ fldTab, l.length < 1000 := by decide
                  unfold fldsOf
                  by_cases hc : c' < fldTab.length
                  · rw [List.getD_eq_getElem?_getD, List.getElem?_eq_getElem hc]
                    exact this _ (List.getElem_mem hc)
                  · rw [List.getD_eq_getElem?_getD, List.getElem?_eq_none (by omega)]
                    decide
                rw [List.length_zip]
                omega
              refine ⟨_, _, dx, _, rfl, k1, cl, na, small, ?_⟩
              unfold putI at hp
              split at hp
              · rename_i hlt
                cases hp
                rw [k3.length] at hlt
                rw [zip_put (flds_nd c') hx hlt]
                obtain ⟨w3, em, ev, t3, g3⟩ := good_obj (fs' := fs.set i v) (dx := dx) s2.gd hm hr (by rw [List.length_set]; exact k2) (k3.set ry2 i)
                exact h2 _ _ ⟨w3, s2.step t3 g3⟩
              · split at hp
                · rename_i heq
                  cases hp
                  rw [k3.length] at heq
                  subst heq
                  rw [zip_add (flds_nd c') hx]
                  obtain ⟨w3, em, ev, t3, g3⟩ := good_obj (fs' := fs ++ [v]) (dx := dx) s2.gd hm hr (by rw [List.length_append]; exact hi) (k3.append (.one ry2))
                  exact h2 _ _ ⟨w3, s2.step t3 g3⟩
                · cases hp
          · exact h2.elim
        · exact h2.elim
      · exact h2.elim
    · exact h2.elim⟩⟩
end
end DL

/-! DL16: try, except. -/
namespace DL
open PySem L2

/-! ### expressions where P holds of the slots -/
def tEp (P : L2.St → Prop) (K : PySem.W.Frag) (W : WX) (f : Ex) : TE := fun σ H Q => P σ ∧ tE K W f σ H Q
def tTp (P : L2.St → Prop) (K : PySem.W.Frag) (W : WX) (f : Tx) : TT := fun σ H Q => P σ ∧ tT K W f σ H Q
section
variable {X : Cx} {W : WX} {P : L2.St → Prop} {a b e : Expr} {rest : List Expr} {pos : Pos} {f g : Ex} {t u : Tx}
theorem ep_any (h : PE X e (tE X.K W f)) : PE X e (tEp P X.K W f) := h.imp fun _ _ _ q => q.2
theorem tp_any (h : PT X e (tT X.K W t)) : PT X e (tTp P X.K W t) := h.imp fun _ _ _ q => q.2
theorem ep_one {op} (h : PE X a (tEp P X.K W f)) : PE X (.BoolOp op [a] pos) (tEp P X.K W f) := pe_one h
theorem ep_and (ha : PE X a (tEp P X.K W f)) (hb : PE X (.BoolOp .And (b :: rest) pos) (tEp P X.K W g)) : PE X (.BoolOp .And (a :: b :: rest) pos) (tEp P X.K W (xAndV f g)) :=
  (pe_and2 ha hb).imp fun σ H Q ⟨hp, ρ, r, w, gd, s, h⟩ => ⟨hp, ρ, r, w, gd, s, h.bind fun d w1 r1 H1 t1 g1 h1 v rv => by
    split at h1
    · rename_i e
      exact ⟨true, truth_v g1 rv e, iteT ⟨hp, ρ, r1, w1, g1, s.mono t1, h1⟩⟩
    · rename_i e
      exact ⟨false, truth_v g1 rv e, iteF (h1.ok g1 v rv)⟩
    · exact h1.elim⟩
theorem ep_or (ha : PE X a (tEp P X.K W f)) (hb : PE X (.BoolOp .Or (b :: rest) pos) (tEp P X.K W g)) : PE X (.BoolOp .Or (a :: b :: rest) pos) (tEp P X.K W (xOrV f g)) :=
  (pe_or2 ha hb).imp fun σ H Q ⟨hp, ρ, r, w, gd, s, h⟩ => ⟨hp, ρ, r, w, gd, s, h.bind fun d w1 r1 H1 t1 g1 h1 v rv => by
    split at h1
    · rename_i e
      exact ⟨true, truth_v g1 rv e, iteT (h1.ok g1 v rv)⟩
    · rename_i e
      exact ⟨false, truth_v g1 rv e, iteF ⟨hp, ρ, r1, w1, g1, s.mono t1, h1⟩⟩
    · exact h1.elim⟩
theorem ep_not (ha : PE X a (tEp P X.K W f)) : PE X (.UnaryOp .Not a pos) (tEp P X.K W (xNotV f)) :=
  (pe_not2 ha).imp fun σ H Q ⟨hp, ρ, r, w, gd, s, h⟩ => ⟨hp, ρ, r, w, gd, s, h.bind fun d w1 r1 H1 t1 g1 h1 v rv => by
    split at h1
    · rename_i b e
      exact ⟨b, truth_v g1 rv e, h1.ok g1 _ (.bl _)⟩
    · exact h1.elim⟩
theorem tp_tr (h : PE X e (tEp P X.K W f)) (he : ∀ whole, isTrue e X.env whole = (do let v ← whole; standAt e.pos; holding [v] (truthy v)) := by intro _; rfl) : PT X e (tTp P X.K W (xTr f)) :=
  (pt_tru2 h he).imp fun σ H Q ⟨hp, ρ, r, w, g, s, h⟩ => ⟨hp, ρ, r, w, g, s, h.bind fun d w1 r1 H1 t1 g1 h1 v rv => by
    split at h1
    · rename_i b e
      exact ⟨b, truth_v g1 rv e, h1.ok g1⟩
    · exact h1.elim⟩
theorem wp_and1 (ha : PT X a (tTp P X.K W t)) : PW X (.BoolOp .And [a] pos) (tTp P X.K W t) := pw_and1 ha
theorem wp_or1 (ha : PT X a (tTp P X.K W t)) : PW X (.BoolOp .Or [a] pos) (tTp P X.K W t) := pw_or1 ha
theorem wp_and (ha : PT X a (tTp P X.K W t)) (hb : PW X (.BoolOp .And (b :: rest) pos) (tTp P X.K W u)) : PW X (.BoolOp .And (a :: b :: rest) pos) (tTp P X.K W (xAnd t u)) := (pw_and ha hb).imp fun σ H Q ⟨hp, ρ, r, w, gd, s, h⟩ =>
  ⟨hp, ρ, r, w, gd, s, h.bind fun b w1 r1 H1 t1 g1 h1 => by
    cases b with
    | true => exact iteT ⟨hp, ρ, r1, w1, g1, s.mono t1, h1⟩
    | false => exact iteF (h1.ok g1)⟩
theorem wp_or (ha : PT X a (tTp P X.K W t)) (hb : PW X (.BoolOp .Or (b :: rest) pos) (tTp P X.K W u)) : PW X (.BoolOp .Or (a :: b :: rest) pos) (tTp P X.K W (xOr t u)) := (pw_or ha hb).imp fun σ H Q ⟨hp, ρ, r, w, gd, s, h⟩ =>
  ⟨hp, ρ, r, w, gd, s, h.bind fun b w1 r1 H1 t1 g1 h1 => by
    cases b with
    | true => exact iteT (h1.ok g1)
    | false => exact iteF ⟨hp, ρ, r1, w1, g1, s.mono t1, h1⟩⟩
theorem tp_not (ha : PT X a (tTp P X.K W t)) : PT X (.UnaryOp .Not a pos) (tTp P X.K W (xNot t)) := (pt_not ha).imp fun σ H Q ⟨hp, ρ, r, w, gd, s, h⟩ =>
  ⟨hp, ρ, r, w, gd, s, h.bind fun b w1 r1 H1 t1 g1 h1 => h1.ok g1⟩
end
/-- slot i holds the error -/
def erAt (i : Nat) (a : Addr) : L2.St → Prop := fun σ => σ[i]? = some (some (.ref a))
/-- isinstance(error, F), of an error of class cc -/
theorem ep_isE {X : Cx} {W : WX} {a : Addr} {oe : Obj} {pn : List (Addr × Obj)} {i cc : Nat} {b : Bool} {n : Str} {e2 : Expr} {np p pos : Pos} {cv : Value} {c : V} (C : ExcC X.K (clsA X.K cc)) (hz : Zc (.ref (clsA X.K cc)) none oe) (hf : ∃ vs, oe.data = .fields vs)
    (hg : Gl (X.suite a ((a, oe) :: pn)) "isinstance") (hm : X.mg "isinstance" = none) (he : PE (X.suite a ((a, oe) :: pn)) (.Name n np) (tVar i)) (h2 : PE (X.suite a ((a, oe) :: pn)) e2 (tC c)) (hc : ∀ u, RelV c u → u = cv) (hk : PySem.W.kitOne X.K (.ref (clsA X.K cc)) cv = some b)
    (hs2 : starEach [e2] (X.suite a ((a, oe) :: pn)).env = (false, eval e2 (X.suite a ((a, oe) :: pn)).env) :: starEach [] (X.suite a ((a, oe) :: pn)).env := by rfl)
    (hs : starEach [.Name n np, e2] (X.suite a ((a, oe) :: pn)).env = (false, eval (.Name n np) (X.suite a ((a, oe) :: pn)).env) :: starEach [e2] (X.suite a ((a, oe) :: pn)).env := by rfl)
    (hpl : (backTo pos (starEach [e2] (X.suite a ((a, oe) :: pn)).env)).any (·.1) = false := by rfl) :
    PE (X.suite a ((a, oe) :: pn)) (.Call (.Name "isinstance" p) [.Name n np, e2] [] pos) (tEp (erAt i a) X.K W (xC (.bl b))) :=
  (pe_callB (call_isE C hz hf) hg hm (by decide +kernel) (pa_cons he (pa_cons h2 pa_nil hs2) hs) (by decide) (by decide) hs hpl).imp fun σ H Q ⟨hp, ρ, r, w, gd, s, h⟩ =>
    ⟨_, hp, _, cv, b, rfl, hc, hk, h.ok gd (.bl b) (.bl b)⟩

/-! ### suites -/
def tSu (i : Nat) (a : Addr) (c : Sc) (g : Sx) : TS := fun D σ H => erAt i a σ ∧ tS c g D σ H
def noNx : SOut → SOut
  | .next _ _ => .bad
  | o => o
def sSuIf (t : Tx) (f g : Sx) : Sx := evI t fun b ρ r => if b = true then noNx (f ρ r) else g ρ r
section
variable {X : Cx} {c : Sc} {st : Stmt} {rest body : List Stmt} {f : Ex} {g h : Sx} {t : Tx} {i : Nat} {a : Addr} {pos : Pos} {e : Expr}
theorem su_any (hb : PSs X body (tS c g)) : PSs X body (tSu i a c g) := hb.imp fun _ _ _ q => q.2
theorem su_one (hb : PS X st (tSu i a c g)) : PSs X [st] (tSu i a c g) := pss_one hb
theorem su_ret (hr : PS X st (tRet (tEp (erAt i a) c.K c.W f))) : PS X st (tSu i a c (sRet c.fr c.O f)) :=
  hr.imp fun D σ H ⟨hp, ρ, r, lo, ⟨w, s⟩, h⟩ => ⟨hp, wipeE ρ c.O, r, w, s.gd, s.slots, evF_dl s h fun d r1 w1 H1 t s1 h1 v rv => by
    split at h1
    · exact h1.elim
    · rename_i hn
      exact h1 w1 H1 v s1.tr s1.gd (postD_of rv (by simpa using hn))⟩
theorem su_if (hc : PT X e (tTp (erAt i a) c.K c.W t)) (ha : PSs X body (tS c g)) (hr : PSs X rest (tSu i a c h)) : PSs X (.If e body [] pos :: rest) (tSu i a c (sSuIf t g h)) :=
  (pss_cons (ps_if hc ha pss_nil) hr).imp fun D σ H ⟨hp, ρ, r, lo, ⟨w, s⟩, q⟩ => ⟨hp, ρ, r, visW w c.O ρ σ H, s.all.1, s.all.2.1, evI_dl s q fun b r1 r2 w1 H1 t g1 s1 sT h1 => by
    cases b with
    | true =>
      refine iteT ⟨ρ, r2, lo, ⟨_, s1⟩, ?_⟩
      rw [if_pos rfl] at h1
      revert h1
      generalize g ρ r2 = o
      intro h1
      cases o with
      | next ρ3 r3 => exact h1.elim
      | ret d r3 => exact h1
      | brk ρ3 r3 => exact h1
      | cont ρ3 r3 => exact h1
      | exc x fs ρ3 r3 => exact h1
      | bad => exact h1
    | false =>
      rw [if_neg Bool.false_ne_true] at h1
      exact iteF ⟨hp, ρ, r2, lo, ⟨_, s1⟩, h1⟩⟩
end
theorem SIw.junk {K : PySem.W.Frag} {E : Ent} {lo : Wd} {O : List Nat} {ρ : En} {r : Rs} {σ : L2.St} {H : Hp} {w : Wd} (s : SIw K E lo O ρ r σ H w) {i : Nat} (hi : i ∉ O) (x : Option V) : SIw K E lo O (ρ.set i none) r (σ.set i x) H w := by
  have back : ∀ {j : Nat} {d : D}, (ρ.set i none)[j]? = some (some d) → ρ[j]? = some (some d) ∧ i ≠ j := fun {j d} e => by
    by_cases hj : i = j
    · subst hj
      by_cases hl : i < ρ.length
      · rw [List.getElem?_set_self hl] at e; cases e
      · rw [List.getElem?_eq_none (by simpa using hl)] at e; cases e
    · rw [List.getElem?_set_ne hj] at e
      exact ⟨e, hj⟩
  refine ⟨s.tr, s.los, s.lop, s.gd, by rw [List.length_set, List.length_set]; exact s.len, fun j d e ho => ?_, fun j d e ho => ?_, fun a b d e p ha hb hne h1 h2 h3 => ?_⟩
  · obtain ⟨q1, q2⟩ := back e
    rw [List.getElem?_set_ne q2]
    exact s.fr j d q1 ho
  · obtain ⟨q1, q2⟩ := back e
    rw [List.getElem?_set_ne q2]
    exact s.ow j d q1 ho
  · obtain ⟨q1, q2⟩ := back h1
    obtain ⟨q3, q4⟩ := back h2
    rw [List.getElem?_set_ne q2] at h3
    rw [List.getElem?_set_ne q4]
    exact s.dj a b d e p ha hb hne q1 q3 h3
/-- behind a suite: its error's name is gone -/
def wrapE (i : Nat) : SOut → SOut
  | .next ρ r => .next (ρ.set i none) r
  | .brk ρ r => .brk (ρ.set i none) r
  | .cont ρ r => .cont (ρ.set i none) r
  | .ret d r => .ret d r
  | _ => .bad
def kTryAs (cs : List Nat) (c0 i : Nat) (su : Nat → Sx) : SOut → SOut
  | .exc x fs ρ r => if fs.isEmpty && cs.contains x && decide (i < ρ.length) then (if subE x c0 then wrapE i (su x (ρ.set i none) r) else .exc x fs ρ r) else .bad
  | o => o
/-- try: body except C as n: suite -/
def sTryAs (cs : List Nat) (c0 i : Nat) (g : Sx) (su : Nat → Sx) : Sx := fun ρ r => kTryAs cs c0 i su (g ρ r)
def W0' : WX := fun _ _ _ _ => False
section
variable {X : Cx} {c : Sc} {x n : Str} {i c0 : Nat} {cs : List Nat} {body suite : List Stmt} {b₀ : Stmt} {np pos pos' : Pos} {g : Sx} {su : Nat → Sx}
theorem ds_try_as (eK : X.K = c.K) (hs : X.stack = X.env :: X.outer) (hf : X.env.frame = some X.env.locals) (hN : X.N.Nodup) (hi : X.N[i]? = some n) (hln : X.env.kindOf n = some .local) (hc : Names X x (.ref (clsA c.K c0))) (tk : Takes X c.W) (hiO : i ∉ c.O)
    (hem : ∀ cc, cs.contains cc = true → PySem.W.exmOne c.K (.ref (clsA c.K cc)) (.ref (clsA c.K c0)) = some (subE cc c0))
    (hb : ∀ (W : WX) (pn : List (Addr × Obj)) (xe : Value → Shared → Prop), Takes (X.tr pn xe) W → PassesOwn (model X.prog X.w) X.A X.env xe → PSs (X.tr pn xe) body (tS { c with W := W } g))
    (hsu : ∀ (cc : Nat), cs.contains cc = true → ∀ (a : Addr) (oe : Obj) (pn : List (Addr × Obj)), Zc (.ref (clsA c.K cc)) none oe → (∃ vs, oe.data = .fields vs) → PSs (X.suite a ((a, oe) :: pn)) (b₀ :: suite) (tSu i a { c with W := W0' } (su cc))) :
    PS X (.Try body [.ExceptHandler (some (.Name x np)) (some n) (b₀ :: suite) pos'] [] [] pos) (tS c (sTryAs cs c0 i g su)) :=
  (ps_try_as (ts := fun a cls d D σ H => ∃ cc, (cs.contains cc = true ∧ cls = .ref (clsA c.K cc) ∧ d = none) ∧ tSu i a { c with W := W0' } (su cc) D σ H) (tb := fun W => tS { c with W := W } g) hs hf hN hi hln hc tk hb
    (fun a oe cls d pn hz hd => ⟨fun pins s σ H D I q => by
      obtain ⟨cc, ⟨h1, h2, h3⟩, q⟩ := q
      subst h2 h3
      exact (hsu cc h1 a oe pn hz hd).run pins s σ H D I q⟩)).imp fun D σ H ⟨ρ, r, lo, s, h⟩ => by
    refine ⟨ρ, r, lo, s, ?_⟩
    unfold sTryAs at h
    revert h
    generalize g ρ r = o
    intro h
    cases o with
    | next ρ1 r1 => exact h
    | ret d r1 => exact h
    | brk ρ1 r1 => exact h
    | cont ρ1 r1 => exact h
    | bad => exact h
    | exc y fs ρ1 r1 =>
      intro σ1 H1 cls dd s1 e
      have h : AfterS c lo D (if (fs.isEmpty && cs.contains y && decide (i < ρ1.length)) = true then (if subE y c0 = true then wrapE i (su y (ρ1.set i none) r1) else .exc y fs ρ1 r1) else .bad) := h
      split at h
      · rename_i hcond
        rw [Bool.and_eq_true, Bool.and_eq_true, decide_eq_true_eq] at hcond
        obtain ⟨⟨hc1, hc2⟩, hc3⟩ := hcond
        obtain ⟨e1, e2, e3⟩ := e
        subst e1
        refine ⟨subE y c0, by rw [eK]; exact hem y hc2, fun hb1 a ha => ?_, fun hb0 => ?_⟩
        · rw [if_pos hb1] at h
          have hd := e2 hc1
          subst hd
          obtain ⟨w1, s1⟩ := s1
          have s2 := s1.junk hiO (some (.ref a))
          have hl : i < σ1.length := by rw [← s1.len]; exact hc3
          refine ⟨y, ⟨hc2, rfl, rfl⟩, List.getElem?_set_self hl, ρ1.set i none, r1, lo, ⟨w1, s2⟩, ?_⟩
          revert h
          generalize su y (ρ1.set i none) r1 = o2
          intro h
          cases o2 with
          | next ρ2 r2 => exact fun σ2 H2 ⟨w2, q2⟩ => h _ _ ⟨w2, q2.junk hiO none⟩
          | brk ρ2 r2 => exact fun σ2 H2 ⟨w2, q2⟩ => h _ _ ⟨w2, q2.junk hiO none⟩
          | cont ρ2 r2 => exact fun σ2 H2 ⟨w2, q2⟩ => h _ _ ⟨w2, q2.junk hiO none⟩
          | ret d r2 => exact h
          | exc z fs2 ρ2 r2 => exact h.elim
          | bad => exact h
        · rw [if_neg (by rw [hb0]; exact Bool.false_ne_true)] at h
          exact h σ1 H1 _ dd s1 ⟨rfl, e2, e3⟩
      · exact h.elim
end
end DL

/-! DL17: calls that hand back new things; more built-ins; resources that are dicts; statements that see all. -/
namespace DL
open PySem L2
section
variable {X : Cx} {W : WX}
/-! ### a call that hands back a new list, a new dict -/
def xCallN (F : List D → Rs → Out D) (f : Ax) : Lx := fun ρ r => (f ρ r).bind fun ds r1 => (F ds r1).bind fun d r2 => match d with
  | .lst es => .ok es r2
  | _ => .bad
def xCallND (F : List D → Rs → Out D) (f : Ax) : Dx := fun ρ r => (f ρ r).bind fun ds r1 => (F ds r1).bind fun d r2 => match d with
  | .dic es => .ok es r2
  | _ => .bad
section
variable {k : Nat} {f : Addr} {fd : FuncData} {ps : List Str} {n : Nat} {x : Str} {p pos : Pos} {e : Expr} {es : List Expr} {F : List D → Rs → Out D} {fa : Ax}
theorem callN_dl {α : Type} {conv : D → Rs → Out α} {T : α → Wd → Hp → Hp → VK → Prop} (hn : ∀ ρ r ds r', fa ρ r = .ok ds r' → ds.length = n)
    (hT : ∀ d r a r2 w1 H1 w2 H2 v Q H w, conv d r = .ok a r2 → r2 = r ∧ (Tr w H w1 H1 → PostD X.K true H1 w2 H2 d v → (T a w2 H H2 Q) → Q v H2)) (hE : ∀ d r x fs r2, conv d r ≠ .exc x fs r2)
    {σ : L2.St} {H : Hp} {Q : VK}
    (h : ∃ ρ r w, Good X.K w r H ∧ Slots X.K w ρ σ ∧ After X.K W w H σ ((fa ρ r).bind fun ds r1 => (F ds r1).bind conv) fun a w' _ H' => T a w' H H' Q) :
    tCallS (spF X.K n true F) (WE W) (tA X.K W fa) σ H Q := by
  obtain ⟨ρ, r, w, gd, s, h⟩ := h
  refine ⟨ρ, r, w, gd, s, ?_⟩
  have hl := hn ρ r
  revert h hl
  generalize fa ρ r = o
  intro h hl
  cases o with
  | ok ds r1 =>
    intro w1 H1 t1 g1 vs rvs
    refine ⟨by rw [← rvs.length]; exact hl ds r1 rfl, ds, r1, w1, g1, rvs, ?_⟩
    have h' : After X.K W w H σ ((F ds r1).bind conv) (fun a w' _ H' => T a w' H H' Q) := h
    revert h'
    generalize F ds r1 = o2
    intro h'
    cases o2 with
    | ok d r2 =>
      intro w2 H2 v t2 g2 q
      have h2 : After X.K W w H σ (conv d r2) (fun a w' _ H' => T a w' H H' Q) := h'
      revert h2
      generalize hc : conv d r2 = o3
      intro h2
      cases o3 with
      | ok a r3 =>
        obtain ⟨rfl, k⟩ := hT d r2 a r3 w1 H1 w2 H2 v Q H w hc
        exact k t1 q (h2 w2 H2 (t1.trans t2) g2)
      | exc x fs r3 => exact absurd hc (hE _ _ _ _ _)
      | bad => exact h2.elim
    | exc c fs r2 => exact fun w2 H2 cls dd t2 g2 x => h' w2 H2 cls dd (t1.trans t2) g2 x
    | bad => exact h'
  | exc c fs r1 => exact h
  | bad => exact h
theorem dn_call (G : FnOk X.prog X.w X.K X.mg X.base (L2.CX X.prog X.w) k f fd ps (spF X.K n true F)) (hr : Room k X.A) (hg : Gl X x) (hm : X.mg x = some (.ref f)) (hk : PySem.W.keepIn X.K (.ref f) = true) (hb : Binds X.K fd ps []) (tk : Takes X W)
    (ha : PA X (e :: es) (tA X.K W fa)) (hn : ∀ ρ r ds r', fa ρ r = .ok ds r' → ds.length = n) (hdb : (x == ("__debug__" : Str)) = false := by decide) (he : starEach (e :: es) X.env = (false, eval e X.env) :: starEach es X.env := by rfl) (hpl : (backTo pos (starEach es X.env)).any (·.1) = false := by rfl) :
    PE X (.Call (.Name x p) (e :: es) [] pos) (tN X.K W (xCallN F fa)) :=
  (pe_callS G hr hg hm hk hb (fun σ => passAt tk σ) ha hdb he hpl).imp fun σ H Q h =>
    callN_dl (T := fun ds w' H H' Q => ∀ p, NewL X.K w' H H' ds p → Q (.ref p) H') hn (fun d r a r2 w1 H1 w2 H2 v Q H w hc => by
      cases d <;> cases hc
      refine ⟨rfl, fun t1 q k => ?_⟩
      obtain ⟨p, rfl, n⟩ := q
      exact k p ⟨t1.fresh n.fresh, n.nv, n.nm, n.at_⟩) (fun d r x fs r2 hc => by cases d <;> cases hc) h
theorem dnd_call (G : FnOk X.prog X.w X.K X.mg X.base (L2.CX X.prog X.w) k f fd ps (spF X.K n true F)) (hr : Room k X.A) (hg : Gl X x) (hm : X.mg x = some (.ref f)) (hk : PySem.W.keepIn X.K (.ref f) = true) (hb : Binds X.K fd ps []) (tk : Takes X W)
    (ha : PA X (e :: es) (tA X.K W fa)) (hn : ∀ ρ r ds r', fa ρ r = .ok ds r' → ds.length = n) (hdb : (x == ("__debug__" : Str)) = false := by decide) (he : starEach (e :: es) X.env = (false, eval e X.env) :: starEach es X.env := by rfl) (hpl : (backTo pos (starEach es X.env)).any (·.1) = false := by rfl) :
    PE X (.Call (.Name x p) (e :: es) [] pos) (tND X.K W (xCallND F fa)) :=
  (pe_callS G hr hg hm hk hb (fun σ => passAt tk σ) ha hdb he hpl).imp fun σ H Q h =>
    callN_dl (T := fun ds w' H H' Q => ∀ p, NewD X.K w' H H' ds p → Q (.ref p) H') hn (fun d r a r2 w1 H1 w2 H2 v Q H w hc => by
      cases d <;> cases hc
      refine ⟨rfl, fun t1 q k => ?_⟩
      obtain ⟨p, rfl, n⟩ := q
      exact k p ⟨t1.fresh n.fresh, n.nv, n.nm, n.at_⟩) (fun d r x fs r2 hc => by cases d <;> cases hc) h
end
/-! ### built-ins -/
def cStr (_ : Rs) : List D → Option D
  | [.int i] => if big i then some (.str (toString i)) else none
  | _ => none
theorem cd_str : CalD X (.type "str") cStr := ⟨_, call_str_int, fun w r H ds vs d Q g rvs e k => by
  cases rvs with
  | nil => cases e
  | cons rv rt =>
    cases rt with
    | cons _ _ => cases rv <;> cases e
    | nil =>
      cases rv <;> simp only [cStr] at e <;> try (cases e; done)
      split at e
      · rename_i i hb
        cases e
        refine ⟨_, rfl, ?_, k.now g (.str _)⟩
        have := big_of hb
        by_cases h0 : i.natAbs = 0
        · rw [h0]; decide
        · have h1 : i.natAbs < 2 ^ 1920 := Nat.lt_of_lt_of_le (show i.natAbs < 2 ^ 63 by omega) (Nat.pow_le_pow_right (n := 2) (by decide) (show 63 ≤ 1920 by decide))
          exact (Nat.log2_lt h0).mpr h1
      · cases e⟩
def blsOf : List D → Option (List Bool)
  | [] => some []
  | .bl b :: r => (blsOf r).map (b :: ·)
  | _ => none
theorem Rps.bls {K : PySem.W.Frag} {m : List Addr} {H : Hp} : ∀ {ds : List D} {vs : List V} {bs : List Bool}, Rps K m H ds vs → blsOf ds = some bs → vs = bs.map V.bl
  | _, _, _, .nil, e => by cases e; rfl
  | _, _, _, .cons r t, e => by
    cases r <;> simp only [blsOf] at e <;> try cases e
    cases q : blsOf _ with
    | none => rw [q] at e; cases e
    | some l =>
      rw [q] at e
      cases e
      rw [Rps.bls t q]
      rfl
def cAny (_ : Rs) : List D → Option D
  | [.lst ds] => (blsOf ds).map fun bs => .bl (bs.any id)
  | _ => none
def cAll (_ : Rs) : List D → Option D
  | [.lst ds] => (blsOf ds).map fun bs => .bl (bs.all id)
  | _ => none
theorem cd_any (hc : X.calm = true) : CalD X (.builtin "any") cAny := ⟨_, cr_any hc, fun w r H ds vs d Q g rvs e k => by
  cases rvs with
  | nil => cases e
  | cons rv rt =>
    cases rt with
    | cons _ _ => cases rv <;> cases e
    | nil =>
      cases rv <;> simp only [cAny] at e <;> try cases e
      rename_i a xs ds hx rx
      cases q : blsOf ds with
      | none => rw [q] at e; cases e
      | some bs =>
        rw [q] at e
        cases e
        have z := rx.bls q
        subst z
        exact ⟨a, bs, rfl, SqL.of (g.sub _ _ hx), k.now g (.bl _)⟩⟩
theorem cd_all (hc : X.calm = true) : CalD X (.builtin "all") cAll := ⟨_, cr_all hc, fun w r H ds vs d Q g rvs e k => by
  cases rvs with
  | nil => cases e
  | cons rv rt =>
    cases rt with
    | cons _ _ => cases rv <;> cases e
    | nil =>
      cases rv <;> simp only [cAll] at e <;> try cases e
      rename_i a xs ds hx rx
      cases q : blsOf ds with
      | none => rw [q] at e; cases e
      | some bs =>
        rw [q] at e
        cases e
        have z := rx.bls q
        subst z
        exact ⟨a, bs, rfl, SqL.of (g.sub _ _ hx), k.now g (.bl _)⟩⟩
def cMax2 (_ : Rs) : List D → Option D
  | [.int i, .int j] => some (.int (if j > i then j else i))
  | _ => none
def cMin2 (_ : Rs) : List D → Option D
  | [.int i, .int j] => some (.int (if j < i then j else i))
  | _ => none
theorem cd_max2 (hc : X.calm = true) : CalD X (.builtin "max") cMax2 := ⟨_, call_max2 hc, fun w r H ds vs d Q g rvs e k => by
  cases rvs with
  | nil => cases e
  | cons rv rt =>
    cases rt with
    | nil => cases rv <;> cases e
    | cons rv2 rt2 =>
      cases rt2 with
      | cons _ _ => cases rv <;> cases rv2 <;> cases e
      | nil =>
        cases rv <;> cases rv2 <;> simp only [cMax2] at e <;> cases e
        exact ⟨_, _, rfl, k.now g (.int _)⟩⟩
theorem cd_min2 (hc : X.calm = true) : CalD X (.builtin "min") cMin2 := ⟨_, call_min2 hc, fun w r H ds vs d Q g rvs e k => by
  cases rvs with
  | nil => cases e
  | cons rv rt =>
    cases rt with
    | nil => cases rv <;> cases e
    | cons rv2 rt2 =>
      cases rt2 with
      | cons _ _ => cases rv <;> cases rv2 <;> cases e
      | nil =>
        cases rv <;> cases rv2 <;> simp only [cMin2] at e <;> cases e
        exact ⟨_, _, rfl, k.now g (.int _)⟩⟩
def maxI : List Int → Int
  | [] => 0
  | [x] => x
  | x :: y :: r => max x (maxI (y :: r))
def minI : List Int → Int
  | [] => 0
  | [x] => x
  | x :: y :: r => min x (minI (y :: r))
theorem maxI_spec : ∀ {ns : List Int}, 0 < ns.length → maxI ns ∈ ns ∧ ∀ y ∈ ns, y ≤ maxI ns
  | [], h => by simp at h
  | [x], _ => ⟨List.mem_singleton.mpr rfl, fun y hy => by rw [List.mem_singleton.mp hy]; exact Int.le_refl _⟩
  | x :: y :: r, _ => by
    obtain ⟨h1, h2⟩ := maxI_spec (ns := y :: r) (by simp)
    rw [maxI]
    refine ⟨?_, fun z hz => ?_⟩
    · by_cases h : x ≤ maxI (y :: r)
      · rw [Int.max_eq_right h]; exact List.mem_cons_of_mem _ h1
      · rw [Int.max_eq_left (by omega)]; exact List.mem_cons_self
    · rcases List.mem_cons.mp hz with e | e
      · rw [e]; exact Int.le_max_left _ _
      · exact Int.le_trans (h2 z e) (Int.le_max_right _ _)
theorem minI_spec : ∀ {ns : List Int}, 0 < ns.length → minI ns ∈ ns ∧ ∀ y ∈ ns, minI ns ≤ y
  | [], h => by simp at h
  | [x], _ => ⟨List.mem_singleton.mpr rfl, fun y hy => by rw [List.mem_singleton.mp hy]; exact Int.le_refl _⟩
  | x :: y :: r, _ => by
    obtain ⟨h1, h2⟩ := minI_spec (ns := y :: r) (by simp)
    rw [minI]
    refine ⟨?_, fun z hz => ?_⟩
    · by_cases h : x ≤ minI (y :: r)
      · rw [Int.min_eq_left h]; exact List.mem_cons_self
      · rw [Int.min_eq_right (by omega)]; exact List.mem_cons_of_mem _ h1
    · rcases List.mem_cons.mp hz with e | e
      · rw [e]; exact Int.min_le_left _ _
      · exact Int.le_trans (Int.min_le_right _ _) (h2 z e)
def cMax1 (_ : Rs) : List D → Option D
  | [.lst ds] => (intsOf ds).bind fun ns => if ns.isEmpty then none else some (.int (maxI ns))
  | _ => none
def cMin1 (_ : Rs) : List D → Option D
  | [.lst ds] => (intsOf ds).bind fun ns => if ns.isEmpty then none else some (.int (minI ns))
  | _ => none
theorem cd_max1 (hc : X.calm = true) : CalD X (.builtin "max") cMax1 := ⟨_, cr_max hc, fun w r H ds vs d Q g rvs e k => by
  cases rvs with
  | nil => cases e
  | cons rv rt =>
    cases rt with
    | cons _ _ => cases rv <;> cases e
    | nil =>
      cases rv <;> simp only [cMax1] at e <;> try cases e
      rename_i a xs ds hx rx
      cases q : intsOf ds with
      | none => rw [q] at e; cases e
      | some ns =>
        rw [q, Option.bind_some] at e
        split at e
        · cases e
        · rename_i hne
          cases e
          have z := rx.ints q
          subst z
          have h0 : 0 < ns.length := by cases ns with | nil => exact absurd rfl hne | cons _ _ => simp
          refine ⟨a, ns, rfl, SqL.of (g.sub _ _ hx), h0, fun m hm hy => ?_⟩
          obtain ⟨h1, h2⟩ := maxI_spec h0
          have : m = maxI ns := Int.le_antisymm (h2 m hm) (hy _ h1)
          subst this
          exact k.now g (.int _)⟩
theorem cd_min1 (hc : X.calm = true) : CalD X (.builtin "min") cMin1 := ⟨_, cr_min hc, fun w r H ds vs d Q g rvs e k => by
  cases rvs with
  | nil => cases e
  | cons rv rt =>
    cases rt with
    | cons _ _ => cases rv <;> cases e
    | nil =>
      cases rv <;> simp only [cMin1] at e <;> try cases e
      rename_i a xs ds hx rx
      cases q : intsOf ds with
      | none => rw [q] at e; cases e
      | some ns =>
        rw [q, Option.bind_some] at e
        split at e
        · cases e
        · rename_i hne
          cases e
          have z := rx.ints q
          subst z
          have h0 : 0 < ns.length := by cases ns with | nil => exact absurd rfl hne | cons _ _ => simp
          refine ⟨a, ns, rfl, SqL.of (g.sub _ _ hx), h0, fun m hm hy => ?_⟩
          obtain ⟨h1, h2⟩ := minI_spec h0
          have : m = minI ns := Int.le_antisymm (hy _ h1) (h2 m hm)
          subst this
          exact k.now g (.int _)⟩
/-- k in d, as a value -/
theorem de_din {a b : Expr} {pos : Pos} {f g : Ex} {k : Nat} (hr : Room k X.A) (ha : PE X a (tE X.K W f)) (hb : PE X b (tE X.K W g)) (hm : behindInMarks .In b = false := by rfl) : PE X (.Compare a [.In] [b] pos) (tE X.K W (xV (xDIn f g))) :=
  (pe_cmp (pc_din (hu_of hr) ha hb) hm).imp fun σ H Q h => by
    have h' : tT X.K W (xDIn f g) σ H (fun b H => Q (.bl (false.xor b)) H) := by
      obtain ⟨ρ, r, w, gd, s, h⟩ := h
      exact ⟨ρ, r, w, gd, s, h.bind fun b w1 r1 H1 t1 g1 h1 => by simpa using h1.ok g1 _ (.bl b)⟩
    have q := dIn_dl (neg := false) (X := X) (Q := fun b H => Q (.bl b) H) rfl h'
    obtain ⟨ρ, r, w, gd, s, q⟩ := q
    exact ⟨ρ, r, w, gd, s, q.mono fun d w1 r1 H1 t1 g1 q v rv => by
      obtain ⟨ρ2, r2, w2, gd2, s2, q2⟩ := q v rv
      exact ⟨ρ2, r2, w2, gd2, s2, q2.mono fun d2 w3 r3 H3 t3 g3 q3 v3 rv3 => by
        obtain ⟨a, o, e1, e2, e3⟩ := q3 v3 rv3
        exact ⟨a, o, e1, e2, by simpa using e3⟩⟩⟩
theorem de_dnotin {a b : Expr} {pos : Pos} {f g : Ex} {k : Nat} (hr : Room k X.A) (ha : PE X a (tE X.K W f)) (hb : PE X b (tE X.K W g)) (hm : behindInMarks .NotIn b = false := by rfl) : PE X (.Compare a [.NotIn] [b] pos) (tE X.K W (xV (xNot (xDIn f g)))) :=
  (pe_cmp (pc_dnotin (hu_of hr) ha hb) hm).imp fun σ H Q h => by
    have h' : tT X.K W (xDIn f g) σ H (fun b H => Q (.bl (true.xor b)) H) := by
      obtain ⟨ρ, r, w, gd, s, h⟩ := h
      have h1 : After X.K W w H σ (xNot (xDIn f g) ρ r) (fun b w' r' H' => Q (.bl b) H') := h.bind fun b w1 r1 H1 t1 g1 h1 => h1.ok g1 _ (.bl _)
      exact ⟨ρ, r, w, gd, s, h1.bind fun b w1 r1 H1 t1 g1 h2 => by simpa using h2.ok g1⟩
    have q := dIn_dl (neg := true) (X := X) (Q := fun b H => Q (.bl b) H) rfl h'
    obtain ⟨ρ, r, w, gd, s, q⟩ := q
    exact ⟨ρ, r, w, gd, s, q.mono fun d w1 r1 H1 t1 g1 q v rv => by
      obtain ⟨ρ2, r2, w2, gd2, s2, q2⟩ := q v rv
      exact ⟨ρ2, r2, w2, gd2, s2, q2.mono fun d2 w3 r3 H3 t3 g3 q3 v3 rv3 => by
        obtain ⟨a, o, e1, e2, e3⟩ := q3 v3 rv3
        exact ⟨a, o, e1, e2, by simpa using e3⟩⟩⟩
end
end DL

/-! DL18: dicts that are resources; statements over own things that see all; comprehensions over two things, of dicts. -/
namespace DL
open PySem L2
theorem immk_set {d : D} (h : d.imm = true) (k : Key) : ∀ {kds : List (Key × D)}, D.immk kds = true → D.immk (kds.map fun p => if p.1 = k then (p.1, d) else p) = true
  | [], _ => rfl
  | p :: r, e => by
    rw [D.immk, Bool.and_eq_true] at e
    rw [List.map_cons, D.immk, immk_set h k e.2]
    by_cases q : p.1 = k
    · rw [if_pos q]; simp [h]
    · rw [if_neg q]; simp [e.1]
theorem immk_snoc {d : D} (h : d.imm = true) (k : Key) : ∀ {kds : List (Key × D)}, D.immk kds = true → D.immk (kds ++ [(k, d)]) = true
  | [], _ => by show D.immk [(k, d)] = true; simp [D.immk, h]
  | p :: r, e => by
    rw [D.immk, Bool.and_eq_true] at e
    show D.immk (p :: (r ++ [(k, d)])) = true
    rw [D.immk, e.1, immk_snoc h k e.2]
    rfl
theorem immk_put {d : D} (h : d.imm = true) (k : Key) {kds : List (Key × D)} (e : D.immk kds = true) : D.immk (setK kds k d) = true := by
  unfold setK
  split
  · exact immk_set h k e
  · exact immk_snoc h k e
/-- a new resource -/
theorem good_addD {K : PySem.W.Frag} {w : Wd} {r : Rs} {H0 H : Hp} {w0 : Wd} (g : Good K w r H) (t : Tr w0 H0 w H) {ds : List (Key × D)} {p : Addr} (n : NewD K w H0 H ds p) (hi : D.immk ds = true) :
    Tr w0 H0 ⟨w.m ++ [p], w.v, w.g⟩ H ∧ Good K ⟨w.m ++ [p], w.v, w.g⟩ (r ++ [.dic ds]) H ∧ (w.m ++ [p])[r.length]? = some p := by
  have pr : Pre w.m (w.m ++ [p]) := fun k a e => by rw [List.getElem?_append_left (List.getElem?_eq_some_iff.mp e).1]; exact e
  have hp : (w.m ++ [p])[r.length]? = some p := by
    rw [← g.len, List.getElem?_append_right (Nat.le_refl _), Nat.sub_self]
    rfl
  refine ⟨⟨t.sub, t.pre.trans pr, t.keep, t.live, t.newv, fun b hb => ?_, t.tups, t.gm, t.same⟩, ⟨g.sub, fun a ha => ?_, ?_, ?_, fun k o e => ?_, fun k i c fs e => ?_⟩, hp⟩
  · rcases List.mem_append.mp hb with z | z
    · exact t.newm b z
    · rw [List.mem_singleton.mp z]; exact .inr n.fresh
  · rcases List.mem_append.mp ha with z | z
    · exact g.dis a z
    · rw [List.mem_singleton.mp z]; exact n.nv
  · rw [List.length_append, List.length_append, g.len]; rfl
  · refine List.nodup_append.mpr ⟨g.nd, by simp, fun a ha b hb => ?_⟩
    rw [List.mem_singleton.mp hb]
    rintro rfl
    exact n.nm ha
  · by_cases hk : k < r.length
    · rw [List.getElem?_append_left hk] at e
      obtain ⟨a, ha, x⟩ := g.at_ k o e
      exact ⟨a, pr k a ha, roAt_mono (.refl _) pr rfl x⟩
    · have hk2 : k = r.length := by
        have := (List.getElem?_eq_some_iff.mp e).1
        rw [List.length_append] at this
        simp only [List.length_singleton] at this
        omega
      subst hk2
      rw [List.getElem?_append_right (Nat.le_refl _), Nat.sub_self] at e
      cases e
      obtain ⟨xs, e1, q⟩ := n.at_
      exact ⟨p, hp, hi, xs, e1, q.mono (.refl _) pr⟩
  · by_cases hk : k < r.length
    · rw [List.getElem?_append_left hk] at e
      exact g.gv k i c fs e
    · have hk2 : k = r.length := by
        have := (List.getElem?_eq_some_iff.mp e).1
        rw [List.length_append] at this
        simp only [List.length_singleton] at this
        omega
      subst hk2
      rw [List.getElem?_append_right (Nat.le_refl _), Nat.sub_self] at e
      cases e
def xResD (f : Dx) : Ex := fun ρ r => (f ρ r).bind fun ds r1 => if D.immk ds = true then .ok (.loc r1.length) (r1 ++ [.dic ds]) else .bad
section
variable {X : Cx} {W : WX}
theorem de_resD {e : Expr} {f : Dx} (h : PE X e (tND X.K W f)) : PE X e (tE X.K W (xResD f)) := h.imp fun σ H Q ⟨ρ, r, w, g, s, h⟩ => ⟨ρ, r, w, g, s, h.fst fun ds w1 r1 H1 _ t1 g1 q h1 p n => by
  split at h1
  · rename_i hi
    obtain ⟨t2, g2, hp⟩ := good_addD g1 t1 n hi
    have q := q (.loc r1.length) (r1 ++ [.dic ds]) (if_pos hi) ⟨w1.m ++ [p], w1.v, w1.g⟩ H1 t2 g2
    exact q (.ref p) (.loc hp)
  · exact h1.elim⟩
end
section
variable {X : Cx} {c : Sc} {st : Stmt} {pos : Pos}
/-- d[k] = v, d a resource -/
def kDSetR (v o : D) : D → En → Rs → SOut := fun k ρ r => match o, keyOf k with
  | .loc n, some k => (match r[n]? with
    | some (.dic kds) => if v.imm && decide (kds.length < lim) then .next ρ (r.set n (.dic (setK kds k v))) else .bad
    | _ => .bad)
  | _, _ => .bad
def sDSetR (O : List Nat) (fo fk fv : Ex) : Sx := evF O fv fun v => evF O fo fun o => evF O fk (kDSetR v o)
theorem ds_dsetR {fo fk fv : Ex} (h : PS X st (sDPut (tE c.K c.W fo) (tE c.K c.W fk) (tE c.K c.W fv))) : PS X st (tS c (sDSetR c.O fo fk fv)) :=
  h.imp fun D σ H ⟨ρ, r, lo, ⟨w, s⟩, h⟩ => ⟨wipeE ρ c.O, r, w, s.gd, s.slots, evF_dl s h fun v r1 w1 H1 t1 s1 h1 x rx => ⟨wipeE ρ c.O, r1, w1, s1.gd, s1.slots, evF_dl s1 h1 fun o r2 w2 H2 t2 s2 h2 y ry => ⟨wipeE ρ c.O, r2, w2, s2.gd, s2.slots, evF_dl s2 h2 fun i r3 w3 H3 t3 s3 h3 z rz => by
    unfold kDSetR at h3
    split at h3
    · rename_i n k q2
      split at h3
      · rename_i kds hr
        split at h3
        · rename_i hc
          rw [Bool.and_eq_true, decide_eq_true_eq] at hc
          cases (t3.rp ry) with
          | loc hm =>
            obtain ⟨b, hb, im, kvs, q3, q4⟩ := s3.gd.at_ n _ hr
            rw [hm] at hb
            cases hb
            obtain ⟨t4, g4⟩ := good_res s3.gd hm hr rfl rfl (o' := .dic (setK kds k v)) (u := .dK (putK kvs k x)) ⟨immk_put hc.1 k im, _, upd_same, q4.put k ((t2.trans t3).rp rx)⟩
            exact ⟨_, _, rfl, .inl ⟨kvs, k, q3, rz.key q2, by rw [← q4.length]; exact lim_lt hc.2, rfl⟩, h3 _ _ ⟨w3, s3.step t4 g4⟩⟩
        · exact h3.elim
      · exact h3.elim
    · exact h3.elim⟩⟩⟩
/-! ### own things: statements that see all -/
def sInsI (i : Nat) (f : Ax) : Sx := evI f fun ds ρ r => if D.imms ds = true then kIns i ds ρ r else .bad
theorem ds_insI {i : Nat} {f : Ax} (h : PS X st (tDrop (tBM c.K "list" rIns (tVar i) (tA c.K c.W f)))) (hi : i ∈ c.O) : PS X st (tS c (isOwnL i (sInsI i f))) :=
  h.imp fun D σ H ⟨ρ, r, lo, ⟨w, s⟩, h⟩ => by
    obtain ⟨xs, e, h⟩ := isOwnL_dl h
    obtain ⟨p, h1, ty⟩ := own_ty hi s e
    refine ⟨_, h1, ty, ρ, r, visW w c.O ρ σ H, s.all.1, s.all.2.1, evI_dl s h fun ds r1 r2 w1 H1 t g1 s1 sT h2 vs rvs => ?_⟩
    split at h2
    · rename_i hm
      have rw' := rvs.immM sT (.refl _) hm
      clear rvs
      unfold kIns at h2
      split at h2
      · rename_i j d zs e2
        split at h2
        · rename_i hl
          obtain ⟨p', a1, a2, _⟩ := s1.ow i _ e2 hi
          rw [h1] at a1
          cases a1
          obtain ⟨ys, b1, b2⟩ := a2
          cases rw' with
          | cons q1 q2 =>
            cases q1
            cases q2 with
            | cons q2 q3 =>
              cases q3
              refine ⟨p, ys, j, _, rfl, rfl, b1, by rw [← b2.length]; exact lim_lt hl.1, hl.2.1, by have := (big_of hl.2.2).2; omega, h2 _ _ ⟨_, s1.mut hi e2 h1 ⟨_, upd_same, ((b2.takeD _).append (.one q2)).append (b2.dropD _)⟩⟩⟩
        · exact h2.elim
      · exact h2.elim
    · exact h2.elim
/-- xs.extend(a new list that hangs on own things): only of things without lists of their own -/
def D.imm2 : D → Bool
  | .lst ds => D.imms ds
  | .tup ds => D.imms ds
  | _ => false
def sExtI (i : Nat) (f : Lx) : Sx := evI f fun es ρ r => if D.imms es = true then (match ρ[i]? with
  | some (some (.lst xs)) => if xs.length + es.length ≤ lim then .next (ρ.set i (some (.lst (xs ++ es)))) r else .bad
  | _ => .bad) else .bad
theorem ds_extI {i : Nat} {f : Lx} (h : PS X st (tDrop (tBM c.K "list" rExtend (tVar i) (tCons (tN c.K c.W f) tNil)))) (hi : i ∈ c.O) : PS X st (tS c (isOwnL i (sExtI i f))) :=
  h.imp fun D σ H ⟨ρ, r, lo, ⟨w, s⟩, h⟩ => by
    obtain ⟨xs, e, h⟩ := isOwnL_dl h
    obtain ⟨p, h1, ty⟩ := own_ty hi s e
    refine ⟨_, h1, ty, ρ, r, visW w c.O ρ σ H, s.all.1, s.all.2.1, evI_dl s h fun es r1 r2 w1 H1 t g1 s1 sT h2 p2 n => ?_⟩
    split at h2
    · rename_i hm
      split at h2
      · rename_i zs e2
        split at h2
        · rename_i hl
          obtain ⟨p', a1, a2, _⟩ := s1.ow i _ e2 hi
          rw [h1] at a1
          cases a1
          obtain ⟨ys, b1, b2⟩ := a2
          obtain ⟨vs, n1, n2⟩ := n.at_
          exact ⟨p, p2, ys, vs, rfl, rfl, b1, n1, by rw [← b2.length, ← n2.length]; exact lim_le hl, h2 _ _ ⟨_, s1.mut hi e2 h1 ⟨_, upd_same, b2.append (n2.immM sT (.refl _) hm)⟩⟩⟩
        · exact h2.elim
      · exact h2.elim
    · exact h2.elim
/-- xs.extend(a new list) -/
def sExtN (O : List Nat) (i : Nat) (f : Lx) : Sx := evF O f fun es ρ r => match ρ[i]? with
  | some (some (.lst xs)) => if xs.length + es.length ≤ lim then .next (ρ.set i (some (.lst (xs ++ es)))) r else .bad
  | _ => .bad
theorem ds_extN {i : Nat} {f : Lx} (h : PS X st (tDrop (tBM c.K "list" rExtend (tVar i) (tCons (tN c.K c.W f) tNil)))) (hi : i ∈ c.O) : PS X st (tS c (isOwnL i (sExtN c.O i f))) :=
  h.imp fun D σ H ⟨ρ, r, lo, ⟨w, s⟩, h⟩ => by
    obtain ⟨xs, e, h⟩ := isOwnL_dl h
    obtain ⟨p, h1, ty⟩ := own_ty hi s e
    refine ⟨_, h1, ty, wipeE ρ c.O, r, w, s.gd, s.slots, evF_dl s h fun es r1 w1 H1 t s1 h2 p2 n => ?_⟩
    split at h2
    · rename_i zs e2
      split at h2
      · rename_i hl
        obtain ⟨p', a1, a2, _⟩ := s1.ow i _ e2 hi
        rw [h1] at a1
        cases a1
        obtain ⟨ys, b1, b2⟩ := a2
        obtain ⟨vs, n1, n2⟩ := n.at_
        exact ⟨p, p2, ys, vs, rfl, rfl, b1, n1, by rw [← b2.length, ← n2.length]; exact lim_le hl, h2 _ _ ⟨_, s1.mut hi e2 h1 ⟨_, upd_same, b2.append n2⟩⟩⟩
      · exact h2.elim
    · exact h2.elim
/-- xs[i] = v -/
def sSetOI (i : Nat) (fi fv : Ex) : Sx := evI fv fun v ρ r => if v.imm = true then evI fi (kSetO i v) ρ r else .bad
theorem ds_setOI {i : Nat} {fi fv : Ex} (h : PS X st (tAsg (tE c.K c.W fv) (gSub (tVar i) (tE c.K c.W fi) rSetL))) (hi : i ∈ c.O) : PS X st (tS c (isOwnL i (sSetOI i fi fv))) :=
  h.imp fun D σ H ⟨ρ, r, lo, ⟨w, s⟩, h⟩ => by
    obtain ⟨xs, e, h⟩ := isOwnL_dl h
    obtain ⟨p, h1, _⟩ := s.ow i _ e hi
    refine ⟨ρ, r, visW w c.O ρ σ H, s.all.1, s.all.2.1, evI_dl s h fun v r1 r1' w1 H1 t1 g1 s1 sT1 h2 x rx => ?_⟩
    split at h2
    · rename_i hm
      have rx := rx.immM sT1 (.refl _) hm
      refine ⟨_, h1, ρ, r1', visW (hidW w1 c.O ρ σ) c.O ρ σ H1, s1.all.1, s1.all.2.1, evI_dl2 s1 h2 fun k r2 r2' w2 H2 t12 t2 g2 s2 sT2 h3 y ry => ?_⟩
      unfold kSetO at h3
      split at h3
      · rename_i j ds q2
        split at h3
        · rename_i n hn
          cases ry
          obtain ⟨p', a1, a2, _⟩ := s2.ow i _ q2 hi
          rw [h1] at a1
          cases a1
          obtain ⟨zs, b1, b2⟩ := a2
          exact ⟨_, zs, j, n, rfl, rfl, b1, by rw [← b2.length]; exact hn, h3 _ _ ⟨_, s2.mut hi q2 h1 ⟨_, upd_same, b2.set (t12.rp rx) n⟩⟩⟩
        · exact h3.elim
      · exact h3.elim
    · exact h2.elim
end
end DL

/-! DL19: comprehensions with two fors; dict comprehensions. -/
namespace DL
open PySem L2
/-- a hidden object stays hidden -/
theorem hid_keep {w w' : Wd} {H H' : Hp} {p : Addr} {o : HO} (t : Tr w H w' H') (nv : w.v p = none) (nm : p ∉ w.m) (hp : H p = some o) : w'.v p = none ∧ p ∉ w'.m ∧ H' p = some o := by
  obtain ⟨k1, k2, k3⟩ := own_keep t hp nv nm
  exact ⟨k2, k3, k1.trans hp⟩
theorem Slots.mono2 {K : PySem.W.Frag} {w w' : Wd} {ρ : En} {σ : L2.St} (s : Slots K w ρ σ) (a : Sub w.v w'.v) (b : Pre w.m w'.m) : Slots K w' ρ σ := ⟨s.len, fun i d e => by
  obtain ⟨v, h, r⟩ := s.at_ i d e
  exact ⟨v, h, r.mono a b⟩⟩
/-- what a turn of a comprehension does with its item: T, after the test -/
def turnD (K : PySem.W.Frag) (t : Tx) (vs : List Nat) (σ : L2.St) (T : L2.St → Hp → Prop) (N : Hp → Prop) : L2.St → Hp → Prop := fun σ2 H2 => wipe σ2 vs = wipe σ vs ∧ tT K W0 t σ2 H2 fun b H3 => if b = true then T σ2 H3 else N H3
/-- the turns of a comprehension, whatever grows: go, what the turns do to the data; P, what stands between two turns -/
theorem turns_dl {K : PySem.W.Frag} {g : TG} {tg : Tg} {js : List Nat} {t : Tx} {vs : List Nat} {β : Type} {el : En → Rs → Option (β × Rs)} (hg : TgD K g tg js) (hj : ∀ j ∈ js, j ∈ vs) {σ : L2.St} {w1 : Wd} {H1 : Hp} {ρ : En} {J : It} {ds : List DL.D}
    (wk : Walks K J w1 ds) (s1 : Slots K w1 ρ σ) (P : List DL.D → Wd → Rs → Hp → Prop) (hP : ∀ l w r H, P l w r H → Good K w r H ∧ Sub w1.v w.v ∧ Pre w1.m w.m) {r1 : Rs} (h0 : P ds w1 r1 H1) {Fin : Hp → Prop} (fin : ∀ w r H, P [] w r H → Fin H) {T : L2.St → Hp → (Hp → Prop) → Prop}
    (step : ∀ d l w r H w2 H2, P (d :: l) w r H → Tr w H w2 H2 → Good K w2 r H2 → ∃ ρ1, tg d (wipeE ρ vs) = some ρ1 ∧ ((∃ r3, t ρ1 r = .ok false r3 ∧ ∀ w3 H3, Tr w2 H2 w3 H3 → Good K w3 r3 H3 → P l w3 r3 H3) ∨
      (∃ r3, t ρ1 r = .ok true r3 ∧ ∀ w3 H3 σ2 (N : Hp → Prop), Tr w2 H2 w3 H3 → Good K w3 r3 H3 → Slots K w3 ρ1 σ2 → (∀ w4 r4 H4, P l w4 r4 H4 → N H4) → T σ2 H3 N))) :
    ∃ W : Nat → Nat → Hp → Prop, (∃ m, W 0 m H1) ∧ ∀ i m H, W i m H →
      (J.stop i H ∧ Fin H) ∨ (J.go i H ∧ ∃ Nx : Hp → Prop, (∀ H', Nx H' → ∃ m', m' < m ∧ W (i + 1) m' H') ∧ ∀ x H', J.yld i H x H' → g x (wipe σ vs) H' fun σ2 H2 => wipe σ2 vs = wipe σ vs ∧ tT K W0 t σ2 H2 fun b H3 =>
        if b = true then T σ2 H3 Nx else Nx H3) := by
  refine ⟨fun i m H => m = ds.length - i ∧ i ≤ ds.length ∧ ∃ w r, P (ds.drop i) w r H, ⟨ds.length, by simp, Nat.zero_le _, w1, r1, by rw [List.drop_zero]; exact h0⟩, ?_⟩
  rintro i m H' ⟨rfl, le, w', r', p'⟩
  obtain ⟨g', sb, pr⟩ := hP _ _ _ _ p'
  by_cases hlt : i < ds.length
  · refine .inr ?_
    have hd : ds[i]? = some ds[i] := List.getElem?_eq_getElem hlt
    obtain ⟨go, yl⟩ := (wk w' r' H' sb pr g' i).1 _ hd
    refine ⟨go, fun H2 => i + 1 ≤ ds.length ∧ ∃ w r, P (ds.drop (i + 1)) w r H2, fun H2 q => ⟨ds.length - (i + 1), by omega, rfl, q.1, q.2⟩, fun x H2 y => ?_⟩
    obtain ⟨w2, t2, g2, rx⟩ := yl x H2 y
    rw [List.drop_eq_getElem_cons hlt] at p'
    obtain ⟨ρ1, e1, st⟩ := step _ _ _ _ _ w2 H2 p' t2 g2
    have sw : Slots K w2 (wipeE ρ vs) (wipe σ vs) := ((s1.mono2 sb pr).mono t2).wipe vs
    obtain ⟨σ2, k1, s2, k2, k3⟩ := hg.slots g2 sw rx e1
    refine k1 _ ⟨?_, ρ1, r', w2, g2, s2, ?_⟩
    · rw [← wipe_wipe (σ := σ) vs]
      exact wipe_eq k2 fun j hj' => k3 j fun m => hj' (hj j m)
    · rcases st with ⟨r3, et, q⟩ | ⟨r3, et, q⟩
      · rw [et]
        exact fun w3 H3 t3 g3 => iteF ⟨hlt, w3, r3, q w3 H3 t3 g3⟩
      · rw [et]
        exact fun w3 H3 t3 g3 => iteT (q w3 H3 σ2 _ t3 g3 (s2.mono t3) fun w4 r4 H4 p4 => ⟨hlt, w4, r4, p4⟩)
  · have ei : i = ds.length := by omega
    subst ei
    refine .inl ⟨(wk w' r' H' sb pr g' ds.length).2 (Nat.le_refl _), ?_⟩
    rw [List.drop_length] at p'
    exact fin w' r' H' p'

/-! ### [e for x in xs for y in ys] -/
def lc2Go (tg : Tg) (it2 : Lx) (tg2 : Tg) (t : Tx) (f : Ex) (vs1 : List Nat) (ρ : En) : List D → Rs → Option (List D × Rs)
  | [], r => some ([], r)
  | d :: ds, r => (tg d ρ).bind fun ρ1 => match it2 ρ1 r with
    | .ok es r1 => (lcGo tg2 t f (wipeE ρ1 vs1) es r1).bind fun p => (lc2Go tg it2 tg2 t f vs1 ρ ds p.2).map fun q => (p.1 ++ q.1, q.2)
    | _ => none
def xLc2 (it : Lx) (tg : Tg) (it2 : Lx) (tg2 : Tg) (t : Tx) (f : Ex) (vs vs1 : List Nat) : Lx := fun ρ r => (it ρ r).bind fun ds r1 => match lc2Go tg it2 tg2 t f vs1 (wipeE ρ vs) ds r1 with
  | some p => if p.1.length ≤ lim then .ok p.1 p.2 else .bad
  | none => .bad
/-- between two turns: the list at D holds what is done, the rest is to come -/
structure LcP (K : PySem.W.Frag) (w0 : Wd) (H0 : Hp) (w1 : Wd) (p : Addr) (go : List DL.D → Rs → Option (List DL.D × Rs)) (es : List DL.D) (rE : Rs) (l : List DL.D) (w : Wd) (r : Rs) (H : Hp) : Prop where
  tr : Tr w0 H0 w H
  gd : Good K w r H
  sb : Sub w1.v w.v
  pr : Pre w1.m w.m
  nv : w.v p = none
  nm : p ∉ w.m
  ex : ∃ acc dn rs, H p = some (.lst acc) ∧ Rps K w.m w.v dn acc ∧ go l r = some (rs, rE) ∧ es = dn ++ rs
theorem LcP.step {K : PySem.W.Frag} {w0 w1 : Wd} {H0 : Hp} {p : Addr} {tg : Tg} {t : Tx} {f : Ex} {ρ : En} {es : List DL.D} {rE : Rs} (h0 : H0 p = none) (hl : es.length ≤ lim) {d : DL.D} {l : List DL.D} {w w2 : Wd} {r : Rs} {H H2 : Hp}
    (q : LcP K w0 H0 w1 p (lcGo tg t f ρ) es rE (d :: l) w r H) (t2 : Tr w H w2 H2) (g2 : Good K w2 r H2) : ∃ ρ1, tg d ρ = some ρ1 ∧ ((∃ r3, t ρ1 r = .ok false r3 ∧ ∀ w3 H3, Tr w2 H2 w3 H3 → Good K w3 r3 H3 → LcP K w0 H0 w1 p (lcGo tg t f ρ) es rE l w3 r3 H3) ∨
      (∃ r3, t ρ1 r = .ok true r3 ∧ ∀ w3 H3 σ2 (N : Hp → Prop), Tr w2 H2 w3 H3 → Good K w3 r3 H3 → Slots K w3 ρ1 σ2 → (∀ w4 r4 H4, LcP K w0 H0 w1 p (lcGo tg t f ρ) es rE l w4 r4 H4 → N H4) →
        tE K W0 f σ2 H3 fun y H4 => ∃ acc, H4 p = some (.lst acc) ∧ acc.length < sizeLine ∧ N (upd H4 p (.lst (acc ++ [y]))))) := by
  obtain ⟨acc, dn, rs, hp, rd, hgo, hes⟩ := q.ex
  unfold lcGo at hgo
  cases e1 : tg d ρ with
  | none => rw [e1] at hgo; cases hgo
  | some ρ1 =>
    rw [e1] at hgo
    have hgo : (match t ρ1 r with
      | .ok true r1 => match f ρ1 r1 with
        | .ok e r2 => (lcGo tg t f ρ l r2).map fun p => (e :: p.1, p.2)
        | _ => none
      | .ok false r1 => lcGo tg t f ρ l r1
      | _ => none) = some (rs, rE) := hgo
    obtain ⟨nv2, nm2, hp2⟩ := hid_keep t2 q.nv q.nm hp
    refine ⟨ρ1, rfl, ?_⟩
    cases et : t ρ1 r with
    | exc c fs r3 => rw [et] at hgo; cases hgo
    | bad => rw [et] at hgo; cases hgo
    | ok b r3 =>
      rw [et] at hgo
      cases b with
      | false =>
        refine .inl ⟨r3, rfl, fun w3 H3 t3 g3 => ?_⟩
        obtain ⟨nv3, nm3, hp3⟩ := hid_keep t3 nv2 nm2 hp2
        have t23 := t2.trans t3
        exact ⟨q.tr.trans t23, g3, q.sb.trans t23.sub, q.pr.trans t23.pre, nv3, nm3, acc, dn, rs, hp3, t23.rps rd, hgo, hes⟩
      | true =>
        refine .inr ⟨r3, rfl, fun w3 H3 σ2 N t3 g3 s3 k => ?_⟩
        obtain ⟨nv3, nm3, hp3⟩ := hid_keep t3 nv2 nm2 hp2
        have hgo : (match f ρ1 r3 with
          | .ok e r2 => (lcGo tg t f ρ l r2).map fun p => (e :: p.1, p.2)
          | _ => none) = some (rs, rE) := hgo
        refine ⟨ρ1, r3, w3, g3, s3, ?_⟩
        cases ef : f ρ1 r3 with
        | exc c fs r4 => rw [ef] at hgo; cases hgo
        | bad => rw [ef] at hgo; cases hgo
        | ok e r4 =>
          rw [ef] at hgo
          have hgo : (lcGo tg t f ρ l r4).map (fun p => (e :: p.1, p.2)) = some (rs, rE) := hgo
          cases el : lcGo tg t f ρ l r4 with
          | none => rw [el] at hgo; cases hgo
          | some z =>
            rw [el] at hgo
            obtain ⟨rest', rE'⟩ := z
            cases hgo
            intro w4 H4 t4 g4 y ry
            obtain ⟨nv4, nm4, hp4⟩ := hid_keep t4 nv3 nm3 hp3
            have t24 := (t2.trans t3).trans t4
            refine ⟨acc, hp4, ?_, k w4 r4 _ ?_⟩
            · rw [← rd.length]
              have : es.length = dn.length + (rest'.length + 1) := by rw [hes, List.length_append, List.length_cons]
              exact lim_lt (by omega)
            · obtain ⟨t5, g5⟩ := tr_own (u := .lst (acc ++ [y])) g4 (q.tr.trans t24) h0 nv4 nm4 hp4
              exact ⟨t5, g5, q.sb.trans t24.sub, q.pr.trans t24.pre, nv4, nm4, acc ++ [y], dn ++ [e], rest', upd_same, (t24.rps rd).append (.cons ry .nil), el, by rw [hes, List.append_assoc]; rfl⟩
theorem lc2_dl {K : PySem.W.Frag} {W : WX} {it it2 : Lx} {g g2 : TG} {tg tg2 : Tg} {js js2 : List Nat} {t : Tx} {f : Ex} {vs vs1 : List Nat} (hg : TgD K g tg js) (hj : ∀ j ∈ js, j ∈ vs) (hg2 : TgD K g2 tg2 js2) (hj2 : ∀ j ∈ js2, j ∈ vs1) {σ : L2.St} {H : Hp} {Q : VK} (h : tN K W (xLc2 it tg it2 tg2 t f vs vs1) σ H Q) :
    tLc2 (tI K W it) g (tT K W0 xYes) (tI K W0 it2) g2 (tT K W0 t) (tE K W0 f) vs vs1 σ H Q := by
  obtain ⟨ρ, r, w, gd, s, h⟩ := h
  refine ⟨ρ, r, w, gd, s, h.fst fun ds w1 r1 H1 _ t1 g1 q h1 J wk p hp => ?_⟩
  cases e : lc2Go tg it2 tg2 t f vs1 (wipeE ρ vs) ds r1 with
  | none => rw [e] at h1; exact h1.elim
  | some z =>
    obtain ⟨es, rE⟩ := z
    rw [e] at h1 q
    dsimp only at h1 q
    split at h1
    · rename_i hl
      have q := q es rE (if_pos hl)
      have s1 := s.mono t1
      obtain ⟨t2, g2'⟩ := tr_hid (o := .lst []) g1 hp
      refine turns_dl (t := xYes) (el := fun _ _ => (none : Option (Unit × Rs))) (T := fun σ2 H3 N => tI K W0 it2 σ2 H3 fun J1 H4 => ∃ W1 : Nat → Nat → Hp → Prop, (∃ m, W1 0 m H4) ∧ ∀ j k H, W1 j k H →
        (J1.stop j H ∧ N H) ∨ (J1.go j H ∧ ∃ Nx1 : Hp → Prop, (∀ H', Nx1 H' → ∃ k', k' < k ∧ W1 (j + 1) k' H') ∧ ∀ x H', J1.yld j H x H' → g2 x (wipe σ2 vs1) H' fun σ3 H5 => wipe σ3 vs1 = wipe σ2 vs1 ∧ tT K W0 t σ3 H5 fun b H6 =>
          if b = true then tE K W0 f σ3 H6 fun y H7 => ∃ acc, H7 p = some (.lst acc) ∧ acc.length < sizeLine ∧ Nx1 (upd H7 p (.lst (acc ++ [y]))) else Nx1 H6))
        hg hj wk s1 (LcP K w1 H1 w1 p (lc2Go tg it2 tg2 t f vs1 (wipeE ρ vs)) es rE) (fun l w r H x => ⟨x.gd, x.sb, x.pr⟩)
        ⟨t2, g2', .refl _, .refl _, g1.none_of hp, fun hm => g1.live hm hp, [], [], es, upd_same, .nil, e, rfl⟩ (fun w r H x => ?_) fun d l w3 r3 H3 w4 H4 x t4 g4 => ?_
      · obtain ⟨acc, dn, rs, hp', rd, hgo, hes⟩ := x.ex
        cases hgo
        rw [List.append_nil] at hes
        subst hes
        exact q w H (t1.trans x.tr) x.gd p ⟨t1.fresh hp, x.nv, x.nm, acc, hp', rd⟩
      · obtain ⟨acc, dn, rs, hp', rd, hgo, hes⟩ := x.ex
        unfold lc2Go at hgo
        cases e1 : tg d (wipeE ρ vs) with
        | none => rw [e1] at hgo; cases hgo
        | some ρ1 =>
          rw [e1, Option.bind_some] at hgo
          refine ⟨ρ1, rfl, .inr ⟨r3, rfl, fun w5 H5 σ2 N t5 g5 s5 k => ⟨ρ1, r3, w5, g5, s5, ?_⟩⟩⟩
          cases e2 : it2 ρ1 r3 with
          | exc c fs r4 => rw [e2] at hgo; cases hgo
          | bad => rw [e2] at hgo; cases hgo
          | ok ds2 r4 =>
            rw [e2] at hgo
            dsimp only at hgo
            cases e3 : lcGo tg2 t f (wipeE ρ1 vs1) ds2 r4 with
            | none => rw [e3] at hgo; cases hgo
            | some z =>
              obtain ⟨p1, r5⟩ := z
              rw [e3, Option.bind_some] at hgo
              cases e4 : lc2Go tg it2 tg2 t f vs1 (wipeE ρ vs) l r5 with
              | none => rw [e4] at hgo; cases hgo
              | some z =>
                obtain ⟨q1, r6⟩ := z
                rw [e4] at hgo
                cases hgo
                intro w6 H6 t6 g6 J1 wk1
                have t46 := (t4.trans t5).trans t6
                obtain ⟨nv6, nm6, hp6⟩ := hid_keep t46 x.nv x.nm hp'
                have hl2 : (dn ++ p1).length ≤ lim := by
                  rw [hes] at hl
                  simp only [List.length_append] at hl ⊢
                  omega
                refine turns_dl (t := t) (el := fun _ _ => (none : Option (Unit × Rs))) (T := fun σ3 H7 N => tE K W0 f σ3 H7 fun y H8 => ∃ acc, H8 p = some (.lst acc) ∧ acc.length < sizeLine ∧ N (upd H8 p (.lst (acc ++ [y]))))
                  hg2 hj2 wk1 (s5.mono t6) (LcP K w1 H1 w6 p (lcGo tg2 t f (wipeE ρ1 vs1)) (dn ++ p1) r5) (fun l w r H x => ⟨x.gd, x.sb, x.pr⟩)
                  ⟨x.tr.trans t46, g6, .refl _, .refl _, nv6, nm6, acc, dn, p1, hp6, t46.rps rd, e3, rfl⟩ (fun w7 r7 H7 y => ?_) fun d2 l2 w7 r7 H7 w8 H8 y t8 g8 => y.step hp hl2 t8 g8
                obtain ⟨acc7, dn7, rs7, hp7, rd7, hgo7, hes7⟩ := y.ex
                cases hgo7
                rw [List.append_nil] at hes7
                exact k w7 r5 H7 ⟨y.tr, y.gd, (x.sb.trans t46.sub).trans y.sb, (x.pr.trans t46.pre).trans y.pr, y.nv, y.nm, acc7, dn7, q1, hp7, rd7, e4, by rw [hes, ← List.append_assoc, hes7]⟩
    · exact h1.elim
section
variable {X : Cx} {W : WX} {elt tg iter tg1 iter1 : Expr} {ifs ifs1 : List Expr} {scope : Scope} {own : List (Str × Nat)} {vs1 : List Nat} {pos : Pos} {it it2 : Lx} {g g2 : TG} {dt dt2 : Tg} {js js2 : List Nat} {t : Tx} {f : Ex}
theorem dn_lc2 (hc : X.calm = true) (hN : X.N.Nodup) (hi : PI X tg iter (tI X.K W it)) (ok : BlkOk X.N X.env.scope scope own) (hd : TgD X.K g dt js) (hj : ∀ j ∈ js, j ∈ own.map (·.2)) (hd2 : TgD X.K g2 dt2 js2) (hj2 : ∀ j ∈ js2, j ∈ vs1) (hv : ∀ i ∈ vs1, i ∈ own.map (·.2))
    (hg : ∀ (s : Shared) (H : Hp) (C : Addr) (cl : List (Str × Addr)) (fp : List Addr), PG (X.blk s H scope (compEnvC scope cl C X.env) fp) tg g)
    (hi2 : ∀ (s : Shared) (H : Hp) (C : Addr) (cl : List (Str × Addr)) (fp : List Addr), PI (X.blk s H scope (compEnvC scope cl C X.env) fp) tg1 iter1 (tI X.K W0 it2))
    (hg2 : ∀ (s : Shared) (H : Hp) (C : Addr) (cl : List (Str × Addr)) (fp : List Addr), PG (X.blk s H scope (compEnvC scope cl C X.env) fp) tg1 g2) (ht : ∀ (s : Shared) (H : Hp) (C : Addr) (cl : List (Str × Addr)) (fp : List Addr), PTs (X.blk s H scope (compEnvC scope cl C X.env) fp) ifs1 (tT X.K W0 t))
    (he : ∀ (s : Shared) (H : Hp) (C : Addr) (cl : List (Str × Addr)) (fp : List Addr), PE (X.blk s H scope (compEnvC scope cl C X.env) fp) elt (tE X.K W0 f)) (hs : ∀ x, foldedSetIterable iter X.env x = pure x := by intro _; rfl) (hs1 : ∀ env x, foldedSetIterable iter1 env x = pure x := by intro _ _; rfl) :
    PE X (.ListComp elt [⟨tg, iter, [], 0⟩, ⟨tg1, iter1, ifs1, 0⟩] scope pos) (tN X.K W (xLc2 it dt it2 dt2 t f (own.map (·.2)) vs1)) :=
  (pe_lc2 (tt := tT X.K W0 xYes) hc hN hi ok hv hg (fun _ _ _ _ _ => dts_nil) hi2 hg2 ht he hs hs1).imp fun σ H Q h => lc2_dl hd hj hd2 hj2 h
theorem dn_setLc2 {i : Nat} {y : Str} {py spos : Pos} (hc : X.calm = true) (hN : X.N.Nodup) (hy : X.N[i]? = some y) (hyl : X.env.scope.names.lookup y = some .local)
    (hsw : swapsWith (.ListComp elt [⟨tg, iter, [], 0⟩, ⟨tg1, iter1, ifs1, 0⟩] scope pos) (some (.Name y py)) spos.line X.env = pure true) (hi : PI X tg iter (tI X.K W it)) (ok : BlkOk X.N X.env.scope scope own) (hd : TgD X.K g dt js) (hj : ∀ j ∈ js, j ∈ own.map (·.2)) (hd2 : TgD X.K g2 dt2 js2) (hj2 : ∀ j ∈ js2, j ∈ vs1) (hv : ∀ i ∈ vs1, i ∈ own.map (·.2))
    (hg : ∀ (s : Shared) (H : Hp) (C : Addr) (cl : List (Str × Addr)) (fp : List Addr), PG (X.blk s H scope (compEnvC scope cl C X.env) fp) tg g)
    (hi2 : ∀ (s : Shared) (H : Hp) (C : Addr) (cl : List (Str × Addr)) (fp : List Addr), PI (X.blk s H scope (compEnvC scope cl C X.env) fp) tg1 iter1 (tI X.K W0 it2))
    (hg2 : ∀ (s : Shared) (H : Hp) (C : Addr) (cl : List (Str × Addr)) (fp : List Addr), PG (X.blk s H scope (compEnvC scope cl C X.env) fp) tg1 g2) (ht : ∀ (s : Shared) (H : Hp) (C : Addr) (cl : List (Str × Addr)) (fp : List Addr), PTs (X.blk s H scope (compEnvC scope cl C X.env) fp) ifs1 (tT X.K W0 t))
    (he : ∀ (s : Shared) (H : Hp) (C : Addr) (cl : List (Str × Addr)) (fp : List Addr), PE (X.blk s H scope (compEnvC scope cl C X.env) fp) elt (tE X.K W0 f)) (hs : ∀ x, foldedSetIterable iter X.env x = pure x := by intro _; rfl) (hs1 : ∀ env x, foldedSetIterable iter1 env x = pure x := by intro _ _; rfl) :
    PS X (.Assign [.Name y py] (.ListComp elt [⟨tg, iter, [], 0⟩, ⟨tg1, iter1, ifs1, 0⟩] scope pos) spos) (tAsg (tN X.K W (xLc2 it dt it2 dt2 t f (own.map (·.2)) vs1)) (gName i)) :=
  (ps_setLc2 (tt := tT X.K W0 xYes) hc hN hy hyl hsw hi ok hv hg (fun _ _ _ _ _ => dts_nil) hi2 hg2 ht he hs hs1).imp fun D σ H h => lc2_dl hd hj hd2 hj2 h
end

/-! ### {k: v for x in xs if ..} -/
def dcGo (tg : Tg) (t : Tx) (fk fv : Ex) (ρ : En) : List D → List (Key × D) → Rs → Option (List (Key × D) × Rs)
  | [], acc, r => some (acc, r)
  | d :: ds, acc, r => (tg d ρ).bind fun ρ1 => match t ρ1 r with
    | .ok true r1 => match fk ρ1 r1 with
      | .ok a r2 => match fv ρ1 r2, keyOf a with
        | .ok b r3, some k => dcGo tg t fk fv ρ ds (setK acc k b) r3
        | _, _ => none
      | _ => none
    | .ok false r1 => dcGo tg t fk fv ρ ds acc r1
    | _ => none
def xDc (it : Lx) (tg : Tg) (t : Tx) (fk fv : Ex) (vs : List Nat) : Dx := fun ρ r => (it ρ r).bind fun ds r1 => if ds.length < lim then (match dcGo tg t fk fv (wipeE ρ vs) ds [] r1 with
  | some p => .ok p.1 p.2
  | none => .bad) else .bad
theorem setK_len (kds : List (Key × D)) (k : Key) (d : D) : (setK kds k d).length ≤ kds.length + 1 := by
  unfold setK
  split
  · rw [List.length_map]; omega
  · rw [List.length_append]; simp
structure DcP (K : PySem.W.Frag) (w0 : Wd) (H0 : Hp) (w1 : Wd) (p : Addr) (go : List DL.D → List (Key × DL.D) → Rs → Option (List (Key × DL.D) × Rs)) (es : List (Key × DL.D)) (rE : Rs) (l : List DL.D) (w : Wd) (r : Rs) (H : Hp) : Prop where
  tr : Tr w0 H0 w H
  gd : Good K w r H
  sb : Sub w1.v w.v
  pr : Pre w1.m w.m
  nv : w.v p = none
  nm : p ∉ w.m
  ex : ∃ acc dn, H p = some (.dK acc) ∧ Rpk K w.m w.v dn acc ∧ dn.length + l.length < lim ∧ go l dn r = some (es, rE)
/-- the turns of a dict comprehension, what is walked at hand -/
theorem dc_go {K : PySem.W.Frag} {g : TG} {tg : Tg} {js : List Nat} {t : Tx} {fk fv : Ex} {vs : List Nat} (hg : TgD K g tg js) (hj : ∀ j ∈ js, j ∈ vs) {σ : L2.St} {H1 : Hp} {Q : VK} {J : It} {w1 : Wd} {r1 rE : Rs} {ρ : En} {ds : List DL.D} {es : List (Key × DL.D)}
    (wk : Walks K J w1 ds) (s1 : Slots K w1 ρ σ) (g1 : Good K w1 r1 H1) (e : dcGo tg t fk fv (wipeE ρ vs) ds [] r1 = some (es, rE)) (hl : ds.length < lim) (q : ∀ w2 H2, Tr w1 H1 w2 H2 → Good K w2 rE H2 → ∀ p, NewD K w2 H1 H2 es p → Q (.ref p) H2) (p : Addr) (hp : H1 p = none) :
    ∃ W : Nat → Nat → Hp → Prop, (∃ m, W 0 m (upd H1 p (.dK []))) ∧ ∀ i m H, W i m H →
      (J.stop i H ∧ Q (.ref p) H) ∨ (J.go i H ∧ ∃ Nx : Hp → Prop, (∀ H', Nx H' → ∃ m', m' < m ∧ W (i + 1) m' H') ∧ ∀ x H', J.yld i H x H' → g x (wipe σ vs) H' fun σ2 H2 => wipe σ2 vs = wipe σ vs ∧ tT K W0 t σ2 H2 fun b H3 =>
        if b = true then tE K W0 fk σ2 H3 fun y H4 => tE K W0 fv σ2 H4 fun z H5 => ∃ kvs k, y = kV k ∧ H5 p = some (.dK kvs) ∧ kvs.length < sizeLine ∧ Nx (upd H5 p (.dK (putK kvs k z))) else Nx H3) := by
  obtain ⟨t2, g2'⟩ := tr_hid (o := .dK []) g1 hp
  refine turns_dl (t := t) (el := fun _ _ => (none : Option (Unit × Rs))) (T := fun σ2 H3 N => tE K W0 fk σ2 H3 fun y H4 => tE K W0 fv σ2 H4 fun z H5 => ∃ kvs k, y = kV k ∧ H5 p = some (.dK kvs) ∧ kvs.length < sizeLine ∧ N (upd H5 p (.dK (putK kvs k z))))
    hg hj wk s1 (DcP K w1 H1 w1 p (dcGo tg t fk fv (wipeE ρ vs)) es rE) (fun l w r H x => ⟨x.gd, x.sb, x.pr⟩)
    ⟨t2, g2', .refl _, .refl _, g1.none_of hp, fun hm => g1.live hm hp, [], [], upd_same, .nil, by simpa using hl, e⟩ (fun w r H x => ?_) fun d l w3 r3 H3 w4 H4 x t4 g4 => ?_
  · obtain ⟨acc, dn, hp', rd, _, hgo⟩ := x.ex
    cases hgo
    exact q w H x.tr x.gd p ⟨hp, x.nv, x.nm, acc, hp', rd⟩
  · obtain ⟨acc, dn, hp', rd, hln, hgo⟩ := x.ex
    rw [List.length_cons] at hln
    unfold dcGo at hgo
    cases e1 : tg d (wipeE ρ vs) with
    | none => rw [e1] at hgo; cases hgo
    | some ρ1 =>
      rw [e1, Option.bind_some] at hgo
      refine ⟨ρ1, rfl, ?_⟩
      obtain ⟨nv4, nm4, hp4⟩ := hid_keep t4 x.nv x.nm hp'
      cases et : t ρ1 r3 with
      | exc c fs r5 => rw [et] at hgo; cases hgo
      | bad => rw [et] at hgo; cases hgo
      | ok b r5 =>
        rw [et] at hgo
        cases b with
        | false =>
          refine .inl ⟨r5, rfl, fun w5 H5 t5 g5 => ?_⟩
          obtain ⟨nv5, nm5, hp5⟩ := hid_keep t5 nv4 nm4 hp4
          have t45 := t4.trans t5
          exact ⟨x.tr.trans t45, g5, x.sb.trans t45.sub, x.pr.trans t45.pre, nv5, nm5, acc, dn, hp5, rd.mono t45.sub t45.pre, by omega, hgo⟩
        | true =>
          refine .inr ⟨r5, rfl, fun w5 H5 σ2 N t5 g5 s5 k => ⟨ρ1, r5, w5, g5, s5, ?_⟩⟩
          obtain ⟨nv5, nm5, hp5⟩ := hid_keep t5 nv4 nm4 hp4
          dsimp only at hgo
          cases e2 : fk ρ1 r5 with
          | exc c fs r6 => rw [e2] at hgo; cases hgo
          | bad => rw [e2] at hgo; cases hgo
          | ok a r6 =>
            rw [e2] at hgo
            dsimp only at hgo
            intro w6 H6 t6 g6 y ry
            obtain ⟨nv6, nm6, hp6⟩ := hid_keep t6 nv5 nm5 hp5
            refine ⟨ρ1, r6, w6, g6, s5.mono t6, ?_⟩
            cases e3 : fv ρ1 r6 with
            | exc c fs r7 => rw [e3] at hgo; cases hgo
            | bad => rw [e3] at hgo; cases hgo
            | ok b r7 =>
              cases e4 : keyOf a with
              | none => rw [e3, e4] at hgo; cases hgo
              | some kk =>
                rw [e3, e4] at hgo
                dsimp only at hgo
                intro w7 H7 t7 g7 z rz
                obtain ⟨nv7, nm7, hp7⟩ := hid_keep t7 nv6 nm6 hp6
                have t47 := ((t4.trans t5).trans t6).trans t7
                have rd7 := rd.mono t47.sub t47.pre
                refine ⟨acc, kk, ry.key e4, hp7, by rw [← rd7.length]; exact lim_lt (by omega), k w7 r7 _ ?_⟩
                obtain ⟨t8, g8⟩ := tr_own (u := .dK (putK acc kk z)) g7 (x.tr.trans t47) hp nv7 nm7 hp7
                exact ⟨t8, g8, x.sb.trans t47.sub, x.pr.trans t47.pre, nv7, nm7, _, _, upd_same, rd7.put kk rz, by have := setK_len dn kk b; omega, hgo⟩
theorem dc_dl {K : PySem.W.Frag} {W : WX} {it : Lx} {g : TG} {tg : Tg} {js : List Nat} {t : Tx} {fk fv : Ex} {vs : List Nat} (hg : TgD K g tg js) (hj : ∀ j ∈ js, j ∈ vs) {σ : L2.St} {H : Hp} {Q : VK} (h : tND K W (xDc it tg t fk fv vs) σ H Q) :
    tDc (tI K W it) g (tT K W0 t) (tE K W0 fk) (tE K W0 fv) vs σ H Q := by
  obtain ⟨ρ, r, w, gd, s, h⟩ := h
  refine ⟨ρ, r, w, gd, s, h.fst fun ds w1 r1 H1 _ t1 g1 q h1 J wk p hp => ?_⟩
  split at h1
  · rename_i hl
    rw [if_pos hl] at q
    cases e : dcGo tg t fk fv (wipeE ρ vs) ds [] r1 with
    | none => rw [e] at h1; exact h1.elim
    | some z =>
      obtain ⟨es, rE⟩ := z
      rw [e] at q
      have q := q es rE rfl
      exact dc_go hg hj wk (s.mono t1) g1 e hl (fun w2 H2 t2 g2 p n => q w2 H2 (t1.trans t2) g2 p ⟨t1.fresh n.fresh, n.nv, n.nm, n.at_⟩) p hp
  · exact h1.elim
section
variable {X : Cx} {W : WX} {kx vx tg iter : Expr} {ifs : List Expr} {scope : Scope} {own : List (Str × Nat)} {pos : Pos} {it : Lx} {g : TG} {dt : Tg} {js : List Nat} {t : Tx} {fk fv : Ex}
theorem dnd_dc (hc : X.calm = true) (hN : X.N.Nodup) (hi : PI X tg iter (tI X.K W it)) (ok : BlkOk X.N X.env.scope scope own) (hd : TgD X.K g dt js) (hj : ∀ j ∈ js, j ∈ own.map (·.2))
    (hg : ∀ (s : Shared) (H : Hp) (C : Addr) (cl : List (Str × Addr)) (fp : List Addr), PG (X.blk s H scope (compEnvC scope cl C X.env) fp) tg g) (ht : ∀ (s : Shared) (H : Hp) (C : Addr) (cl : List (Str × Addr)) (fp : List Addr), PTs (X.blk s H scope (compEnvC scope cl C X.env) fp) ifs (tT X.K W0 t))
    (hk : ∀ (s : Shared) (H : Hp) (C : Addr) (cl : List (Str × Addr)) (fp : List Addr), PE (X.blk s H scope (compEnvC scope cl C X.env) fp) kx (tE X.K W0 fk))
    (he : ∀ (s : Shared) (H : Hp) (C : Addr) (cl : List (Str × Addr)) (fp : List Addr), PE (X.blk s H scope (compEnvC scope cl C X.env) fp) vx (tE X.K W0 fv)) (hs : ∀ x, foldedSetIterable iter X.env x = pure x := by intro _; rfl) :
    PE X (.DictComp kx vx [⟨tg, iter, ifs, 0⟩] scope pos) (tND X.K W (xDc it dt t fk fv (own.map (·.2)))) :=
  (pe_dc hc hN hi ok hg ht hk he hs).imp fun σ H Q h => dc_dl hd hj h
end
end DL

/-! DL20: sorted; a dict comprehension given to a name; loops over a range of own things; defaults; properties. -/
namespace DL
open PySem PySem.Spec PyProof.Rows L2
/-! ### texts in order -/
abbrev cps (x : Str) : List Nat := x.cps.toList
theorem cps_inj {x y : Str} (h : cps x = cps y) : x = y := by
  cases x; cases y
  simp only [cps] at h
  rw [Array.toList_inj] at h
  rw [h]
/-- x is not behind y -/
def leS (x y : Str) : Bool := !decide (cps y < cps x)
theorem leS_total (x y : Str) : leS x y = true ∨ leS y x = true := by
  unfold leS
  simp only [Bool.not_eq_true', decide_eq_false_iff_not, List.not_lt]
  exact List.le_total _ _
theorem leS_trans {x y z : Str} (a : leS x y = true) (b : leS y z = true) : leS x z = true := by
  unfold leS at *
  simp only [Bool.not_eq_true', decide_eq_false_iff_not, List.not_lt] at *
  exact List.le_trans a b
theorem leS_anti {x y : Str} (a : leS x y = true) (b : leS y x = true) : x = y := by
  unfold leS at *
  simp only [Bool.not_eq_true', decide_eq_false_iff_not, List.not_lt] at *
  exact cps_inj (List.le_antisymm a b)
def sortStr (xs : List Str) : List Str := xs.mergeSort leS
theorem sortStr_perm (xs : List Str) : (sortStr xs).Perm xs := List.mergeSort_perm xs leS
theorem sortStr_pair (xs : List Str) : (sortStr xs).Pairwise (fun a b => leS a b = true) := List.pairwise_mergeSort (le := leS) (fun _ _ _ a b => leS_trans a b) (fun a b => by rcases leS_total a b with h | h <;> simp [h]) xs
theorem rising_pair : ∀ {p : Str} {r : List Str}, risingS p r = true → (p :: r).Pairwise (fun a b => leS a b = true)
  | p, [], _ => by simp
  | p, x :: r, h => by
    rw [risingS, Bool.and_eq_true, ltCps_eq] at h
    have ih := rising_pair h.2
    have hx : leS p x = true := h.1
    rw [List.pairwise_cons]
    refine ⟨fun y hy => ?_, ih⟩
    rcases List.mem_cons.mp hy with e | e
    · rw [e]; exact hx
    · exact leS_trans hx ((List.pairwise_cons.mp ih).1 y e)
theorem sortStr_the {xs ys : List Str} (h1 : ys.Perm xs) (h2 : sortedS ys = true) : ys = sortStr xs := by
  have hp : ys.Pairwise (fun a b => leS a b = true) := by
    cases ys with
    | nil => exact .nil
    | cons y r => exact rising_pair h2
  exact List.Perm.eq_of_pairwise (fun a b _ _ => leS_anti) hp (sortStr_pair xs) (h1.trans (sortStr_perm xs).symm)
def sortInt (xs : List Int) : List Int := xs.mergeSort fun a b => decide (a ≤ b)
theorem sortInt_the {xs ys : List Int} (h1 : ys.Perm xs) (h2 : ys.Pairwise (· ≤ ·)) : ys = sortInt xs := by
  refine List.Perm.eq_of_pairwise (le := (· ≤ ·)) (fun a b _ _ x y => Int.le_antisymm x y) h2 ?_ (h1.trans (List.mergeSort_perm xs _).symm)
  have := List.pairwise_mergeSort (le := fun a b : Int => decide (a ≤ b)) (fun a b c x y => by simp at *; omega) (fun a b => by simp; omega) xs
  exact this.imp fun h => by simpa using h
def keysS : List (Key × D) → Option (List Str)
  | [] => some []
  | (.inr x, _) :: r => (keysS r).map (x :: ·)
  | _ => none
theorem keysS_rpk {K : PySem.W.Frag} {m : List Addr} {H : Hp} : ∀ {ds : List (Key × D)} {vs : List (Key × V)} {xs : List Str}, Rpk K m H ds vs → keysS ds = some xs → vs.map (·.1) = xs.map Sum.inr
  | _, _, _, .nil, e => by cases e; rfl
  | (k, d) :: ds, _, _, .cons r t, e => by
    cases k with
    | inl i => cases e
    | inr x =>
      simp only [keysS] at e
      cases q : keysS ds with
      | none => rw [q] at e; cases e
      | some ys =>
        rw [q] at e
        cases e
        rw [List.map_cons, List.map_cons, keysS_rpk t q]
/-- sorted(a list of texts, of ints; a dict with keys that are texts), fewer than 64 -/
def cSort : List D → Option (List D)
  | [.lst ds] => (match strsOf ds with
    | some xs => if xs.length < 64 then some ((sortStr xs).map .str) else none
    | none => (intsOf ds).bind fun ns => if ns.length < 64 then some ((sortInt ns).map .int) else none)
  | [.dic kds] => (keysS kds).bind fun xs => if xs.length < 64 then some ((sortStr xs).map .str) else none
  | _ => none
def xSort (f : Ax) : Lx := fun ρ r => (f ρ r).bind fun ds r1 => match cSort ds with
  | some es => .ok es r1
  | none => .bad
theorem rps_strs {K : PySem.W.Frag} {m : List Addr} {H : Hp} : ∀ xs : List Str, Rps K m H (xs.map D.str) (xs.map V.str)
  | [] => .nil
  | x :: xs => .cons (.str x) (rps_strs xs)
theorem rps_ints {K : PySem.W.Frag} {m : List Addr} {H : Hp} : ∀ xs : List Int, Rps K m H (xs.map D.int) (xs.map V.int)
  | [] => .nil
  | x :: xs => .cons (.int x) (rps_ints xs)
section
variable {X : Cx} {W : WX}
theorem CallR.or {fn : Value} {r1 r2 : List V → Hp → VK → Prop} (h1 : CallR X fn r1) (h2 : CallR X fn r2) : CallR X fn (fun xs H Q => r1 xs H Q ∨ r2 xs H Q) := fun pins s σ H xs us Q I r h => by
  rcases h with h | h
  · exact h1 pins s σ H xs us Q I r h
  · exact h2 pins s σ H xs us Q I r h
theorem dn_sort {x : Str} {p pos : Pos} {e : Expr} {es : List Expr} {f : Ax} (hc : X.calm = true) (hg : Gl X x) (hm : X.mg x = none) (hv : bootBuiltins x = some (.builtin "sorted")) (ha : PA X (e :: es) (tA X.K W f)) (hn : x ≠ "__name__" := by decide) (hdb : (x == ("__debug__" : Str)) = false := by decide)
    (he : starEach (e :: es) X.env = (false, eval e X.env) :: starEach es X.env := by rfl) (hpl : (backTo pos (starEach es X.env)).any (·.1) = false := by rfl) : PE X (.Call (.Name x p) (e :: es) [] pos) (tN X.K W (xSort f)) :=
  (pe_callB (CallR.or cr_sortedS (CallR.or cr_sorted (call_sortedD hc))) hg hm hv ha hn hdb he hpl).imp fun σ H Q ⟨ρ, r, w, gd, s, h⟩ => ⟨ρ, r, w, gd, s, h.fst fun ds w1 r1 H1 _ t1 g1 q h1 vs rvs => by
    split at h1
    · rename_i es e
      have e' : (match cSort ds with | some es => Out.ok es r1 | none => .bad) = .ok es r1 := by rw [e]
      have fin : ∀ {vs' : List V} (p : Addr), Rps X.K w1.m w1.v es vs' → H1 p = none → Q (.ref p) (upd H1 p (.lst vs')) := fun {vs'} p rv hp => by
        obtain ⟨t2, g2⟩ := tr_hid (o := .lst vs') g1 hp
        exact q _ r1 e' w1 _ (t1.trans t2) g2 p (newL_hid g1 t1 hp rv)
      cases rvs with
      | nil => cases e
      | cons rv rt =>
        cases rt with
        | cons _ _ => cases rv <;> cases e
        | nil =>
          cases rv <;> simp only [cSort] at e <;> try (cases e; done)
          case lst =>
            rename_i a xs ds hx rx zz
            cases q1 : strsOf ds with
            | some ys =>
              rw [q1] at e
              dsimp only at e
              split at e
              · rename_i h64
                cases e
                rw [strsOf_rps rx q1] at hx
                refine .inl ⟨a, ys, rfl, SqL.of (g1.sub _ _ hx), h64, fun zs p k1 k2 hp => ?_⟩
                rw [sortStr_the k1 k2]
                exact fin p (rps_strs _) hp
              · cases e
            | none =>
              rw [q1] at e
              dsimp only at e
              cases q2 : intsOf ds with
              | none => rw [q2] at e; cases e
              | some ns =>
                rw [q2, Option.bind_some] at e
                split at e
                · rename_i h64
                  cases e
                  have z := rx.ints q2
                  subst z
                  refine .inr (.inl ⟨a, ns, rfl, SqL.of (g1.sub _ _ hx), h64, fun zs p k1 k2 hp => ?_⟩)
                  rw [sortInt_the k1 k2]
                  exact fin p (rps_ints _) hp
                · cases e
          case dic =>
            rename_i a kvs kds hx rx zz
            cases q1 : keysS kds with
            | none => rw [q1] at e; cases e
            | some ys =>
              rw [q1, Option.bind_some] at e
              split at e
              · rename_i h64
                cases e
                refine .inr (.inr ⟨a, kvs, ys, rfl, g1.sub.rd hx, keysS_rpk rx q1, h64, fun zs p k1 k2 hp => ?_⟩)
                rw [sortStr_the k1 k2]
                exact fin p (rps_strs _) hp
              · cases e
    · exact h1.elim⟩

/-! ### a dict comprehension given to a name -/
section
variable {kx vx tg iter : Expr} {ifs : List Expr} {scope : Scope} {own : List (Str × Nat)} {pos spos py : Pos} {wi : TI} {g : TG} {tt : TT} {tk tv : TE} {i : Nat} {y : Str} {it : Lx} {dt : Tg} {js : List Nat} {t : Tx} {fk fv : Ex}
theorem sw_trueD {l : Nat} {env : Env} (hk : env.scope.kind = .function) (hy : env.scope.names.lookup y = some .local) (hl : (py.line == pos.line) = true)
    (ha : (scope.names.any fun (n, k) => n == y && (k == .local || k == .cell)) = false) : swapsWith (.DictComp kx vx [⟨tg, iter, ifs, 0⟩] scope pos) (some (.Name y py)) l env = pure true := by
  have ky : env.kindOf y = some .local := hy
  have hb : env.blockKind = .function := by unfold Env.blockKind; rw [hk]; rfl
  unfold swapsWith
  simp only [hb, ky, ha, Expr.pos, hl]
  rfl
theorem ps_setDc (hc : X.calm = true) (hN : X.N.Nodup) (hy : X.N[i]? = some y) (hyl : X.env.scope.names.lookup y = some .local)
    (hsw : swapsWith (.DictComp kx vx [⟨tg, iter, ifs, 0⟩] scope pos) (some (.Name y py)) spos.line X.env = pure true) (hi : PI X tg iter wi) (ok : BlkOk X.N X.env.scope scope own)
    (hg : ∀ (s : Shared) (H : Hp) (C : Addr) (cl : List (Str × Addr)) (fp : List Addr), PG (X.blk s H scope (compEnvC scope cl C X.env) fp) tg g) (ht : ∀ (s : Shared) (H : Hp) (C : Addr) (cl : List (Str × Addr)) (fp : List Addr), PTs (X.blk s H scope (compEnvC scope cl C X.env) fp) ifs tt)
    (hk : ∀ (s : Shared) (H : Hp) (C : Addr) (cl : List (Str × Addr)) (fp : List Addr), PE (X.blk s H scope (compEnvC scope cl C X.env) fp) kx tk)
    (he : ∀ (s : Shared) (H : Hp) (C : Addr) (cl : List (Str × Addr)) (fp : List Addr), PE (X.blk s H scope (compEnvC scope cl C X.env) fp) vx tv) (hs : ∀ x, foldedSetIterable iter X.env x = pure x := by intro _; rfl) :
    PS X (.Assign [.Name y py] (.DictComp kx vx [⟨tg, iter, ifs, 0⟩] scope pos) spos) (tAsg (tDc wi g tt tk tv (own.map (·.2))) (gName i)) := by
  refine ⟨fun pins s σ H D I h => ?_⟩
  rw [exec_Assign_Name_used _ _ _ _ hsw]
  refine wpAny_bind (wpAny_standAt (wpAny_bind ?_))
  show wpAny _ X.A (do let _ ← comprehension (.DictComp kx vx [⟨tg, iter, ifs, 0⟩] scope pos) scope X.env _ newDict false (eval iter X.env) (some (assign (.Name y py) X.env))) _ _ s
  have h : tDc wi g tt tk tv (own.map (·.2)) σ H (fun x H1 => gName i x σ H1 D.nx) := h
  refine wpAny_bind (thn (dc_core (Qf := fun _ s' => SP X pins D .next s') hc hN I hi ok hg ht hk he hs h fun L C s' m H' I' q hn f => ?_) fun _ s' hq => wpAny_pure (wpAny_pure hq))
  show wpAny _ _ (assign (.Name y py) X.env (.ref L)) _ _ _
  refine wpAny_assign_Name (store_ok2 (v := V.ref L) I' hN hy (.inl hyl) rfl (fun s2 I2 ⟨a, sb, ha⟩ => ?_) (.inr hyl))
  obtain ⟨f0, f1, f2, f3, f4, f5⟩ := f
  have away : C ≠ a := ha.elim (fun z => by rw [z]; exact f1) fun z e => f4 y a z e.symm
  exact ⟨m, hn.sameBut sb away, fun h3 sb3 => ⟨_, H', I2.turned (t' := s2.toks) (fun b o hb e => (sb3.2 b hb).trans e) f0 f1 f3 f4 f5, q⟩⟩
theorem dnd_setDc (hc : X.calm = true) (hN : X.N.Nodup) (hy : X.N[i]? = some y) (hyl : X.env.scope.names.lookup y = some .local)
    (hsw : swapsWith (.DictComp kx vx [⟨tg, iter, ifs, 0⟩] scope pos) (some (.Name y py)) spos.line X.env = pure true) (hi : PI X tg iter (tI X.K W it)) (ok : BlkOk X.N X.env.scope scope own) (hd : TgD X.K g dt js) (hj : ∀ j ∈ js, j ∈ own.map (·.2))
    (hg : ∀ (s : Shared) (H : Hp) (C : Addr) (cl : List (Str × Addr)) (fp : List Addr), PG (X.blk s H scope (compEnvC scope cl C X.env) fp) tg g) (ht : ∀ (s : Shared) (H : Hp) (C : Addr) (cl : List (Str × Addr)) (fp : List Addr), PTs (X.blk s H scope (compEnvC scope cl C X.env) fp) ifs (tT X.K W0 t))
    (hk : ∀ (s : Shared) (H : Hp) (C : Addr) (cl : List (Str × Addr)) (fp : List Addr), PE (X.blk s H scope (compEnvC scope cl C X.env) fp) kx (tE X.K W0 fk))
    (he : ∀ (s : Shared) (H : Hp) (C : Addr) (cl : List (Str × Addr)) (fp : List Addr), PE (X.blk s H scope (compEnvC scope cl C X.env) fp) vx (tE X.K W0 fv)) (hs : ∀ x, foldedSetIterable iter X.env x = pure x := by intro _; rfl) :
    PS X (.Assign [.Name y py] (.DictComp kx vx [⟨tg, iter, ifs, 0⟩] scope pos) spos) (tAsg (tND X.K W (xDc it dt t fk fv (own.map (·.2)))) (gName i)) :=
  (ps_setDc hc hN hy hyl hsw hi ok hg ht hk he hs).imp fun D σ H h => dc_dl hd hj h
/-- x = {..} that is not one's own -/
theorem asg_nd {X : Cx} {W : WX} {st : Stmt} {f : Dx} {g : TG} (h : PS X st (tAsg (tND X.K W f) g)) : PS X st (tAsg (tE X.K W (xD f)) g) := h.imp fun D σ H ⟨ρ, r, w, gd, s, q⟩ => ⟨ρ, r, w, gd, s, q.fst fun ds w1 r1 H1 _ t1 g1 q _ p n => by
  obtain ⟨xs, hp, rx⟩ := n.at_
  obtain ⟨t2, g2⟩ := tr_see g1 t1 n.fresh n.nv n.nm hp
  refine q _ r1 rfl (w1.see p (.dK xs)) H1 t2 g2 (.ref p) (.dic (.inl see_at) ?_)
  exact rx.mono (fun a u e => by
    have hne : a ≠ p := by rintro rfl; rw [n.nv] at e; cases e
    show upd w1.v p _ a = some u
    rw [upd_ne hne]; exact e) (.refl _)⟩
end

/-! ### defaults -/
def xCallD (F : List D → Rs → Out D) (ds0 : List D) (f : Ax) : Ex := xCall (fun ds r => F (ds ++ ds0) r) f
section
variable {k : Nat} {f : Addr} {fd : FuncData} {ps : List Str} {n : Nat} {x : Str} {p pos : Pos} {e : Expr} {es : List Expr} {F : List D → Rs → Out D} {fa : Ax} {dvs : List V} {dd : List Value} {ds0 : List D}
theorem run_fnSD {σ : L2.St} {H : Hp} {s : Shared} {pins : List (Addr × Obj)} {sp : Sp} {CX : CXT} {E : L2.St → XK} {Q : VK} {us : List Value} {vs : List V} (F : FnOk X.prog X.w X.K X.mg X.base CX k f fd ps sp) (hr : Room k X.A) (hb : Binds X.K fd ps dd) (hd : Vals dvs dd) (hx : PassesAt CX X σ (E σ))
    (I : Inv X pins σ H s) (r : Vals vs us) (h : sp (vs ++ dvs) H Q (E σ)) : wpAny (model X.prog X.w) X.A (call (.ref f) us) (EP X pins σ Q) X.xe s := by
  have r2 : Vals (vs ++ dvs) (us ++ dd) := r.append hd
  have hl : (us ++ dd).length = ps.length := by rw [← r2.length]; exact F.len _ _ _ _ h
  refine wpAny_call (codeAny_mono (F.run X.A X.stack s H ⟨us, []⟩ (us ++ dd) (vs ++ dvs) Q (E σ) hr I.env0 (hb s us I.kIn hl) r2 h) fun r s' hq => ?_)
  cases r with
  | error e => exact hx pins H s e s' I hq
  | ok fl =>
    cases fl with
    | ret u => exact I.after hq
    | next => exact False.elim hq
    | brk => exact False.elim hq
    | cont => exact False.elim hq
theorem de_callD (G : FnOk X.prog X.w X.K X.mg X.base (L2.CX X.prog X.w) k f fd ps (spD X.K n F)) (hr : Room k X.A) (hg : Gl X x) (hm : X.mg x = some (.ref f)) (hk : PySem.W.keepIn X.K (.ref f) = true) (hb : Binds X.K fd ps dd) (hd : Vals dvs dd) (hd0 : ∀ m H, Rps X.K m H ds0 dvs) (tk : Takes X W)
    (ha : PA X (e :: es) (tA X.K W fa)) {j : Nat} (hn : ∀ ρ r ds r', fa ρ r = .ok ds r' → ds.length = j) (hj : j + ds0.length = n) (hdb : (x == ("__debug__" : Str)) = false := by decide) (he : starEach (e :: es) X.env = (false, eval e X.env) :: starEach es X.env := by rfl) (hpl : (backTo pos (starEach es X.env)).any (·.1) = false := by rfl) :
    PE X (.Call (.Name x p) (e :: es) [] pos) (tE X.K W (xCallD F ds0 fa)) := by
  have P : PE X (.Call (.Name x p) (e :: es) [] pos) (fun σ H Q => tA X.K W fa σ H fun vs H1 => spD X.K n F (vs ++ dvs) H1 Q (WE W σ)) := by
    refine ⟨fun pins s σ H Q I h => ?_⟩
    refine wpAny_Call_Name_kw (ld_glob I hg hm ?_ hdb)
    refine PySem.W.callWith_K (h₀ := X.base) I.ok.mod.kin hk (thn (ha.run pos pins s σ H _ I h) fun us s1 ⟨vs, H1, I1, r, q⟩ => ⟨I1.kIn, ?_⟩) he hpl
    exact run_fnSD (E := WE W) G hr hb hd (passAt tk σ) I1 r q
  exact P.imp fun σ H Q ⟨ρ, r, w, gd, s, h⟩ => by
    refine ⟨ρ, r, w, gd, s, ?_⟩
    have hl := hn ρ r
    unfold xCallD xCall at h
    revert h hl
    generalize fa ρ r = o
    intro h hl
    cases o with
    | ok ds r1 =>
      intro w1 H1 t1 g1 vs rvs
      refine after_fn (σ := σ) t1 g1 (rvs.append (hd0 _ _)) (by rw [List.length_append, hl ds r1 rfl]; exact hj) ?_
      have h' : After X.K W w H σ (F (ds ++ ds0) r1) (fun d w' _ H' => ∀ v, Rp X.K w'.m w'.v d v → Q v H') := h
      revert h'
      generalize F (ds ++ ds0) r1 = o2
      intro h'
      cases o2 with
      | ok d r2 => exact fun w2 H2 t2 g2 => h' w2 H2 (t1.trans t2) g2
      | exc c fs r2 => exact fun w2 H2 cls dd t2 g2 x => h' w2 H2 cls dd (t1.trans t2) g2 x
      | bad => exact h'
    | exc c fs r1 => exact h
    | bad => exact h
end
/-! ### a property -/
section
variable {k n : Nat} {g pp : Addr} {fd : FuncData} {ps : List Str} {F : List D → Rs → Out D} {x : Str} {pos : Pos} {e : Expr} {f : Ex}
/-- raises nothing -/
def noExc (o : Out D) : Out D := match o with
  | .exc _ _ _ => .bad
  | o => o
def xProp (c0 : Nat) (F : List D → Rs → Out D) (f : Ex) : Ex := fun ρ r => (f ρ r).bind fun a r1 => match insOf r1 a with
  | some (c, _) => if c = c0 then noExc (F [a] r1) else .bad
  | none => .bad
theorem de_prop (c0 : Nat) (cl : Cls X.K (clsA X.K c0)) (hp : PropOf X.K (clsA X.K c0) x pp g) (G : FnOk X.prog X.w X.K X.mg X.base (L2.CX X.prog X.w) k g fd ps (spD X.K 1 F)) (hr : Room (k + 1) X.A) (hb : Binds X.K fd ps []) (he : PE X e (tE X.K W f))
    (hx : Passes (L2.CX X.prog X.w) X.nox (fun _ _ _ => False)) (hab : attributeBase e x X.env (eval e X.env) = eval e X.env := by rfl) : PE X (.Attribute e x pos) (tE X.K W (xProp c0 F f)) :=
  (pe_prop he cl hp G hr hb .nil hx hab).imp fun σ H Q ⟨ρ, r, w, gd, s, h⟩ => ⟨ρ, r, w, gd, s, h.bind fun a w1 r1 H1 t1 g1 h1 v rv => by
    split at h1
    · rename_i c fs q
      split at h1
      · rename_i hc
        subst hc
        obtain ⟨p, dx, vs, e1, e2, e3, ru⟩ := ins_dl g1 rv q
        refine ⟨p, dx, _, e1, e2, rfl, [a], r1, w1, g1, by rw [← e1]; exact .one rv, ?_⟩
        revert h1
        generalize F [a] r1 = o
        intro h1
        cases o with
        | ok d r2 => exact fun w2 H2 t2 g2 => h1 w2 H2 t2 g2
        | exc c fs r2 => exact h1.elim
        | bad => exact h1
      · exact h1.elim
    · exact h1.elim⟩
end
end
/-! ### for over a range that hangs on own things -/
section
variable {X : Cx} {c : Sc} {pos : Pos}
def sForR1I (f : Ax) (tg : Tg) (body : Sx) : Sx := evI f fun ds ρ r => match ds with
  | [.int j] => if big j then forGo tg body (rng 0 j.toNat) ρ r else .bad
  | _ => .bad
theorem ds_forR1I {tgt a : Expr} {body : List Stmt} {f : Ax} {g : TG} {tg : Tg} {js : List Nat} {b : Sx} {rp rpos : Pos} (hp : PassesOwn (model X.prog X.w) X.A X.env X.xe) (hc : X.calm = true) (hgl : Gl X "range") (hm : X.mg "range" = none) (ha : PA X [a] (tA c.K c.W f)) (hg : PG X tgt g) (hd : TgD c.K g tg js) (hj : ∀ j ∈ js, j ∉ c.O) (hb : PSs X body (tS c b))
    (hs : starEach [a] X.env = [(false, eval a X.env)] := by rfl) (hs2 : ∀ x, foldedSetIterable (.Call (.Name "range" rp) [a] [] rpos) X.env x = pure x := by intro _; rfl) :
    PS X (.For tgt (.Call (.Name "range" rp) [a] [] rpos) body [] pos) (tS c (sForR1I f tg b)) :=
  (ps_for hp hc (pi_range1 hgl hm ha hs) hg hb hs2).imp fun D σ H ⟨ρ, r, lo, ⟨w, s⟩, h⟩ => ⟨ρ, r, visW w c.O ρ σ H, s.all.1, s.all.2.1, evI_dl s h fun ds r1 r2 w1 H1 t g1 s1 sT h1 vs rvs => by
    split at h1
    · rename_i j
      split at h1
      · rename_i hb
        cases rvs with
        | cons q1 q2 =>
          cases q1
          cases q2
          exact ⟨j, rfl, (big_of hb).1, (big_of hb).2, for_dl hd hj (fun _ _ _ h => h) (walks_rng (w := ⟨[], fun _ => none, fun _ => 0⟩) 0 _) (fun a o e => by cases e) (fun n a e => by simp at e) s1 h1⟩
      · exact h1.elim
    · exact h1.elim⟩
end
theorem clsA_eq {K : PySem.W.Frag} {c : Nat} {x : Str} {C : Addr} (h : clsNames.getD c "" = x) (a : PySem.W.nsIn K mainGlobals x = some (some (.ref C))) : clsA K c = C := by
  unfold clsA
  rw [h, a]
end DL

/-! DL21: an own thing that is not changed any more is shown, and its slot is read as any other. -/
namespace DL
open PySem L2
theorem SIw.frz {K : PySem.W.Frag} {E : Ent} {lo : Wd} {O O' : List Nat} {ρ : En} {r : Rs} {σ : St} {H : Hp} {w : Wd} (s : SIw K E lo O ρ r σ H w) {i : Nat} (hO : O' = O.filter (· != i)) : ∃ w', SIw K E lo O' ρ r σ H w' := by
  have hsub : ∀ j, j ∈ O' ↔ j ∈ O ∧ j ≠ i := fun j => by rw [hO, List.mem_filter]; simp
  have plain : (∀ d, ρ[i]? = some (some d) → i ∉ O) → SIw K E lo O' ρ r σ H w := fun hn => by
    refine ⟨s.tr, s.los, s.lop, s.gd, s.len, fun j d e hj => ?_, fun j d e hj => s.ow j d e ((hsub j).mp hj).1, fun a b e1 e2 p ha hb hab k1 k2 k3 => s.dj a b e1 e2 p ((hsub a).mp ha).1 ((hsub b).mp hb).1 hab k1 k2 k3⟩
    by_cases hij : j = i
    · subst hij; exact s.fr j d e (hn d e)
    · exact s.fr j d e fun z => hj ((hsub j).mpr ⟨z, hij⟩)
  by_cases hi : i ∈ O
  · cases e : ρ[i]? with
    | none => exact ⟨w, plain fun d z => by rw [e] at z; cases z⟩
    | some od =>
      cases od with
      | none => exact ⟨w, plain fun d z => by rw [e] at z; cases z⟩
      | some d =>
        obtain ⟨p, h1, _⟩ := s.ow i d e hi
        obtain ⟨w', s', rv⟩ := s.show_ hi e h1
        refine ⟨w', s'.tr, s'.los, s'.lop, s'.gd, s.len, fun j d' e' hj => ?_, fun j d' e' hj => ?_, fun a b e1 e2 p ha hb hab k1 k2 k3 => s.dj a b e1 e2 p ((hsub a).mp ha).1 ((hsub b).mp hb).1 hab k1 k2 k3⟩
        · by_cases hij : j = i
          · subst hij
            rw [e] at e'
            cases e'
            exact ⟨_, h1, rv⟩
          · exact s'.fr j d' (by rw [List.getElem?_set_ne (Ne.symm hij)]; exact e') fun z => hj ((hsub j).mpr ⟨z, hij⟩)
        · have hij : j ≠ i := ((hsub j).mp hj).2
          exact s'.ow j d' (by rw [List.getElem?_set_ne (Ne.symm hij)]; exact e') ((hsub j).mp hj).1
  · exact ⟨w, plain fun _ _ => hi⟩
theorem SIw.unfrz {K : PySem.W.Frag} {E : Ent} {lo : Wd} {O O' : List Nat} {ρ : En} {r : Rs} {σ : St} {H : Hp} {w : Wd} {i : Nat} (s : SIw K E lo O' ρ r σ H w) (hO : O' = O.filter (· != i)) : SIw K E lo O (ρ.set i none) r σ H w := by
  have hsub : ∀ j, j ∈ O' ↔ j ∈ O ∧ j ≠ i := fun j => by rw [hO, List.mem_filter]; simp
  have back : ∀ {j : Nat} {d : D}, (ρ.set i none)[j]? = some (some d) → ρ[j]? = some (some d) ∧ j ≠ i := fun {j d} q => by
    by_cases hj : i = j
    · subst hj
      by_cases hl : i < ρ.length
      · rw [List.getElem?_set_self hl] at q; cases q
      · rw [List.getElem?_eq_none (by simpa using hl)] at q; cases q
    · rw [List.getElem?_set_ne hj] at q
      exact ⟨q, fun z => hj z.symm⟩
  refine ⟨s.tr, s.los, s.lop, s.gd, by rw [List.length_set]; exact s.len, fun j d e hj => ?_, fun j d e hj => ?_, fun a b e1 e2 p ha hb hab k1 k2 k3 => ?_⟩
  · exact s.fr j d (back e).1 fun z => hj ((hsub j).mp z).1
  · exact s.ow j d (back e).1 ((hsub j).mpr ⟨hj, (back e).2⟩)
  · exact s.dj a b e1 e2 p ((hsub a).mpr ⟨ha, (back k1).2⟩) ((hsub b).mpr ⟨hb, (back k2).2⟩) hab (back k1).1 (back k2).1 k3
def SOut.forget (i : Nat) : SOut → SOut
  | .next ρ r => .next (ρ.set i none) r
  | .brk ρ r => .brk (ρ.set i none) r
  | .cont ρ r => .cont (ρ.set i none) r
  | .exc c fs ρ r => .exc c fs (ρ.set i none) r
  | o => o
/-- from here on the own thing of slot i is not changed -/
def sFrz (i : Nat) (g : Sx) : Sx := fun ρ r => (g ρ r).forget i
theorem dss_frz {X : Cx} {rest : List Stmt} {K : PySem.W.Frag} {W : WX} {E : Ent} {fr : Bool} {O : List Nat} {g : Sx} (i : Nat) (O' : List Nat) (h : PSs X rest (tS ⟨K, W, E, fr, O'⟩ g)) (hO : O' = O.filter (· != i) := by rfl) : PSs X rest (tS ⟨K, W, E, fr, O⟩ (sFrz i g)) :=
  h.imp fun D σ H ⟨ρ, r, lo, ⟨w, s⟩, h⟩ => by
    obtain ⟨w', s'⟩ := s.frz hO
    refine ⟨ρ, r, lo, ⟨w', s'⟩, ?_⟩
    unfold sFrz at h
    revert h
    generalize g ρ r = o
    intro h
    cases o with
    | next ρ1 r1 => exact fun σ H ⟨w, s⟩ => h σ H ⟨w, s.unfrz hO⟩
    | brk ρ1 r1 => exact fun σ H ⟨w, s⟩ => h σ H ⟨w, s.unfrz hO⟩
    | cont ρ1 r1 => exact fun σ H ⟨w, s⟩ => h σ H ⟨w, s.unfrz hO⟩
    | ret d r1 => exact h
    | exc x fs ρ1 r1 => exact fun σ H cls dd ⟨w, s⟩ e => h σ H cls dd ⟨w, s.unfrz hO⟩ e
    | bad => exact h
end DL

/-! DL22: a conditional as a test; a new dict handed back. -/
namespace DL
open PySem L2
section
variable {X : Cx} {W : WX}
def xTIf (t f g : Tx) : Tx := fun ρ r => (t ρ r).bind fun b r1 => if b = true then f ρ r1 else g ρ r1
theorem dt_if {c a b : Expr} {pos : Pos} {t f g : Tx} (hc : PT X c (tT X.K W t)) (ha : PT X a (tT X.K W f)) (hb : PT X b (tT X.K W g)) : PT X (.IfExp c a b pos) (tT X.K W (xTIf t f g)) := by
  refine ⟨fun pins s σ H Q I ⟨ρ, r, w, gd, sl, h⟩ => ?_⟩
  show wpAny _ _ (do if ← isTrue c X.env (eval c X.env) then isTrue a X.env (eval a X.env) else isTrue b X.env (eval b X.env)) _ _ _
  refine wpAny_bind (thn (hc.run pins s σ H (fun d H1 => if d = true then tT X.K W f σ H1 Q else tT X.K W g σ H1 Q) I ⟨ρ, r, w, gd, sl, h.bind fun d w1 r1 H1 t1 g1 h1 => ?_⟩) fun d s1 ⟨H1, I1, q1⟩ => ?_)
  · cases d with
    | true => exact ⟨ρ, r1, w1, g1, sl.mono t1, h1⟩
    | false => exact ⟨ρ, r1, w1, g1, sl.mono t1, h1⟩
  · cases d with
    | true => exact ha.run pins s1 σ H1 Q I1 q1
    | false => exact hb.run pins s1 σ H1 Q I1 q1
end
section
variable {X : Cx} {c : Sc} {st : Stmt}
def sRetD (O : List Nat) (f : Dx) : Sx := evF O f fun ds _ r => .ret (.dic ds) r
theorem ds_retND {f : Dx} (h : PS X st (tRet (tND c.K c.W f))) : PS X st (tS c (sRetD c.O f)) :=
  h.imp fun D σ H ⟨ρ, r, lo, ⟨w, s⟩, h⟩ => ⟨wipeE ρ c.O, r, w, s.gd, s.slots, evF_dl s h fun ds r1 w1 H1 t s1 h1 p n => by
    obtain ⟨w', t', g', q⟩ := postD_newD (fr := c.fr) s1.tr s1.gd ⟨s.tr.fresh n.fresh, n.nv, n.nm, n.at_⟩
    exact h1 w' H1 _ t' g' q⟩
end
end DL

/-! DL23: zip, enumerate, reversed; index; calls without arguments, methods with defaults. -/
namespace DL
open PySem L2
def zipD (ds es : List D) : List D := List.zipWith (fun d e => .tup [d, e]) ds es
theorem zipD_len (ds es : List D) : (zipD ds es).length = min ds.length es.length := by unfold zipD; rw [List.length_zipWith]
theorem zipD_at {ds es : List D} {i : Nat} {d : D} (h : (zipD ds es)[i]? = some d) : ∃ a b, ds[i]? = some a ∧ es[i]? = some b ∧ d = .tup [a, b] := by
  unfold zipD at h
  rw [List.getElem?_zipWith] at h
  cases q1 : ds[i]? with
  | none => rw [q1] at h; cases h
  | some a =>
    cases q2 : es[i]? with
    | none => rw [q1, q2] at h; cases h
    | some b => rw [q1, q2] at h; cases h; exact ⟨a, b, rfl, rfl, rfl⟩
theorem pair_rp {K : PySem.W.Frag} {w : Wd} {r : Rs} {H : Hp} {T : Addr} {x y : V} {d e : D} (g : Good K w r H) (hT : H T = none) (rx : Rp K w.m w.v d x) (ry : Rp K w.m w.v e y) :
    ∃ w2, Tr w H w2 (upd H T (.tup [x, y])) ∧ Good K w2 r (upd H T (.tup [x, y])) ∧ Rp K w2.m w2.v (.tup [d, e]) (.ref T) := by
  have t := tr_new (o := .tup [x, y]) g hT
  exact ⟨_, t, good_new g hT, .tup (SqT.of upd_same) (.cons (t.rp rx) (.cons (t.rp ry) .nil))⟩
theorem walks_zipL {K : PySem.W.Frag} {w : Wd} {a b : Addr} {xs ys : List V} {ds es : List D} (hx : w.v a = some (.lst xs)) (rx : Rps K w.m w.v ds xs) (hy : w.v b = some (.lst ys)) (ry : Rps K w.m w.v es ys) : Walks K (Itz K a b) w (zipD ds es) := by
  intro w' r' H' sb pr g i
  have h1 : SqL K H' a xs := SqL.of (g.sub _ _ (sb _ _ hx))
  have h2 : SqL K H' b ys := SqL.of (g.sub _ _ (sb _ _ hy))
  refine ⟨fun d e => ?_, fun hl => ⟨xs, ys, h1, h2, by rw [zipD_len, rx.length, ry.length] at hl; omega⟩⟩
  obtain ⟨d1, d2, e1, e2, rfl⟩ := zipD_at e
  obtain ⟨v1, hv1, q1⟩ := rx.get e1
  obtain ⟨v2, hv2, q2⟩ := ry.get e2
  refine ⟨⟨xs, ys, v1, v2, h1, h2, hv1, hv2⟩, fun x H2 yy => ?_⟩
  obtain ⟨T, x1, y1, rfl, hT, rfl, k1, k2⟩ := yy
  have := k1 xs h1
  rw [hv1] at this
  cases this
  have := k2 ys h2
  rw [hv2] at this
  cases this
  exact pair_rp g hT (q1.mono sb pr) (q2.mono sb pr)
theorem walks_zipT {K : PySem.W.Frag} {w : Wd} {a b : Addr} {xs ys : List V} {ds es : List D} (hx : SqT K w.v a xs) (rx : Rps K w.m w.v ds xs) (hy : SqT K w.v b ys) (ry : Rps K w.m w.v es ys) : Walks K (RZ.ItzT K a b) w (zipD ds es) := by
  intro w' r' H' sb pr g i
  have h1 : SqT K H' a xs := g.sub.sqT (sb.sqT hx)
  have h2 : SqT K H' b ys := g.sub.sqT (sb.sqT hy)
  refine ⟨fun d e => ?_, fun hl => ⟨xs, ys, h1, h2, by rw [zipD_len, rx.length, ry.length] at hl; omega⟩⟩
  obtain ⟨d1, d2, e1, e2, rfl⟩ := zipD_at e
  obtain ⟨v1, hv1, q1⟩ := rx.get e1
  obtain ⟨v2, hv2, q2⟩ := ry.get e2
  refine ⟨⟨xs, ys, v1, v2, h1, h2, hv1, hv2⟩, fun x H2 yy => ?_⟩
  obtain ⟨T, x1, y1, rfl, hT, rfl, k1, k2⟩ := yy
  have := k1 xs h1
  rw [hv1] at this
  cases this
  have := k2 ys h2
  rw [hv2] at this
  cases this
  exact pair_rp g hT (q1.mono sb pr) (q2.mono sb pr)
def zipOf : List D → Option (List D)
  | [.lst ds, .lst es] => some (zipD ds es)
  | [.tup ds, .tup es] => some (zipD ds es)
  | _ => none
section
variable {X : Cx} {W : WX}
def xZip (f : Ax) : Lx := fun ρ r => (f ρ r).bind fun ds r1 => match zipOf ds with
  | some es => .ok es r1
  | none => .bad
theorem di_zip {e e2 : Expr} {f : Ax} {p pos tpos : Pos} {elts : List Expr} {kk : Nat} (hg : Gl X "zip") (hm : X.mg "zip" = none) (ha : PA X [e, e2] (tA X.K W f))
    (hs : starEach [e, e2] X.env = (false, eval e X.env) :: starEach [e2] X.env := by rfl) (hpl : (backTo pos (starEach [e2] X.env)).any (·.1) = false := by rfl) :
    PI X (.Tuple elts kk tpos) (.Call (.Name "zip" p) [e, e2] [] pos) (tI X.K W (xZip f)) :=
  (RZ.pi_zipA hg hm ha hs hpl).imp fun σ H R ⟨ρ, r, w, gd, s, q⟩ => ⟨ρ, r, w, gd, s, q.bind fun ds w1 r1 H1 t1 g1 q1 vs rvs => by
    split at q1
    · rename_i es he
      cases rvs with
      | nil => cases he
      | cons rv rt =>
        cases rt with
        | nil => cases rv <;> cases he
        | cons rv2 rt =>
          cases rt with
          | cons _ _ => cases rv <;> cases rv2 <;> cases he
          | nil =>
            cases rv with
            | lst hx rx => cases rv2 with
              | lst hy ry => cases he; exact ⟨_, _, _, _, rfl, .inl ⟨SqL.of (g1.sub _ _ hx), SqL.of (g1.sub _ _ hy), q1.ok g1 _ (walks_zipL hx rx hy ry)⟩⟩
              | _ => cases he
            | tup hx rx => cases rv2 with
              | tup hy ry => cases he; exact ⟨_, _, _, _, rfl, .inr ⟨g1.sub.sqT hx, g1.sub.sqT hy, q1.ok g1 _ (walks_zipT hx rx hy ry)⟩⟩
              | _ => cases he
            | _ => cases rv2 <;> cases he
    · exact q1.elim⟩
/-! enumerate -/
def enumD (ds : List D) : List D := (List.range ds.length).zipWith (fun (i : Nat) d => .tup [.int (i : Nat), d]) ds
theorem enumD_len (ds : List D) : (enumD ds).length = ds.length := by unfold enumD; rw [List.length_zipWith, List.length_range]; omega
theorem enumD_at {ds : List D} {i : Nat} {d : D} (h : (enumD ds)[i]? = some d) : ∃ a, ds[i]? = some a ∧ d = .tup [.int (i : Nat), a] := by
  have hi : i < ds.length := by have := (List.getElem?_eq_some_iff.mp h).1; rwa [enumD_len] at this
  unfold enumD at h
  rw [List.getElem?_zipWith, List.getElem?_range hi, List.getElem?_eq_getElem hi] at h
  cases h
  exact ⟨_, List.getElem?_eq_getElem hi, rfl⟩
theorem walks_enum {K : PySem.W.Frag} {w : Wd} {a : Addr} {xs : List V} {ds : List D} (hx : w.v a = some (.lst xs)) (rx : Rps K w.m w.v ds xs) : Walks K (Ite K a) w (enumD ds) := by
  intro w' r' H' sb pr g i
  have h1 : SqL K H' a xs := SqL.of (g.sub _ _ (sb _ _ hx))
  refine ⟨fun d e => ?_, fun hl => ⟨xs, h1, by rw [enumD_len, rx.length] at hl; exact hl⟩⟩
  obtain ⟨d1, e1, rfl⟩ := enumD_at e
  obtain ⟨v1, hv1, q1⟩ := rx.get e1
  refine ⟨⟨xs, v1, h1, hv1⟩, fun x H2 yy => ?_⟩
  obtain ⟨T, x1, rfl, hT, rfl, k1⟩ := yy
  have := k1 xs h1
  rw [hv1] at this
  cases this
  exact pair_rp g hT (.int _) (q1.mono sb pr)
def xEnum (f : Ax) : Lx := fun ρ r => (f ρ r).bind fun ds r1 => match ds with
  | [.lst ds] => .ok (enumD ds) r1
  | _ => .bad
theorem di_enum {e : Expr} {f : Ax} {p pos tpos : Pos} {elts : List Expr} {kk : Nat} (hg : Gl X "enumerate") (hm : X.mg "enumerate" = none) (ha : PA X [e] (tA X.K W f)) (hs : starEach [e] X.env = [(false, eval e X.env)] := by rfl) :
    PI X (.Tuple elts kk tpos) (.Call (.Name "enumerate" p) [e] [] pos) (tI X.K W (xEnum f)) :=
  (pi_enum hg hm ha hs).imp fun σ H R ⟨ρ, r, w, gd, s, q⟩ => ⟨ρ, r, w, gd, s, q.bind fun ds w1 r1 H1 t1 g1 q1 vs rvs => by
    split at q1
    · cases rvs with
      | cons rv rt =>
        cases rt
        cases rv with
        | lst hx rx => exact ⟨_, _, rfl, SqL.of (g1.sub _ _ hx), q1.ok g1 _ (walks_enum hx rx)⟩
    · exact q1.elim⟩
/-! reversed -/
theorem rev_at {ds : List D} {i : Nat} {d : D} (h : ds.reverse[i]? = some d) : i < ds.length ∧ ds[ds.length - 1 - i]? = some d := by
  have hi : i < ds.length := by have := (List.getElem?_eq_some_iff.mp h).1; rwa [List.length_reverse] at this
  rw [List.getElem?_reverse hi] at h
  exact ⟨hi, h⟩
theorem walks_revL {K : PySem.W.Frag} {w : Wd} {a : Addr} {xs : List V} {ds : List D} (hx : w.v a = some (.lst xs)) (rx : Rps K w.m w.v ds xs) : Walks K (Itv K a xs.length) w ds.reverse := by
  intro w' r' H' sb pr g i
  have h1 : SqL K H' a xs := SqL.of (g.sub _ _ (sb _ _ hx))
  refine ⟨fun d e => ?_, fun hl => by rw [List.length_reverse, rx.length] at hl; exact hl⟩
  obtain ⟨hi, e1⟩ := rev_at e
  rw [rx.length] at hi e1
  obtain ⟨v1, hv1, q1⟩ := rx.get e1
  refine ⟨⟨hi, xs, v1, h1, hv1⟩, fun x H2 yy => ?_⟩
  obtain ⟨rfl, k1⟩ := yy
  have := k1 xs h1
  rw [hv1] at this
  cases this
  exact ⟨w', .refl _ _, g, q1.mono sb pr⟩
theorem walks_revT {K : PySem.W.Frag} {w : Wd} {a : Addr} {xs : List V} {ds : List D} (hx : SqT K w.v a xs) (rx : Rps K w.m w.v ds xs) : Walks K (RT.ItvT K a xs.length) w ds.reverse := by
  intro w' r' H' sb pr g i
  have h1 : SqT K H' a xs := g.sub.sqT (sb.sqT hx)
  refine ⟨fun d e => ?_, fun hl => by rw [List.length_reverse, rx.length] at hl; exact hl⟩
  obtain ⟨hi, e1⟩ := rev_at e
  rw [rx.length] at hi e1
  obtain ⟨v1, hv1, q1⟩ := rx.get e1
  refine ⟨⟨hi, xs, v1, h1, hv1⟩, fun x H2 yy => ?_⟩
  obtain ⟨rfl, k1⟩ := yy
  have := k1 xs h1
  rw [hv1] at this
  cases this
  exact ⟨w', .refl _ _, g, q1.mono sb pr⟩
def xRev (f : Ex) : Lx := fun ρ r => (f ρ r).bind fun d r1 => match d with
  | .lst ds => .ok ds.reverse r1
  | .tup ds => .ok ds.reverse r1
  | _ => .bad
theorem di_rev {tg e : Expr} {f : Ex} {p pos : Pos} (hg : Gl X "reversed") (hm : X.mg "reversed" = none) (he : PE X e (tE X.K W f)) (hs : starEach [e] X.env = (false, eval e X.env) :: starEach [] X.env := by rfl) :
    PI X tg (.Call (.Name "reversed" p) [e] [] pos) (tI X.K W (xRev f)) :=
  (RT.pi_revA hg hm he hs).imp fun σ H R ⟨ρ, r, w, gd, s, q⟩ => ⟨ρ, r, w, gd, s, q.bind fun d w1 r1 H1 t1 g1 q1 v rv => by
    cases d <;> try exact False.elim q1
    · cases rv with
      | tup hx rx => exact ⟨_, _, rfl, .inr ⟨g1.sub.sqT hx, q1.ok g1 _ (walks_revT hx rx)⟩⟩
    · cases rv with
      | lst hx rx => exact ⟨_, _, rfl, .inl ⟨SqL.of (g1.sub _ _ hx), q1.ok g1 _ (walks_revL hx rx)⟩⟩⟩
/-! l.index(x) -/
def idxD (ds : List D) (x : D) : Option Nat := if x.shaped && D.shaped (.lst ds) then ds.findIdx? (fun z => PyData.eqv z.py x.py) else none
def xIndex (f : Ex) (g : Ax) : Ex := fun ρ r => (f ρ r).bind fun a r1 => match a with
  | .lst ds => (g ρ r1).bind fun es r2 => (match es with
    | [x] => (match idxD ds x with
      | some j => .ok (.int (j : Nat)) r2
      | none => .bad)
    | _ => .bad)
  | _ => .bad
theorem pys_at {ds : List D} {j : Nat} : (D.pys ds)[j]? = (ds[j]?).map D.py := by
  induction ds generalizing j with
  | nil => simp [D.pys]
  | cons d ds ih =>
    rw [D.pys]
    cases j with
    | zero => rfl
    | succ j => rw [List.getElem?_cons_succ, List.getElem?_cons_succ, ih]
theorem de_index {e : Expr} {f : Ex} {g : Ax} (h : PE X e (tBM X.K "list" (rIndexD X.K) (tE X.K W f) (tA X.K W g))) : PE X e (tE X.K W (xIndex f g)) := h.imp fun σ H Q ⟨ρ, r, w, gd, s, h⟩ => ⟨ρ, r, w, gd, s, h.bind fun a w1 r1 H1 t1 g1 h1 v rv => by
  split at h1
  · rename_i ds
    have rv' := rv
    cases rv with
    | lst hx rx =>
      refine ⟨.inl ⟨rfl, _, SqL.of (g1.sub _ _ hx)⟩, ρ, r1, w1, g1, s.mono t1, h1.bind fun es w2 r2 H2 t2 g2 h2 us rus => ?_⟩
      split at h2
      · rename_i x
        split at h2
        · rename_i j hj
          unfold idxD at hj
          split at hj
          · rename_i hsh
            rw [Bool.and_eq_true] at hsh
            obtain ⟨z, hz, hzj⟩ := List.findIdx?_eq_some_iff_getElem.mp hj
            cases rus with
            | cons ru rt =>
              cases rt
              refine ⟨_, _, x.py, D.pys ds, j, ds[j].py, rfl, rfl, ?_, dp_sub g2.sub (ru.dpS hsh.1), ?_, hsh.1, ?_, hz, ?_, h2.ok g2 _ (.int _)⟩
              · have := dp_sub g2.sub ((t2.rp rv').dpS hsh.2)
                rwa [D.py] at this
              · have := hsh.2
                unfold D.shaped at this
                rwa [D.py] at this
              · rw [pys_at, List.getElem?_eq_getElem z]; rfl
              · intro m z' hm hz'
                rw [pys_at] at hz'
                have hml : m < ds.length := by omega
                rw [List.getElem?_eq_getElem hml] at hz'
                cases hz'
                have := hzj m hm
                simpa using this
          · cases hj
        · exact h2.elim
      · exact h2.elim
  · exact h1.elim⟩
end
/-! ### arguments left out -/
theorem spD_app {K : PySem.W.Frag} {n : Nat} {F : List D → Rs → Out D} {ds0 : List D} {dvs vs : List V} {H : Hp} {Q : VK} {E : XK} (hd0 : ∀ m H, Rps K m H ds0 dvs) (h : spD K n (fun ds r => F (ds ++ ds0) r) vs H Q E) : spD K (n + ds0.length) F (vs ++ dvs) H Q E := by
  obtain ⟨hl, ds, r, w, g, rv, h⟩ := h
  exact ⟨by rw [List.length_append, hl, (hd0 w.m w.v).length], ds ++ ds0, r, w, g, rv.append (hd0 _ _), h⟩
section
variable {X : Cx} {W : WX} {k n : Nat} {g f : Addr} {fd : FuncData} {ps : List Str} {F : List D → Rs → Out D} {x m : Str} {p pos apos : Pos} {e o : Expr} {es : List Expr} {fo : Ex} {fa : Ax} {dvs : List V} {dd : List Value} {ds0 : List D}
theorem de_methD {pl : Sem Bool} (c0 : Nat) (cl : Cls X.K (clsA X.K c0)) (hm : Meth X.K (clsA X.K c0) m g) (hx : m ∉ fldsOf c0) (G : FnOk X.prog X.w X.K X.mg X.base (L2.CX X.prog X.w) k g fd ps (spD X.K (n + 1 + ds0.length) F)) (hr : Room k X.A) (hb : Binds X.K fd ps dd) (hd : Vals dvs dd) (hd0 : ∀ m H, Rps X.K m H ds0 dvs) (tk : Takes X W)
    (ho : PE X o (tE X.K W fo)) (ha : PA X (e :: es) (tA X.K W fa)) (hn : ∀ ρ r ds r', fa ρ r = .ok ds r' → ds.length = n)
    (hst : starEach (e :: es) X.env = (false, eval e X.env) :: starEach es X.env := by rfl) (hpl : (backTo pos (starEach es X.env)).any (·.1) = false := by rfl)
    (ht : eval (.Call (.Attribute o m apos) (e :: es) [] pos) X.env = (do
      let ov ← eval o X.env
      standAt apos.atName
      let (f, first) ← holding [ov] (getMethod ov m pl)
      callWith pos f first (backTo pos (starEach (e :: es) X.env)) (backToKw pos (keywordEach [] X.env))) := by rfl) :
    PE X (.Call (.Attribute o m apos) (e :: es) [] pos) (tE X.K W (xMeth c0 (fun ds r => F (ds ++ ds0) r) fo fa)) := by
  have P : PE X (.Call (.Attribute o m apos) (e :: es) [] pos) (tMethS (clsA X.K c0) m (spD X.K (n + 1) (fun ds r => F (ds ++ ds0) r)) (WE W) (tE X.K W fo) (tA X.K W fa)) := by
    refine ⟨fun pins s σ H Q I h => ?_⟩
    refine PySem.W.methodCall_KW (pl := pl) (thn (ho.run pins s σ H _ I h) fun u s1 ⟨x, H1, I1, rx, a, dx, fs, ex, ea, l, q⟩ => ?_) ht
    subst ex
    obtain rfl : u = Value.ref a := rx
    refine getmeth_ok I1 ea cl hm l ?_
    refine PySem.W.callWith_K (first := [.ref a]) (h₀ := X.base) I.ok.mod.kin hm.kp (thn (ha.run pos pins s1 σ H1 _ I1 q) fun us s2 ⟨vs, H2, I2, r, q2⟩ => ⟨I2.kIn, ?_⟩) hst hpl
    exact run_fnSD (E := WE W) (us := .ref a :: us) (vs := .ref a :: vs) G hr hb hd (passAt tk σ) I2 (.cons rfl r) (spD_app hd0 q2)
  exact P.imp fun σ H Q h => meth_dl hn hx h
theorem de_meth0D {pl : Sem Bool} (c0 : Nat) (cl : Cls X.K (clsA X.K c0)) (hm : Meth X.K (clsA X.K c0) m g) (hx : m ∉ fldsOf c0) (G : FnOk X.prog X.w X.K X.mg X.base (L2.CX X.prog X.w) k g fd ps (spD X.K (1 + ds0.length) F)) (hr : Room k X.A) (hb : Binds X.K fd ps dd) (hd : Vals dvs dd) (hd0 : ∀ m H, Rps X.K m H ds0 dvs) (tk : Takes X W)
    (ho : PE X o (tE X.K W fo))
    (ht : eval (.Call (.Attribute o m apos) [] [] pos) X.env = (do
      let ov ← eval o X.env
      standAt apos.atName
      let (f, first) ← holding [ov] (getMethod ov m pl)
      callWith pos f first (backTo pos (starEach [] X.env)) (backToKw pos (keywordEach [] X.env))) := by rfl) :
    PE X (.Call (.Attribute o m apos) [] [] pos) (tE X.K W (xMeth c0 (fun ds r => F (ds ++ ds0) r) fo xNil)) := by
  have P : PE X (.Call (.Attribute o m apos) [] [] pos) (tMethS (clsA X.K c0) m (spD X.K 1 (fun ds r => F (ds ++ ds0) r)) (WE W) (tE X.K W fo) tNil) := by
    refine ⟨fun pins s σ H Q I h => ?_⟩
    refine PySem.W.methodCall_KW (pl := pl) (thn (ho.run pins s σ H _ I h) fun u s1 ⟨x, H1, I1, rx, a, dx, fs, ex, ea, l, q⟩ => ?_) ht
    subst ex
    obtain rfl : u = Value.ref a := rx
    refine getmeth_ok I1 ea cl hm l ?_
    exact PySem.W.callWith_K0 (first := [.ref a]) I1.kIn hm.kp (run_fnSD (E := WE W) (us := [.ref a]) (vs := [.ref a]) G hr hb hd (passAt tk σ) I1 (.cons rfl .nil) (spD_app hd0 q))
  exact P.imp fun σ H Q h => by
    obtain ⟨ρ, r, w, gd, s, q⟩ := meth_dl (fa := xNil) (n := 0) len0 hx h
    exact ⟨ρ, r, w, gd, s, q.mono fun a w1 r1 H1 t1 g1 q v rv => by
      obtain ⟨p, dx, fs, e1, e2, e3, ρ2, r2, w2, gd2, s2, q2⟩ := q v rv
      exact ⟨p, dx, fs, e1, e2, e3, q2.ok gd2 [] .nil⟩⟩
/-- f() -/
theorem de_call0 (G : FnOk X.prog X.w X.K X.mg X.base (L2.CX X.prog X.w) k f fd ps (spD X.K ds0.length F)) (hr : Room k X.A) (hg : Gl X x) (hm : X.mg x = some (.ref f)) (hk : PySem.W.keepIn X.K (.ref f) = true) (hb : Binds X.K fd ps dd) (hd : Vals dvs dd) (hd0 : ∀ m H, Rps X.K m H ds0 dvs) (tk : Takes X W)
    (hdb : (x == ("__debug__" : Str)) = false := by decide) : PE X (.Call (.Name x p) [] [] pos) (tE X.K W (xCallD F ds0 xNil)) := by
  have P : PE X (.Call (.Name x p) [] [] pos) (fun σ H Q => spD X.K 0 (fun ds r => F (ds ++ ds0) r) [] H Q (WE W σ)) := by
    refine ⟨fun pins s σ H Q I h => ?_⟩
    refine wpAny_Call_Name_kw (ld_glob I hg hm ?_ hdb)
    have q := spD_app hd0 h
    rw [Nat.zero_add] at q
    exact PySem.W.callWith_K0 I.kIn hk (run_fnSD (E := WE W) (us := []) (vs := []) G hr hb hd (passAt tk σ) I .nil q)
  exact P.imp fun σ H Q ⟨ρ, r, w, gd, s, h⟩ => after_fn (.refl w H) gd .nil rfl h
end
end DL

/-! DL24: loops over dicts: the dict stands locked while it is walked. -/
namespace DL
open PySem L2
/-- alike but at d, which is the same dict in both, locked or not -/
structure Alike (d : Addr) (kvs : List (Key × V)) (v v' : Hp) : Prop where
  ne : ∀ a, a ≠ d → v' a = v a
  at1 : Rd v d (.dK kvs)
  at2 : Rd v' d (.dK kvs)
theorem Alike.symm {d : Addr} {kvs : List (Key × V)} {v v' : Hp} (A : Alike d kvs v v') : Alike d kvs v' v := ⟨fun a h => (A.ne a h).symm, A.at2, A.at1⟩
def noD : HO → Bool
  | .dK _ => false
  | .frz _ (.dK _) => false
  | _ => true
theorem Alike.eq {d : Addr} {kvs : List (Key × V)} {v v' : Hp} (A : Alike d kvs v v') {a : Addr} {u : HO} (h : v a = some u) (n : noD u = true) : v' a = some u := by
  by_cases e : a = d
  · subst e
    rcases A.at1 with q | ⟨o, q⟩ <;> rw [q] at h <;> cases h <;> cases n
  · rw [A.ne a e]; exact h
theorem Alike.sqT {K : PySem.W.Frag} {d : Addr} {kvs : List (Key × V)} {v v' : Hp} (A : Alike d kvs v v') {a : Addr} {xs : List V} (h : SqT K v a xs) : SqT K v' a xs := by
  rcases h with (h | ⟨o, h⟩) | h
  · exact .inl (.inl (A.eq h rfl))
  · exact .inl (.inr ⟨o, A.eq h rfl⟩)
  · exact .inr h
theorem Alike.sqL {K : PySem.W.Frag} {d : Addr} {kvs : List (Key × V)} {v v' : Hp} (A : Alike d kvs v v') {a : Addr} {xs : List V} (h : SqL K v a xs) : SqL K v' a xs := by
  rcases h with (h | ⟨o, h⟩) | h
  · exact .inl (.inl (A.eq h rfl))
  · exact .inl (.inr ⟨o, A.eq h rfl⟩)
  · exact .inr h
theorem Alike.rdT {d : Addr} {kvs : List (Key × V)} {v v' : Hp} (A : Alike d kvs v v') {a : Addr} {xs : List V} (h : Rd v a (.tup xs)) : Rd v' a (.tup xs) := by
  rcases h with h | ⟨o, h⟩
  · exact .inl (A.eq h rfl)
  · exact .inr ⟨o, A.eq h rfl⟩
theorem Alike.rdD {d : Addr} {kvs ks : List (Key × V)} {v v' : Hp} (A : Alike d kvs v v') {a : Addr} (h : Rd v a (.dK ks)) : Rd v' a (.dK ks) := by
  by_cases e : a = d
  · subst e
    have : ks = kvs := by
      rcases h with h | ⟨o, h⟩ <;> rcases A.at1 with q | ⟨o', q⟩ <;> rw [h] at q <;> cases q <;> rfl
    rw [this]
    exact A.at2
  · rcases h with h | ⟨o, h⟩
    · exact .inl ((A.ne a e).trans h)
    · exact .inr ⟨o, (A.ne a e).trans h⟩
section
variable {K : PySem.W.Frag} {m : List Addr} {v v' : Hp} {d : Addr} {kvs : List (Key × V)}
mutual
theorem Rp.alike (A : Alike d kvs v v') : ∀ {x : D} {u : V}, Rp K m v x u → Rp K m v' x u
  | _, _, .non => .non
  | _, _, .bl b => .bl b
  | _, _, .int i => .int i
  | _, _, .str x => .str x
  | _, _, .tup h r => .tup (A.sqT h) (Rps.alike A r)
  | _, _, .lst h r => .lst (A.eq h rfl) (Rps.alike A r)
  | _, _, .dic h r => .dic (A.rdD h) (Rpk.alike A r)
  | _, _, .loc h => .loc h
  | _, _, .scr h => .scr (A.sqL h)
  | _, _, .ty n => .ty n
  | _, _, .gl a => .gl a
  | _, _, .ins h l r => .ins (A.eq h rfl) l (Rps.alike A r)
  | _, _, .rg h => .rg (A.eq h rfl)
theorem Rps.alike (A : Alike d kvs v v') : ∀ {x : List D} {u : List V}, Rps K m v x u → Rps K m v' x u
  | _, _, .nil => .nil
  | _, _, .cons h r => .cons (Rp.alike A h) (Rps.alike A r)
theorem Rpk.alike (A : Alike d kvs v v') : ∀ {x : List (Key × D)} {u : List (Key × V)}, Rpk K m v x u → Rpk K m v' x u
  | _, _, .nil => .nil
  | _, _, .cons h r => .cons (Rp.alike A h) (Rpk.alike A r)
end
end
/-- the dict at d, locked or not (o) -/
def Wd.lay (w : Wd) (d : Addr) (o : HO) : Wd := ⟨w.m, upd w.v d o, w.g⟩
theorem alike_upd {d : Addr} {kvs : List (Key × V)} {v : Hp} {o : HO} (h : Rd v d (.dK kvs)) (ho : Rd (upd v d o) d (.dK kvs)) : Alike d kvs v (upd v d o) := ⟨fun a n => upd_ne n, h, ho⟩
theorem Good.lay {K : PySem.W.Frag} {w : Wd} {r : Rs} {H : Hp} {d : Addr} {kvs : List (Key × V)} {o : HO} (g : Good K w r H) (hd : Rd w.v d (.dK kvs)) (ho : Rd (upd w.v d o) d (.dK kvs)) : Good K (w.lay d o) r (upd H d o) := by
  have A := alike_upd hd ho
  have hv : w.v d ≠ none := by rcases hd with h | ⟨_, h⟩ <;> rw [h] <;> intro z <;> cases z
  have hm : d ∉ w.m := fun z => hv (g.dis d z)
  have HA : ∀ a, a ∈ w.m → upd H d o a = H a := fun a ha => upd_ne fun z => hm (z ▸ ha)
  refine ⟨fun a u e => ?_, fun a ha => ?_, g.len, g.nd, fun n x e => ?_, g.gv⟩
  · by_cases z : a = d
    · subst z
      have e : upd w.v a o a = some u := e
      rw [upd_same] at e ⊢
      exact e
    · have e : upd w.v d o a = some u := e
      rw [upd_ne z] at e ⊢
      exact g.sub a u e
  · show upd w.v d o a = none
    have na : a ≠ d := fun z => hm (by rw [← z]; exact ha)
    rw [upd_ne na]
    exact g.dis a ha
  · obtain ⟨a, ha, q⟩ := g.at_ n x e
    have hH := HA a (List.mem_iff_getElem?.mpr ⟨n, ha⟩)
    refine ⟨a, ha, ?_⟩
    cases x with
    | lst ds => obtain ⟨i, xs, h1, h2⟩ := q; exact ⟨i, xs, hH.trans h1, Rps.alike A h2⟩
    | dic ds => obtain ⟨i, xs, h1, h2⟩ := q; exact ⟨i, xs, hH.trans h1, Rpk.alike A h2⟩
    | obj ver c fs => obtain ⟨dx, vs, h1, h2, h3⟩ := q; exact ⟨dx, vs, hH.trans h1, h2, Rps.alike A h3⟩
/-- behind the walk the dict is as it was -/
theorem Tr.unlock {w w2 : Wd} {H H2 : Hp} {d : Addr} {u L : HO} (t : Tr (w.lay d L) (upd H d L) w2 H2) (hv : w.v d = some u) (hH : H d = some u) (nu : ∀ xs, ¬ Rd (upd H d u) d (.tup xs)) (hm : d ∉ w.m) : Tr w H (w2.lay d u) (upd H2 d u) := by
  have eH : upd H d u = H := by funext a; unfold upd; split <;> simp_all
  refine ⟨fun a o e => ?_, t.pre, fun b o e n => ?_, fun b e => ?_, fun b e => ?_, fun b e => ?_, fun b xs e => ?_, t.gm, fun n a C dx fs e1 e2 e3 => ?_⟩
  · show upd w2.v d u a = some o
    by_cases z : a = d
    · subst z; rw [upd_same, ← hv]; exact e
    · rw [upd_ne z]
      exact t.sub a o (by show upd w.v d L a = some o; rw [upd_ne z]; exact e)
  · by_cases z : b = d
    · subst z; rw [upd_same, ← hH]; exact e
    · rw [upd_ne z]
      exact t.keep b o (by rw [upd_ne z]; exact e) n
  · by_cases z : b = d
    · subst z; rw [upd_same]; intro q; cases q
    · rw [upd_ne z]
      exact t.live b (by rw [upd_ne z]; exact e)
  · by_cases z : b = d
    · subst z; exact .inl (by rw [hv]; intro q; cases q)
    · have e : upd w2.v d u b ≠ none := e
      rw [upd_ne z] at e
      rcases t.newv b e with q | q
      · left
        have q : upd w.v d L b ≠ none := q
        rwa [upd_ne z] at q
      · right
        rwa [upd_ne z] at q
  · by_cases z : b = d
    · subst z
      rcases t.newm b e with q | q
      · exact .inl q
      · rw [upd_same] at q; cases q
    · rcases t.newm b e with q | q
      · exact .inl q
      · rw [upd_ne z] at q; exact .inr q
  · by_cases z : b = d
    · subst z; rw [← eH] at e; exact absurd e (nu xs)
    · have := t.tups b xs (by rcases e with e | ⟨o, e⟩
                              · exact .inl (by rw [upd_ne z]; exact e)
                              · exact .inr ⟨o, by rw [upd_ne z]; exact e⟩)
      rcases this with e | ⟨o, e⟩
      · exact .inl (by rw [upd_ne z]; exact e)
      · exact .inr ⟨o, by rw [upd_ne z]; exact e⟩
  · have z : a ≠ d := fun z => hm (z ▸ List.mem_iff_getElem?.mpr ⟨n, e1⟩)
    rw [upd_ne z]
    have := t.same n a C dx fs e1 (by rw [upd_ne z]; exact e2) e3
    rw [upd_ne z] at this
    exact this
/-! ### statements while a dict is walked -/
/-- the entry, with the dict laid in -/
def Ent.lay (E : Ent) (d : Addr) (o : HO) : Ent := ⟨E.w.lay d o, upd E.H d o⟩
theorem Tr.lay2 {E : Ent} {w : Wd} {H : Hp} {d : Addr} {u L : HO} (t : Tr E.w E.H w H) (hv : w.v d = some u) (hm : d ∉ w.m) (hT : ∀ xs, L ≠ .tup xs ∧ ∀ o, L ≠ .frz o (.tup xs)) : Tr (E.lay d L).w (E.lay d L).H (w.lay d L) (upd H d L) := by
  refine ⟨fun a o e => ?_, t.pre, fun b o e n => ?_, fun b e => ?_, fun b e => ?_, fun b e => ?_, fun b xs e => ?_, t.gm, fun n a C dx fs e1 e2 e3 => ?_⟩
  · show upd w.v d L a = some o
    have e : upd E.w.v d L a = some o := e
    by_cases z : a = d
    · subst z; rw [upd_same] at e ⊢; exact e
    · rw [upd_ne z] at e ⊢; exact t.sub a o e
  · have e : upd E.H d L b = some o := e
    by_cases z : b = d
    · subst z; rw [upd_same] at e ⊢; exact e
    · rw [upd_ne z] at e ⊢; exact t.keep b o e n
  · have e : upd E.H d L b ≠ none := e
    by_cases z : b = d
    · subst z; rw [upd_same]; intro q; cases q
    · rw [upd_ne z] at e ⊢; exact t.live b e
  · have e : upd w.v d L b ≠ none := e
    show upd E.w.v d L b ≠ none ∨ upd E.H d L b = none
    by_cases z : b = d
    · subst z; rw [upd_same]; exact .inl (by intro q; cases q)
    · rw [upd_ne z] at e ⊢; rw [upd_ne z]; exact t.newv b e
  · show b ∈ E.w.m ∨ upd E.H d L b = none
    by_cases z : b = d
    · subst z; exact absurd e hm
    · rw [upd_ne z]; exact t.newm b e
  · have no : ∀ {G : Hp}, Rd (upd G d L) d (.tup xs) → False := fun {G} q => by
      rcases q with q | ⟨o, q⟩ <;> rw [upd_same] at q <;> cases q
      · exact (hT xs).1 rfl
      · exact (hT xs).2 _ rfl
    by_cases z : b = d
    · subst z; exact (no e).elim
    · have e' : Rd E.H b (.tup xs) := by
        rcases e with e | ⟨o, e⟩
        · have e : upd E.H d L b = some (.tup xs) := e
          rw [upd_ne z] at e; exact .inl e
        · have e : upd E.H d L b = some (.frz o (.tup xs)) := e
          rw [upd_ne z] at e; exact .inr ⟨o, e⟩
      rcases t.tups b xs e' with q | ⟨o, q⟩
      · exact .inl (by rw [upd_ne z]; exact q)
      · exact .inr ⟨o, by rw [upd_ne z]; exact q⟩
  · have z : a ≠ d := fun z => hm (z ▸ t.pre.mem (List.mem_iff_getElem?.mpr ⟨n, e1⟩))
    have e2 : upd E.H d L a = some (.ins C dx fs) := e2
    rw [upd_ne z] at e2
    show upd H d L a = upd E.H d L a
    rw [upd_ne z, upd_ne z]
    exact t.same n a C dx fs e1 e2 e3
theorem Tr.unlay {E : Ent} {w : Wd} {H : Hp} {d : Addr} {u L : HO} (t : Tr (E.lay d L).w (E.lay d L).H w H) (h1 : ∀ o, E.w.v d = some o → o = u) (h2 : ∀ o, E.H d = some o → o = u) (h3 : E.w.v d ≠ none ∨ E.H d = none) (h4 : d ∉ w.m) (hT : ∀ xs, u ≠ .tup xs ∧ ∀ o, u ≠ .frz o (.tup xs)) : Tr E.w E.H (w.lay d u) (upd H d u) := by
  refine ⟨fun a o e => ?_, t.pre, fun b o e n => ?_, fun b e => ?_, fun b e => ?_, fun b e => ?_, fun b xs e => ?_, t.gm, fun n a C dx fs e1 e2 e3 => ?_⟩
  · show upd w.v d u a = some o
    by_cases z : a = d
    · subst z; rw [upd_same, h1 o e]
    · rw [upd_ne z]; exact t.sub a o (by show upd E.w.v d L a = some o; rw [upd_ne z]; exact e)
  · by_cases z : b = d
    · subst z; rw [upd_same, h2 o e]
    · rw [upd_ne z]; exact t.keep b o (by show upd E.H d L b = some o; rw [upd_ne z]; exact e) n
  · by_cases z : b = d
    · subst z; rw [upd_same]; intro q; cases q
    · rw [upd_ne z]; exact t.live b (by show upd E.H d L b ≠ none; rw [upd_ne z]; exact e)
  · by_cases z : b = d
    · subst z; exact h3
    · have e : upd w.v d u b ≠ none := e
      rw [upd_ne z] at e
      rcases t.newv b e with q | q
      · left
        have q : upd E.w.v d L b ≠ none := q
        rwa [upd_ne z] at q
      · right
        have q : upd E.H d L b = none := q
        rwa [upd_ne z] at q
  · by_cases z : b = d
    · subst z; exact absurd e h4
    · rcases t.newm b e with q | q
      · exact .inl q
      · right
        have q : upd E.H d L b = none := q
        rwa [upd_ne z] at q
  · by_cases z : b = d
    · subst z
      exfalso
      rcases e with e | ⟨o, e⟩
      · exact (hT xs).1 (h2 _ e).symm
      · exact (hT xs).2 o (h2 _ e).symm
    · have := t.tups b xs (by rcases e with e | ⟨o, e⟩
                              · exact .inl (by show upd E.H d L b = _; rw [upd_ne z]; exact e)
                              · exact .inr ⟨o, by show upd E.H d L b = _; rw [upd_ne z]; exact e⟩)
      rcases this with e | ⟨o, e⟩
      · exact .inl (by rw [upd_ne z]; exact e)
      · exact .inr ⟨o, by rw [upd_ne z]; exact e⟩
  · have z : a ≠ d := fun z => h4 (z ▸ t.pre.mem (List.mem_iff_getElem?.mpr ⟨n, e1⟩))
    have := t.same n a C dx fs e1 (by show upd E.H d L a = _; rw [upd_ne z]; exact e2) e3
    have this : H a = upd E.H d L a := this
    rw [upd_ne z] at this ⊢
    exact this
theorem OwnD.alike {K : PySem.W.Frag} {w : Wd} {H : Hp} {p d : Addr} {x : D} {kvs : List (Key × V)} {o : HO} (h : OwnD K w H p x) (A : Alike d kvs w.v (upd w.v d o)) (n : p ≠ d) : OwnD K (w.lay d o) (upd H d o) p x := by
  cases x <;> try exact h.elim
  · obtain ⟨xs, e, r⟩ := h
    exact ⟨xs, by rw [upd_ne n]; exact e, Rps.alike A r⟩
  · obtain ⟨xs, e, r⟩ := h
    exact ⟨xs, by rw [upd_ne n]; exact e, Rpk.alike A r⟩
section
variable {K : PySem.W.Frag} {E : Ent} {lo w0 w : Wd} {O : List Nat} {ρ : En} {r : Rs} {σ : L2.St} {H H0 : Hp} {d : Addr} {kvs : List (Key × V)} {od : Obj}
theorem SIw.lock (s : SIw K E lo O ρ r σ H w) (hd : w.v d = some (.dK kvs)) : SIw K (E.lay d (.frz od (.dK kvs))) (w.lay d (.frz od (.dK kvs))) O ρ r σ (upd H d (.frz od (.dK kvs))) (w.lay d (.frz od (.dK kvs))) := by
  have hm : d ∉ w.m := fun z => by rw [s.gd.dis d z] at hd; cases hd
  have A : Alike d kvs w.v (upd w.v d (.frz od (.dK kvs))) := alike_upd (.inl hd) (.inr ⟨od, upd_same⟩)
  refine ⟨s.tr.lay2 hd hm fun xs => ⟨(by intro z; cases z), (by intro o z; cases z)⟩, .refl _, .refl _, s.gd.lay (.inl hd) (.inr ⟨od, upd_same⟩), s.len, fun i x e ho => ?_, fun i x e ho => ?_, s.dj⟩
  · obtain ⟨v, h1, h2⟩ := s.fr i x e ho
    exact ⟨v, h1, Rp.alike A h2⟩
  · obtain ⟨p, h1, h2, h3, h4, h5⟩ := s.ow i x e ho
    have n : p ≠ d := fun z => by rw [z, hd] at h3; cases h3
    exact ⟨p, h1, h2.alike A n, by show upd w.v d _ p = none; rw [upd_ne n]; exact h3, h4, by show upd E.H d _ p = none; rw [upd_ne n]; exact h5⟩
theorem SIw.unlock {ρ₀ : En} {r₀ : Rs} {σ₀ : L2.St} (s0 : SIw K E lo O ρ₀ r₀ σ₀ H0 w0) (hd : w0.v d = some (.dK kvs)) (s : SIw K (E.lay d (.frz od (.dK kvs))) (w0.lay d (.frz od (.dK kvs))) O ρ r σ H w) : SIw K E lo O ρ r σ (upd H d (.dK kvs)) (w.lay d (.dK kvs)) ∧ H d = some (.frz od (.dK kvs)) := by
  have hL : w.v d = some (.frz od (.dK kvs)) := s.los d _ upd_same
  have hm : d ∉ w.m := fun z => by rw [s.gd.dis d z] at hL; cases hL
  have hm0 : d ∉ E.w.m := fun z => by
    have := s0.tr.pre.mem z
    rw [s0.gd.dis d this] at hd; cases hd
  have A : Alike d kvs w.v (upd w.v d (.dK kvs)) := alike_upd (.inr ⟨od, hL⟩) (.inl upd_same)
  have f1 : ∀ o, E.w.v d = some o → o = .dK kvs := fun o e => by
    have := s0.tr.sub d o e
    rw [hd] at this; cases this; rfl
  have f2 : ∀ o, E.H d = some o → o = .dK kvs := fun o e => by
    have h := s0.tr.keep d o e hm0
    have h' := s0.gd.sub d _ hd
    rw [h'] at h; cases h; rfl
  have f3 : E.w.v d ≠ none ∨ E.H d = none := s0.tr.newv d (by rw [hd]; intro z; cases z)
  refine ⟨⟨s.tr.unlay f1 f2 f3 hm fun xs => ⟨(by intro z; cases z), (by intro o z; cases z)⟩, fun a o e => ?_, s0.lop.trans s.lop, s.gd.lay (.inr ⟨od, hL⟩) (.inl upd_same), s.len, fun i x e ho => ?_, fun i x e ho => ?_, s.dj⟩, s.gd.sub d _ hL⟩
  · show upd w.v d (.dK kvs) a = some o
    have e := s0.los a o e
    by_cases z : a = d
    · subst z; rw [upd_same, ← hd]; exact e
    · rw [upd_ne z]; exact s.los a o (by show upd w0.v d _ a = some o; rw [upd_ne z]; exact e)
  · obtain ⟨v, h1, h2⟩ := s.fr i x e ho
    exact ⟨v, h1, Rp.alike A h2⟩
  · obtain ⟨p, h1, h2, h3, h4, h5⟩ := s.ow i x e ho
    have n : p ≠ d := fun z => by rw [z, hL] at h3; cases h3
    have h5 : upd E.H d _ p = none := h5
    rw [upd_ne n] at h5
    exact ⟨p, h1, h2.alike A n, by show upd w.v d _ p = none; rw [upd_ne n]; exact h3, h4, h5⟩
end
def noExcS : SOut → SOut
  | .exc _ _ _ _ => .bad
  | o => o
def keyD : Key → D
  | .inl i => .int i
  | .inr x => .str x
/-- for k in d, d in slot i -/
def sForD (i : Nat) (tg : Tg) (body : Sx) : Sx := fun ρ r => match ρ[i]? with
  | some (some (.dic kds)) => noExcS (forGo tg body (kds.map fun p => keyD p.1) ρ r)
  | _ => .bad
theorem rpk_at {K : PySem.W.Frag} {m : List Addr} {H : Hp} : ∀ {kds : List (Key × D)} {kvs : List (Key × V)} {i : Nat} {p : Key × D}, Rpk K m H kds kvs → kds[i]? = some p → ∃ v, kvs[i]? = some (p.1, v)
  | _, _, _, _, .nil, e => by simp at e
  | _, _, 0, _, .cons (v := v) _ _, e => by cases e; exact ⟨v, rfl⟩
  | _, _, i + 1, _, .cons _ t, e => rpk_at (i := i) t (by rwa [List.getElem?_cons_succ] at e)
theorem walks_keys {K : PySem.W.Frag} {w : Wd} {d : Addr} {od : Obj} {kvs : List (Key × V)} {kds : List (Key × D)} {m : List Addr} {H : Hp} (hd : w.v d = some (.frz od (.dK kvs))) (rk : Rpk K m H kds kvs) : Walks K (Itk d od kvs) w (kds.map fun p => keyD p.1) := by
  intro w' r' H' sb pr g i
  have h1 : H' d = some (.frz od (.dK kvs)) := g.sub _ _ (sb _ _ hd)
  refine ⟨fun x e => ?_, fun hl => ⟨h1, by rw [List.length_map, rpk_len rk] at hl; exact hl⟩⟩
  rw [List.getElem?_map] at e
  cases q : kds[i]? with
  | none => rw [q] at e; cases e
  | some p =>
    rw [q] at e
    cases e
    obtain ⟨v, hv⟩ := rpk_at rk q
    refine ⟨⟨h1, (List.getElem?_eq_some_iff.mp hv).1⟩, fun x H2 y => ?_⟩
    obtain ⟨rfl, k, v', hk, rfl⟩ := y
    rw [hv] at hk
    cases hk
    refine ⟨w', .refl _ _, g, ?_⟩
    show Rp K w'.m w'.v (keyD p.1) (kV p.1)
    cases p.1 with
    | inl i => exact .int i
    | inr x => exact .str x
theorem PostD.lay {K : PySem.W.Frag} {fr : Bool} {H0 H : Hp} {w : Wd} {d : Addr} {L u : HO} {kvs : List (Key × V)} {x : DL.D} {v : V} (p : PostD K fr (upd H0 d L) w H x v) (hL : w.v d = some L) (A : Alike d kvs w.v (upd w.v d u)) : PostD K fr H0 (w.lay d u) (upd H d u) x v := by
  cases fr with
  | false => exact Rp.alike A p
  | true =>
    cases x with
    | lst ds =>
      obtain ⟨q, rfl, n⟩ := p
      have nq : q ≠ d := fun z => by have := n.nv; rw [z, hL] at this; cases this
      obtain ⟨xs, hx, rx⟩ := n.at_
      refine ⟨q, rfl, ?_, ?_, n.nm, ⟨xs, by rw [upd_ne nq]; exact hx, Rps.alike A rx⟩⟩
      · have := n.fresh; rwa [upd_ne nq] at this
      · show upd w.v d _ q = none; rw [upd_ne nq]; exact n.nv
    | dic ds =>
      obtain ⟨q, rfl, n⟩ := p
      have nq : q ≠ d := fun z => by have := n.nv; rw [z, hL] at this; cases this
      obtain ⟨xs, hx, rx⟩ := n.at_
      refine ⟨q, rfl, ?_, ?_, n.nm, ⟨xs, by rw [upd_ne nq]; exact hx, Rpk.alike A rx⟩⟩
      · have := n.fresh; rwa [upd_ne nq] at this
      · show upd w.v d _ q = none; rw [upd_ne nq]; exact n.nv
    | _ => exact Rp.alike A p
def lockEnds (D : Ends) (d : Addr) (L u : HO) : Ends := ⟨fun σ' H' => H' d = some L ∧ D.nx σ' (upd H' d u), fun v H' => H' d = some L ∧ D.rt v (upd H' d u), fun σ' H' => H' d = some L ∧ D.bk σ' (upd H' d u), fun σ' H' => H' d = some L ∧ D.ct σ' (upd H' d u)⟩
theorem after_lock {c : Sc} {lo w0 : Wd} {ρ0 : En} {r0 : Rs} {σ0 : L2.St} {H0 : Hp} {d : Addr} {kvs : List (Key × V)} {od : Obj} {D : Ends} {o : SOut} (s0 : SIw c.K c.E lo c.O ρ0 r0 σ0 H0 w0) (hd : w0.v d = some (.dK kvs)) (h : AfterS c lo D (noExcS o)) :
    AfterS { c with E := c.E.lay d (.frz od (.dK kvs)) } (w0.lay d (.frz od (.dK kvs))) (lockEnds D d (.frz od (.dK kvs)) (.dK kvs)) o := by
  cases o with
  | next ρ r => exact fun σ H ⟨w, s⟩ => by obtain ⟨s', e⟩ := SIw.unlock s0 hd s; exact ⟨e, h σ _ ⟨_, s'⟩⟩
  | brk ρ r => exact fun σ H ⟨w, s⟩ => by obtain ⟨s', e⟩ := SIw.unlock s0 hd s; exact ⟨e, h σ _ ⟨_, s'⟩⟩
  | cont ρ r => exact fun σ H ⟨w, s⟩ => by obtain ⟨s', e⟩ := SIw.unlock s0 hd s; exact ⟨e, h σ _ ⟨_, s'⟩⟩
  | exc x fs ρ r => exact h.elim
  | bad => exact h
  | ret x r =>
    intro w H v t g p
    have hL : w.v d = some (.frz od (.dK kvs)) := t.sub d _ upd_same
    have hm : d ∉ w.m := fun z => by rw [g.dis d z] at hL; cases hL
    have hm0 : d ∉ c.E.w.m := fun z => hm (t.pre.mem z)
    have A : Alike d kvs w.v (upd w.v d (.dK kvs)) := alike_upd (.inr ⟨od, hL⟩) (.inl upd_same)
    have f1 : ∀ o, c.E.w.v d = some o → o = .dK kvs := fun o e => by
      have := s0.tr.sub d o e
      rw [hd] at this; cases this; rfl
    have f2 : ∀ o, c.E.H d = some o → o = .dK kvs := fun o e => by
      have h := s0.tr.keep d o e hm0
      have h' := s0.gd.sub d _ hd
      rw [h'] at h; cases h; rfl
    have f3 : c.E.w.v d ≠ none ∨ c.E.H d = none := s0.tr.newv d (by rw [hd]; intro z; cases z)
    refine ⟨g.sub d _ hL, h (w.lay d (.dK kvs)) (upd H d (.dK kvs)) v (t.unlay f1 f2 f3 hm fun xs => ⟨(by intro z; cases z), (by intro o z; cases z)⟩) (g.lay (.inr ⟨od, hL⟩) (.inl upd_same)) ?_⟩
    exact PostD.lay p hL A
theorem after_noExc {c : Sc} {lo : Wd} {D : Ends} {o : SOut} (h : AfterS c lo D (noExcS o)) : AfterS c lo D o := by
  cases o <;> first | exact h | exact h.elim
section
variable {X : Cx} {c : Sc} {pos : Pos}
def tAnyE (c : Sc) (f : Sx) : TS := fun D σ H => ∃ E, tS ⟨c.K, c.W, E, c.fr, c.O⟩ f D σ H
/-- for k in d -/
theorem ds_forD {i : Nat} {tgt e : Expr} {body : List Stmt} {g : TG} {tg : Tg} {js : List Nat} {f : Sx} (hp : PassesOwn (model X.prog X.w) X.A X.env X.xe) (hc : X.calm = true) (he : PE X e (tVar i)) (hi : i ∉ c.O) (hg : PG X tgt g) (hd : TgD c.K g tg js) (hj : ∀ j ∈ js, j ∉ c.O)
    (hb : ∀ E, PSs X body (tS ⟨c.K, c.W, E, c.fr, c.O⟩ f)) (hs : ∀ x, foldedSetIterable e X.env x = pure x := by intro _; rfl) : PS X (.For tgt e body [] pos) (tS c (sForD i tg f)) := by
  have hb' : PSs X body (tAnyE c f) := ⟨fun pins s σ H D I ⟨E, q⟩ => (hb E).run pins s σ H D I q⟩
  refine ⟨fun pins s σ H D I ⟨ρ, r, lo, ⟨w, sw⟩, h⟩ => ?_⟩
  unfold sForD at h
  split at h
  · rename_i kds e1
    obtain ⟨v, h1, rv⟩ := sw.fr i _ e1 hi
    cases rv with
    | dic hx rk =>
      rename_i a kvs
      rcases hx with hx | ⟨od, hx⟩
      · exact (ps_lock (ps_for hp hc (pi_keys he) hg hb' hs)).run pins s σ H D I ⟨a, .dK kvs, sw.gd.sub _ _ hx, trivial, fun od =>
          ⟨_, h1, a, od, rfl, .inl ⟨kvs, upd_same, for_dl (c := ⟨c.K, c.W, c.E.lay a (.frz od (.dK kvs)), c.fr, c.O⟩) (tb := tAnyE c f) hd hj (fun _ _ _ h => ⟨_, h⟩) (walks_keys upd_same rk) (.refl _) (.refl _) (sw.lock hx) (after_lock sw hx h)⟩⟩⟩
      · exact (ps_for hp hc (pi_keys he) hg hb' hs).run pins s σ H D I ⟨_, h1, a, od, rfl, .inl ⟨kvs, sw.gd.sub _ _ hx, for_dl (tb := tAnyE c f) hd hj (fun _ _ _ h => ⟨c.E, h⟩) (walks_keys hx rk) (.refl _) (.refl _) sw (after_noExc h)⟩⟩
  · exact h.elim
end
end DL

/-! DL25: comprehensions over dicts. -/
namespace DL
open PySem L2
def xLcD (i : Nat) (tg : Tg) (t : Tx) (f : Ex) (vs : List Nat) : Lx := fun ρ r => match ρ[i]? with
  | some (some (.dic kds)) => (match lcGo tg t f (wipeE ρ vs) (kds.map fun p => keyD p.1) r with
    | some p => if p.1.length ≤ lim then .ok p.1 p.2 else .bad
    | none => .bad)
  | _ => .bad
theorem Slots.lay {K : PySem.W.Frag} {w : Wd} {ρ : En} {σ : L2.St} {d : Addr} {kvs : List (Key × V)} {o : HO} (s : Slots K w ρ σ) (A : Alike d kvs w.v (upd w.v d o)) : Slots K (w.lay d o) ρ σ :=
  ⟨s.1, fun i x e => by obtain ⟨v, h1, h2⟩ := s.2 i x e; exact ⟨v, h1, Rp.alike A h2⟩⟩
section
variable {X : Cx} {W : WX}
theorem dn_lcD {elt tg iter : Expr} {ifs : List Expr} {scope : Scope} {own : List (Str × Nat)} {pos : Pos} {g : TG} {dt : Tg} {js : List Nat} {t : Tx} {f : Ex} {i : Nat} (hc : X.calm = true) (hN : X.N.Nodup) (hi : PE X iter (tVar i)) (ok : BlkOk X.N X.env.scope scope own) (hd : TgD X.K g dt js) (hj : ∀ j ∈ js, j ∈ own.map (·.2))
    (hg : ∀ (s : Shared) (H : Hp) (C : Addr) (cl : List (Str × Addr)) (fp : List Addr), PG (X.blk s H scope (compEnvC scope cl C X.env) fp) tg g) (ht : ∀ (s : Shared) (H : Hp) (C : Addr) (cl : List (Str × Addr)) (fp : List Addr), PTs (X.blk s H scope (compEnvC scope cl C X.env) fp) ifs (tT X.K W0 t))
    (he : ∀ (s : Shared) (H : Hp) (C : Addr) (cl : List (Str × Addr)) (fp : List Addr), PE (X.blk s H scope (compEnvC scope cl C X.env) fp) elt (tE X.K W0 f)) (hs : ∀ x, foldedSetIterable iter X.env x = pure x := by intro _; rfl) :
    PE X (.ListComp elt [⟨tg, iter, ifs, 0⟩] scope pos) (tN X.K W (xLcD i dt t f (own.map (·.2)))) := by
  have base := pe_lc hc hN (pi_keys (tg := tg) hi) ok hg ht he hs (pos := pos)
  refine ⟨fun pins s σ H Q I ⟨ρ, r, w, gd, sl, h⟩ => ?_⟩
  unfold xLcD at h
  split at h
  · rename_i kds e1
    cases e : lcGo dt t f (wipeE ρ (own.map (·.2))) (kds.map fun p => keyD p.1) r with
    | none => rw [e] at h; exact h.elim
    | some p =>
      obtain ⟨es, rE⟩ := p
      rw [e] at h
      dsimp only at h
      split at h
      · rename_i hl
        obtain ⟨v, h1, rv⟩ := sl.2 i _ e1
        cases rv with
        | dic hx rk =>
          rename_i a kvs
          rcases hx with hx | ⟨od, hx⟩
          · have hm : a ∉ w.m := fun z => by rw [gd.dis a z] at hx; cases hx
            refine (pe_lock base).run pins s σ H Q I ⟨a, .dK kvs, gd.sub _ _ hx, trivial, fun od => ⟨_, h1, a, od, rfl, .inl ⟨kvs, upd_same, fun D hD => ?_⟩⟩⟩
            have A : Alike a kvs w.v (upd w.v a (.frz od (.dK kvs))) := alike_upd (.inl hx) (.inr ⟨od, upd_same⟩)
            refine lc_go (Q := fun v H' => H' a = some (.frz od (.dK kvs)) ∧ Q v (upd H' a (.dK kvs))) hd hj (walks_keys upd_same rk) (sl.lay A) (gd.lay (.inl hx) (.inr ⟨od, upd_same⟩)) e hl (fun w2 H2 t2 g2 p n => ?_) D hD
            have hL : w2.v a = some (.frz od (.dK kvs)) := t2.sub a _ upd_same
            have A2 : Alike a kvs w2.v (upd w2.v a (.dK kvs)) := alike_upd (.inr ⟨od, hL⟩) (.inl upd_same)
            have np : p ≠ a := fun z => by have := n.nv; rw [z, hL] at this; cases this
            obtain ⟨xs, hxs, rxs⟩ := n.at_
            refine ⟨g2.sub _ _ hL, h _ _ (t2.unlock hx (gd.sub _ _ hx) (fun xs q => by rcases q with q | ⟨o, q⟩ <;> rw [upd_same] at q <;> cases q) hm) (g2.lay (.inr ⟨od, hL⟩) (.inl upd_same)) p ⟨?_, ?_, n.nm, xs, by rw [upd_ne np]; exact hxs, Rps.alike A2 rxs⟩⟩
            · have := n.fresh; rwa [upd_ne np] at this
            · show upd w2.v a _ p = none; rw [upd_ne np]; exact n.nv
          · exact base.run pins s σ H Q I ⟨_, h1, a, od, rfl, .inl ⟨kvs, gd.sub _ _ hx, fun D hD => lc_go hd hj (walks_keys hx rk) sl gd e hl (fun w2 H2 t2 g2 p n => h w2 H2 t2 g2 p n) D hD⟩⟩
      · exact h.elim
  · exact h.elim
end
end DL

/-! DL26: dict comprehensions over dicts. -/
namespace DL
open PySem L2
def xDcD (i : Nat) (tg : Tg) (t : Tx) (fk fv : Ex) (vs : List Nat) : Dx := fun ρ r => match ρ[i]? with
  | some (some (.dic kds)) => if kds.length < lim then (match dcGo tg t fk fv (wipeE ρ vs) (kds.map fun p => keyD p.1) [] r with
    | some p => .ok p.1 p.2
    | none => .bad) else .bad
  | _ => .bad
section
variable {X : Cx} {W : WX}
theorem dnd_dcD {kx vx tg iter : Expr} {ifs : List Expr} {scope : Scope} {own : List (Str × Nat)} {pos : Pos} {g : TG} {dt : Tg} {js : List Nat} {t : Tx} {fk fv : Ex} {i : Nat} (hc : X.calm = true) (hN : X.N.Nodup) (hi : PE X iter (tVar i)) (ok : BlkOk X.N X.env.scope scope own) (hd : TgD X.K g dt js) (hj : ∀ j ∈ js, j ∈ own.map (·.2))
    (hg : ∀ (s : Shared) (H : Hp) (C : Addr) (cl : List (Str × Addr)) (fp : List Addr), PG (X.blk s H scope (compEnvC scope cl C X.env) fp) tg g) (ht : ∀ (s : Shared) (H : Hp) (C : Addr) (cl : List (Str × Addr)) (fp : List Addr), PTs (X.blk s H scope (compEnvC scope cl C X.env) fp) ifs (tT X.K W0 t))
    (hk : ∀ (s : Shared) (H : Hp) (C : Addr) (cl : List (Str × Addr)) (fp : List Addr), PE (X.blk s H scope (compEnvC scope cl C X.env) fp) kx (tE X.K W0 fk))
    (he : ∀ (s : Shared) (H : Hp) (C : Addr) (cl : List (Str × Addr)) (fp : List Addr), PE (X.blk s H scope (compEnvC scope cl C X.env) fp) vx (tE X.K W0 fv)) (hs : ∀ x, foldedSetIterable iter X.env x = pure x := by intro _; rfl) :
    PE X (.DictComp kx vx [⟨tg, iter, ifs, 0⟩] scope pos) (tND X.K W (xDcD i dt t fk fv (own.map (·.2)))) := by
  have base := pe_dc hc hN (pi_keys (tg := tg) hi) ok hg ht hk he hs (pos := pos)
  refine ⟨fun pins s σ H Q I ⟨ρ, r, w, gd, sl, h⟩ => ?_⟩
  unfold xDcD at h
  split at h
  · rename_i kds e1
    split at h
    · rename_i hl
      cases e : dcGo dt t fk fv (wipeE ρ (own.map (·.2))) (kds.map fun p => keyD p.1) [] r with
      | none => rw [e] at h; exact h.elim
      | some p =>
        obtain ⟨es, rE⟩ := p
        rw [e] at h
        dsimp only at h
        have hl : (kds.map fun p => keyD p.1).length < lim := by rw [List.length_map]; exact hl
        obtain ⟨v, h1, rv⟩ := sl.2 i _ e1
        cases rv with
        | dic hx rk =>
          rename_i a kvs
          rcases hx with hx | ⟨od, hx⟩
          · have hm : a ∉ w.m := fun z => by rw [gd.dis a z] at hx; cases hx
            refine (pe_lock base).run pins s σ H Q I ⟨a, .dK kvs, gd.sub _ _ hx, trivial, fun od => ⟨_, h1, a, od, rfl, .inl ⟨kvs, upd_same, fun D hD => ?_⟩⟩⟩
            have A : Alike a kvs w.v (upd w.v a (.frz od (.dK kvs))) := alike_upd (.inl hx) (.inr ⟨od, upd_same⟩)
            refine dc_go (Q := fun v H' => H' a = some (.frz od (.dK kvs)) ∧ Q v (upd H' a (.dK kvs))) hd hj (walks_keys upd_same rk) (sl.lay A) (gd.lay (.inl hx) (.inr ⟨od, upd_same⟩)) e hl (fun w2 H2 t2 g2 p n => ?_) D hD
            have hL : w2.v a = some (.frz od (.dK kvs)) := t2.sub a _ upd_same
            have A2 : Alike a kvs w2.v (upd w2.v a (.dK kvs)) := alike_upd (.inr ⟨od, hL⟩) (.inl upd_same)
            have np : p ≠ a := fun z => by have := n.nv; rw [z, hL] at this; cases this
            obtain ⟨xs, hxs, rxs⟩ := n.at_
            refine ⟨g2.sub _ _ hL, h _ _ (t2.unlock hx (gd.sub _ _ hx) (fun xs q => by rcases q with q | ⟨o, q⟩ <;> rw [upd_same] at q <;> cases q) hm) (g2.lay (.inr ⟨od, hL⟩) (.inl upd_same)) p ⟨?_, ?_, n.nm, xs, by rw [upd_ne np]; exact hxs, Rpk.alike A2 rxs⟩⟩
            · have := n.fresh; rwa [upd_ne np] at this
            · show upd w2.v a _ p = none; rw [upd_ne np]; exact n.nv
          · exact base.run pins s σ H Q I ⟨_, h1, a, od, rfl, .inl ⟨kvs, gd.sub _ _ hx, fun D hD => dc_go hd hj (walks_keys hx rk) sl gd e hl (fun w2 H2 t2 g2 p n => h w2 H2 t2 g2 p n) D hD⟩⟩
    · exact h.elim
  · exact h.elim
end
end DL

/-! DL27: try, except .. as .., else. -/
namespace DL
open PySem L2 PySem.Spec

theorem kit_of {K : PySem.W.Frag} {C1 C2 : Addr} {b : Bool} (ed : PySem.W.hasDictIn K C2 = true) (et : PySem.W.typeIn K (.ref C2) = some (.type "type")) (su : PySem.W.subIn K (.ref C1) (.ref C2) = some b) (ss : PySem.W.subIn K (.ref C2) (.ref C2) = some true) : PySem.W.kitOne K (.ref C1) (.ref C2) = some b := by
  unfold PySem.W.kitOne
  split
  · rename_i h
    have e : C1 = C2 := by simpa using h
    subst e
    exact ss.symm.trans su
  · have hc : (PySem.W.clsIn K C2).isSome = true := by
      unfold PySem.W.hasDictIn at ed
      cases e : PySem.W.clsIn K C2 with
      | none => rw [e] at ed; cases ed
      | some _ => rfl
    unfold PySem.W.kitCls
    dsimp only
    rw [if_pos (by rw [hc, et]; rfl)]
    exact su
theorem kit_ve {K : PySem.W.Frag} {C : Addr} {b : Bool} (su : PySem.W.subIn K (.ref C) (.type "ValueError") = some b) : PySem.W.kitOne K (.ref C) (.type "ValueError") = some b := by
  have h : PySem.W.kitMeta "ValueError" = true := by decide +kernel
  unfold PySem.W.kitOne
  rw [if_neg (by simp)]
  unfold PySem.W.kitCls
  dsimp only
  rw [if_pos h]
  exact su
/-- the ends of a suite whose error's name goes behind it -/
def endsWo (i : Nat) (D : Ends) : Ends := { nx := fun σ H => D.nx (σ.set i none) H, rt := D.rt, bk := fun σ H => D.bk (σ.set i none) H, ct := fun σ H => D.ct (σ.set i none) H }
section
variable {X : Cx} {pins : List (Addr × Obj)} {σ : L2.St} {H : Hp} {s sI : Shared} {a : Addr} {B : Heap} {cls : Value} {d : Option Addr} {i : Nat} {n : Str} {D : Ends}
/-- an exception's object is no frame -/
theorem exc_no_frame {l : List Env} {o : Obj} {vs : Array Value} {h : Heap} (ff : h.FunFrames B l) (e : h.get? a = some o) (dd : o.data = .fields vs) : a ∉ frs l := by
  intro hm
  obtain ⟨_, o2, e2, no⟩ := ff.mem hm
  have q : o = o2 := Option.some.inj (e.symm.trans e2)
  rw [q] at dd
  exact no _ dd
/-- the suite's ends become the try's -/
theorem suite_ends {f : Flow} {pos : Pos} {a : Addr} {oe : Obj} (ok : X.Ok) (hN : X.N.Nodup) (hi : X.N[i]? = some n) (hl : X.env.kindOf n = some .local)
    (h : SP (X.suite a ((a, oe) :: (X.pn ++ pins))) [] (endsWo i D) f s) :
    wpAny (model X.prog X.w) X.A (do bindName X.env n .none; unbindBehindTheSuite X.env n pos) (fun _ s2 => SP X pins D f s2) X.xe s := by
  cases f with
  | ret u => exact h.elim fun v h => h.elim fun σ1 h => h.elim fun H1 h => gone_ok (h.1.unsuite ok) hN hi hl fun _ J => ⟨v, _, H1, J, h.2⟩
  | next => exact h.elim fun σ1 h => h.elim fun H1 h => gone_ok (h.1.unsuite ok) hN hi hl fun _ J => ⟨_, H1, J, h.2⟩
  | brk => exact h.elim fun σ1 h => h.elim fun H1 h => gone_ok (h.1.unsuite ok) hN hi hl fun _ J => ⟨_, H1, J, h.2⟩
  | cont => exact h.elim fun σ1 h => h.elim fun H1 h => gone_ok (h.1.unsuite ok) hN hi hl fun _ J => ⟨_, H1, J, h.2⟩
/-- an error in flight of a class that the clause names: the suite takes it -/
theorem taken {x : Str} {c : Value} {ts : TS} {suite : List Stmt} {b₀ : Stmt} {np pos : Pos} (hs : X.stack = X.env :: X.outer) (hf : X.env.frame = some X.env.locals) (hN : X.N.Nodup) (hi : X.N[i]? = some n) (hl : X.env.kindOf n = some .local) (hc : Names X x c)
    (I : Inv X pins σ H sI) (nb : ∀ b o, sI.heap.get? b = some o → b ∉ frs X.stack → B.get? b = some o) (up : sI.heap.UpToSlots s.heap) (fl : HandSPX.FlyingZ B (X.env :: X.outer) a (Zc cls d) s.heap) (os : s.os = sI.os) (ag : PyProof.Rows.AllBare s.gens) (na : H a = none)
    (hm : PySem.W.exmOne X.K cls c = some true)
    (hsu : ∀ oe, Zc cls d oe → (∃ vs, oe.data = .fields vs) → PSs (X.suite a ((a, oe) :: (X.pn ++ pins))) (b₀ :: suite) ts)
    (w : ts (endsWo i D) (σ.set i (some (.ref a))) H) :
    wpAny (model X.prog X.w) X.A (handleBy (.ref a) X.env [.ExceptHandler (some (.Name x np)) (some n) (b₀ :: suite) pos]) (SP X pins D) X.xe s := by
  have back : ∀ (h : Heap), HandSPX.FlyingZ B (X.env :: X.outer) a (Zc cls d) h → sI.heap.UpToSlots h →
      ∃ oe vs, h.get? a = some oe ∧ Zc cls d oe ∧ oe.data = .fields vs ∧ Inv (X.suite a ((a, oe) :: (X.pn ++ pins))) [] σ H { s with heap := h } ∧ Inv X pins σ H { s with heap := h } := by
    intro h fh uh
    have J : Inv X pins σ H { s with heap := h } := I.landed nb fh.1 uh os ag
    obtain ⟨oe, vs, e1, e2, e3⟩ := fh.there
    have nf : a ∉ frs (X.env :: X.outer) := exc_no_frame fh.2.2.1 e1 e3
    refine ⟨oe, vs, e1, e2, e3, J.suite e1 e3 na (fun z => nf ?_) (fun hm => nf ?_), J⟩
    · exact List.mem_filterMap.mpr ⟨_, List.mem_cons_self, by rw [hf, z]⟩
    · obtain ⟨e, h1, h2⟩ := List.mem_filterMap.mp hm
      exact List.mem_filterMap.mpr ⟨e, List.mem_cons_of_mem _ h1, h2⟩
  obtain ⟨oe, vs, e1, e2, e3, S, J⟩ := back s.heap fl up
  refine wpAny_handleBy_cons (codeAny_handlers_test ?_) (fun q => nomatch q)
  have T := PySem.W.exm_one (M := model X.prog X.w) J.kIn (fun A Q E s' k q => wpAny_typeOf_ref (k _ _ e1) (by rw [e2.1]; exact q)) hm
  have nm : ∀ {Q : Value → Shared → Prop} {E : Value → Shared → Prop}, Q c s → wpAny (model X.prog X.w) (X.A.mark (some (.ref a))) (eval (.Name x np) X.env) Q E s := by
    intro Q E q
    rcases hc with ⟨g1, g2, g3 | ⟨g3, g4, g5⟩⟩
    · exact ld_glob (X := X.suite a ((a, oe) :: (X.pn ++ pins))) S g1 g3 q g2
    · exact ld_blt (X := X.suite a ((a, oe) :: (X.pn ++ pins))) S g1 g3 g4 q g5 g2
  refine nm (T.here (codeAny_handlers_suite_as ?_))
  refine HandSPX.lands_againZ fl fun h fh uh => ?_
  obtain ⟨o1, us, q1, q2, q3, S1, _⟩ := back h fh (up.trans uh)
  refine store_ok (X := X.suite a ((a, o1) :: (X.pn ++ pins))) (v := .ref a) S1 hN hi (.inl hl) rfl (fun s2 S2 => ?_) (.inr hl)
  exact wpAny_mono ((hsu o1 q2 ⟨us, q3⟩).run [] s2 _ H (endsWo i D) S2 w) (fun f s3 h3 => suite_ends I.ok hN hi hl h3) fun _ _ z => z.elim
end
/-- what a try with an else makes of its body's end -/
def kTryAsE (cs : List Nat) (c0 i : Nat) (su : Nat → Sx) (el : Sx) : SOut → SOut
  | .next ρ r => el ρ r
  | .exc x fs ρ r => if fs.isEmpty && cs.contains x && subE x c0 && decide (i < ρ.length) then wrapE i (su x (ρ.set i none) r) else .bad
  | o => o
/-- try: body except C as n: suite else: .. -/
def sTryAsE (cs : List Nat) (c0 i : Nat) (g : Sx) (su : Nat → Sx) (el : Sx) : Sx := fun ρ r => kTryAsE cs c0 i su el (g ρ r)
/-- what the clause takes -/
def wElse (c : Sc) (cs : List Nat) (c0 i : Nat) (su : Nat → Sx) (D : Ends) : WX := fun cls d σ H =>
  ∃ cc, (cs.contains cc = true ∧ subE cc c0 = true ∧ cls = .ref (clsA c.K cc) ∧ d = none) ∧ ∀ a, H a = none → tSu i a { c with W := W0' } (su cc) (endsWo i D) (σ.set i (some (.ref a))) H
theorem after_else {c : Sc} {cs : List Nat} {c0 i : Nat} {su : Nat → Sx} {el : Sx} {D : Ends} {lo : Wd} (hiO : i ∉ c.O) : ∀ {o : SOut}, AfterS c lo D (kTryAsE cs c0 i su el o) → AfterS { c with W := wElse c cs c0 i su D } lo { D with nx := tS c el D } o
  | .next ρ r, h => fun _ _ s => ⟨ρ, r, lo, s, h⟩
  | .brk _ _, h => h
  | .cont _ _, h => h
  | .ret _ _, h => h
  | .bad, h => h
  | .exc x fs ρ r, h => by
    have h : AfterS c lo D (if (fs.isEmpty && cs.contains x && subE x c0 && decide (i < ρ.length)) = true then wrapE i (su x (ρ.set i none) r) else .bad) := h
    intro σ H cls dd s e
    split at h
    · rename_i q
      rw [Bool.and_eq_true, Bool.and_eq_true, Bool.and_eq_true, decide_eq_true_eq] at q
      obtain ⟨⟨⟨q1, q2⟩, q3⟩, q4⟩ := q
      obtain ⟨e1, e2, _⟩ := e
      refine ⟨x, ⟨q2, q3, e1, e2 q1⟩, fun a _ => ?_⟩
      obtain ⟨w, s⟩ := s
      refine ⟨List.getElem?_set_self (by rw [← s.len]; exact q4), ρ.set i none, r, lo, ⟨w, s.junk hiO _⟩, ?_⟩
      revert h
      generalize su x (ρ.set i none) r = o
      intro h
      cases o with
      | next ρ1 r1 => exact fun _ _ ⟨w1, s1⟩ => h _ _ ⟨w1, s1.junk hiO none⟩
      | brk ρ1 r1 => exact fun _ _ ⟨w1, s1⟩ => h _ _ ⟨w1, s1.junk hiO none⟩
      | cont ρ1 r1 => exact fun _ _ ⟨w1, s1⟩ => h _ _ ⟨w1, s1.junk hiO none⟩
      | ret d1 r1 => exact h
      | exc y gs ρ1 r1 => exact h.elim
      | bad => exact h
    · exact h.elim
section
variable {X : Cx} {c : Sc} {x n : Str} {i c0 : Nat} {cs : List Nat} {body suite orelse : List Stmt} {b₀ : Stmt} {np pos pos' : Pos} {g el : Sx} {su : Nat → Sx}
theorem ds_try_asE (eK : X.K = c.K) (hs : X.stack = X.env :: X.outer) (hf : X.env.frame = some X.env.locals) (hN : X.N.Nodup) (hi : X.N[i]? = some n) (hln : X.env.kindOf n = some .local) (hc : Names X x (.ref (clsA c.K c0))) (hiO : i ∉ c.O)
    (hem : ∀ cc, cs.contains cc = true → PySem.W.exmOne c.K (.ref (clsA c.K cc)) (.ref (clsA c.K c0)) = some (subE cc c0))
    (hb : ∀ (W : WX) (pn : List (Addr × Obj)) (xe : Value → Shared → Prop), Takes (X.tr pn xe) W → PassesOwn (model X.prog X.w) X.A X.env xe → PSs (X.tr pn xe) body (tS { c with W := W } g))
    (hsu : ∀ (cc : Nat), cs.contains cc = true → ∀ (a : Addr) (oe : Obj) (pn : List (Addr × Obj)), Zc (.ref (clsA c.K cc)) none oe → (∃ vs, oe.data = .fields vs) → PSs (X.suite a ((a, oe) :: pn)) (b₀ :: suite) (tSu i a { c with W := W0' } (su cc)))
    (ho : PSs X orelse (tS c el)) :
    PS X (.Try body [.ExceptHandler (some (.Name x np)) (some n) (b₀ :: suite) pos'] orelse [] pos) (tS c (sTryAsE cs c0 i g su el)) := by
  refine ⟨fun pins s σ H D I h => wpAny_Try_except ?_⟩
  obtain ⟨ρ, r, lo, q, h⟩ := h
  refine wpAny_mono ((hb (wElse c cs c0 i su D) (X.pn ++ pins) _ (fun u s1 x => ?_) PassesOwn.looking).run [] s σ H { D with nx := tS c el D } (I.toTry _) ⟨ρ, r, lo, q, after_else hiO h⟩) (fun f s1 z => ?_) fun _ _ z => z
  · obtain ⟨a, B, sI, pins1, σ1, H1, cls, d, rfl, J, nb, up, sky, na, os, ag, cc, ⟨w1, w2, w3, w4⟩, w5⟩ := x
    subst w3 w4
    refine Sky.land Zc.steady (by rw [I.ok.frames, hs]) hf (by rw [← hs]; exact sky) fun h2 fl up2 => ?_
    have hm := hem cc w1
    rw [w2, ← eK] at hm
    rw [← eK] at hc
    refine taken hs hf hN hi hln hc (J.ofTry I.ok) nb (up.trans up2) (by rw [← eK] at fl; exact fl) os ag na hm (fun oe hz hd => ?_) (w5 a na)
    rw [eK] at hz
    exact hsu cc w1 a oe (X.pn ++ pins) hz hd
  · cases f with
    | next => exact z.elim fun σ1 z => z.elim fun H1 z => ho.run pins s1 σ1 H1 D (z.1.ofTry I.ok) z.2
    | brk => exact z.elim fun σ1 z => z.elim fun H1 z => ⟨σ1, H1, z.1.ofTry I.ok, z.2⟩
    | cont => exact z.elim fun σ1 z => z.elim fun H1 z => ⟨σ1, H1, z.1.ofTry I.ok, z.2⟩
    | ret u => exact z.elim fun v z => z.elim fun σ1 z => z.elim fun H1 z => ⟨v, σ1, H1, z.1.ofTry I.ok, z.2⟩
end
end DL

namespace Law
open PySem L2 DL
def excs : List Nat := [0, 1, 2, 3, 4, 5, 6, 7, 8, 9, 10, 11]
def k_BASIC : D := (.tup [(.str "holds"), (.str "same")])
def k_BINDERS : D := (.tup [(.str "all"), (.str "some")])
def k_CAPITAL : D := (.str "ABCDEFGHIJKLMNOPQRSTUVWXYZ")
def k_DIGITS : D := (.str "0123456789")
def k_DIGITS_names : D := (.str "0123456789")
def k_END : D := (.str "")
def k_FAULT : D := (.str "!")
def k_KINDS : D := (.tup [(.str "listed"), (.str "prefix"), (.str "single"), (.str "linked")])
def k_LONGEST : D := (.int 12)
def k_MARKS : D := (.str "(),.=")
def k_MOST_ARGUMENTS : D := (.int 3)
def k_MOST_DIGITS : D := (.int 6)
def k_OTHER : List (Str × D) := [("and", (.str "or")), ("or", (.str "and")), ("all", (.str "some")), ("some", (.str "all"))]
def k_PAIRS : D := (.tup [(.str "and"), (.str "or"), (.str "implies"), (.str "iff")])
def k_RESERVED : D := (.tup [(.str "all"), (.str "some"), (.str "not"), (.str "and"), (.str "or"), (.str "implies"), (.str "iff"), (.str "true"), (.str "false")])
def k_SMALL : D := (.str "abcdefghijklmnopqrstuvwxyz")
def k_TOP : D := (.tup [(.str "")])
def k_UNFOLDED : D := (.tup [(.str "implies"), (.str "iff"), (.str "not")])
def b_answers_decided_clauses (fuel : Nat) (C : Nat → List D → Rs → Out D) : Sx :=
    (sRetN [] (xLc (xItems (xCall (C 355) (xCons (xFld 19 5 (xVar 0)) xNil))) (gNm 1) xYes (xIx (xFld 19 5 (xVar 0)) (xVar 1)) [1]))
def b_answers_decided_origins (fuel : Nat) (C : Nat → List D → Rs → Out D) : Sx :=
    (sRetN [] (xLc (xItems (xCall (C 355) (xCons (xFld 19 5 (xVar 0)) xNil))) (gNm 1) xYes (xIx (xFld 19 6 (xVar 0)) (xVar 1)) [1]))
def b_answers_is_world_of (fuel : Nat) (C : Nat → List D → Rs → Out D) : Sx :=
    (sSeq (sIfF [] (xB (xOp dNe (xFld 13 0 (xFld 15 0 (xVar 0))) (xFld 13 0 (xFld 14 0 (xVar 1))))) (sRet false [] (xC (.bl false))) sNext)
    (sRet false [] (xAndV (xOp dEq (xFld 13 1 (xFld 15 0 (xVar 0))) (xFld 13 1 (xFld 14 0 (xVar 1)))) (xCall (C 476) (xCons (xVar 0) (xCons (xVar 1) xNil))))))
def b_answers_shows_no_world (fuel : Nat) (C : Nat → List D → Rs → Out D) : Sx :=
    (sSeq (sIfF [] (xB (xOp dEq (xIx (xVar 1) (xC (.int 0))) (xC (.str "cases")))) (sRet false [] (xAndV (xCall (C 530) (xCons (xVar 0) xNil)) (xCall (C 137) (xCons (xVar 0) (xCons (xIx (xVar 1) (xC (.int 1))) xNil))))) sNext)
    (sSeq (sAsg [] (gNm 2) (xCall (C 207) (xCons (xVar 0) xNil)))
    (sSeq (sAsg [] (gNm 3) (xCall (C 101) (xCons (xVar 2) xNil)))
    (sSeq (sIfF [] (xB (xOp dEq (xIx (xVar 1) (xC (.int 0))) (xC (.str "lines")))) (sRet false [] (xCall (C 300) (xCons (xCall (C 197) (xCons (xFld 19 1 (xVar 2)) xNil)) (xCons (xVar 3) (xCons (xIx (xVar 1) (xC (.int 1))) xNil))))) sNext)
    (sSeq (sAsg [] (gNm 4) (xCall (C 455) (xCons (xFld 19 1 (xVar 2)) (xCons (xVar 3) (xCons (xIx (xVar 1) (xC (.int 1))) (xCons (xIx (xVar 1) (xC (.int 2))) xNil))))))
    (sSeq (sIfF [] (xB (xOp dEq (xVar 4) (xC (.str "beyond")))) (sSeq (sAsg [] (gNm 5) (xCall (C 288) (xCons (xVar 0) xNil)))
    (sRet false [] (xAndV (xOp dIsNot (xVar 5) (xC .non)) (xOp dGe (xIx (xVar 1) (xC (.int 1))) (xVar 5))))) sNext)
    (sRet false [] (xOp dEq (xVar 4) (xC (.str "closed"))))))))))
def b_answers_shows_none_smaller (fuel : Nat) (C : Nat → List D → Rs → Out D) : Sx :=
    (sSeq (sIfF [] (xB (xOp dEq (xFld 15 1 (xVar 1)) (xC (.int 1)))) (sRet false [] (xOp dIs (xVar 2) (xC .non))) sNext)
    (sSeq (sIfF [] (xB (xOp dIs (xVar 2) (xC .non))) (sRet false [] (xC (.bl false))) sNext)
    (sSeq (sIfF [] (xB (xOp dEq (xIx (xVar 2) (xC (.int 0))) (xC (.str "cases")))) (sRet false [] (xAndV (xCall (C 530) (xCons (xVar 0) xNil)) (xCall (C 138) (xCons (xVar 0) (xCons (xFld 15 1 (xVar 1)) (xCons (xIx (xVar 2) (xC (.int 1))) xNil)))))) sNext)
    (sSeq (sIfF [] (xOr (xB (xOp dNe (xIx (xVar 2) (xC (.int 0))) (xC (.str "tree")))) (xB (xOp dNe (xIx (xVar 2) (xC (.int 1))) (xOp dSub (xFld 15 1 (xVar 1)) (xC (.int 1)))))) (sRet false [] (xC (.bl false))) sNext)
    (sSeq (sAsg [] (gNm 3) (xCall (C 207) (xCons (xVar 0) xNil)))
    (sRet false [] (xOp dNe (xCall (C 455) (xCons (xFld 19 1 (xVar 3)) (xCons (xCall (C 101) (xCons (xVar 3) xNil)) (xCons (xIx (xVar 2) (xC (.int 1))) (xCons (xIx (xVar 2) (xC (.int 2))) xNil))))) (xC (.str "wrong")))))))))
def b_benches_replay (fuel : Nat) (C : Nat → List D → Rs → Out D) : Sx :=
    (sSeq (sAsg [] (gNm 2) (xNewR 28 (C 107) (xCons (xVar 0) xNil)))
    (sSeq (sFor [] (xItems (xVar 1)) (gNm 3) (sIfF [] (xB (xOp dEq (xIx (xVar 3) (xC (.int 0))) (xC (.str "add")))) (sExp [] (xMeth 28 (C 111) (xVar 2) (xCons (xIx (xVar 3) (xC (.int 1))) (xCons (xIx (xVar 3) (xC (.int 2))) xNil)))) (sIfF [] (xB (xOp dEq (xIx (xVar 3) (xC (.int 0))) (xC (.str "drop")))) (sExp [] (xMeth 28 (C 117) (xVar 2) (xCons (xIx (xVar 3) (xC (.int 1))) xNil))) (sExp [] (xMeth 28 (C 507) (xVar 2) (xCons (xIx (xVar 3) (xC (.int 1))) (xCons (xIx (xVar 3) (xC (.int 2))) (xCons (xIx (xVar 3) (xC (.int 3))) xNil))))))))
    (sRet false [] (xVar 2))))
def b_books_Book_with_sentence_v1 (fuel : Nat) (C : Nat → List D → Rs → Out D) : Sx :=
    (sRet false [] (xNewF 14 (C 123) (xCons (xFld 14 0 (xVar 0)) (xCons (xOp dAdd (xFld 14 1 (xVar 0)) (xTup (xCons (xVar 1) xNil))) xNil))))
def b_books_Book_without (fuel : Nat) (C : Nat → List D → Rs → Out D) : Sx :=
    (sRet false [] (xNewF 14 (C 123) (xCons (xFld 14 0 (xVar 0)) (xCons (xOp dAdd (xSl (xFld 14 1 (xVar 0)) xNoP (xPart (xVar 1))) (xSl (xFld 14 1 (xVar 0)) (xPart (xOp dAdd (xVar 1) (xC (.int 1)))) xNoP)) xNil))))
def b_books_Signature___init__ (fuel : Nat) (C : Nat → List D → Rs → Out D) : Sx :=
    (sSeq (sSetF [] 13 0 (xVar 0) (xCB cTuple (xCons (xL (xLc (xItems (xVar 1)) (gTp 2 (gCons' (gNm 3) (gCons' (gNm 4) gNil'))) xYes (xTup (xCons (xVar 3) (xCons (xVar 4) xNil))) [3, 4])) xNil)))
    (sSeq (sSetF [] 13 1 (xVar 0) (xCB cTuple (xCons (xL (xLc (xItems (xVar 2)) (gTp 2 (gCons' (gNm 3) (gCons' (gNm 4) gNil'))) xYes (xTup (xCons (xVar 3) (xCons (xVar 4) xNil))) [3, 4])) xNil)))
    (sSeq (sSetF [] 13 2 (xVar 0) (xResD xDNew))
    (sFor [] (xItems (xOp dAdd (xFld 13 0 (xVar 0)) (xFld 13 1 (xVar 0)))) (gTp 2 (gCons' (gNm 3) (gCons' (gNm 4) gNil'))) (sSeq (sAsg [] (gNm 5) (xOp dLt (xCB cLen (xCons (xFld 13 2 (xVar 0)) xNil)) (xCB cLen (xCons (xFld 13 0 (xVar 0)) xNil))))
    (sSeq (sIfF [] (xOr (xDIn (xVar 3) (xFld 13 2 (xVar 0))) (xNot (xTIf (xTr (xVar 5)) (xTr (xCall (C 313) (xCons (xVar 3) xNil))) (xTr (xCall (C 312) (xCons (xVar 3) xNil)))))) (sRaise 1) sNext)
    (sSeq (sIfF [] (xNot (xCh dLe dLe (xC (.int 0)) (xVar 4) (xC k_MOST_ARGUMENTS))) (sRaise 2) sNext)
    (sDSetR [] (xFld 13 2 (xVar 0)) (xVar 3) (xVar 4)))))))))
def b_books_Signature_arity (fuel : Nat) (C : Nat → List D → Rs → Out D) : Sx :=
    (sSeq (sIfF [] (xNot (xDIn (xVar 1) (xFld 13 2 (xVar 0)))) (sRaise 3) sNext)
    (sRet false [] (xDGet (xFld 13 2 (xVar 0)) (xVar 1))))
def b_books_Signature_check_sentence_v1 (fuel : Nat) (C : Nat → List D → Rs → Out D) : Sx :=
    (sIfF [] (xB (xOp dIn (xIx (xVar 1) (xC (.int 0))) (xC k_BINDERS))) (sSeq (sIfF [] (xOr (xNot (xTr (xCall (C 313) (xCons (xIx (xVar 1) (xC (.int 1))) xNil)))) (xTr (xMeth 13 (C 132) (xVar 0) (xCons (xIx (xVar 1) (xC (.int 1))) xNil)))) (sRaise 5) sNext)
    (sExp [] (xMeth 13 (C 511) (xVar 0) (xCons (xIx (xVar 1) (xC (.int 2))) (xCons (xOp dAdd (xCB cTuple (xCons (xVar 2) xNil)) (xTup (xCons (xIx (xVar 1) (xC (.int 1))) xNil))) xNil))))) (sIfF [] (xOr (xB (xOp dEq (xIx (xVar 1) (xC (.int 0))) (xC (.str "not")))) (xB (xOp dIn (xIx (xVar 1) (xC (.int 0))) (xC k_PAIRS)))) (sFor [] (xItems (xSl (xVar 1) (xPart (xC (.int 1))) xNoP)) (gNm 3) (sExp [] (xMeth 13 (C 511) (xVar 0) (xCons (xVar 3) (xCons (xVar 2) xNil))))) (sSeq (sIfF [] (xB (xOp dEq (xIx (xVar 1) (xC (.int 0))) (xC (.str "holds")))) (sSeq (sAsg [] (gNm 4) (xIx (xVar 1) (xC (.int 1))))
    (sIfF [] (xOr (xNot (xTr (xCall (C 312) (xCons (xIx (xVar 4) (xC (.int 0))) xNil)))) (xOr (xNot (xTr (xMeth 13 (C 132) (xVar 0) (xCons (xIx (xVar 4) (xC (.int 0))) xNil)))) (xB (xOp dNe (xDGet (xFld 13 2 (xVar 0)) (xIx (xVar 4) (xC (.int 0)))) (xOp dSub (xCB cLen (xCons (xVar 4) xNil)) (xC (.int 1))))))) (sRaise 5) sNext)) sNext)
    (sFor [] (xItems (xCall (C 368) (xCons (xVar 1) xNil))) (gNm 5) (sExp [] (xMeth 13 (C 512) (xVar 0) (xCons (xVar 5) (xCons (xVar 2) xNil))))))))
def b_books_Signature_check_term_v1 (fuel : Nat) (C : Nat → List D → Rs → Out D) : Sx :=
    (sSeq (sIfF [] (xTr (xCall (C 426) (xCons (xVar 1) xNil))) (sSeq (sIfF [] (xOr (xB (xOp dNotIn (xVar 1) (xVar 2))) (xOr (xTr (xMeth 13 (C 132) (xVar 0) (xCons (xVar 1) xNil))) (xNot (xTr (xCall (C 313) (xCons (xVar 1) xNil)))))) (sRaise 4) sNext)
    (fun _ r => .ret .non r)) sNext)
    (sSeq (sIfF [] (xOr (xNot (xTr (xCall (C 313) (xCons (xIx (xVar 1) (xC (.int 0))) xNil)))) (xOr (xNot (xTr (xMeth 13 (C 132) (xVar 0) (xCons (xIx (xVar 1) (xC (.int 0))) xNil)))) (xB (xOp dNe (xDGet (xFld 13 2 (xVar 0)) (xIx (xVar 1) (xC (.int 0)))) (xOp dSub (xCB cLen (xCons (xVar 1) xNil)) (xC (.int 1))))))) (sRaise 4) sNext)
    (sFor [] (xItems (xSl (xVar 1) (xPart (xC (.int 1))) xNoP)) (gNm 3) (sExp [] (xMeth 13 (C 512) (xVar 0) (xCons (xVar 3) (xCons (xVar 2) xNil)))))))
def b_books_Signature_constants_v1 (fuel : Nat) (C : Nat → List D → Rs → Out D) : Sx :=
    (sRetN [] (xLc (xItems (xFld 13 0 (xVar 0))) (gTp 2 (gCons' (gNm 1) (gCons' (gNm 2) gNil'))) (xB (xOp dEq (xVar 2) (xC (.int 0)))) (xVar 1) [1, 2]))
def b_books_Signature_extended_v1 (fuel : Nat) (C : Nat → List D → Rs → Out D) : Sx :=
    (sRet false [] (xNewF 13 (C 126) (xCons (xOp dAdd (xFld 13 0 (xVar 0)) (xCB cTuple (xCons (xVar 1) xNil))) (xCons (xFld 13 1 (xVar 0)) xNil))))
def b_books_Signature_has (fuel : Nat) (C : Nat → List D → Rs → Out D) : Sx :=
    (sRet false [] (xV (xDIn (xVar 1) (xFld 13 2 (xVar 0)))))
def b_casepapers_case_paper (fuel : Nat) (C : Nat → List D → Rs → Out D) : Sx :=
    (sRet false [] (xCall (C 139) (xCons (xVar 0) (xCons (xC .non) xNil))))
def b_casepapers_cases_before_paper (fuel : Nat) (C : Nat → List D → Rs → Out D) : Sx :=
    (sRet false [] (xCall (C 139) (xCons (xVar 0) (xCons (xVar 1) xNil))))
def b_casepapers_first_false (fuel : Nat) (C : Nat → List D → Rs → Out D) : Sx :=
    (sSeq (sFor [] (xEnum (xCons (xFld 14 1 (xVar 0)) xNil)) (gTp 2 (gCons' (gNm 2) (gCons' (gNm 3) gNil'))) (sIfF [] (xNot (xTr (xCallD (C 481) [.non] (xCons (xVar 1) (xCons (xVar 3) xNil))))) (sRet false [] (xVar 2)) sNext))
    (sRet false [] (xC .non)))
def b_casepapers_judge_below (fuel : Nat) (C : Nat → List D → Rs → Out D) : Sx :=
    (sSeq (sAsg [] (gNm 3) (xNewF 25 (C 397) (xCons (xVar 0) xNil)))
    (sSeq (sAsg [] (gNm 4) (xL (xLc (xItems (xCall (C 406) (xCons (xVar 3) xNil))) (gNm 5) (xOr (xB (xOp dIs (xVar 1) (xC .non))) (xB (xOp dLt (xCall (C 400) (xCons (xVar 5) xNil)) (xVar 1)))) (xVar 5) [5])))
    (sSeq (sIfF [] (xB (xOp dNe (xCB cLen (xCons (xVar 2) xNil)) (xCB cLen (xCons (xVar 4) xNil)))) (sRet false [] (xC (.bl false))) sNext)
    (sSeq (sFor [] (xZip (xCons (xVar 2) (xCons (xVar 4) xNil))) (gTp 2 (gCons' (gNm 6) (gCons' (gNm 5) gNil'))) (sSeq (sIfF [] (xNot (xCh dLe dLt (xC (.int 0)) (xVar 6) (xCB cLen (xCons (xFld 14 1 (xVar 0)) xNil)))) (sRet false [] (xC (.bl false))) sNext)
    (sIfF [] (xTr (xCallD (C 481) [.non] (xCons (xCall (C 414) (xCons (xVar 3) (xCons (xVar 5) xNil))) (xCons (xIx (xFld 14 1 (xVar 0)) (xVar 6)) xNil)))) (sRet false [] (xC (.bl false))) sNext)))
    (sRet false [] (xC (.bl true)))))))
def b_casepapers_judge_cases (fuel : Nat) (C : Nat → List D → Rs → Out D) : Sx :=
    (sRet false [] (xCall (C 136) (xCons (xVar 0) (xCons (xC .non) (xCons (xVar 1) xNil)))))
def b_casepapers_judge_cases_before (fuel : Nat) (C : Nat → List D → Rs → Out D) : Sx :=
    (sRet false [] (xCall (C 136) (xCons (xVar 0) (xCons (xVar 1) (xCons (xVar 2) xNil)))))
def b_choices_rows_of_things (fuel : Nat) (C : Nat → List D → Rs → Out D) : Sx :=
    (sSeq (sAsg [] (gNm 2) (xLst (xCons (xTup xNil) xNil)))
    (sSeq (sFor [] (xRng1 (xCons (xVar 1) xNil)) (gNm 3) (sAsg [] (gNm 2) (xL (xLc2 (xItems (xVar 2)) (gNm 4) (xRng1 (xCons (xVar 0) xNil)) (gNm 5) xYes (xOp dAdd (xVar 4) (xTup (xCons (xVar 5) xNil))) [4, 5] [5]))))
    (sRet false [] (xVar 2))))
def b_choices_with (fuel : Nat) (C : Nat → List D → Rs → Out D) : Sx :=
    (sSeq (sFor [] (xItems (xFld 19 3 (xVar 1))) (gTp 4 (gCons' (gNm 2) (gCons' (gNm 3) (gCons' (gNm 4) (gCons' (gNm 5) gNil'))))) (sSeq (sAsg [] (gNm 6) (xMeth 13 (C 514) (xFld 15 0 (xVar 0)) (xCons (xLst (xCons (xTup (xCons (xVar 2) (xCons (xCB cLen (xCons (xVar 3) xNil)) xNil))) xNil)) xNil)))
    (sAsg [] (gNm 0) (xCall (C 290) (xCons (xVar 0) (xCons (xVar 6) (xCons (xD (xDisp [((xVar 2), (xCall (C 140) (xCons (xVar 0) (xCons (xVar 3) (xCons (xVar 4) (xCons (xVar 5) xNil))))))])) xNil)))))))
    (sRet false [] (xVar 0)))
def b_clauseorders_bag_of (fuel : Nat) (C : Nat → List D → Rs → Out D) : Sx :=
    (sSeq (sAsg [] (gTp 3 (gCons' (gNm 2) (gCons' (gNm 3) (gCons' (gNm 4) gNil')))) (xVar 1))
    (sSeq (sIfF [] (xTr (xMeth 16 (C 316) (xVar 0) (xCons (xVar 4) (xCons (xVar 3) xNil)))) (sPar [] 3 4 (xCons (xVar 4) (xCons (xVar 3) xNil))) sNext)
    (sRet false [] (xIf (xTr (xVar 2)) (xTup (xCons (xVar 3) (xCons (xVar 4) xNil))) (xTup (xCons (xVar 3) (xCons (xVar 3) (xCons (xVar 4) (xCons (xVar 4) xNil)))))))))
def b_clauseorders_compare_clauses (fuel : Nat) (C : Nat → List D → Rs → Out D) : Sx :=
    (sSeq (sAsg [] (gNm 3) (xCall (C 149) (xCons (xVar 0) (xCons (xVar 1) xNil))))
    (sSeq (sAsg [] (gNm 4) (xCall (C 149) (xCons (xVar 0) (xCons (xVar 2) xNil))))
    (sSeq (sFor [] (xZip (xCons (xVar 3) (xCons (xVar 4) xNil))) (gTp 2 (gCons' (gNm 5) (gCons' (gNm 6) gNil'))) (sIfF [] (xB (xOp dNe (xVar 5) (xVar 6))) (sRet false [] (xCall (C 147) (xCons (xVar 0) (xCons (xVar 5) (xCons (xVar 6) xNil))))) sNext))
    (sRet false [] (xCall (C 148) (xCons (xCB cLen (xCons (xVar 3) xNil)) (xCons (xCB cLen (xCons (xVar 4) xNil)) xNil)))))))
def b_clauseorders_compare_literals (fuel : Nat) (C : Nat → List D → Rs → Out D) : Sx :=
    (sSeq (sAsg [] (gNm 3) (xCall (C 144) (xCons (xVar 0) (xCons (xVar 1) xNil))))
    (sSeq (sAsg [] (gNm 4) (xCall (C 144) (xCons (xVar 0) (xCons (xVar 2) xNil))))
    (sSeq (sFor [] (xZip (xCons (xVar 3) (xCons (xVar 4) xNil))) (gTp 2 (gCons' (gNm 5) (gCons' (gNm 6) gNil'))) (sIfF [] (xB (xOp dNe (xVar 5) (xVar 6))) (sRet false [] (xMeth 16 (C 315) (xVar 0) (xCons (xVar 5) (xCons (xVar 6) xNil)))) sNext))
    (sRet false [] (xCall (C 148) (xCons (xCB cLen (xCons (xVar 3) xNil)) (xCons (xCB cLen (xCons (xVar 4) xNil)) xNil)))))))
def b_clauseorders_compare_numbers (fuel : Nat) (C : Nat → List D → Rs → Out D) : Sx :=
    (sSeq (sIfF [] (xB (xOp dEq (xVar 0) (xVar 1))) (sRet false [] (xC (.int 0))) sNext)
    (sRet false [] (xIf (xB (xOp dGt (xVar 0) (xVar 1))) (xC (.int 1)) (xNeg (xC (.int 1))))))
def b_clauseorders_descending (fuel : Nat) (C : Nat → List D → Rs → Out D) : Sx :=
    (sSeq (sAsgN [2] 2 (xLst' xNil))
    (sSeq (sFor [2] (xItems (xVar 1)) (gNm 3) (sSeq (sAsg [2] (gNm 4) (xC (.int 0)))
    (sSeq (whileGo (xAnd (xB (xOp dLt (xVar 4) (xCB cLen (xCons (xVar 2) xNil)))) (xB (xOp dEq (xCall (C 147) (xCons (xVar 0) (xCons (xIx (xVar 2) (xVar 4)) (xCons (xVar 3) xNil)))) (xC (.int 1))))) (sAug 4 (fun i j => i + j) (xC (.int 1))) fuel)
    (isOwnL 2 (sIns [2] 2 (xCons (xVar 4) (xCons (xVar 3) xNil)))))))
    (sRetO 2)))
def b_clauseorders_greater_side (fuel : Nat) (C : Nat → List D → Rs → Out D) : Sx :=
    (sSeq (sAsg [] (gNm 2) (xMeth 16 (C 315) (xVar 0) (xCons (xIx (xVar 1) (xC (.int 1))) (xCons (xIx (xVar 1) (xC (.int 2))) xNil))))
    (sSeq (sIfF [] (xB (xOp dEq (xVar 2) (xC (.int 0)))) (sRet false [] (xC .non)) sNext)
    (sRet false [] (xIf (xB (xOp dEq (xVar 2) (xC (.int 1)))) (xC (.int 0)) (xC (.int 1))))))
def b_clauseorders_greatest_index (fuel : Nat) (C : Nat → List D → Rs → Out D) : Sx :=
    (sSeq (sAsg [] (gNm 2) (xC .non))
    (sSeq (sFor [] (xRng1 (xCons (xCB cLen (xCons (xVar 1) xNil)) xNil)) (gNm 3) (sIfF [] (xOr (xB (xOp dIs (xVar 2) (xC .non))) (xB (xOp dEq (xCall (C 147) (xCons (xVar 0) (xCons (xIx (xVar 1) (xVar 3)) (xCons (xIx (xVar 1) (xVar 2)) xNil)))) (xC (.int 1))))) (sAsg [] (gNm 2) (xVar 3)) sNext))
    (sRet false [] (xVar 2))))
def b_clauses_always_true (fuel : Nat) (C : Nat → List D → Rs → Out D) : Sx :=
    (sSeq (sFor [] (xItems (xVar 0)) (gNm 1) (sSeq (sIfF [] (xAnd (xTr (xIx (xVar 1) (xC (.int 0)))) (xB (xOp dEq (xIx (xVar 1) (xC (.int 1))) (xIx (xVar 1) (xC (.int 2)))))) (sRet false [] (xC (.bl true))) sNext)
    (sIfF [] (xAnd (xTr (xIx (xVar 1) (xC (.int 0)))) (xB (xOp dIn (xCall (C 164) (xCons (xVar 1) xNil)) (xVar 0)))) (sRet false [] (xC (.bl true))) sNext)))
    (sRet false [] (xC (.bl false))))
def b_clauses_clause_text (fuel : Nat) (C : Nat → List D → Rs → Out D) : Sx :=
    (sSeq (sIfF [] (xNot (xTr (xVar 0))) (sRet false [] (xC (.str "false"))) sNext)
    (sRet false [] (xJoin (xC (.str " or ")) (xCons (xL (xLc (xItems (xVar 0)) (gNm 1) xYes (xCall (C 161) (xCons (xVar 1) xNil)) [1])) xNil))))
def b_clauses_clause_unknowns (fuel : Nat) (C : Nat → List D → Rs → Out D) : Sx :=
    (sSeq (sAsgN [1] 1 (xLst' xNil))
    (sSeq (sFor [1] (xItems (xVar 0)) (gNm 2) (sFor [1] (xItems (xSl (xVar 2) (xPart (xC (.int 1))) xNoP)) (gNm 3) (sFor [1] (xItems (xCall (C 433) (xCons (xVar 3) xNil))) (gNm 4) (sIf (xB (xOp dNotIn (xVar 4) (xVar 1))) (isOwnL 1 (sApp [1] 1 (xCons (xVar 4) xNil))) sNext))))
    (sFrz 1
    (sRet false [] (xVar 1)))))
def b_clauses_fill_clause (fuel : Nat) (C : Nat → List D → Rs → Out D) : Sx :=
    (sRet false [] (xCall (C 162) (xCons (xL (xLc (xItems (xVar 0)) (gNm 2) xYes (xCall (C 157) (xCons (xVar 2) (xCons (xVar 1) xNil))) [2])) xNil)))
def b_clauses_fill_literal (fuel : Nat) (C : Nat → List D → Rs → Out D) : Sx :=
    (sRet false [] (xCall (C 163) (xCons (xIx (xVar 0) (xC (.int 0))) (xCons (xCall (C 423) (xCons (xIx (xVar 0) (xC (.int 1))) (xCons (xVar 1) xNil))) (xCons (xCall (C 423) (xCons (xIx (xVar 0) (xC (.int 2))) (xCons (xVar 1) xNil))) xNil)))))
def b_clauses_is_ground (fuel : Nat) (C : Nat → List D → Rs → Out D) : Sx :=
    (sRet false [] (xNotV (xCall (C 155) (xCons (xVar 0) xNil))))
def b_clauses_is_literal (fuel : Nat) (C : Nat → List D → Rs → Out D) : Sx :=
    (sSeq (sIfF [] (xTr (xCall (C 424) (xCons (xIx (xVar 0) (xC (.int 1))) xNil))) (sRet false [] (xAndV (xOp dEq (xIx (xVar 0) (xC (.int 2))) (xC k_TOP)) (xCall (C 425) (xCons (xOp dAdd (xTup (xCons (xC (.str "f")) xNil)) (xSl (xIx (xVar 0) (xC (.int 1))) (xPart (xC (.int 1))) xNoP)) xNil)))) sNext)
    (sRet false [] (xAndV (xCall (C 425) (xCons (xIx (xVar 0) (xC (.int 1))) xNil)) (xCall (C 425) (xCons (xIx (xVar 0) (xC (.int 2))) xNil)))))
def b_clauses_literal_places (fuel : Nat) (C : Nat → List D → Rs → Out D) : Sx :=
    (sRetN [] (xLc2 (xItems (xTup (xCons (xC (.int 0)) (xCons (xC (.int 1)) xNil)))) (gNm 1) (xItems (xCall (C 429) (xCons (xIx (xVar 0) (xOp dAdd (xVar 1) (xC (.int 1)))) xNil))) (gNm 2) xYes (xOp dAdd (xTup (xCons (xVar 1) xNil)) (xVar 2)) [1, 2] [2]))
def b_clauses_literal_text (fuel : Nat) (C : Nat → List D → Rs → Out D) : Sx :=
    (sSeq (sAsg [] (gTp 3 (gCons' (gNm 1) (gCons' (gNm 2) (gCons' (gNm 3) gNil')))) (xVar 0))
    (sSeq (sIfF [] (xTr (xCall (C 424) (xCons (xVar 2) xNil))) (sRet false [] (xIf (xTr (xVar 1)) (xCall (C 432) (xCons (xVar 2) xNil)) (xOp dAdd (xC (.str "not ")) (xCall (C 432) (xCons (xVar 2) xNil))))) sNext)
    (sRet false [] (xOp dAdd (xOp dAdd (xCall (C 432) (xCons (xVar 2) xNil)) (xIf (xTr (xVar 1)) (xC (.str " = ")) (xC (.str " != ")))) (xCall (C 432) (xCons (xVar 3) xNil))))))
def b_clauses_make_clause (fuel : Nat) (C : Nat → List D → Rs → Out D) : Sx :=
    (sSeq (sAsg [] (gNm 1) (xD (xDc (xItems (xVar 0)) (gNm 2) xYes (xCall (C 161) (xCons (xVar 2) xNil)) (xVar 2) [2])))
    (sRet false [] (xCB cTuple (xCons (xL (xLc (xItems (xL (xSort (xCons (xVar 1) xNil)))) (gNm 3) xYes (xDGet (xVar 1) (xVar 3)) [3])) xNil))))
def b_clauses_make_literal (fuel : Nat) (C : Nat → List D → Rs → Out D) : Sx :=
    (sSeq (sIfF [] (xOr (xB (xOp dEq (xVar 1) (xC k_TOP))) (xAnd (xB (xOp dNe (xVar 2) (xC k_TOP))) (xB (xOp dLt (xCall (C 432) (xCons (xVar 2) xNil)) (xCall (C 432) (xCons (xVar 1) xNil)))))) (sPar [] 1 2 (xCons (xVar 2) (xCons (xVar 1) xNil))) sNext)
    (sRet false [] (xTup (xCons (xVar 0) (xCons (xVar 1) (xCons (xVar 2) xNil))))))
def b_clauses_opposite (fuel : Nat) (C : Nat → List D → Rs → Out D) : Sx :=
    (sRet false [] (xTup (xCons (xNotV (xIx (xVar 0) (xC (.int 0)))) (xCons (xIx (xVar 0) (xC (.int 1))) (xCons (xIx (xVar 0) (xC (.int 2))) xNil)))))
def b_deciders_rounds_enough (fuel : Nat) (C : Nat → List D → Rs → Out D) : Sx :=
    (sSeq (sAsg [] (gNm 2) (xCall (C 288) (xCons (xVar 0) xNil)))
    (sSeq (sIfF [] (xB (xOp dIs (xVar 2) (xC .non))) (sRaise 10) sNext)
    (sSeq (sAsg [] (gNm 3) (xCall (C 207) (xCons (xVar 0) xNil)))
    (sSeq (sAsg [] (gNm 4) (xC (.int 0)))
    (sSeq (sFor [] (xRng2 (xCons (xC (.int 1)) (xCons (xOp dAdd (xVar 2) (xC (.int 1))) xNil))) (gNm 5) (sAug 4 (fun i j => i + j) (xCall (C 524) (xCons (xFld 19 1 (xVar 3)) (xCons (xVar 5) xNil)))))
    (sRet false [] (xOp dMul (xOp dAdd (xOp dDiv (xVar 4) (xIx (xVar 1) (xC (.int 0)))) (xC (.int 1))) (xOp dAdd (xIx (xVar 1) (xC (.int 0))) (xIx (xVar 1) (xC (.int 1)))))))))))
def b_fillings_closed_terms (fuel : Nat) (C : Nat → List D → Rs → Out D) : Sx :=
    (sSeq (sAsgN [2, 5, 7] 2 (xLc (xItems (xMeth 13 (C 513) (xVar 0) xNil)) (gNm 3) xYes (xTup (xCons (xVar 3) xNil)) [3]))
    (sSeq (sFor [2, 5, 7] (xRng1 (xCons (xVar 1) xNil)) (gNm 4) (sSeq (sAsgNI 5 (xListN (xCons (xVar 2) xNil)))
    (sSeq (sFor [2, 5, 7] (xItems (xFld 13 0 (xVar 0))) (gTp 2 (gCons' (gNm 3) (gCons' (gNm 6) gNil'))) (sIfF [2, 5, 7] (xB (xOp dGt (xVar 6) (xC (.int 0)))) (sSeq (sAsgNI 7 (xLc (xItems (xCall (C 199) (xCons (xVar 2) (xCons (xVar 6) xNil)))) (gNm 8) xYes (xOp dAdd (xTup (xCons (xVar 3) xNil)) (xVar 8)) [8]))
    (sFrz 7
    (isOwnL 5 (sExtI 5 (xLc (xItems (xVar 7)) (gNm 9) (xB (xOp dNotIn (xVar 9) (xVar 2))) (xVar 9) [9]))))) sNext))
    (sMove 2 5))))
    (sRetO 2)))
def b_fillings_named_signature (fuel : Nat) (C : Nat → List D → Rs → Out D) : Sx :=
    (sSeq (sIfF [] (xTr (xMeth 13 (C 513) (xVar 0) xNil)) (sRet false [] (xVar 0)) sNext)
    (sSeq (sAsg [] (gNm 1) (xL (xLc (xItems (xOp dAdd (xFld 13 0 (xVar 0)) (xFld 13 1 (xVar 0)))) (gTp 2 (gCons' (gNm 2) (gCons' (gNm 3) gNil'))) xYes (xVar 2) [2, 3])))
    (sRet false [] (xMeth 13 (C 514) (xVar 0) (xCons (xLst (xCons (xTup (xCons (xCall (C 310) (xCons (xC (.str "c")) (xCons (xVar 1) xNil))) (xCons (xC (.int 0)) xNil))) xNil)) xNil)))))
def b_fillings_power (fuel : Nat) (C : Nat → List D → Rs → Out D) : Sx :=
    (sSeq (sAsg [] (gNm 2) (xC (.int 1)))
    (sSeq (sFor [] (xRng1 (xCons (xVar 1) xNil)) (gNm 3) (sAsg [] (gNm 2) (xOp dMul (xVar 2) (xVar 0))))
    (sRet false [] (xVar 2))))
def b_fillings_rows_of (fuel : Nat) (C : Nat → List D → Rs → Out D) : Sx :=
    (sSeq (sAsg [] (gNm 2) (xLst (xCons (xTup xNil) xNil)))
    (sSeq (sFor [] (xRng1 (xCons (xVar 1) xNil)) (gNm 3) (sAsg [] (gNm 2) (xL (xLc2 (xItems (xVar 2)) (gNm 4) (xItems (xVar 0)) (gNm 5) xYes (xOp dAdd (xVar 4) (xTup (xCons (xVar 5) xNil))) [4, 5] [5]))))
    (sRet false [] (xVar 2))))
def b_forms_Form___init__ (fuel : Nat) (C : Nat → List D → Rs → Out D) : Sx :=
    (sSeq (sSetF [3, 6] 19 0 (xVar 0) (xVar 1))
    (sSeq (sSetF [3, 6] 19 1 (xVar 0) (xFld 14 0 (xVar 1)))
    (sSeq (sSetF [3, 6] 19 2 (xVar 0) (xTup xNil))
    (sSeq (sSetF [3, 6] 19 3 (xVar 0) (xTup xNil))
    (sSeq (sAsg [3, 6] (gNm 2) (xCall (C 212) (xCons (xVar 1) xNil)))
    (sSeq (sAsgN [3, 6] 3 (xLst' xNil))
    (sSeq (sFor [3, 6] (xRng1 (xCons (xCB cLen (xCons (xFld 14 1 (xVar 1)) xNil)) xNil)) (gNm 4) (sSeq (sAsg [3, 6] (gNm 5) (xMeth 19 (C 205) (xVar 0) (xCons (xVar 4) (xCons (xIx (xFld 14 1 (xVar 1)) (xVar 4)) xNil))))
    (sSeq (sAsg [3, 6] (gNm 5) (xMeth 19 (C 203) (xVar 0) (xCons (xVar 4) (xCons (xVar 5) (xCons (xVar 2) xNil)))))
    (sSeq (sAsg [3, 6] (gNm 5) (xMeth 19 (C 202) (xVar 0) (xCons (xVar 4) (xCons (xVar 5) (xCons (xVar 2) xNil)))))
    (isOwnL 3 (sApp [3, 6] 3 (xCons (xMeth 19 (C 204) (xVar 0) (xCons (xVar 4) (xCons (xVar 5) xNil))) xNil)))))))
    (sFrz 3
    (sSeq (sSetF [6] 19 4 (xVar 0) (xCB cTuple (xCons (xVar 3) xNil)))
    (sSeq (sAsgN [6] 6 (xLc2 (xRng1 (xCons (xCB cLen (xCons (xVar 3) xNil)) xNil)) (gNm 4) (xItems (xCall (C 213) (xCons (xIx (xVar 3) (xVar 4)) xNil))) (gNm 7) xYes (xTup (xCons (xVar 7) (xCons (xVar 4) xNil))) [4, 7] [7]))
    (sFrz 6
    (sSeq (sSetF [] 19 5 (xVar 0) (xCB cTuple (xCons (xL (xLc (xItems (xVar 6)) (gTp 2 (gCons' (gNm 7) (gCons' (gNm 4) gNil'))) xYes (xVar 7) [7, 4])) xNil)))
    (sSetF [] 19 6 (xVar 0) (xCB cTuple (xCons (xL (xLc (xItems (xVar 6)) (gTp 2 (gCons' (gNm 7) (gCons' (gNm 4) gNil'))) xYes (xVar 4) [7, 4])) xNil)))))))))))))))
def b_forms_Form__set_apart (fuel : Nat) (C : Nat → List D → Rs → Out D) : Sx :=
    (sSeq (sFor [3] (xItems (xCall (C 377) (xCons (xVar 2) xNil))) (gNm 4) (sIfF [3] (xB (xOp dIn (xIx (xCall (C 376) (xCons (xVar 2) (xCons (xVar 4) xNil))) (xC (.int 0))) (xC k_BINDERS))) (sSeq (isOwnL 3 (sAppI 3 (xCons (xCall (C 310) (xCons (xC (.str "x")) (xCons (xVar 3) xNil))) xNil)))
    (sAsgI (gNm 2) (xMeth 19 (C 206) (xVar 0) (xCons (xVar 1) (xCons (xC (.str "apart")) (xCons (xVar 2) (xCons (xVar 4) (xCons (xIx (xVar 3) (xNeg (xC (.int 1)))) xNil)))))))) sNext))
    (sRet false [3] (xVar 2)))
def b_forms_Form__step (fuel : Nat) (C : Nat → List D → Rs → Out D) : Sx :=
    (sSeq (sAsg [] (gNm 6) (xCall (C 390) (xCons (xVar 2) (xCons (xVar 3) (xCons (xVar 4) (xCons (xVar 5) xNil))))))
    (sSeq (sSetF [] 19 2 (xVar 0) (xOp dAdd (xFld 19 2 (xVar 0)) (xTup (xCons (xTup (xCons (xVar 1) (xCons (xVar 2) (xCons (xVar 4) (xCons (xVar 5) (xCons (xVar 6) xNil)))))) xNil))))
    (sRet false [] (xVar 6))))
def b_forms_form_of (fuel : Nat) (C : Nat → List D → Rs → Out D) : Sx :=
    (sRet false [] (xNewF 19 (C 200) (xCons (xVar 0) xNil)))
def b_forms_is_all (fuel : Nat) (C : Nat → List D → Rs → Out D) : Sx :=
    (sRet false [] (xOp dEq (xIx (xVar 0) (xC (.int 0))) (xC (.str "all"))))
def b_forms_is_some (fuel : Nat) (C : Nat → List D → Rs → Out D) : Sx :=
    (sRet false [] (xOp dEq (xIx (xVar 0) (xC (.int 0))) (xC (.str "some"))))
def b_forms_literal_of (fuel : Nat) (C : Nat → List D → Rs → Out D) : Sx :=
    (sSeq (sAsg [] (gNm 1) (xOp dNe (xIx (xVar 0) (xC (.int 0))) (xC (.str "not"))))
    (sSeq (sAsg [] (gNm 2) (xIf (xTr (xVar 1)) (xVar 0) (xIx (xVar 0) (xC (.int 1)))))
    (sSeq (sIfF [] (xB (xOp dEq (xIx (xVar 2) (xC (.int 0))) (xC (.str "holds")))) (sRet false [] (xCall (C 163) (xCons (xVar 1) (xCons (xIx (xVar 2) (xC (.int 1))) (xCons (xC k_TOP) xNil))))) sNext)
    (sSeq (sIfF [] (xB (xOp dEq (xIx (xVar 2) (xC (.int 0))) (xC (.str "same")))) (sRet false [] (xCall (C 163) (xCons (xVar 1) (xCons (xIx (xVar 2) (xC (.int 1))) (xCons (xIx (xVar 2) (xC (.int 2))) xNil))))) sNext)
    (sRaise 5)))))
def b_forms_literal_rows (fuel : Nat) (C : Nat → List D → Rs → Out D) : Sx :=
    (sSeq (sIfF [] (xB (xOp dEq (xIx (xVar 0) (xC (.int 0))) (xC (.str "and")))) (sRet false [] (xOp dAdd (xCall (C 211) (xCons (xIx (xVar 0) (xC (.int 1))) xNil)) (xCall (C 211) (xCons (xIx (xVar 0) (xC (.int 2))) xNil)))) sNext)
    (sSeq (sIfF [] (xB (xOp dEq (xIx (xVar 0) (xC (.int 0))) (xC (.str "or")))) (sSeq (sPar [] 1 2 (xCons (xCall (C 211) (xCons (xIx (xVar 0) (xC (.int 1))) xNil)) (xCons (xCall (C 211) (xCons (xIx (xVar 0) (xC (.int 2))) xNil)) xNil)))
    (sRetN [] (xLc2 (xItems (xVar 1)) (gNm 3) (xItems (xVar 2)) (gNm 4) xYes (xOp dAdd (xVar 3) (xVar 4)) [3, 4] [4]))) sNext)
    (sRetN [] (xLst' (xCons (xLst (xCons (xCall (C 210) (xCons (xVar 0) xNil)) xNil)) xNil)))))
def b_forms_names_in (fuel : Nat) (C : Nat → List D → Rs → Out D) : Sx :=
    (sSeq (sAsgN [1] 1 (xLc (xItems (xOp dAdd (xFld 13 0 (xFld 14 0 (xVar 0))) (xFld 13 1 (xFld 14 0 (xVar 0))))) (gTp 2 (gCons' (gNm 2) (gCons' (gNm 3) gNil'))) xYes (xVar 2) [2, 3]))
    (sSeq (sFor [1] (xItems (xFld 14 1 (xVar 0))) (gNm 4) (isOwnL 1 (sExt [1] 1 (xCons (xCall (C 370) (xCons (xVar 4) xNil)) xNil))))
    (sRetO 1)))
def b_going_count_worlds (fuel : Nat) (C : Nat → List D → Rs → Out D) : Sx :=
    (sSeq (sAsg [] (gNm 2) (xC (.int 1)))
    (sSeq (sFor [] (xItems (xCall (C 491) (xCons (xVar 0) xNil))) (gTp 2 (gCons' (gNm 3) (gCons' (gNm 4) gNil'))) (sFor [] (xRng1 (xCons (xCall (C 497) (xCons (xVar 1) (xCons (xVar 4) xNil))) xNil)) (gNm 5) (sAsg [] (gNm 2) (xOp dMul (xVar 2) (xCall (C 217) (xCons (xVar 3) (xCons (xVar 1) xNil)))))))
    (sRet false [] (xVar 2))))
def b_going_entry_choices (fuel : Nat) (C : Nat → List D → Rs → Out D) : Sx :=
    (sRet false [] (xIf (xTr (xCall (C 494) (xCons (xVar 0) xNil))) (xVar 1) (xC (.int 2))))
def b_going_world_number (fuel : Nat) (C : Nat → List D → Rs → Out D) : Sx :=
    (sSeq (sAsg [] (gNm 1) (xC (.int 0)))
    (sSeq (sFor [] (xItems (xCall (C 491) (xCons (xFld 15 0 (xVar 0)) xNil))) (gTp 2 (gCons' (gNm 2) (gCons' (gNm 3) gNil'))) (sFor [] (xItems (xMeth 15 (C 487) (xVar 0) (xCons (xVar 2) xNil))) (gNm 4) (sAsg [] (gNm 1) (xOp dAdd (xOp dMul (xVar 1) (xCall (C 217) (xCons (xVar 2) (xCons (xFld 15 1 (xVar 0)) xNil)))) (xCB cInt (xCons (xVar 4) xNil))))))
    (sRet false [] (xVar 1))))
def b_groundworlds_rows_of_things (fuel : Nat) (C : Nat → List D → Rs → Out D) : Sx :=
    (sSeq (sAsg [] (gNm 2) (xLst (xCons (xTup xNil) xNil)))
    (sSeq (sFor [] (xRng1 (xCons (xVar 1) xNil)) (gNm 3) (sAsg [] (gNm 2) (xL (xLc2 (xItems (xVar 2)) (gNm 4) (xRng1 (xCons (xVar 0) xNil)) (gNm 5) xYes (xOp dAdd (xVar 4) (xTup (xCons (xVar 5) xNil))) [4, 5] [5]))))
    (sRet false [] (xVar 2))))
def b_groundworlds_rule_made (fuel : Nat) (C : Nat → List D → Rs → Out D) : Sx :=
    (sSeq (sIfF [] (xOr (xNot (xTr (xVar 2))) (xTr (xCall (C 358) (xCons (xVar 1) (xCons (xVar 2) xNil))))) (sRet false [] (xC .non)) sNext)
    (sSeq (sAsg [] (gNm 3) (xCall (C 151) (xCons (xVar 0) (xCons (xVar 2) xNil))))
    (sSeq (sAsg [] (gNm 4) (xIx (xVar 2) (xVar 3)))
    (sSeq (sIfF [] (xNot (xTr (xIx (xVar 4) (xC (.int 0))))) (sRet false [] (xC .non)) sNext)
    (sSeq (sAsg [] (gNm 5) (xCall (C 150) (xCons (xVar 0) (xCons (xVar 4) xNil))))
    (sSeq (sAsg [] (gNm 6) (xTup (xCons (xIx (xVar 4) (xOp dAdd (xC (.int 1)) (xVar 5))) (xCons (xIx (xVar 4) (xOp dSub (xC (.int 2)) (xVar 5))) xNil))))
    (sSeq (sAsg [] (gNm 7) (xL (xLc (xRng1 (xCons (xCB cLen (xCons (xVar 2) xNil)) xNil)) (gNm 8) (xB (xOp dNe (xVar 8) (xVar 3))) (xIx (xVar 2) (xVar 8)) [8])))
    (sSeq (sIfF [] (xOr (xB (xOp dNe (xCall (C 357) (xCons (xVar 1) (xCons (xIx (xVar 6) (xC (.int 0))) xNil))) (xIx (xVar 6) (xC (.int 0))))) (xTr (xCall (C 358) (xCons (xOp dAdd (xVar 1) (xLst (xCons (xVar 6) xNil))) (xCons (xVar 7) xNil))))) (sRet false [] (xC .non)) sNext)
    (sRet false [] (xVar 6))))))))))
def b_groundworlds_rules_of (fuel : Nat) (C : Nat → List D → Rs → Out D) : Sx :=
    (sSeq (sAsgN [2] 2 (xLst' xNil))
    (sSeq (sFor [2] (xItems (xCall (C 152) (xCons (xVar 0) (xCons (xVar 1) xNil)))) (gNm 3) (sSeq (sAsgI (gNm 4) (xCall (C 223) (xCons (xVar 0) (xCons (xVar 2) (xCons (xVar 3) xNil)))))
    (sIfF [2] (xB (xOp dIsNot (xVar 4) (xC .non))) (isOwnL 2 (sApp [2] 2 (xCons (xVar 4) xNil))) sNext)))
    (sRetO 2)))
def b_groundworlds_table_of (fuel : Nat) (C : Nat → List D → Rs → Out D) : Sx :=
    (sSeq (sAsgN [4] 4 (xLst' xNil))
    (sSeq (sFor [4] (xItems (xCall (C 222) (xCons (xCB cLen (xCons (xVar 1) xNil)) (xCons (xVar 3) xNil)))) (gNm 5) (isOwnL 4 (sApp [4] 4 (xCons (xCall (C 357) (xCons (xVar 0) (xCons (xOp dAdd (xTup (xCons (xVar 2) xNil)) (xCB cTuple (xCons (xL (xLc (xItems (xVar 5)) (gNm 6) xYes (xIx (xVar 1) (xVar 6)) [6])) xNil))) xNil))) xNil))))
    (sFrz 4
    (sRet false [] (xVar 4)))))
def b_groundworlds_world_of (fuel : Nat) (C : Nat → List D → Rs → Out D) : Sx :=
    (sSeq (sAsg [8] (gNm 3) (xCall (C 224) (xCons (xVar 1) (xCons (xVar 2) xNil))))
    (sSeq (sAsg [8] (gNm 4) (xCall (C 323) (xCons (xVar 1) (xCons (xL (xLc (xItems (xCall (C 221) (xCons (xVar 2) xNil))) (gNm 5) xYes (xCall (C 357) (xCons (xVar 3) (xCons (xVar 5) xNil))) [5])) xNil))))
    (sSeq (sIfF [8] (xNot (xTr (xVar 4))) (sAsg [8] (gNm 4) (xLst (xCons (xTup (xCons (xIx (xMeth 13 (C 513) (xVar 0) xNil) (xC (.int 0))) xNil)) xNil))) sNext)
    (sSeq (sAsg [8] (gNm 6) (xD (xDc (xRng1 (xCons (xCB cLen (xCons (xVar 4) xNil)) xNil)) (gNm 7) xYes (xCall (C 432) (xCons (xIx (xVar 4) (xVar 7)) xNil)) (xVar 7) [7])))
    (sSeq (sAsgD [8] 8 xDNew)
    (sSeq (sFor [8] (xItems (xFld 13 0 (xVar 0))) (gTp 2 (gCons' (gNm 9) (gCons' (gNm 10) gNil'))) (isOwnD 8 (sDPut' [8] 8 (xVar 9) (xL (xLc (xItems (xCall (C 225) (xCons (xVar 3) (xCons (xVar 4) (xCons (xVar 9) (xCons (xVar 10) xNil)))))) (gNm 5) xYes (xDGet2 (xVar 6) (xCall (C 432) (xCons (xVar 5) xNil)) (xC (.int 0))) [5])))))
    (sSeq (sFor [8] (xItems (xFld 13 1 (xVar 0))) (gTp 2 (gCons' (gNm 9) (gCons' (gNm 10) gNil'))) (isOwnD 8 (sDPut' [8] 8 (xVar 9) (xL (xLc (xItems (xCall (C 225) (xCons (xVar 3) (xCons (xVar 4) (xCons (xVar 9) (xCons (xVar 10) xNil)))))) (gNm 11) xYes (xOp dEq (xVar 11) (xC k_TOP)) [11])))))
    (sFrz 8
    (sRet false [] (xTup (xCons (xNewF 15 (C 483) (xCons (xVar 0) (xCons (xCB cLen (xCons (xVar 4) xNil)) (xCons (xVar 8) xNil)))) (xCons (xVar 4) xNil))))))))))))
def b_growing_Branch_closed (fuel : Nat) (C : Nat → List D → Rs → Out D) : Sx :=
    (sSeq (sAsg [] (gNm 1) (xIf (xTr (xFld 21 5 (xVar 0))) (xLst (xCons (xTup (xCons (xC (.str "beyond")) xNil)) xNil)) (xLst xNil)))
    (sRet false [] (xTup (xCons (xC (.str "cell")) (xCons (xIx (xFld 21 2 (xVar 0)) (xC (.int 0))) (xCons (xIx (xFld 21 2 (xVar 0)) (xC (.int 1))) (xCons (xCB cTuple (xCons (xOp dAdd (xFld 21 4 (xVar 0)) (xVar 1)) xNil)) xNil)))))))
def b_growing_Grower___init__ (fuel : Nat) (C : Nat → List D → Rs → Out D) : Sx :=
    (sSeq (sSetF [] 22 0 (xVar 0) (xVar 3))
    (sSeq (sSetF [] 22 1 (xVar 0) (xC (.int 0)))
    (sSeq (sSetF [] 22 2 (xVar 0) (xC .non))
    (sSeq (sSetF [] 22 3 (xVar 0) (xC .non))
    (sSeq (sSetF [] 22 4 (xVar 0) (xC (.bl false)))
    (sSeq (sSetF [] 22 5 (xVar 0) (xCB cTuple (xCons (xVar 2) xNil)))
    (sSeq (sSetF [] 22 6 (xVar 0) (xL (xLc (xItems (xFld 22 5 (xVar 0))) (gNm 6) xYes (xCall (C 155) (xCons (xVar 6) xNil)) [6])))
    (sSeq (sSetF [] 22 7 (xVar 0) (xCB cTuple (xCons (xVar 4) xNil)))
    (sSeq (sSetF [] 22 8 (xVar 0) (xVar 5))
    (sSeq (sSetF [] 22 9 (xVar 0) (xNewF 20 (C 324) (xCons (xVar 1) (xCons (xFld 22 5 (xVar 0)) xNil))))
    (sSeq (sSetF [] 22 10 (xVar 0) (xRes (xLst' xNil)))
    (sSetF [] 22 11 (xVar 0) (xC (.bl false))))))))))))))
def b_growing_Grower__read_new (fuel : Nat) (C : Nat → List D → Rs → Out D) : Sx :=
    (sSeq (sAsgN [2] 2 (xLst' xNil))
    (sSeq (sFor [2] (xRng1 (xCons (xCB cLen (xCons (xFld 22 5 (xVar 0)) xNil)) xNil)) (gNm 3) (sFor [2] (xItems (xCall (C 334) (xCons (xFld 20 1 (xVar 1)) (xCons (xCB cLen (xCons (xIx (xFld 22 6 (xVar 0)) (xVar 3)) xNil)) xNil)))) (gNm 4) (sIfF [2] (xB (xOp dIn (xOp dSub (xFld 20 1 (xVar 1)) (xC (.int 1))) (xVar 4))) (isOwnL 2 (sExt [2] 2 (xCons (xMeth 22 (C 233) (xVar 0) (xCons (xVar 1) (xCons (xVar 3) (xCons (xVar 4) xNil)))) xNil))) sNext)))
    (sFrz 2
    (sRet false [] (xVar 2)))))
def b_growing_Grower_has_ended (fuel : Nat) (C : Nat → List D → Rs → Out D) : Sx :=
    (sRet false [] (xOrV (xOp dIsNot (xFld 22 2 (xVar 0)) (xC .non)) (xOp dIsNot (xFld 22 3 (xVar 0)) (xC .non))))
def b_growing_filled_world (fuel : Nat) (C : Nat → List D → Rs → Out D) : Sx :=
    (sSeq (sAsgD [1] 1 xDNew)
    (sSeq (sFor [1] (xItems (xOp dAdd (xFld 13 0 (xFld 20 0 (xVar 0))) (xFld 13 1 (xFld 20 0 (xVar 0))))) (gTp 2 (gCons' (gNm 2) (gCons' (gNm 3) gNil'))) (sSeq (sAsg [1] (gNm 4) (xIf (xTr (xCall (C 312) (xCons (xVar 2) xNil))) (xC (.bl false)) (xC (.int 0))))
    (sSeq (sAsg [1] (gNm 5) (xCall (C 334) (xCons (xFld 20 1 (xVar 0)) (xCons (xVar 3) xNil))))
    (isOwnD 1 (sDPut' [1] 1 (xVar 2) (xL (xLc (xItems (xVar 5)) (gNm 6) xYes (xDGet2 (xFld 20 2 (xVar 0)) (xTup (xCons (xVar 2) (xCons (xVar 6) xNil))) (xVar 4)) [6])))))))
    (sFrz 1
    (sRet false [] (xNewF 15 (C 483) (xCons (xFld 20 0 (xVar 0)) (xCons (xFld 20 1 (xVar 0)) (xCons (xVar 1) xNil))))))))
def b_growing_most_nodes (fuel : Nat) (C : Nat → List D → Rs → Out D) : Sx :=
    (sSeq (sAsg [] (gNm 2) (xC (.int 0)))
    (sSeq (sFor [] (xItems (xOp dAdd (xFld 13 0 (xVar 0)) (xFld 13 1 (xVar 0)))) (gTp 2 (gCons' (gNm 3) (gCons' (gNm 4) gNil'))) (sAug 2 (fun i j => i + j) (xCB cLen (xCons (xCall (C 334) (xCons (xVar 1) (xCons (xVar 4) xNil))) xNil))))
    (sSeq (sAsg [] (gNm 5) (xC (.int 1)))
    (sSeq (sFor [] (xRng1 (xCons (xOp dAdd (xVar 2) (xC (.int 1))) xNil)) (gNm 6) (sAsg [] (gNm 5) (xOp dMul (xVar 5) (xOp dAdd (xVar 1) (xC (.int 1))))))
    (sRet false [] (xVar 5))))))
def b_hearts_Heart___init__ (fuel : Nat) (C : Nat → List D → Rs → Out D) : Sx :=
    (sSeq (sSetF [] 23 0 (xVar 0) (xVar 1))
    (sSeq (sSetF [] 23 1 (xVar 0) (xVar 2))
    (sSeq (sSetF [] 23 2 (xVar 0) (xCB cTuple (xCons (xVar 3) xNil)))
    (sSeq (sSetF [] 23 3 (xVar 0) (xRes (xLst' xNil)))
    (sSeq (sSetF [] 23 4 (xVar 0) (xRes (xLst' xNil)))
    (sSeq (sSetF [] 23 5 (xVar 0) (xRes (xLst' xNil)))
    (sSeq (sSetF [] 23 6 (xVar 0) (xRes (xLst' xNil)))
    (sSeq (sSetF [] 23 7 (xVar 0) (xC (.int 0)))
    (sSeq (sSetF [] 23 8 (xVar 0) (xC .non))
    (sSeq (sSetF [] 23 9 (xVar 0) (xRes (xLst' xNil)))
    (sSeq (sSetF [] 23 10 (xVar 0) (xRes (xLst' xNil)))
    (sSetF [] 23 11 (xVar 0) (xResD xDNew)))))))))))))
def b_hearts_Heart_add (fuel : Nat) (C : Nat → List D → Rs → Out D) : Sx :=
    (sSeq (sIfF [] (xNot (xTr (xCall (C 158) (xCons (xVar 1) xNil)))) (sRaise 7) sNext)
    (sSeq (sExp [] (xAppR (xFld 23 5 (xVar 0)) (xCons (xMeth 23 (C 249) (xVar 0) (xCons (xVar 1) (xCons (xTup (xCons (xC (.str "given")) (xCons (xCB cLen (xCons (xFld 23 3 (xVar 0)) xNil)) xNil))) xNil))) xNil)))
    (sExp [] (xAppR (xFld 23 3 (xVar 0)) (xCons (xVar 1) xNil)))))
def b_hearts_Heart_has_ended (fuel : Nat) (C : Nat → List D → Rs → Out D) : Sx :=
    (sRet false [] (xOrV (xOp dIsNot (xFld 23 8 (xVar 0)) (xC .non)) (xNotV (xFld 23 5 (xVar 0)))))
def b_hearts_Heart_infer (fuel : Nat) (C : Nat → List D → Rs → Out D) : Sx :=
    (sIfF [] (xNot (xDIn (xCall (C 154) (xCons (xVar 1) xNil)) (xFld 23 11 (xVar 0)))) (sExp [] (xAppR (xFld 23 5 (xVar 0)) (xCons (xMeth 23 (C 249) (xVar 0) (xCons (xVar 1) (xCons (xVar 2) xNil))) xNil))) sNext)
def b_hearts_Heart_infer_join (fuel : Nat) (C : Nat → List D → Rs → Out D) : Sx :=
    (sSeq (sAsg [] (gNm 5) (xIx (xIx (xFld 23 4 (xVar 0)) (xVar 1)) (xC (.int 0))))
    (sSeq (sAsg [] (gNm 6) (xIx (xIx (xFld 23 4 (xVar 0)) (xVar 3)) (xC (.int 0))))
    (sSeq (sAsg [] (gNm 7) (xCall (C 262) (xCons (xFld 23 1 (xVar 0)) (xCons (xVar 5) (xCons (xVar 2) (xCons (xVar 6) (xCons (xVar 4) xNil)))))))
    (sIfF [] (xB (xOp dIsNot (xVar 7) (xC .non))) (sSeq (sAsg [] (gNm 8) (xCall (C 422) (xCons (xVar 5) (xCons (xIx (xVar 7) (xC (.int 0))) (xCons (xIx (xVar 7) (xC (.int 1))) (xCons (xVar 6) (xCons (xIx (xVar 7) (xC (.int 2))) (xCons (xIx (xVar 7) (xC (.int 3))) xNil))))))))
    (sExp [] (xMeth 23 (C 244) (xVar 0) (xCons (xVar 8) (xCons (xTup (xCons (xC (.str "replace")) (xCons (xVar 1) (xCons (xIx (xVar 7) (xC (.int 0))) (xCons (xIx (xVar 7) (xC (.int 1))) (xCons (xVar 3) (xCons (xIx (xVar 7) (xC (.int 2))) (xCons (xIx (xVar 7) (xC (.int 3))) xNil)))))))) xNil))))) sNext))))
def b_hearts_Heart_kept_clauses_v1 (fuel : Nat) (C : Nat → List D → Rs → Out D) : Sx :=
    (sRetN [] (xListN (xCons (xFld 23 9 (xVar 0)) xNil)))
def b_hearts_Heart_least_row (fuel : Nat) (C : Nat → List D → Rs → Out D) : Sx :=
    (sSeq (whileGoF [] (xNot (xTr (xCall (C 263) (xCons (xFld 23 9 (xVar 0)) (xCons (xIx (xIx (xFld 23 4 (xVar 0)) (xVar 1)) (xC (.int 0))) xNil))))) (sSeq (sAsg [] (gNm 2) (xIx (xIx (xFld 23 4 (xVar 0)) (xVar 1)) (xC (.int 0))))
    (sSeq (sAsg [] (gNm 3) (xCall (C 265) (xCons (xFld 23 1 (xVar 0)) (xCons (xFld 23 9 (xVar 0)) (xCons (xVar 2) xNil)))))
    (sSeq (sIfF [] (xB (xOp dIs (xVar 3) (xC .non))) (sRet false [] (xVar 1)) sNext)
    (sSeq (sAsg [] (gNm 4) (xTup (xCons (xC (.str "drop")) (xCons (xVar 1) xNil))))
    (sSeq (sIfF [] (xB (xOp dEq (xIx (xVar 3) (xC (.int 0))) (xC (.str "replace")))) (sAsg [] (gNm 4) (xTup (xCons (xC (.str "replace")) (xCons (xIx (xFld 23 6 (xVar 0)) (xIx (xVar 3) (xC (.int 1)))) (xCons (xC (.int 0)) (xCons (xIx (xVar 3) (xC (.int 2))) (xCons (xVar 1) (xCons (xIx (xVar 3) (xC (.int 3))) (xCons (xIx (xVar 3) (xC (.int 4))) xNil))))))))) sNext)
    (sAsg [] (gNm 1) (xMeth 23 (C 249) (xVar 0) (xCons (xCall (C 266) (xCons (xFld 23 9 (xVar 0)) (xCons (xVar 2) (xCons (xVar 3) xNil)))) (xCons (xVar 4) xNil))))))))) fuel)
    (sRet false [] (xC .non)))
def b_hearts_Heart_put (fuel : Nat) (C : Nat → List D → Rs → Out D) : Sx :=
    (sSeq (sExp [] (xAppR (xFld 23 4 (xVar 0)) (xCons (xTup (xCons (xVar 1) (xCons (xVar 2) xNil))) xNil)))
    (sSeq (sDSetR [] (xFld 23 11 (xVar 0)) (xCall (C 154) (xCons (xVar 1) xNil)) (xC (.bl true)))
    (sRet false [] (xOp dSub (xCB cLen (xCons (xFld 23 4 (xVar 0)) xNil)) (xC (.int 1))))))
def b_hearts_saturate (fuel : Nat) (C : Nat → List D → Rs → Out D) : Sx :=
    (sSeq (sAsg [] (gNm 4) (xNewR 23 (C 241) (xCons (xVar 0) (xCons (xVar 1) (xCons (xVar 3) xNil)))))
    (sSeq (sFor [] (xItems (xVar 2)) (gNm 5) (sExp [] (xMeth 23 (C 242) (xVar 4) (xCons (xVar 5) xNil))))
    (sSeq (whileGoF [] (xNot (xTr (xMeth 23 (C 243) (xVar 4) xNil))) (sExp [] (xMeth 23 (C 250) (xVar 4) xNil)) fuel)
    (sRet false [] (xVar 4)))))
def b_inferring_can_drop (fuel : Nat) (C : Nat → List D → Rs → Out D) : Sx :=
    (sSeq (sFor [] (xItems (xVar 0)) (gNm 1) (sIfF [] (xAnd (xNot (xTr (xIx (xVar 1) (xC (.int 0))))) (xB (xOp dEq (xIx (xVar 1) (xC (.int 1))) (xIx (xVar 1) (xC (.int 2)))))) (sRet false [] (xC (.bl true))) sNext))
    (sRet false [] (xC (.bl false))))
def b_inferring_covered (fuel : Nat) (C : Nat → List D → Rs → Out D) : Sx :=
    (sSeq (whileGoF [] (xNot (xTr (xCall (C 263) (xCons (xVar 1) (xCons (xVar 2) xNil))))) (sSeq (sAsg [] (gNm 3) (xCall (C 265) (xCons (xVar 0) (xCons (xVar 1) (xCons (xVar 2) xNil)))))
    (sSeq (sIfF [] (xB (xOp dIs (xVar 3) (xC .non))) (sRet false [] (xC (.bl false))) sNext)
    (sAsg [] (gNm 2) (xCall (C 266) (xCons (xVar 1) (xCons (xVar 2) (xCons (xVar 3) xNil))))))) fuel)
    (sRet false [] (xC (.bl true))))
def b_inferring_first_place (fuel : Nat) (C : Nat → List D → Rs → Out D) : Sx :=
    (sSeq (sIfF [] (xB (xOp dEq (xVar 0) (xVar 1))) (sRet false [] (xTup xNil)) sNext)
    (sSeq (sFor [] (xRng2 (xCons (xC (.int 1)) (xCons (xCB cLen (xCons (xVar 0) xNil)) xNil))) (gNm 2) (sSeq (sAsg [] (gNm 3) (xCall (C 256) (xCons (xIx (xVar 0) (xVar 2)) (xCons (xVar 1) xNil))))
    (sIfF [] (xB (xOp dIsNot (xVar 3) (xC .non))) (sRet false [] (xOp dAdd (xTup (xCons (xOp dSub (xVar 2) (xC (.int 1))) xNil)) (xVar 3))) sNext)))
    (sRet false [] (xC .non))))
def b_inferring_head_of (fuel : Nat) (C : Nat → List D → Rs → Out D) : Sx :=
    (sSeq (sAsg [] (gNm 2) (xCall (C 151) (xCons (xVar 0) (xCons (xVar 1) xNil))))
    (sSeq (sIfF [] (xB (xOp dIs (xVar 2) (xC .non))) (sRet false [] (xC .non)) sNext)
    (sSeq (sAsg [] (gNm 3) (xCall (C 150) (xCons (xVar 0) (xCons (xIx (xVar 1) (xVar 2)) xNil))))
    (sRet false [] (xIf (xB (xOp dIs (xVar 3) (xC .non))) (xC .non) (xTup (xCons (xVar 2) (xCons (xVar 3) xNil))))))))
def b_inferring_holds_all (fuel : Nat) (C : Nat → List D → Rs → Out D) : Sx :=
    (sSeq (sFor [] (xItems (xVar 1)) (gNm 2) (sIfF [] (xB (xOp dNotIn (xVar 2) (xVar 0))) (sRet false [] (xC (.bl false))) sNext))
    (sRet false [] (xC (.bl true))))
def b_inferring_join (fuel : Nat) (C : Nat → List D → Rs → Out D) : Sx :=
    (sSeq (sAsg [] (gNm 3) (xCall (C 257) (xCons (xVar 0) (xCons (xVar 1) xNil))))
    (sSeq (sAsg [] (gNm 4) (xCall (C 257) (xCons (xVar 0) (xCons (xVar 2) xNil))))
    (sSeq (sIfF [] (xOr (xB (xOp dIs (xVar 3) (xC .non))) (xB (xOp dIs (xVar 4) (xC .non)))) (sRet false [] (xC .non)) sNext)
    (sRet false [] (xCall (C 262) (xCons (xVar 0) (xCons (xVar 1) (xCons (xVar 3) (xCons (xVar 2) (xCons (xVar 4) xNil))))))))))
def b_inferring_join_heads (fuel : Nat) (C : Nat → List D → Rs → Out D) : Sx :=
    (sSeq (sAsg [] (gNm 5) (xIx (xVar 1) (xIx (xVar 2) (xC (.int 0)))))
    (sSeq (sAsg [] (gNm 6) (xIx (xVar 3) (xIx (xVar 4) (xC (.int 0)))))
    (sSeq (sIfF [] (xNot (xTr (xIx (xVar 5) (xC (.int 0))))) (sRet false [] (xC .non)) sNext)
    (sSeq (sAsg [] (gNm 7) (xCall (C 256) (xCons (xIx (xVar 6) (xOp dAdd (xC (.int 1)) (xIx (xVar 4) (xC (.int 1))))) (xCons (xIx (xVar 5) (xOp dAdd (xC (.int 1)) (xIx (xVar 2) (xC (.int 1))))) xNil))))
    (sSeq (sIfF [] (xOr (xB (xOp dIs (xVar 7) (xC .non))) (xB (xOp dNe (xCall (C 147) (xCons (xVar 0) (xCons (xVar 5) (xCons (xVar 6) xNil)))) (xNeg (xC (.int 1)))))) (sRet false [] (xC .non)) sNext)
    (sRet false [] (xTup (xCons (xIx (xVar 2) (xC (.int 0))) (xCons (xIx (xVar 2) (xC (.int 1))) (xCons (xIx (xVar 4) (xC (.int 0))) (xCons (xOp dAdd (xTup (xCons (xIx (xVar 4) (xC (.int 1))) xNil)) (xVar 7)) xNil)))))))))))
def b_inferring_needless (fuel : Nat) (C : Nat → List D → Rs → Out D) : Sx :=
    (sSeq (sFor [] (xItems (xVar 0)) (gNm 2) (sIfF [] (xTr (xCall (C 258) (xCons (xVar 1) (xCons (xVar 2) xNil)))) (sRet false [] (xC (.bl true))) sNext))
    (sRet false [] (xCall (C 153) (xCons (xVar 1) xNil))))
def b_inferring_place_in_clause (fuel : Nat) (C : Nat → List D → Rs → Out D) : Sx :=
    (sSeq (sFor [] (xRng1 (xCons (xCB cLen (xCons (xVar 0) xNil)) xNil)) (gNm 2) (sFor [] (xItems (xTup (xCons (xC (.int 0)) (xCons (xC (.int 1)) xNil)))) (gNm 3) (sSeq (sAsg [] (gNm 4) (xCall (C 256) (xCons (xIx (xIx (xVar 0) (xVar 2)) (xOp dAdd (xC (.int 1)) (xVar 3))) (xCons (xVar 1) xNil))))
    (sIfF [] (xB (xOp dIsNot (xVar 4) (xC .non))) (sRet false [] (xTup (xCons (xVar 2) (xCons (xOp dAdd (xTup (xCons (xVar 3) xNil)) (xVar 4)) xNil)))) sNext))))
    (sRet false [] (xC .non)))
def b_inferring_simpler (fuel : Nat) (C : Nat → List D → Rs → Out D) : Sx :=
    (sSeq (sIfF [] (xTr (xCall (C 253) (xCons (xVar 2) xNil))) (sRet false [] (xTup (xCons (xC (.str "drop")) xNil))) sNext)
    (sSeq (sFor [] (xRng1 (xCons (xCB cLen (xCons (xVar 1) xNil)) xNil)) (gNm 3) (sSeq (sAsg [] (gNm 4) (xIx (xVar 1) (xVar 3)))
    (sIfF [] (xAnd (xB (xOp dEq (xCB cLen (xCons (xVar 4) xNil)) (xC (.int 1)))) (xTr (xIx (xIx (xVar 4) (xC (.int 0))) (xC (.int 0))))) (sSeq (sAsg [] (gNm 5) (xCall (C 150) (xCons (xVar 0) (xCons (xIx (xVar 4) (xC (.int 0))) xNil))))
    (sSeq (sAsg [] (gNm 6) (xIf (xB (xOp dIs (xVar 5) (xC .non))) (xC .non) (xCall (C 264) (xCons (xVar 2) (xCons (xIx (xIx (xVar 4) (xC (.int 0))) (xOp dAdd (xC (.int 1)) (xVar 5))) xNil)))))
    (sIfF [] (xAnd (xB (xOp dIsNot (xVar 6) (xC .non))) (xB (xOp dEq (xCall (C 146) (xCons (xVar 0) (xCons (xVar 4) (xCons (xVar 2) xNil)))) (xNeg (xC (.int 1)))))) (sRet false [] (xTup (xCons (xC (.str "replace")) (xCons (xVar 3) (xCons (xVar 5) (xCons (xIx (xVar 6) (xC (.int 0))) (xCons (xIx (xVar 6) (xC (.int 1))) xNil))))))) sNext))) sNext)))
    (sRet false [] (xC .non))))
def b_inferring_simplify (fuel : Nat) (C : Nat → List D → Rs → Out D) : Sx :=
    (sSeq (sIfF [] (xB (xOp dEq (xIx (xVar 2) (xC (.int 0))) (xC (.str "drop")))) (sRet false [] (xCall (C 415) (xCons (xVar 1) xNil))) sNext)
    (sRet false [] (xCall (C 422) (xCons (xIx (xVar 0) (xIx (xVar 2) (xC (.int 1)))) (xCons (xC (.int 0)) (xCons (xIx (xVar 2) (xC (.int 2))) (xCons (xVar 1) (xCons (xIx (xVar 2) (xC (.int 3))) (xCons (xIx (xVar 2) (xC (.int 4))) xNil)))))))))
def b_kinds_above_arity (fuel : Nat) (C : Nat → List D → Rs → Out D) : Sx :=
    (sRetN [] (xLc (xItems (xVar 0)) (gTp 2 (gCons' (gNm 3) (gCons' (gNm 4) gNil'))) (xAnd (xB (xOp dGt (xVar 4) (xVar 2))) (xB (xOp dIn (xVar 3) (xVar 1)))) (xVar 3) [3, 4]))
def b_kinds_enough (fuel : Nat) (C : Nat → List D → Rs → Out D) : Sx :=
    (sSeq (sIfF [] (xB (xOp dNotIn (xVar 1) (xCall (C 278) (xCons (xVar 0) xNil)))) (sRaise 10) sNext)
    (sRet false [] (xCall (C 285) (xCons (xVar 0) (xCons (xVar 1) xNil)))))
def b_kinds_function_names (fuel : Nat) (C : Nat → List D → Rs → Out D) : Sx :=
    (sSeq (sIfF [1] (xTr (xCall (C 426) (xCons (xVar 0) xNil))) (sRetN [1] (xLst' xNil)) sNext)
    (sSeq (sAsgN [1] 1 (xLst' (xCons (xIx (xVar 0) (xC (.int 0))) xNil)))
    (sSeq (sFor [1] (xItems (xSl (xVar 0) (xPart (xC (.int 1))) xNoP)) (gNm 2) (isOwnL 1 (sExt [1] 1 (xCons (xCall (C 270) (xCons (xVar 2) xNil)) xNil))))
    (sFrz 1
    (sRet false [] (xVar 1))))))
def b_kinds_has_some_in_all (fuel : Nat) (C : Nat → List D → Rs → Out D) : Sx :=
    (sSeq (sIfF [] (xAnd (xTr (xVar 1)) (xB (xOp dEq (xIx (xVar 0) (xC (.int 0))) (xC (.str "some"))))) (sRet false [] (xC (.bl true))) sNext)
    (sSeq (sFor [] (xItems (xCall (C 371) (xCons (xVar 0) xNil))) (gNm 2) (sIfF [] (xTr (xCall (C 272) (xCons (xVar 2) (xCons (xOrV (xVar 1) (xOp dEq (xIx (xVar 0) (xC (.int 0))) (xC (.str "all")))) xNil)))) (sRet false [] (xC (.bl true))) sNext))
    (sRet false [] (xC (.bl false)))))
def b_kinds_is_linked (fuel : Nat) (C : Nat → List D → Rs → Out D) : Sx :=
    (sSeq (sIfF [] (xTr (xCall (C 267) (xCons (xFld 13 0 (xFld 14 0 (xVar 0))) (xCons (xCall (C 282) (xCons (xVar 0) xNil)) (xCons (xC (.int 0)) xNil))))) (sRet false [] (xC (.bl false))) sNext)
    (sSeq (sFor [] (xItems (xFld 14 1 (xVar 0))) (gNm 1) (sSeq (sAsg [] (gNm 2) (xCall (C 386) (xCons (xVar 1) xNil)))
    (sIfF [] (xAnd (xNot (xTr (xCall (C 275) (xCons (xVar 2) xNil)))) (xNot (xTr (xCall (C 273) (xCons (xVar 2) xNil))))) (sRet false [] (xC (.bl false))) sNext)))
    (sRet false [] (xC (.bl true)))))
def b_kinds_is_positive (fuel : Nat) (C : Nat → List D → Rs → Out D) : Sx :=
    (sSeq (sIfF [] (xB (xOp dEq (xIx (xVar 0) (xC (.int 0))) (xC (.str "not")))) (sRet false [] (xAndV (xOp dEq (xIx (xIx (xVar 0) (xC (.int 1))) (xC (.int 0))) (xC (.str "holds"))) (xOp dLe (xCB cLen (xCons (xIx (xIx (xVar 0) (xC (.int 1))) (xC (.int 1))) xNil)) (xC (.int 2))))) sNext)
    (sSeq (sFor [] (xItems (xCall (C 371) (xCons (xVar 0) xNil))) (gNm 1) (sIfF [] (xNot (xTr (xCall (C 275) (xCons (xVar 1) xNil)))) (sRet false [] (xC (.bl false))) sNext))
    (sRet false [] (xC (.bl true)))))
def b_kinds_is_prefix (fuel : Nat) (C : Nat → List D → Rs → Out D) : Sx :=
    (sSeq (sFor [] (xItems (xCall (C 287) (xCons (xVar 0) xNil))) (gNm 1) (sIfF [] (xAnd (xNot (xTr (xCall (C 426) (xCons (xVar 1) xNil)))) (xTr (xCall (C 433) (xCons (xVar 1) xNil)))) (sRet false [] (xC (.bl false))) sNext))
    (sSeq (sFor [] (xItems (xFld 14 1 (xVar 0))) (gNm 2) (sIfF [] (xTr (xCall (C 272) (xCons (xCall (C 386) (xCons (xVar 2) xNil)) (xCons (xC (.bl false)) xNil)))) (sRet false [] (xC (.bl false))) sNext))
    (sRet false [] (xC (.bl true)))))
def b_kinds_is_single (fuel : Nat) (C : Nat → List D → Rs → Out D) : Sx :=
    (sSeq (sAsg [] (gNm 1) (xCall (C 282) (xCons (xVar 0) xNil)))
    (sSeq (sAsg [] (gNm 2) (xFld 14 0 (xVar 0)))
    (sRet false [] (xAndV (xNotV (xCall (C 267) (xCons (xFld 13 1 (xVar 2)) (xCons (xVar 1) (xCons (xC (.int 1)) xNil))))) (xNotV (xCall (C 267) (xCons (xFld 13 0 (xVar 2)) (xCons (xVar 1) (xCons (xC (.int 0)) xNil)))))))))
def b_kinds_kinds_of (fuel : Nat) (C : Nat → List D → Rs → Out D) : Sx :=
    (sSeq (sAsgD [1] 1 (xDisp [((xC (.str "listed")), (xOp dIsNot (xCall (C 279) (xCons (xVar 0) xNil)) (xC .non))), ((xC (.str "prefix")), (xCall (C 276) (xCons (xVar 0) xNil)))]))
    (sSeq (isOwnD 1 (sDPut' [1] 1 (xC (.str "single")) (xCall (C 277) (xCons (xVar 0) xNil))))
    (sSeq (isOwnD 1 (sDPut' [1] 1 (xC (.str "linked")) (xCall (C 274) (xCons (xVar 0) xNil))))
    (sFrz 1
    (sRetN [] (xLc (xItems (xC k_KINDS)) (gNm 2) (xTr (xDGet (xVar 1) (xVar 2))) (xVar 2) [2]))))))
def b_kinds_listing (fuel : Nat) (C : Nat → List D → Rs → Out D) : Sx :=
    (sSeq (sAsg [] (gNm 1) (xC .non))
    (sSeq (sFor [] (xEnum (xCons (xFld 14 1 (xVar 0)) xNil)) (gTp 2 (gCons' (gNm 2) (gCons' (gNm 3) gNil'))) (sSeq (sAsg [] (gNm 4) (xCall (C 280) (xCons (xVar 3) xNil)))
    (sIfF [] (xAnd (xB (xOp dIsNot (xVar 4) (xC .non))) (xOr (xB (xOp dIs (xVar 1) (xC .non))) (xB (xOp dLt (xVar 4) (xIx (xVar 1) (xC (.int 1))))))) (sAsg [] (gNm 1) (xTup (xCons (xVar 2) (xCons (xVar 4) xNil)))) sNext)))
    (sRet false [] (xVar 1))))
def b_kinds_many_some (fuel : Nat) (C : Nat → List D → Rs → Out D) : Sx :=
    (sRet false [] (xOp dAdd (xCB cSum (xCons (xL (xLc (xItems (xCall (C 371) (xCons (xVar 0) xNil))) (gNm 1) xYes (xCall (C 281) (xCons (xVar 1) xNil)) [1])) xNil)) (xIf (xB (xOp dEq (xIx (xVar 0) (xC (.int 0))) (xC (.str "some")))) (xC (.int 1)) (xC (.int 0)))))
def b_kinds_names_in (fuel : Nat) (C : Nat → List D → Rs → Out D) : Sx :=
    (sSeq (sAsgD [1] 1 xDNew)
    (sSeq (sFor [1] (xItems (xFld 14 1 (xVar 0))) (gNm 2) (sFor [1] (xItems (xCall (C 369) (xCons (xVar 2) xNil))) (gNm 3) (sSeq (sIfF [1] (xB (xOp dEq (xIx (xVar 3) (xC (.int 0))) (xC (.str "holds")))) (isOwnD 1 (sDPut' [1] 1 (xIx (xIx (xVar 3) (xC (.int 1))) (xC (.int 0))) (xC (.bl true)))) sNext)
    (sFor [1] (xItems (xCall (C 368) (xCons (xVar 3) xNil))) (gNm 4) (sFor [1] (xItems (xCall (C 270) (xCons (xVar 4) xNil))) (gNm 5) (isOwnD 1 (sDPut' [1] 1 (xVar 5) (xC (.bl true)))))))))
    (sSeq (sAsg [1] (gNm 6) (xFld 14 0 (xVar 0)))
    (sFrz 1
    (sRetN [] (xLc (xItems (xOp dAdd (xFld 13 0 (xVar 6)) (xFld 13 1 (xVar 6)))) (gTp 2 (gCons' (gNm 5) (gCons' (gNm 7) gNil'))) (xDIn (xVar 5) (xVar 1)) (xVar 5) [5, 7]))))))
def b_kinds_of_arity (fuel : Nat) (C : Nat → List D → Rs → Out D) : Sx :=
    (sRetN [] (xLc (xItems (xVar 0)) (gTp 2 (gCons' (gNm 3) (gCons' (gNm 4) gNil'))) (xAnd (xB (xOp dEq (xVar 4) (xVar 2))) (xB (xOp dIn (xVar 3) (xVar 1)))) (xVar 3) [3, 4]))
def b_kinds_or_parts (fuel : Nat) (C : Nat → List D → Rs → Out D) : Sx :=
    (sSeq (sIfF [] (xB (xOp dNe (xIx (xVar 0) (xC (.int 0))) (xC (.str "or")))) (sRetN [] (xLst' (xCons (xVar 0) xNil))) sNext)
    (sRet false [] (xOp dAdd (xCall (C 284) (xCons (xIx (xVar 0) (xC (.int 1))) xNil)) (xCall (C 284) (xCons (xIx (xVar 0) (xC (.int 2))) xNil)))))
def b_kinds_size_for (fuel : Nat) (C : Nat → List D → Rs → Out D) : Sx :=
    (sSeq (sIfF [] (xB (xOp dEq (xVar 1) (xC (.str "listed")))) (sRet false [] (xIx (xCall (C 279) (xCons (xVar 0) xNil)) (xC (.int 1)))) sNext)
    (sSeq (sIfF [] (xB (xOp dEq (xVar 1) (xC (.str "prefix")))) (sRet false [] (xCB cMax2 (xCons (xC (.int 1)) (xCons (xOp dAdd (xCB cLen (xCons (xCall (C 271) (xCons (xVar 0) xNil)) xNil)) (xCB cSum (xCons (xL (xLc (xItems (xFld 14 1 (xVar 0))) (gNm 2) xYes (xCall (C 281) (xCons (xCall (C 386) (xCons (xVar 2) xNil)) xNil)) [2])) xNil))) xNil)))) sNext)
    (sSeq (sAsg [] (gNm 3) (xCall (C 282) (xCons (xVar 0) xNil)))
    (sSeq (sAsg [] (gNm 4) (xCall (C 286) (xCons (xCall (C 283) (xCons (xFld 13 1 (xFld 14 0 (xVar 0))) (xCons (xVar 3) (xCons (xC (.int 1)) xNil)))) xNil)))
    (sSeq (sIfF [] (xB (xOp dEq (xVar 1) (xC (.str "single")))) (sRet false [] (xCB cMax2 (xCons (xC (.int 1)) (xCons (xOp dAdd (xCB cLen (xCons (xCall (C 283) (xCons (xFld 13 0 (xFld 14 0 (xVar 0))) (xCons (xVar 3) (xCons (xC (.int 0)) xNil)))) xNil)) (xOp dMul (xCall (C 268) (xCons (xVar 0) xNil)) (xVar 4))) xNil)))) sNext)
    (sRet false [] (xVar 4)))))))
def b_kinds_sort_count (fuel : Nat) (C : Nat → List D → Rs → Out D) : Sx :=
    (sSeq (sAsg [] (gNm 1) (xC (.int 1)))
    (sSeq (sFor [] (xItems (xVar 0)) (gNm 2) (sAsg [] (gNm 1) (xOp dMul (xVar 1) (xC (.int 2)))))
    (sRet false [] (xVar 1))))
def b_kinds_terms_in (fuel : Nat) (C : Nat → List D → Rs → Out D) : Sx :=
    (sSeq (sAsgN [1] 1 (xLst' xNil))
    (sSeq (sFor [1] (xItems (xFld 14 1 (xVar 0))) (gNm 2) (sFor [1] (xItems (xCall (C 369) (xCons (xVar 2) xNil))) (gNm 3) (isOwnL 1 (sExt [1] 1 (xCons (xCall (C 368) (xCons (xVar 3) xNil)) xNil)))))
    (sFrz 1
    (sRet false [] (xVar 1)))))
def b_likeness_alike (fuel : Nat) (C : Nat → List D → Rs → Out D) : Sx :=
    (sSeq (sIfF [] (xOr (xNot (xTr (xCall (C 295) (xCons (xVar 0) (xCons (xVar 1) xNil))))) (xB (xOp dNe (xFld 15 1 (xVar 0)) (xFld 15 1 (xVar 1))))) (sRet false [] (xC (.bl false))) sNext)
    (sRet false [] (xOp dEq (xCall (C 219) (xCons (xCall (C 291) (xCons (xVar 0) xNil)) xNil)) (xCall (C 219) (xCons (xCall (C 291) (xCons (xVar 1) xNil)) xNil)))))
def b_likeness_expanded (fuel : Nat) (C : Nat → List D → Rs → Out D) : Sx :=
    (sSeq (sAsgD [3] 3 (xDCopy (xCons (xVar 2) xNil)))
    (sSeq (sFor [3] (xItems (xCall (C 491) (xCons (xFld 15 0 (xVar 0)) xNil))) (gTp 2 (gCons' (gNm 4) (gCons' (gNm 5) gNil'))) (sSeq (sIfF [3] (xOr (xDIn (xVar 4) (xVar 2)) (xOr (xNot (xTr (xMeth 13 (C 132) (xVar 1) (xCons (xVar 4) xNil)))) (xB (xOp dNe (xMeth 13 (C 127) (xVar 1) (xCons (xVar 4) xNil)) (xVar 5))))) (sRaise 8) sNext)
    (isOwnD 3 (sDPut' [3] 3 (xVar 4) (xMeth 15 (C 487) (xVar 0) (xCons (xVar 4) xNil))))))
    (sFrz 3
    (sRet false [] (xNewF 15 (C 483) (xCons (xVar 1) (xCons (xFld 15 1 (xVar 0)) (xCons (xVar 3) xNil))))))))
def b_likeness_orders_of (fuel : Nat) (C : Nat → List D → Rs → Out D) : Sx :=
    (sSeq (sIfF [1] (xNot (xTr (xVar 0))) (sRetN [1] (xLst' (xCons (xTup xNil) xNil))) sNext)
    (sSeq (sAsgN [1] 1 (xLst' xNil))
    (sSeq (sFor [1] (xItems (xVar 0)) (gNm 2) (sSeq (sAsg [1] (gNm 3) (xL (xLc (xItems (xVar 0)) (gNm 4) (xB (xOp dNe (xVar 4) (xVar 2))) (xVar 4) [4])))
    (isOwnL 1 (sExtN [1] 1 (xLc (xItems (xCall (C 292) (xCons (xVar 3) xNil))) (gNm 5) xYes (xOp dAdd (xTup (xCons (xVar 2) xNil)) (xVar 5)) [5])))))
    (sFrz 1
    (sRet false [] (xVar 1))))))
def b_likeness_reduct (fuel : Nat) (C : Nat → List D → Rs → Out D) : Sx :=
    (sSeq (sAsgD [2] 2 xDNew)
    (sSeq (sFor [2] (xItems (xCall (C 491) (xCons (xVar 1) xNil))) (gTp 2 (gCons' (gNm 3) (gCons' (gNm 4) gNil'))) (sSeq (sIfF [2] (xOr (xNot (xTr (xMeth 13 (C 132) (xFld 15 0 (xVar 0)) (xCons (xVar 3) xNil)))) (xB (xOp dNe (xMeth 13 (C 127) (xFld 15 0 (xVar 0)) (xCons (xVar 3) xNil)) (xVar 4)))) (sRaise 8) sNext)
    (isOwnD 2 (sDPut' [2] 2 (xVar 3) (xMeth 15 (C 487) (xVar 0) (xCons (xVar 3) xNil))))))
    (sFrz 2
    (sRet false [] (xNewF 15 (C 483) (xCons (xVar 1) (xCons (xFld 15 1 (xVar 0)) (xCons (xVar 2) xNil))))))))
def b_likeness_renamed (fuel : Nat) (C : Nat → List D → Rs → Out D) : Sx :=
    (sSeq (sIfF [2, 6] (xB (xOp dNe (xL (xSort (xCons (xVar 1) xNil))) (xCB cList (xCons (xMeth 15 (C 488) (xVar 0) xNil) xNil)))) (sRaise 8) sNext)
    (sSeq (sAsgD [2, 6] 2 xDNew)
    (sSeq (sFor [2, 6] (xItems (xCall (C 491) (xCons (xFld 15 0 (xVar 0)) xNil))) (gTp 2 (gCons' (gNm 3) (gCons' (gNm 4) gNil'))) (sSeq (sAsg [2, 6] (gNm 5) (xMeth 15 (C 487) (xVar 0) (xCons (xVar 3) xNil)))
    (sSeq (sAsgN [2, 6] 6 (xListN (xCons (xVar 5) xNil)))
    (sSeq (sFor [2, 6] (xZip (xCons (xCall (C 498) (xCons (xFld 15 1 (xVar 0)) (xCons (xVar 4) xNil))) (xCons (xVar 5) xNil))) (gTp 2 (gCons' (gNm 7) (gCons' (gNm 8) gNil'))) (sSeq (sAsg [2, 6] (gNm 9) (xCall (C 496) (xCons (xFld 15 1 (xVar 0)) (xCons (xL (xLc (xItems (xVar 7)) (gNm 10) xYes (xIx (xVar 1) (xVar 10)) [10])) xNil))))
    (isOwnL 6 (sSetO [2, 6] 6 (xVar 9) (xIf (xTr (xCall (C 494) (xCons (xVar 3) xNil))) (xIx (xVar 1) (xVar 8)) (xVar 8))))))
    (sFrz 6
    (isOwnD 2 (sDPut' [2] 2 (xVar 3) (xVar 6))))))))
    (sFrz 2
    (sRet false [6] (xNewF 15 (C 483) (xCons (xFld 15 0 (xVar 0)) (xCons (xFld 15 1 (xVar 0)) (xCons (xVar 2) xNil)))))))))
def b_likeness_same_signature (fuel : Nat) (C : Nat → List D → Rs → Out D) : Sx :=
    (sRet false [] (xOp dEq (xCall (C 491) (xCons (xFld 15 0 (xVar 0)) xNil)) (xCall (C 491) (xCons (xFld 15 0 (xVar 1)) xNil))))
def b_lines_check_literal (fuel : Nat) (C : Nat → List D → Rs → Out D) : Sx :=
    (sFor [] (xItems (xSl (xVar 1) (xPart (xC (.int 1))) xNoP)) (gNm 2) (sIfF [] (xTr (xCall (C 424) (xCons (xVar 2) xNil))) (sSeq (sIfF [] (xOr (xNot (xTr (xMeth 13 (C 132) (xVar 0) (xCons (xIx (xVar 2) (xC (.int 0))) xNil)))) (xB (xOp dNe (xMeth 13 (C 127) (xVar 0) (xCons (xIx (xVar 2) (xC (.int 0))) xNil)) (xOp dSub (xCB cLen (xCons (xVar 2) xNil)) (xC (.int 1)))))) (sRaise 4) sNext)
    (sFor [] (xItems (xSl (xVar 2) (xPart (xC (.int 1))) xNoP)) (gNm 3) (sExp [] (xMeth 13 (C 512) (xVar 0) (xCons (xVar 3) (xCons (xCall (C 433) (xCons (xVar 3) xNil)) xNil)))))) (sIfF [] (xB (xOp dNe (xVar 2) (xC k_TOP))) (sExp [] (xMeth 13 (C 512) (xVar 0) (xCons (xVar 2) (xCons (xCall (C 433) (xCons (xVar 2) xNil)) xNil)))) sNext)))
def b_lines_judge (fuel : Nat) (C : Nat → List D → Rs → Out D) : Sx :=
    (sSeq (sIfF [] (xOr (xNot (xTr (xVar 2))) (xB (xOp dNe (xIx (xIx (xVar 2) (xNeg (xC (.int 1)))) (xC (.int 0))) (xTup xNil)))) (sRet false [] (xC (.bl false))) sNext)
    (sRet false [] (xOp dIs (xCall (C 298) (xCons (xVar 0) (xCons (xVar 1) (xCons (xVar 2) xNil)))) (xC .non))))
def b_lines_made_by (fuel : Nat) (C : Nat → List D → Rs → Out D) : Sx :=
    (sSeq (sFor [] (xItems (xCall (C 303) (xCons (xVar 3) xNil))) (gNm 4) (sIfF [] (xNot (xCh dLe dLt (xC (.int 0)) (xVar 4) (xCB cLen (xCons (xVar 2) xNil)))) (sRaise 7) sNext))
    (sSeq (sIfF [] (xB (xOp dEq (xIx (xVar 3) (xC (.int 0))) (xC (.str "given")))) (sSeq (sIfF [] (xNot (xCh dLe dLt (xC (.int 0)) (xIx (xVar 3) (xC (.int 1))) (xCB cLen (xCons (xVar 1) xNil)))) (sRaise 7) sNext)
    (sRet false [] (xIx (xVar 1) (xIx (xVar 3) (xC (.int 1)))))) sNext)
    (sSeq (sIfF [] (xB (xOp dEq (xIx (xVar 3) (xC (.int 0))) (xC (.str "fill")))) (sSeq (sFor [] (xItems (xIx (xVar 3) (xC (.int 2)))) (gNm 5) (sExp [] (xMeth 13 (C 512) (xVar 0) (xCons (xIx (xVar 5) (xC (.int 1))) (xCons (xCall (C 433) (xCons (xIx (xVar 5) (xC (.int 1))) xNil)) xNil)))))
    (sRet false [] (xCall (C 418) (xCons (xIx (xIx (xVar 2) (xIx (xVar 3) (xC (.int 1)))) (xC (.int 0))) (xCons (xIx (xVar 3) (xC (.int 2))) xNil))))) sNext)
    (sSeq (sIfF [] (xB (xOp dEq (xIx (xVar 3) (xC (.int 0))) (xC (.str "replace")))) (sSeq (sPar [] 6 7 (xCons (xIx (xIx (xVar 2) (xIx (xVar 3) (xC (.int 1)))) (xC (.int 0))) (xCons (xIx (xIx (xVar 2) (xIx (xVar 3) (xC (.int 4)))) (xC (.int 0))) xNil)))
    (sRet false [] (xCall (C 422) (xCons (xVar 6) (xCons (xIx (xVar 3) (xC (.int 2))) (xCons (xIx (xVar 3) (xC (.int 3))) (xCons (xVar 7) (xCons (xIx (xVar 3) (xC (.int 5))) (xCons (xIx (xVar 3) (xC (.int 6))) xNil))))))))) sNext)
    (sSeq (sIfF [] (xB (xOp dEq (xIx (xVar 3) (xC (.int 0))) (xC (.str "drop")))) (sRet false [] (xCall (C 415) (xCons (xIx (xIx (xVar 2) (xIx (xVar 3) (xC (.int 1)))) (xC (.int 0))) xNil))) sNext)
    (sSeq (sIfF [] (xB (xOp dEq (xIx (xVar 3) (xC (.int 0))) (xC (.str "factor")))) (sRet false [] (xCall (C 417) (xCons (xIx (xIx (xVar 2) (xIx (xVar 3) (xC (.int 1)))) (xC (.int 0))) (xCons (xIx (xVar 3) (xC (.int 2))) (xCons (xIx (xVar 3) (xC (.int 3))) (xCons (xIx (xVar 3) (xC (.int 4))) (xCons (xIx (xVar 3) (xC (.int 5))) xNil))))))) sNext)
    (sSeq (sExp [] (xCall (C 296) (xCons (xVar 0) (xCons (xIx (xVar 3) (xC (.int 1))) xNil))))
    (sRet false [] (xCall (C 416) (xCons (xIx (xVar 3) (xC (.int 1))) xNil))))))))))
def b_lines_renumbered (fuel : Nat) (C : Nat → List D → Rs → Out D) : Sx :=
    (sSeq (sIfF [] (xB (xOp dEq (xIx (xVar 0) (xC (.int 0))) (xC (.str "replace")))) (sRet false [] (xTup (xCons (xC (.str "replace")) (xCons (xIx (xVar 1) (xIx (xVar 0) (xC (.int 1)))) (xCons (xIx (xVar 0) (xC (.int 2))) (xCons (xIx (xVar 0) (xC (.int 3))) (xCons (xIx (xVar 1) (xIx (xVar 0) (xC (.int 4)))) (xCons (xIx (xVar 0) (xC (.int 5))) (xCons (xIx (xVar 0) (xC (.int 6))) xNil))))))))) sNext)
    (sSeq (sIfF [] (xB (xOp dIn (xIx (xVar 0) (xC (.int 0))) (xTup (xCons (xC (.str "fill")) (xCons (xC (.str "drop")) (xCons (xC (.str "factor")) xNil)))))) (sRet false [] (xOp dAdd (xTup (xCons (xIx (xVar 0) (xC (.int 0))) (xCons (xIx (xVar 1) (xIx (xVar 0) (xC (.int 1)))) xNil))) (xSl (xVar 0) (xPart (xC (.int 2))) xNoP))) sNext)
    (sRet false [] (xVar 0))))
def b_lines_sources (fuel : Nat) (C : Nat → List D → Rs → Out D) : Sx :=
    (sSeq (sIfF [] (xB (xOp dEq (xIx (xVar 0) (xC (.int 0))) (xC (.str "replace")))) (sRetN [] (xLst' (xCons (xIx (xVar 0) (xC (.int 1))) (xCons (xIx (xVar 0) (xC (.int 4))) xNil)))) sNext)
    (sSeq (sIfF [] (xB (xOp dIn (xIx (xVar 0) (xC (.int 0))) (xTup (xCons (xC (.str "fill")) (xCons (xC (.str "drop")) (xCons (xC (.str "factor")) xNil)))))) (sRetN [] (xLst' (xCons (xIx (xVar 0) (xC (.int 1))) xNil))) sNext)
    (sRetN [] (xLst' xNil))))
def b_matching_match_literal (fuel : Nat) (C : Nat → List D → Rs → Out D) : Sx :=
    (sSeq (sAsgN [3] 3 (xLst' xNil))
    (sSeq (sIfF [3] (xB (xOp dNe (xIx (xVar 0) (xC (.int 0))) (xIx (xVar 1) (xC (.int 0))))) (sRetO 3) sNext)
    (sSeq (sFor [3] (xItems (xTup (xCons (xTup (xCons (xIx (xVar 1) (xC (.int 1))) (xCons (xIx (xVar 1) (xC (.int 2))) xNil))) (xCons (xTup (xCons (xIx (xVar 1) (xC (.int 2))) (xCons (xIx (xVar 1) (xC (.int 1))) xNil))) xNil)))) (gTp 2 (gCons' (gNm 4) (gCons' (gNm 5) gNil'))) (sSeq (sAsg [3] (gNm 6) (xCall (C 305) (xCons (xIx (xVar 0) (xC (.int 1))) (xCons (xVar 4) (xCons (xVar 2) xNil)))))
    (sIfF [3] (xB (xOp dIsNot (xVar 6) (xC .non))) (sSeq (sAsg [3] (gNm 6) (xCall (C 305) (xCons (xIx (xVar 0) (xC (.int 2))) (xCons (xVar 5) (xCons (xVar 6) xNil)))))
    (sIf (xAnd (xB (xOp dIsNot (xVar 6) (xC .non))) (xB (xOp dNotIn (xVar 6) (xVar 3)))) (isOwnL 3 (sApp [3] 3 (xCons (xVar 6) xNil))) sNext)) sNext)))
    (sFrz 3
    (sRet false [] (xVar 3))))))
def b_matching_subsumes (fuel : Nat) (C : Nat → List D → Rs → Out D) : Sx :=
    (sRetD [] (xCallND (C 306) (xCons (xVar 0) (xCons (xVar 1) (xCons (xD xDNew) xNil)))))
def b_matching_variants (fuel : Nat) (C : Nat → List D → Rs → Out D) : Sx :=
    (sRet false [] (xAndV (xOp dIsNot (xCall (C 307) (xCons (xVar 0) (xCons (xVar 1) xNil))) (xC .non)) (xOp dIsNot (xCall (C 307) (xCons (xVar 1) (xCons (xVar 0) xNil))) (xC .non))))
def b_names_fresh_name (fuel : Nat) (C : Nat → List D → Rs → Out D) : Sx :=
    (sSeq (sAsg [] (gNm 2) (xC (.int 1)))
    (sSeq (whileGoF [] (xB (xOp dIn (xOp dAdd (xVar 0) (xCB cStr (xCons (xVar 2) xNil))) (xVar 1))) (sAug 2 (fun i j => i + j) (xC (.int 1))) fuel)
    (sRet false [] (xOp dAdd (xVar 0) (xCB cStr (xCons (xVar 2) xNil))))))
def b_names_has_name_signs (fuel : Nat) (C : Nat → List D → Rs → Out D) : Sx :=
    (sSeq (sIfF [] (xNot (xCh dLe dLe (xC (.int 1)) (xCB cLen (xCons (xVar 0) xNil)) (xC k_LONGEST))) (sRet false [] (xC (.bl false))) sNext)
    (sSeq (sFor [] (xItems (xVar 0)) (gNm 1) (sIfF [] (xAnd (xB (xOp dNotIn (xVar 1) (xC k_SMALL))) (xAnd (xB (xOp dNotIn (xVar 1) (xC k_CAPITAL))) (xB (xOp dNotIn (xVar 1) (xC k_DIGITS))))) (sRet false [] (xC (.bl false))) sNext))
    (sRet false [] (xC (.bl true)))))
def b_names_has_name_signs_v1 (fuel : Nat) (C : Nat → List D → Rs → Out D) : Sx :=
    (sSeq (sIfF [] (xNot (xCh dLe dLe (xC (.int 1)) (xCB cLen (xCons (xVar 0) xNil)) (xC k_LONGEST))) (sRet false [] (xC (.bl false))) sNext)
    (sSeq (sFor [] (xItems (xVar 0)) (gNm 1) (sIfF [] (xAnd (xB (xOp dNotIn (xVar 1) (xC k_SMALL))) (xAnd (xB (xOp dNotIn (xVar 1) (xC k_CAPITAL))) (xB (xOp dNotIn (xVar 1) (xC k_DIGITS_names))))) (sRet false [] (xC (.bl false))) sNext))
    (sRet false [] (xC (.bl true)))))
def b_names_is_capital_name (fuel : Nat) (C : Nat → List D → Rs → Out D) : Sx :=
    (sRet false [] (xAndV (xCall (C 311) (xCons (xVar 0) xNil)) (xOp dIn (xIx (xVar 0) (xC (.int 0))) (xC k_CAPITAL))))
def b_names_is_small_name (fuel : Nat) (C : Nat → List D → Rs → Out D) : Sx :=
    (sRet false [] (xAndV (xCall (C 311) (xCons (xVar 0) xNil)) (xAndV (xOp dIn (xIx (xVar 0) (xC (.int 0))) (xC k_SMALL)) (xOp dNotIn (xVar 0) (xC k_RESERVED)))))
def b_orders_Order_compare (fuel : Nat) (C : Nat → List D → Rs → Out D) : Sx :=
    (sSeq (sIfF [] (xB (xOp dEq (xVar 1) (xVar 2))) (sRet false [] (xC (.int 0))) sNext)
    (sSeq (sIfF [] (xTr (xMeth 16 (C 316) (xVar 0) (xCons (xVar 1) (xCons (xVar 2) xNil)))) (sRet false [] (xC (.int 1))) sNext)
    (sRet false [] (xIf (xTr (xMeth 16 (C 316) (xVar 0) (xCons (xVar 2) (xCons (xVar 1) xNil)))) (xNeg (xC (.int 1))) (xC .non)))))
def b_orders_Order_is_greater (fuel : Nat) (C : Nat → List D → Rs → Out D) : Sx :=
    (sSeq (sIfF [] (xNot (xTr (xCall (C 319) (xCons (xVar 1) (xCons (xVar 2) xNil))))) (sRet false [] (xC (.bl false))) sNext)
    (sSeq (sAsg [] (gNm 3) (xOp dSub (xMeth 16 (C 318) (xVar 0) (xCons (xVar 1) xNil)) (xMeth 16 (C 318) (xVar 0) (xCons (xVar 2) xNil))))
    (sSeq (sIfF [] (xB (xOp dNe (xVar 3) (xC (.int 0)))) (sRet false [] (xOp dGt (xVar 3) (xC (.int 0)))) sNext)
    (sSeq (sIfF [] (xOr (xTr (xCall (C 426) (xCons (xVar 1) xNil))) (xTr (xCall (C 426) (xCons (xVar 2) xNil)))) (sRet false [] (xC (.bl false))) sNext)
    (sSeq (sIfF [] (xB (xOp dNe (xIx (xVar 1) (xC (.int 0))) (xIx (xVar 2) (xC (.int 0))))) (sRet false [] (xOp dGt (xDGet (xFld 16 3 (xVar 0)) (xIx (xVar 1) (xC (.int 0)))) (xDGet (xFld 16 3 (xVar 0)) (xIx (xVar 2) (xC (.int 0)))))) sNext)
    (sSeq (sFor [] (xZip (xCons (xSl (xVar 1) (xPart (xC (.int 1))) xNoP) (xCons (xSl (xVar 2) (xPart (xC (.int 1))) xNoP) xNil))) (gTp 2 (gCons' (gNm 4) (gCons' (gNm 5) gNil'))) (sIfF [] (xB (xOp dNe (xVar 4) (xVar 5))) (sRet false [] (xMeth 16 (C 316) (xVar 0) (xCons (xVar 4) (xCons (xVar 5) xNil)))) sNext))
    (sRet false [] (xC (.bl false)))))))))
def b_orders_occurrences (fuel : Nat) (C : Nat → List D → Rs → Out D) : Sx :=
    (sSeq (sIfF [1] (xTr (xCall (C 426) (xCons (xVar 0) xNil))) (sRetN [1] (xLst' (xCons (xVar 0) xNil))) sNext)
    (sSeq (sAsgN [1] 1 (xLst' xNil))
    (sSeq (sFor [1] (xItems (xSl (xVar 0) (xPart (xC (.int 1))) xNoP)) (gNm 2) (isOwnL 1 (sExtN [1] 1 (xCallN (C 320) (xCons (xVar 2) xNil)))))
    (sRetO 1))))
def b_orders_place_among (fuel : Nat) (C : Nat → List D → Rs → Out D) : Sx :=
    (sSeq (sAsg [] (gNm 3) (xC (.int 0)))
    (sSeq (sAsg [] (gNm 4) (xCB cLen (xCons (xVar 1) xNil)))
    (sSeq (whileGoF [] (xB (xOp dLt (xVar 3) (xVar 4))) (sSeq (sAsg [] (gNm 5) (xOp dDiv (xOp dAdd (xVar 3) (xVar 4)) (xC (.int 2))))
    (sIfF [] (xTr (xMeth 16 (C 316) (xVar 0) (xCons (xVar 2) (xCons (xIx (xVar 1) (xVar 5)) xNil)))) (sAsg [] (gNm 3) (xOp dAdd (xVar 5) (xC (.int 1)))) (sAsg [] (gNm 4) (xVar 5)))) fuel)
    (sRet false [] (xVar 3)))))
def b_orders_sorted_terms (fuel : Nat) (C : Nat → List D → Rs → Out D) : Sx :=
    (sSeq (sAsgN [2] 2 (xLst' xNil))
    (sSeq (sFor [2] (xItems (xVar 1)) (gNm 3) (sSeq (sAsgI (gNm 4) (xCall (C 321) (xCons (xVar 0) (xCons (xVar 2) (xCons (xVar 3) xNil)))))
    (sIf (xOr (xB (xOp dEq (xVar 4) (xCB cLen (xCons (xVar 2) xNil)))) (xB (xOp dNe (xIx (xVar 2) (xVar 4)) (xVar 3)))) (isOwnL 2 (sIns [2] 2 (xCons (xVar 4) (xCons (xVar 3) xNil)))) sNext)))
    (sRetO 2)))
def b_partial_Partial___init__ (fuel : Nat) (C : Nat → List D → Rs → Out D) : Sx :=
    (sSeq (sSetF [] 20 0 (xVar 0) (xVar 1))
    (sSeq (sSetF [] 20 1 (xVar 0) (xC (.int 1)))
    (sSeq (sSetF [] 20 2 (xVar 0) (xResD xDNew))
    (sSeq (sAsg [] (gNm 3) (xCall (C 332) (xCons (xVar 1) (xCons (xVar 2) xNil))))
    (sIfF [] (xB (xOp dIsNot (xVar 3) (xC .non))) (sDSetR [] (xFld 20 2 (xVar 0)) (xTup (xCons (xVar 3) (xCons (xTup xNil) xNil))) (xC (.int 0))) sNext)))))
def b_partial_Partial_is_free (fuel : Nat) (C : Nat → List D → Rs → Out D) : Sx :=
    (sSeq (sAsg [] (gTp 2 (gCons' (gNm 2) (gCons' (gNm 3) gNil'))) (xVar 1))
    (sSeq (sIfF [] (xOr (xNot (xTr (xMeth 13 (C 132) (xFld 20 0 (xVar 0)) (xCons (xVar 2) xNil)))) (xOr (xB (xOp dNe (xMeth 13 (C 127) (xFld 20 0 (xVar 0)) (xCons (xVar 2) xNil)) (xCB cLen (xCons (xVar 3) xNil)))) (xDIn (xVar 1) (xFld 20 2 (xVar 0))))) (sRet false [] (xC (.bl false))) sNext)
    (sRet false [] (xCB cAll (xCons (xL (xLc (xItems (xVar 3)) (gNm 4) xYes (xV (xCh dLe dLt (xC (.int 0)) (xVar 4) (xFld 20 1 (xVar 0)))) [4])) xNil)))))
def b_partial_Partial_read_clause (fuel : Nat) (C : Nat → List D → Rs → Out D) : Sx :=
    (sSeq (sAsgN [3] 3 (xLst' xNil))
    (sSeq (sFor [3] (xItems (xVar 1)) (gNm 4) (sSeq (sAsg [3] (gTp 2 (gCons' (gNm 5) (gCons' (gNm 6) gNil'))) (xMeth 20 (C 328) (xVar 0) (xCons (xVar 4) (xCons (xVar 2) xNil))))
    (sSeq (sIfF [3] (xAnd (xB (xOp dEq (xVar 5) (xC (.str "is")))) (xTr (xVar 6))) (sRet false [3] (xTup (xCons (xVar 5) (xCons (xC (.bl true)) xNil)))) sNext)
    (sIf (xAnd (xB (xOp dEq (xVar 5) (xC (.str "blocked")))) (xB (xOp dNotIn (xVar 6) (xVar 3)))) (isOwnL 3 (sApp [3] 3 (xCons (xVar 6) xNil))) sNext))))
    (sFrz 3
    (sSeq (sIfF [] (xTr (xVar 3)) (sRet false [] (xTup (xCons (xC (.str "blocked")) (xCons (xCB cTuple (xCons (xVar 3) xNil)) xNil)))) sNext)
    (sRet false [] (xTup (xCons (xC (.str "is")) (xCons (xC (.bl false)) xNil))))))))
def b_partial_Partial_read_literal (fuel : Nat) (C : Nat → List D → Rs → Out D) : Sx :=
    (sSeq (sAsgN [3] 3 (xLst' xNil))
    (sSeq (sFor [3] (xItems (xSl (xVar 1) (xPart (xC (.int 1))) xNoP)) (gNm 4) (sSeq (sAsg [3] (gTp 2 (gCons' (gNm 5) (gCons' (gNm 6) gNil'))) (xIf (xB (xOp dEq (xVar 4) (xC k_TOP))) (xTup (xCons (xC (.str "is")) (xCons (xC (.bl true)) xNil))) (xMeth 20 (C 329) (xVar 0) (xCons (xVar 4) (xCons (xVar 2) xNil)))))
    (sSeq (sIfF [3] (xB (xOp dEq (xVar 5) (xC (.str "blocked")))) (sRet false [3] (xTup (xCons (xVar 5) (xCons (xVar 6) xNil)))) sNext)
    (isOwnL 3 (sApp [3] 3 (xCons (xVar 6) xNil))))))
    (sFrz 3
    (sRet false [] (xTup (xCons (xC (.str "is")) (xCons (xOp dEq (xOp dEq (xIx (xVar 3) (xC (.int 0))) (xIx (xVar 3) (xC (.int 1)))) (xIx (xVar 1) (xC (.int 0)))) xNil)))))))
def b_partial_Partial_read_term (fuel : Nat) (C : Nat → List D → Rs → Out D) : Sx :=
    (sSeq (sIfF [3] (xTr (xCall (C 426) (xCons (xVar 1) xNil))) (sRet false [3] (xTup (xCons (xC (.str "is")) (xCons (xDGet (xVar 2) (xVar 1)) xNil)))) sNext)
    (sSeq (sAsgN [3] 3 (xLst' xNil))
    (sSeq (sFor [3] (xItems (xSl (xVar 1) (xPart (xC (.int 1))) xNoP)) (gNm 4) (sSeq (sAsg [3] (gTp 2 (gCons' (gNm 5) (gCons' (gNm 6) gNil'))) (xMeth 20 (C 329) (xVar 0) (xCons (xVar 4) (xCons (xVar 2) xNil))))
    (sSeq (sIfF [3] (xB (xOp dEq (xVar 5) (xC (.str "blocked")))) (sRet false [3] (xTup (xCons (xVar 5) (xCons (xVar 6) xNil)))) sNext)
    (isOwnL 3 (sApp [3] 3 (xCons (xVar 6) xNil))))))
    (sFrz 3
    (sSeq (sAsg [] (gNm 7) (xTup (xCons (xIx (xVar 1) (xC (.int 0))) (xCons (xCB cTuple (xCons (xVar 3) xNil)) xNil))))
    (sSeq (sIfF [] (xDIn (xVar 7) (xFld 20 2 (xVar 0))) (sRet false [] (xTup (xCons (xC (.str "is")) (xCons (xDGet (xFld 20 2 (xVar 0)) (xVar 7)) xNil)))) sNext)
    (sRet false [] (xTup (xCons (xC (.str "blocked")) (xCons (xVar 7) xNil))))))))))
def b_partial_Partial_ways (fuel : Nat) (C : Nat → List D → Rs → Out D) : Sx :=
    (sSeq (sIfF [] (xTr (xCall (C 312) (xCons (xIx (xVar 1) (xC (.int 0))) xNil))) (sRetN [] (xLst' (xCons (xC (.bl false)) (xCons (xC (.bl true)) xNil)))) sNext)
    (sRetN [] (xListN (xCons (xCB cRng (xCons (xOp dAdd (xFld 20 1 (xVar 0)) (xC (.int 1))) xNil)) xNil))))
def b_partial_first_constant (fuel : Nat) (C : Nat → List D → Rs → Out D) : Sx :=
    (sSeq (sFor [] (xItems (xMeth 13 (C 513) (xVar 0) xNil)) (gNm 2) (sFor [] (xItems (xVar 1)) (gNm 3) (sFor [] (xItems (xVar 3)) (gNm 4) (sIfF [] (xOr (xTr (xCall (C 335) (xCons (xVar 2) (xCons (xIx (xVar 4) (xC (.int 1))) xNil)))) (xTr (xCall (C 335) (xCons (xVar 2) (xCons (xIx (xVar 4) (xC (.int 2))) xNil))))) (sRet false [] (xVar 2)) sNext))))
    (sRet false [] (xC .non)))
def b_partial_rows_of_things (fuel : Nat) (C : Nat → List D → Rs → Out D) : Sx :=
    (sSeq (sAsg [] (gNm 2) (xLst (xCons (xTup xNil) xNil)))
    (sSeq (sFor [] (xRng1 (xCons (xVar 1) xNil)) (gNm 3) (sAsg [] (gNm 2) (xL (xLc2 (xItems (xVar 2)) (gNm 4) (xRng1 (xCons (xVar 0) xNil)) (gNm 5) xYes (xOp dAdd (xVar 4) (xTup (xCons (xVar 5) xNil))) [4, 5] [5]))))
    (sRet false [] (xVar 2))))
def b_partial_stands_in (fuel : Nat) (C : Nat → List D → Rs → Out D) : Sx :=
    (sSeq (sIfF [] (xTr (xCall (C 426) (xCons (xVar 1) xNil))) (sRet false [] (xC (.bl false))) sNext)
    (sRet false [] (xOrV (xOp dEq (xIx (xVar 1) (xC (.int 0))) (xVar 0)) (xCB cAny (xCons (xL (xLc (xItems (xSl (xVar 1) (xPart (xC (.int 1))) xNoP)) (gNm 2) xYes (xCall (C 335) (xCons (xVar 0) (xCons (xVar 2) xNil))) [2])) xNil)))))
def b_questions_independent (fuel : Nat) (C : Nat → List D → Rs → Out D) : Sx :=
    (sSeq (sAsg [] (gNm 3) (xMeth 14 (C 125) (xVar 0) (xCons (xVar 1) xNil)))
    (sSeq (sAsg [] (gNm 4) (xIx (xFld 14 1 (xVar 0)) (xVar 1)))
    (sSeq (sAsg [] (gNm 5) (xLst (xCons (xIx (xCall (C 336) (xCons (xVar 3) (xCons (xVar 4) (xCons (xVar 2) xNil)))) (xC (.int 0))) (xCons (xIx (xCall (C 336) (xCons (xVar 3) (xCons (xTup (xCons (xC (.str "not")) (xCons (xVar 4) xNil))) (xCons (xVar 2) xNil)))) (xC (.int 0))) xNil))))
    (sSeq (sIfF [] (xB (xOp dIn (xC (.str "yes")) (xVar 5))) (sRet false [] (xC (.str "no"))) sNext)
    (sRet false [] (xIf (xB (xOp dIn (xC (.str "open")) (xVar 5))) (xC (.str "open")) (xC (.str "yes"))))))))
def b_questions_least_at_odds (fuel : Nat) (C : Nat → List D → Rs → Out D) : Sx :=
    (sSeq (sIfF [] (xNot (xTr (xCall (C 338) (xCons (xVar 0) (xCons (xVar 1) xNil))))) (sRet false [] (xC .non)) sNext)
    (sSeq (sAsg [] (gNm 2) (xCB cList (xCons (xCB cRng (xCons (xCB cLen (xCons (xFld 14 1 (xVar 0)) xNil)) xNil)) xNil)))
    (sSeq (sFor [] (xRng1 (xCons (xCB cLen (xCons (xFld 14 1 (xVar 0)) xNil)) xNil)) (gNm 3) (sSeq (sAsg [] (gNm 4) (xL (xLc (xItems (xVar 2)) (gNm 5) (xB (xOp dNe (xVar 5) (xVar 3))) (xVar 5) [5])))
    (sIfF [] (xTr (xCall (C 338) (xCons (xCall (C 340) (xCons (xVar 0) (xCons (xVar 4) xNil))) (xCons (xVar 1) xNil)))) (sAsg [] (gNm 2) (xVar 4)) sNext)))
    (sRet false [] (xVar 2)))))
def b_questions_part_of_book (fuel : Nat) (C : Nat → List D → Rs → Out D) : Sx :=
    (sRet false [] (xNewF 14 (C 123) (xCons (xFld 14 0 (xVar 0)) (xCons (xL (xLc (xItems (xVar 1)) (gNm 2) xYes (xIx (xFld 14 1 (xVar 0)) (xVar 2)) [2])) xNil))))
def b_reading_Reader_take_arguments (fuel : Nat) (C : Nat → List D → Rs → Out D) : Sx :=
    (sSeq (sAsgN [2] 2 (xLst' xNil))
    (sSeq (sFor [2] (xRng1 (xCons (xVar 1) xNil)) (gNm 3) (sSeq (sExp [2] (xMeth 18 (C 362) (xVar 0) (xCons (xIf (xB (xOp dEq (xVar 3) (xC (.int 0)))) (xTup (xCons (xC (.str "(")) xNil)) (xTup (xCons (xC (.str ",")) xNil))) xNil)))
    (isOwnL 2 (sApp [2] 2 (xCons (xMeth 18 (C 350) (xVar 0) xNil) xNil)))))
    (sSeq (sIfF [2] (xB (xOp dGt (xVar 1) (xC (.int 0)))) (sExp [2] (xMeth 18 (C 362) (xVar 0) (xCons (xTup (xCons (xC (.str ")")) xNil)) xNil))) sNext)
    (sFrz 2
    (sRet false [] (xCB cTuple (xCons (xVar 2) xNil)))))))
def b_reading_Reader_take_equation_v1 (fuel : Nat) (C : Nat → List D → Rs → Out D) : Sx :=
    (sSeq (sAsg [] (gNm 1) (xMeth 18 (C 350) (xVar 0) xNil))
    (sSeq (sAsg [] (gNm 2) (xMeth 18 (C 362) (xVar 0) (xCons (xTup (xCons (xC (.str "=")) (xCons (xC (.str "!=")) xNil))) xNil)))
    (sRet false [] (xTup (xCons (xOp dEq (xVar 2) (xC (.str "="))) (xCons (xVar 1) (xCons (xMeth 18 (C 350) (xVar 0) xNil) xNil)))))))
def b_reading_read_term (fuel : Nat) (C : Nat → List D → Rs → Out D) : Sx :=
    (sSeq (sAsg [] (gNm 3) (xNewR 18 (C 342) (xCons (xCall (C 366) (xCons (xVar 0) xNil)) (xCons (xVar 1) (xCons (xVar 2) xNil)))))
    (sSeq (sAsg [] (gNm 4) (xMeth 18 (C 350) (xVar 3) xNil))
    (sSeq (sExp [] (xMeth 18 (C 362) (xVar 3) (xCons (xTup (xCons (xC k_END) xNil)) xNil)))
    (sRet false [] (xVar 4)))))
def b_reducing_is_needless (fuel : Nat) (C : Nat → List D → Rs → Out D) : Sx :=
    (sSeq (sAsg [] (gNm 2) (xIx (xVar 0) (xVar 1)))
    (sSeq (sIfF [] (xTr (xCall (C 153) (xCons (xVar 2) xNil))) (sRet false [] (xC (.bl true))) sNext)
    (sSeq (sFor [] (xRng1 (xCons (xCB cLen (xCons (xVar 0) xNil)) xNil)) (gNm 3) (sIfF [] (xAnd (xB (xOp dNe (xVar 3) (xVar 1))) (xB (xOp dIsNot (xCall (C 307) (xCons (xIx (xVar 0) (xVar 3)) (xCons (xVar 2) xNil))) (xC .non)))) (sIfF [] (xOr (xB (xOp dLt (xVar 3) (xVar 1))) (xB (xOp dIs (xCall (C 307) (xCons (xVar 2) (xCons (xIx (xVar 0) (xVar 3)) xNil))) (xC .non)))) (sRet false [] (xC (.bl true))) sNext) sNext))
    (sRet false [] (xC (.bl false))))))
def b_reducing_needed_clauses (fuel : Nat) (C : Nat → List D → Rs → Out D) : Sx :=
    (sRetN [] (xLc (xRng1 (xCons (xCB cLen (xCons (xVar 0) xNil)) xNil)) (gNm 1) (xNot (xTr (xCall (C 354) (xCons (xVar 0) (xCons (xVar 1) xNil))))) (xVar 1) [1]))
def b_rewriting_literal_true_by (fuel : Nat) (C : Nat → List D → Rs → Out D) : Sx :=
    (sRet false [] (xOp dEq (xOp dEq (xCall (C 357) (xCons (xVar 0) (xCons (xIx (xVar 1) (xC (.int 1))) xNil))) (xCall (C 357) (xCons (xVar 0) (xCons (xIx (xVar 1) (xC (.int 2))) xNil)))) (xIx (xVar 1) (xC (.int 0)))))
def b_rewriting_normal (fuel : Nat) (C : Nat → List D → Rs → Out D) : Sx :=
    (sSeq (sAsg [] (gNm 1) (xOp dAdd (xTup (xCons (xIx (xVar 1) (xC (.int 0))) xNil)) (xCB cTuple (xCons (xL (xLc (xItems (xSl (xVar 1) (xPart (xC (.int 1))) xNoP)) (gNm 2) xYes (xCall (C 357) (xCons (xVar 0) (xCons (xVar 2) xNil))) [2])) xNil))))
    (sSeq (sFor [] (xItems (xVar 0)) (gTp 2 (gCons' (gNm 3) (gCons' (gNm 4) gNil'))) (sIfF [] (xB (xOp dEq (xVar 3) (xVar 1))) (sRet false [] (xCall (C 357) (xCons (xVar 0) (xCons (xVar 4) xNil)))) sNext))
    (sRet false [] (xVar 1))))
def b_rewriting_true_by (fuel : Nat) (C : Nat → List D → Rs → Out D) : Sx :=
    (sSeq (sFor [] (xItems (xVar 1)) (gNm 2) (sIfF [] (xTr (xCall (C 356) (xCons (xVar 0) (xCons (xVar 2) xNil)))) (sRet false [] (xC (.bl true))) sNext))
    (sRet false [] (xC (.bl false))))
def b_scanning_Words___init__ (fuel : Nat) (C : Nat → List D → Rs → Out D) : Sx :=
    (sSeq (sSetF [] 17 0 (xVar 0) (xVar 1))
    (sSetF [] 17 1 (xVar 0) (xC (.int 0))))
def b_scanning_Words_present (fuel : Nat) (C : Nat → List D → Rs → Out D) : Sx :=
    (sRet false [] (xIx (xIx (xFld 17 0 (xVar 0)) (xFld 17 1 (xVar 0))) (xC (.int 0))))
def b_scanning_is_name_sign (fuel : Nat) (C : Nat → List D → Rs → Out D) : Sx :=
    (sRet false [] (xOrV (xOp dIn (xVar 0) (xC k_SMALL)) (xOrV (xOp dIn (xVar 0) (xC k_CAPITAL)) (xOp dIn (xVar 0) (xC k_DIGITS)))))
def b_scanning_is_name_sign_v1 (fuel : Nat) (C : Nat → List D → Rs → Out D) : Sx :=
    (sRet false [] (xOrV (xOp dIn (xVar 0) (xC k_SMALL)) (xOrV (xOp dIn (xVar 0) (xC k_CAPITAL)) (xOp dIn (xVar 0) (xC k_DIGITS_names)))))
def b_scanning_line_words (fuel : Nat) (C : Nat → List D → Rs → Out D) : Sx :=
    (sSeq (sAsgN [2] 2 (xLst' xNil))
    (sSeq (sAsg [2] (gNm 3) (xC (.int 0)))
    (sSeq (whileGoF [2] (xB (xOp dLt (xVar 3) (xCB cLen (xCons (xVar 0) xNil)))) (sSeq (sAsg [2] (gNm 4) (xCall (C 367) (xCons (xVar 0) (xCons (xVar 3) xNil))))
    (sIfF [2] (xB (xOp dGt (xVar 4) (xVar 3))) (sSeq (isOwnL 2 (sApp [2] 2 (xCons (xTup (xCons (xSl (xVar 0) (xPart (xVar 3)) (xPart (xVar 4))) (xCons (xVar 1) (xCons (xOp dAdd (xVar 3) (xC (.int 1))) xNil)))) xNil)))
    (sAsg [2] (gNm 3) (xVar 4))) (sIfF [2] (xB (xOp dEq (xIx (xVar 0) (xVar 3)) (xC (.str " ")))) (sAug 3 (fun i j => i + j) (xC (.int 1))) (sSeq (isOwnL 2 (sApp [2] 2 (xCons (xTup (xCons (xC k_FAULT) (xCons (xVar 1) (xCons (xOp dAdd (xVar 3) (xC (.int 1))) xNil)))) xNil)))
    (sRetO 2))))) fuel)
    (sSeq (isOwnL 2 (sApp [2] 2 (xCons (xTup (xCons (xC k_END) (xCons (xVar 1) (xCons (xOp dAdd (xCB cLen (xCons (xVar 0) xNil)) (xC (.int 1))) xNil)))) xNil)))
    (sFrz 2
    (sRet false [] (xVar 2)))))))
def b_scanning_word_end (fuel : Nat) (C : Nat → List D → Rs → Out D) : Sx :=
    (sSeq (sAsg [] (gNm 2) (xVar 1))
    (sSeq (whileGoF [] (xAnd (xB (xOp dLt (xVar 2) (xCB cLen (xCons (xVar 0) xNil)))) (xTr (xCall (C 363) (xCons (xIx (xVar 0) (xVar 2)) xNil)))) (sAug 2 (fun i j => i + j) (xC (.int 1))) fuel)
    (sSeq (sIfF [] (xB (xOp dGt (xVar 2) (xVar 1))) (sRet false [] (xVar 2)) sNext)
    (sSeq (sIfF [] (xB (xOp dIn (xIx (xVar 0) (xVar 1)) (xC k_MARKS))) (sRet false [] (xOp dAdd (xVar 1) (xC (.int 1)))) sNext)
    (sSeq (sIfF [] (xB (xOp dEq (xSl (xVar 0) (xPart (xVar 1)) (xPart (xOp dAdd (xVar 1) (xC (.int 2))))) (xC (.str "!=")))) (sRet false [] (xOp dAdd (xVar 1) (xC (.int 2)))) sNext)
    (sRet false [] (xVar 1)))))))
def b_sentences_atom_terms (fuel : Nat) (C : Nat → List D → Rs → Out D) : Sx :=
    (sSeq (sIfF [] (xB (xOp dEq (xIx (xVar 0) (xC (.int 0))) (xC (.str "holds")))) (sRet false [] (xSl (xIx (xVar 0) (xC (.int 1))) (xPart (xC (.int 1))) xNoP)) sNext)
    (sRet false [] (xSl (xVar 0) (xPart (xC (.int 1))) xNoP)))
def b_sentences_atoms_in (fuel : Nat) (C : Nat → List D → Rs → Out D) : Sx :=
    (sSeq (sIfF [1] (xB (xOp dIn (xIx (xVar 0) (xC (.int 0))) (xTup (xCons (xC (.str "holds")) (xCons (xC (.str "same")) xNil))))) (sRetN [1] (xLst' (xCons (xVar 0) xNil))) sNext)
    (sSeq (sAsgN [1] 1 (xLst' xNil))
    (sSeq (sFor [1] (xItems (xCall (C 371) (xCons (xVar 0) xNil))) (gNm 2) (isOwnL 1 (sExt [1] 1 (xCons (xCall (C 369) (xCons (xVar 2) xNil)) xNil))))
    (sFrz 1
    (sRet false [] (xVar 1))))))
def b_sentences_children (fuel : Nat) (C : Nat → List D → Rs → Out D) : Sx :=
    (sSeq (sIfF [] (xB (xOp dEq (xIx (xVar 0) (xC (.int 0))) (xC (.str "not")))) (sRet false [] (xTup (xCons (xIx (xVar 0) (xC (.int 1))) xNil))) sNext)
    (sSeq (sIfF [] (xB (xOp dIn (xIx (xVar 0) (xC (.int 0))) (xC k_PAIRS))) (sRet false [] (xTup (xCons (xIx (xVar 0) (xC (.int 1))) (xCons (xIx (xVar 0) (xC (.int 2))) xNil)))) sNext)
    (sSeq (sIfF [] (xB (xOp dIn (xIx (xVar 0) (xC (.int 0))) (xC k_BINDERS))) (sRet false [] (xTup (xCons (xIx (xVar 0) (xC (.int 2))) xNil))) sNext)
    (sRet false [] (xTup xNil)))))
def b_sentences_free_unknowns (fuel : Nat) (C : Nat → List D → Rs → Out D) : Sx :=
    (sSeq (sAsgN [1] 1 (xLst' xNil))
    (sSeq (sIfF [1] (xB (xOp dIn (xIx (xVar 0) (xC (.int 0))) (xTup (xCons (xC (.str "holds")) (xCons (xC (.str "same")) xNil))))) (sSeq (sFor [1] (xItems (xCall (C 368) (xCons (xVar 0) xNil))) (gNm 2) (sFor [1] (xItems (xCall (C 433) (xCons (xVar 2) xNil))) (gNm 3) (sIf (xB (xOp dNotIn (xVar 3) (xVar 1))) (isOwnL 1 (sApp [1] 1 (xCons (xVar 3) xNil))) sNext)))
    (sRetO 1)) sNext)
    (sSeq (sFor [1] (xItems (xCall (C 371) (xCons (xVar 0) xNil))) (gNm 4) (sFor [1] (xItems (xCall (C 373) (xCons (xVar 4) xNil))) (gNm 3) (sIf (xAnd (xB (xOp dNotIn (xVar 3) (xVar 1))) (xNot (xAnd (xB (xOp dIn (xIx (xVar 0) (xC (.int 0))) (xC k_BINDERS))) (xB (xOp dEq (xVar 3) (xIx (xVar 0) (xC (.int 1)))))))) (isOwnL 1 (sApp [1] 1 (xCons (xVar 3) xNil))) sNext)))
    (sRetO 1))))
def b_sentences_replace_sentence_at (fuel : Nat) (C : Nat → List D → Rs → Out D) : Sx :=
    (sSeq (sIfF [3] (xNot (xTr (xVar 1))) (sRet false [3] (xVar 2)) sNext)
    (sSeq (sAsgN [3] 3 (xListN (xCons (xCall (C 371) (xCons (xVar 0) xNil)) xNil)))
    (sSeq (sIf (xNot (xCh dLe dLt (xC (.int 0)) (xIx (xVar 1) (xC (.int 0))) (xCB cLen (xCons (xVar 3) xNil)))) (sRaise 6) sNext)
    (sSeq (isOwnL 3 (sSetOI 3 (xIx (xVar 1) (xC (.int 0))) (xCall (C 375) (xCons (xIx (xVar 3) (xIx (xVar 1) (xC (.int 0)))) (xCons (xSl (xVar 1) (xPart (xC (.int 1))) xNoP) (xCons (xVar 2) xNil))))))
    (sFrz 3
    (sRet false [] (xCall (C 378) (xCons (xVar 0) (xCons (xVar 3) xNil)))))))))
def b_sentences_sentence_at (fuel : Nat) (C : Nat → List D → Rs → Out D) : Sx :=
    (sSeq (sFor [] (xItems (xVar 1)) (gNm 2) (sSeq (sAsg [] (gNm 3) (xCall (C 371) (xCons (xVar 0) xNil)))
    (sSeq (sIfF [] (xNot (xCh dLe dLt (xC (.int 0)) (xVar 2) (xCB cLen (xCons (xVar 3) xNil)))) (sRaise 6) sNext)
    (sAsg [] (gNm 0) (xIx (xVar 3) (xVar 2))))))
    (sRet false [] (xVar 0)))
def b_sentences_sentence_places (fuel : Nat) (C : Nat → List D → Rs → Out D) : Sx :=
    (sSeq (sAsgN [1] 1 (xLst' (xCons (xTup xNil) xNil)))
    (sSeq (sAsg [1] (gNm 2) (xCall (C 371) (xCons (xVar 0) xNil)))
    (sSeq (sFor [1] (xRng1 (xCons (xCB cLen (xCons (xVar 2) xNil)) xNil)) (gNm 3) (sFor [1] (xItems (xCall (C 377) (xCons (xIx (xVar 2) (xVar 3)) xNil))) (gNm 4) (isOwnL 1 (sApp [1] 1 (xCons (xOp dAdd (xTup (xCons (xVar 3) xNil)) (xVar 4)) xNil)))))
    (sFrz 1
    (sRet false [] (xVar 1))))))
def b_sentences_with_children (fuel : Nat) (C : Nat → List D → Rs → Out D) : Sx :=
    (sSeq (sIfF [] (xB (xOp dIn (xIx (xVar 0) (xC (.int 0))) (xC k_BINDERS))) (sRet false [] (xTup (xCons (xIx (xVar 0) (xC (.int 0))) (xCons (xIx (xVar 0) (xC (.int 1))) (xCons (xIx (xVar 1) (xC (.int 0))) xNil))))) sNext)
    (sSeq (sIfF [] (xOr (xB (xOp dEq (xIx (xVar 0) (xC (.int 0))) (xC (.str "not")))) (xB (xOp dIn (xIx (xVar 0) (xC (.int 0))) (xC k_PAIRS)))) (sRet false [] (xOp dAdd (xTup (xCons (xIx (xVar 0) (xC (.int 0))) xNil)) (xCB cTuple (xCons (xVar 1) xNil)))) sNext)
    (sRet false [] (xVar 0))))
def b_shaping_can_narrow (fuel : Nat) (C : Nat → List D → Rs → Out D) : Sx :=
    (sRet false [] (xOp dIsNot (xCall (C 384) (xCons (xVar 0) xNil)) (xC .non)))
def b_shaping_can_unfold (fuel : Nat) (C : Nat → List D → Rs → Out D) : Sx :=
    (sSeq (sIfF [] (xB (xOp dEq (xIx (xVar 0) (xC (.int 0))) (xC (.str "not")))) (sRet false [] (xOp dNotIn (xIx (xIx (xVar 0) (xC (.int 1))) (xC (.int 0))) (xC k_BASIC))) sNext)
    (sRet false [] (xOp dIn (xIx (xVar 0) (xC (.int 0))) (xC k_UNFOLDED))))
def b_shaping_changed_part (fuel : Nat) (C : Nat → List D → Rs → Out D) : Sx :=
    (sSeq (sIfF [] (xB (xOp dIn (xVar 0) (xC k_UNFOLDED))) (sRet false [] (xIf (xB (xOp dEq (xIx (xVar 1) (xC (.int 0))) (xVar 0))) (xCall (C 391) (xCons (xVar 1) xNil)) (xC .non))) sNext)
    (sSeq (sIfF [] (xB (xOp dEq (xVar 0) (xC (.str "narrow")))) (sRet false [] (xCall (C 384) (xCons (xVar 1) xNil))) sNext)
    (sSeq (sIfF [] (xB (xOp dEq (xVar 0) (xC (.str "apart")))) (sRet false [] (xCall (C 388) (xCons (xVar 1) (xCons (xVar 2) xNil)))) sNext)
    (sSeq (sIfF [] (xB (xOp dEq (xVar 0) (xC (.str "choose")))) (sRet false [] (xCall (C 382) (xCons (xVar 1) (xCons (xVar 2) xNil)))) sNext)
    (sRet false [] (xC .non))))))
def b_shaping_chosen_body (fuel : Nat) (C : Nat → List D → Rs → Out D) : Sx :=
    (sSeq (sIfF [] (xOr (xB (xOp dNe (xIx (xVar 0) (xC (.int 0))) (xC (.str "some")))) (xNot (xTr (xCall (C 313) (xCons (xVar 1) xNil))))) (sRet false [] (xC .non)) sNext)
    (sSeq (sAsg [] (gNm 2) (xCall (C 373) (xCons (xVar 0) xNil)))
    (sSeq (sAsg [] (gNm 3) (xCall (C 370) (xCons (xIx (xVar 0) (xC (.int 2))) xNil)))
    (sSeq (sIfF [] (xOr (xB (xOp dGt (xCB cLen (xCons (xVar 2) xNil)) (xC k_MOST_ARGUMENTS))) (xTr (xL (xLc (xItems (xOp dAdd (xLst (xCons (xIx (xVar 0) (xC (.int 1))) xNil)) (xVar 2))) (gNm 4) (xB (xOp dIn (xVar 4) (xVar 3))) (xVar 4) [4])))) (sRet false [] (xC .non)) sNext)
    (sRet false [] (xCall (C 372) (xCons (xIx (xVar 0) (xC (.int 2))) (xCons (xD (xDisp [((xIx (xVar 0) (xC (.int 1))), (xOp dAdd (xTup (xCons (xVar 1) xNil)) (xCB cTuple (xCons (xVar 2) xNil))))])) xNil))))))))
def b_shaping_narrowed (fuel : Nat) (C : Nat → List D → Rs → Out D) : Sx :=
    (sSeq (sIfF [] (xB (xOp dNotIn (xIx (xVar 0) (xC (.int 0))) (xC k_BINDERS))) (sRet false [] (xC .non)) sNext)
    (sSeq (sAsg [] (gTp 3 (gCons' (gNm 1) (gCons' (gNm 2) (gCons' (gNm 3) gNil')))) (xVar 0))
    (sSeq (sIfF [] (xB (xOp dNotIn (xVar 2) (xCall (C 373) (xCons (xVar 3) xNil)))) (sRet false [] (xVar 3)) sNext)
    (sSeq (sIfF [] (xB (xOp dNotIn (xIx (xVar 3) (xC (.int 0))) (xTup (xCons (xC (.str "and")) (xCons (xC (.str "or")) xNil))))) (sRet false [] (xC .non)) sNext)
    (sSeq (sAsg [] (gTp 3 (gCons' (gNm 4) (gCons' (gNm 5) (gCons' (gNm 6) gNil')))) (xVar 3))
    (sSeq (sIfF [] (xAnd (xB (xOp dEq (xVar 1) (xC (.str "all")))) (xB (xOp dEq (xVar 4) (xC (.str "and"))))) (sRet false [] (xTup (xCons (xC (.str "and")) (xCons (xTup (xCons (xC (.str "all")) (xCons (xVar 2) (xCons (xVar 5) xNil)))) (xCons (xTup (xCons (xC (.str "all")) (xCons (xVar 2) (xCons (xVar 6) xNil)))) xNil))))) sNext)
    (sSeq (sIfF [] (xB (xOp dNotIn (xVar 2) (xCall (C 373) (xCons (xVar 5) xNil)))) (sRet false [] (xTup (xCons (xVar 4) (xCons (xVar 5) (xCons (xTup (xCons (xVar 1) (xCons (xVar 2) (xCons (xVar 6) xNil)))) xNil))))) sNext)
    (sSeq (sIfF [] (xB (xOp dNotIn (xVar 2) (xCall (C 373) (xCons (xVar 6) xNil)))) (sRet false [] (xTup (xCons (xVar 4) (xCons (xTup (xCons (xVar 1) (xCons (xVar 2) (xCons (xVar 5) xNil)))) (xCons (xVar 6) xNil))))) sNext)
    (sRet false [] (xC .non))))))))))
def b_shaping_negation_form (fuel : Nat) (C : Nat → List D → Rs → Out D) : Sx :=
    (sRet false [] (xCall (C 389) (xCons (xVar 0) (xCons (xC (.bl true)) xNil))))
def b_shaping_renamed_binder (fuel : Nat) (C : Nat → List D → Rs → Out D) : Sx :=
    (sSeq (sIfF [] (xOr (xB (xOp dNotIn (xIx (xVar 0) (xC (.int 0))) (xC k_BINDERS))) (xNot (xTr (xCall (C 313) (xCons (xVar 1) xNil))))) (sRet false [] (xC .non)) sNext)
    (sSeq (sIfF [] (xOr (xB (xOp dIn (xVar 1) (xCall (C 370) (xCons (xVar 0) xNil)))) (xB (xOp dIn (xVar 1) (xCall (C 373) (xCons (xVar 0) xNil))))) (sRet false [] (xC .non)) sNext)
    (sRet false [] (xTup (xCons (xIx (xVar 0) (xC (.int 0))) (xCons (xVar 1) (xCons (xCall (C 372) (xCons (xIx (xVar 0) (xC (.int 2))) (xCons (xD (xDisp [((xIx (xVar 0) (xC (.int 1))), (xVar 1))])) xNil))) xNil)))))))
def b_shaping_signed_form (fuel : Nat) (C : Nat → List D → Rs → Out D) : Sx :=
    (sSeq (sAsg [] (gNm 2) (xIx (xVar 0) (xC (.int 0))))
    (sSeq (sIfF [] (xB (xOp dIn (xVar 2) (xC k_BASIC))) (sRet false [] (xIf (xTr (xVar 1)) (xVar 0) (xTup (xCons (xC (.str "not")) (xCons (xVar 0) xNil))))) sNext)
    (sSeq (sIfF [] (xB (xOp dEq (xVar 2) (xC (.str "not")))) (sRet false [] (xCall (C 389) (xCons (xIx (xVar 0) (xC (.int 1))) (xCons (xNotV (xVar 1)) xNil)))) sNext)
    (sSeq (sIfF [] (xB (xOp dIn (xVar 2) (xC k_BINDERS))) (sRet false [] (xTup (xCons (xIf (xTr (xVar 1)) (xVar 2) (xKD k_OTHER (xVar 2))) (xCons (xIx (xVar 0) (xC (.int 1))) (xCons (xCall (C 389) (xCons (xIx (xVar 0) (xC (.int 2))) (xCons (xVar 1) xNil))) xNil))))) sNext)
    (sSeq (sPar [] 3 4 (xCons (xIx (xVar 0) (xC (.int 1))) (xCons (xIx (xVar 0) (xC (.int 2))) xNil)))
    (sSeq (sIfF [] (xB (xOp dEq (xVar 2) (xC (.str "iff")))) (sSeq (sPar [] 5 6 (xCons (xTup (xCons (xC (.str "implies")) (xCons (xVar 3) (xCons (xVar 4) xNil)))) (xCons (xTup (xCons (xC (.str "implies")) (xCons (xVar 4) (xCons (xVar 3) xNil)))) xNil)))
    (sRet false [] (xTup (xCons (xIf (xTr (xVar 1)) (xC (.str "and")) (xC (.str "or"))) (xCons (xCall (C 389) (xCons (xVar 5) (xCons (xVar 1) xNil))) (xCons (xCall (C 389) (xCons (xVar 6) (xCons (xVar 1) xNil))) xNil)))))) sNext)
    (sSeq (sIfF [] (xB (xOp dEq (xVar 2) (xC (.str "implies")))) (sRet false [] (xTup (xCons (xIf (xTr (xVar 1)) (xC (.str "or")) (xC (.str "and"))) (xCons (xCall (C 389) (xCons (xVar 3) (xCons (xNotV (xVar 1)) xNil))) (xCons (xCall (C 389) (xCons (xVar 4) (xCons (xVar 1) xNil))) xNil))))) sNext)
    (sRet false [] (xTup (xCons (xIf (xTr (xVar 1)) (xVar 2) (xKD k_OTHER (xVar 2))) (xCons (xCall (C 389) (xCons (xVar 3) (xCons (xVar 1) xNil))) (xCons (xCall (C 389) (xCons (xVar 4) (xCons (xVar 1) xNil))) xNil))))))))))))
def b_shrinking_cut_world (fuel : Nat) (C : Nat → List D → Rs → Out D) : Sx :=
    (sSeq (sAsg [4] (gNm 2) (xD (xDc (xRng1 (xCons (xCB cLen (xCons (xVar 1) xNil)) xNil)) (gNm 3) xYes (xIx (xVar 1) (xVar 3)) (xVar 3) [3])))
    (sSeq (sAsgD [4] 4 xDNew)
    (sSeq (sFor [4] (xItems (xFld 13 0 (xFld 15 0 (xVar 0)))) (gTp 2 (gCons' (gNm 5) (gCons' (gNm 6) gNil'))) (isOwnD 4 (sDPut' [4] 4 (xVar 5) (xL (xLc (xItems (xCall (C 410) (xCons (xVar 1) (xCons (xVar 6) xNil)))) (gNm 7) xYes (xDGet2 (xVar 2) (xMeth 15 (C 489) (xVar 0) (xCons (xVar 5) (xCons (xVar 7) xNil))) (xC (.int 0))) [7])))))
    (sSeq (sFor [4] (xItems (xFld 13 1 (xFld 15 0 (xVar 0)))) (gTp 2 (gCons' (gNm 5) (gCons' (gNm 6) gNil'))) (isOwnD 4 (sDPut' [4] 4 (xVar 5) (xL (xLc (xItems (xCall (C 410) (xCons (xVar 1) (xCons (xVar 6) xNil)))) (gNm 7) xYes (xMeth 15 (C 486) (xVar 0) (xCons (xVar 5) (xCons (xVar 7) xNil))) [7])))))
    (sFrz 4
    (sRet false [] (xNewF 15 (C 483) (xCons (xFld 15 0 (xVar 0)) (xCons (xCB cLen (xCons (xVar 1) xNil)) (xCons (xVar 4) xNil))))))))))
def b_shrinking_shrink (fuel : Nat) (C : Nat → List D → Rs → Out D) : Sx :=
    (sSeq (sIfF [] (xB (xOp dNotIn (xVar 1) (xCall (C 278) (xCons (xVar 0) xNil)))) (sRaise 10) sNext)
    (sSeq (sIfF [] (xNot (xTr (xCall (C 476) (xCons (xVar 2) (xCons (xVar 0) xNil))))) (sRaise 8) sNext)
    (sSeq (sIfF [] (xB (xOp dEq (xVar 1) (xC (.str "prefix")))) (sRet false [] (xCall (C 392) (xCons (xVar 2) (xCons (xCall (C 394) (xCons (xVar 0) (xCons (xVar 2) xNil))) xNil)))) sNext)
    (sSeq (sIfF [] (xB (xOp dEq (xVar 1) (xC (.str "single")))) (sRet false [] (xCall (C 392) (xCons (xVar 2) (xCons (xCall (C 404) (xCons (xNewF 25 (C 397) (xCons (xVar 0) xNil)) (xCons (xVar 2) xNil))) xNil)))) sNext)
    (sSeq (sIfF [] (xB (xOp dEq (xVar 1) (xC (.str "linked")))) (sRet false [] (xCall (C 393) (xCons (xVar 2) (xCons (xCall (C 283) (xCons (xFld 13 1 (xFld 14 0 (xVar 0))) (xCons (xCall (C 282) (xCons (xVar 0) xNil)) (xCons (xC (.int 1)) xNil)))) xNil)))) sNext)
    (sRet false [] (xVar 2)))))))
def b_sorts_case_of (fuel : Nat) (C : Nat → List D → Rs → Out D) : Sx :=
    (sRet false [] (xCall (C 398) (xCons (xNewF 25 (C 397) (xCons (xVar 0) xNil)) (xCons (xVar 1) xNil))))
def b_sorts_case_size (fuel : Nat) (C : Nat → List D → Rs → Out D) : Sx :=
    (sRet false [] (xOp dAdd (xCB cLen (xCons (xIx (xVar 0) (xC (.int 2))) xNil)) (xCB cSum (xCons (xIx (xVar 0) (xC (.int 3))) xNil))))
def b_sorts_cases_of (fuel : Nat) (C : Nat → List D → Rs → Out D) : Sx :=
    (sRetN [] (xCallN (C 406) (xCons (xNewF 25 (C 397) (xCons (xVar 0) xNil)) xNil)))
def b_sorts_cell_count (fuel : Nat) (C : Nat → List D → Rs → Out D) : Sx :=
    (sSeq (sAsg [] (gNm 2) (xC (.int 1)))
    (sSeq (sFor [] (xRng1 (xCons (xVar 1) xNil)) (gNm 3) (sAsg [] (gNm 2) (xOp dMul (xVar 2) (xVar 0))))
    (sRet false [] (xVar 2))))
def b_sorts_has_digit (fuel : Nat) (C : Nat → List D → Rs → Out D) : Sx :=
    (sSeq (sFor [] (xRng1 (xCons (xVar 1) xNil)) (gNm 2) (sAsg [] (gNm 0) (xOp dDiv (xVar 0) (xC (.int 2)))))
    (sRet false [] (xOp dEq (xOp dMod (xCB cInt (xCons (xVar 0) xNil)) (xC (.int 2))) (xC (.int 1)))))
def b_sorts_rows_of (fuel : Nat) (C : Nat → List D → Rs → Out D) : Sx :=
    (sSeq (sAsg [] (gNm 2) (xLst (xCons (xTup xNil) xNil)))
    (sSeq (sFor [] (xRng1 (xCons (xVar 1) xNil)) (gNm 3) (sAsg [] (gNm 2) (xL (xLc2 (xItems (xVar 2)) (gNm 4) (xItems (xVar 0)) (gNm 5) xYes (xOp dAdd (xVar 4) (xTup (xCons (xVar 5) xNil))) [4, 5] [5]))))
    (sRet false [] (xVar 2))))
def b_sorts_small_world (fuel : Nat) (C : Nat → List D → Rs → Out D) : Sx :=
    (sRet false [] (xCall (C 414) (xCons (xNewF 25 (C 397) (xCons (xVar 0) xNil)) (xCons (xVar 1) xNil))))
def b_sorts_sort_of (fuel : Nat) (C : Nat → List D → Rs → Out D) : Sx :=
    (sSeq (sAsg [] (gNm 3) (xC (.int 0)))
    (sSeq (sFor [] (xItems (xVar 1)) (gNm 4) (sAsg [] (gNm 3) (xOp dAdd (xOp dMul (xC (.int 2)) (xVar 3)) (xIf (xTr (xMeth 15 (C 486) (xVar 0) (xCons (xVar 4) (xCons (xTup (xCons (xVar 2) xNil)) xNil)))) (xC (.int 1)) (xC (.int 0))))))
    (sRet false [] (xVar 3))))
def b_steps_drop_step (fuel : Nat) (C : Nat → List D → Rs → Out D) : Sx :=
    (sRet false [] (xCall (C 162) (xCons (xL (xLc (xItems (xVar 0)) (gNm 1) (xOr (xTr (xIx (xVar 1) (xC (.int 0)))) (xB (xOp dNe (xIx (xVar 1) (xC (.int 1))) (xIx (xVar 1) (xC (.int 2)))))) (xVar 1) [1])) xNil)))
def b_steps_either_step (fuel : Nat) (C : Nat → List D → Rs → Out D) : Sx :=
    (sSeq (sAsg [] (gNm 1) (xCall (C 163) (xCons (xIx (xVar 0) (xC (.int 0))) (xCons (xIx (xVar 0) (xC (.int 1))) (xCons (xIx (xVar 0) (xC (.int 2))) xNil)))))
    (sSeq (sIfF [] (xNot (xTr (xCall (C 159) (xCons (xVar 1) xNil)))) (sRaise 7) sNext)
    (sRet false [] (xCall (C 162) (xCons (xLst (xCons (xVar 1) (xCons (xCall (C 164) (xCons (xVar 1) xNil)) xNil))) xNil)))))
def b_steps_factor_step (fuel : Nat) (C : Nat → List D → Rs → Out D) : Sx :=
    (sSeq (sIfF [] (xB (xOp dEq (xVar 1) (xVar 3))) (sRaise 7) sNext)
    (sSeq (sAsg [] (gTp 2 (gCons' (gNm 5) (gCons' (gNm 6) gNil'))) (xCall (C 421) (xCons (xVar 0) (xCons (xVar 1) (xCons (xVar 2) xNil)))))
    (sSeq (sAsg [] (gTp 2 (gCons' (gNm 7) (gCons' (gNm 8) gNil'))) (xCall (C 421) (xCons (xVar 0) (xCons (xVar 3) (xCons (xVar 4) xNil)))))
    (sSeq (sIfF [] (xB (xOp dNe (xVar 5) (xVar 7))) (sRaise 7) sNext)
    (sRet false [] (xCall (C 162) (xCons (xOp dAdd (xCall (C 420) (xCons (xVar 0) (xCons (xVar 1) xNil))) (xLst (xCons (xCall (C 163) (xCons (xC (.bl false)) (xCons (xVar 6) (xCons (xVar 8) xNil)))) xNil))) xNil)))))))
def b_steps_fill_step (fuel : Nat) (C : Nat → List D → Rs → Out D) : Sx :=
    (sSeq (sAsgD [2] 2 xDNew)
    (sSeq (sFor [2] (xItems (xVar 1)) (gTp 2 (gCons' (gNm 3) (gCons' (gNm 4) gNil'))) (sSeq (sIf (xOr (xNot (xTr (xCall (C 426) (xCons (xVar 3) xNil)))) (xOr (xDIn (xVar 3) (xVar 2)) (xNot (xTr (xCall (C 425) (xCons (xVar 4) xNil)))))) (sRaise 7) sNext)
    (isOwnD 2 (sDPut' [2] 2 (xVar 3) (xVar 4)))))
    (sFrz 2
    (sRet false [] (xCall (C 156) (xCons (xVar 0) (xCons (xVar 2) xNil)))))))
def b_steps_literal_of (fuel : Nat) (C : Nat → List D → Rs → Out D) : Sx :=
    (sSeq (sIfF [] (xNot (xCh dLe dLt (xC (.int 0)) (xVar 1) (xCB cLen (xCons (xVar 0) xNil)))) (sRaise 7) sNext)
    (sRet false [] (xIx (xVar 0) (xVar 1))))
def b_steps_other_literals (fuel : Nat) (C : Nat → List D → Rs → Out D) : Sx :=
    (sRetN [] (xLc (xRng1 (xCons (xCB cLen (xCons (xVar 0) xNil)) xNil)) (gNm 2) (xB (xOp dNe (xVar 2) (xVar 1))) (xIx (xVar 0) (xVar 2)) [2]))
def b_steps_positive_sides (fuel : Nat) (C : Nat → List D → Rs → Out D) : Sx :=
    (sSeq (sAsg [] (gNm 3) (xCall (C 419) (xCons (xVar 0) (xCons (xVar 1) xNil))))
    (sSeq (sIfF [] (xOr (xNot (xTr (xIx (xVar 3) (xC (.int 0))))) (xOr (xB (xOp dNotIn (xVar 2) (xTup (xCons (xC (.int 0)) (xCons (xC (.int 1)) xNil))))) (xB (xOp dEq (xIx (xVar 3) (xOp dAdd (xC (.int 1)) (xVar 2))) (xC k_TOP))))) (sRaise 7) sNext)
    (sRet false [] (xTup (xCons (xIx (xVar 3) (xOp dAdd (xC (.int 1)) (xVar 2))) (xCons (xIx (xVar 3) (xOp dSub (xC (.int 2)) (xVar 2))) xNil))))))
def b_terms_fill_term (fuel : Nat) (C : Nat → List D → Rs → Out D) : Sx :=
    (sSeq (sIfF [] (xTr (xCall (C 426) (xCons (xVar 0) xNil))) (sRet false [] (xDGet2 (xVar 1) (xVar 0) (xVar 0))) sNext)
    (sRet false [] (xOp dAdd (xTup (xCons (xIx (xVar 0) (xC (.int 0))) xNil)) (xCB cTuple (xCons (xL (xLc (xItems (xSl (xVar 0) (xPart (xC (.int 1))) xNoP)) (gNm 2) xYes (xCall (C 423) (xCons (xVar 2) (xCons (xVar 1) xNil))) [2])) xNil)))))
def b_terms_is_atom (fuel : Nat) (C : Nat → List D → Rs → Out D) : Sx :=
    (sRet false [] (xAndV (xNotV (xCall (C 426) (xCons (xVar 0) xNil))) (xV (xCh dLe dLe (xC (.str "A")) (xSl (xIx (xVar 0) (xC (.int 0))) xNoP (xPart (xC (.int 1)))) (xC (.str "Z"))))))
def b_terms_is_plain (fuel : Nat) (C : Nat → List D → Rs → Out D) : Sx :=
    (sSeq (sIfF [] (xTr (xCall (C 426) (xCons (xVar 0) xNil))) (sRet false [] (xC (.bl true))) sNext)
    (sSeq (sIfF [] (xNot (xCh dLe dLe (xC (.str "a")) (xSl (xIx (xVar 0) (xC (.int 0))) xNoP (xPart (xC (.int 1)))) (xC (.str "z")))) (sRet false [] (xC (.bl false))) sNext)
    (sSeq (sFor [] (xItems (xSl (xVar 0) (xPart (xC (.int 1))) xNoP)) (gNm 1) (sIfF [] (xNot (xTr (xCall (C 425) (xCons (xVar 1) xNil)))) (sRet false [] (xC (.bl false))) sNext))
    (sRet false [] (xC (.bl true))))))
def b_terms_is_unknown (fuel : Nat) (C : Nat → List D → Rs → Out D) : Sx :=
    (sRet false [] (xCB cIsi (xCons (xVar 0) (xCons (xC (.ty "str")) xNil))))
def b_terms_part_at (fuel : Nat) (C : Nat → List D → Rs → Out D) : Sx :=
    (sSeq (sFor [] (xItems (xVar 1)) (gNm 2) (sSeq (sIfF [] (xOr (xTr (xCall (C 426) (xCons (xVar 0) xNil))) (xNot (xCh dLe dLt (xC (.int 0)) (xVar 2) (xOp dSub (xCB cLen (xCons (xVar 0) xNil)) (xC (.int 1)))))) (sRaise 6) sNext)
    (sAsg [] (gNm 0) (xIx (xVar 0) (xOp dAdd (xVar 2) (xC (.int 1)))))))
    (sRet false [] (xVar 0)))
def b_terms_parts_of (fuel : Nat) (C : Nat → List D → Rs → Out D) : Sx :=
    (sSeq (sAsgN [1] 1 (xLst' xNil))
    (sSeq (sFor [1] (xItems (xCall (C 429) (xCons (xVar 0) xNil))) (gNm 2) (sSeq (sAsg [1] (gNm 3) (xCall (C 427) (xCons (xVar 0) (xCons (xVar 2) xNil))))
    (sIf (xB (xOp dNotIn (xVar 3) (xVar 1))) (isOwnL 1 (sApp [1] 1 (xCons (xVar 3) xNil))) sNext)))
    (sFrz 1
    (sRet false [] (xVar 1)))))
def b_terms_places_of (fuel : Nat) (C : Nat → List D → Rs → Out D) : Sx :=
    (sSeq (sAsgN [1] 1 (xLst' (xCons (xTup xNil) xNil)))
    (sSeq (sIfF [1] (xNot (xTr (xCall (C 426) (xCons (xVar 0) xNil)))) (sFor [1] (xRng2 (xCons (xC (.int 1)) (xCons (xCB cLen (xCons (xVar 0) xNil)) xNil))) (gNm 2) (sFor [1] (xItems (xCall (C 429) (xCons (xIx (xVar 0) (xVar 2)) xNil))) (gNm 3) (isOwnL 1 (sApp [1] 1 (xCons (xOp dAdd (xTup (xCons (xOp dSub (xVar 2) (xC (.int 1))) xNil)) (xVar 3)) xNil))))) sNext)
    (sFrz 1
    (sRet false [] (xVar 1)))))
def b_terms_replace_at (fuel : Nat) (C : Nat → List D → Rs → Out D) : Sx :=
    (sSeq (sIfF [] (xNot (xTr (xVar 1))) (sRet false [] (xVar 2)) sNext)
    (sSeq (sAsg [] (gNm 3) (xIx (xVar 1) (xC (.int 0))))
    (sSeq (sIfF [] (xOr (xTr (xCall (C 426) (xCons (xVar 0) xNil))) (xNot (xCh dLe dLt (xC (.int 0)) (xVar 3) (xOp dSub (xCB cLen (xCons (xVar 0) xNil)) (xC (.int 1)))))) (sRaise 6) sNext)
    (sSeq (sAsg [] (gNm 4) (xCall (C 430) (xCons (xIx (xVar 0) (xOp dAdd (xVar 3) (xC (.int 1)))) (xCons (xSl (xVar 1) (xPart (xC (.int 1))) xNoP) (xCons (xVar 2) xNil)))))
    (sRet false [] (xOp dAdd (xOp dAdd (xSl (xVar 0) xNoP (xPart (xOp dAdd (xVar 3) (xC (.int 1))))) (xTup (xCons (xVar 4) xNil))) (xSl (xVar 0) (xPart (xOp dAdd (xVar 3) (xC (.int 2)))) xNoP)))))))
def b_terms_term_size (fuel : Nat) (C : Nat → List D → Rs → Out D) : Sx :=
    (sSeq (sIfF [] (xTr (xCall (C 426) (xCons (xVar 0) xNil))) (sRet false [] (xC (.int 1))) sNext)
    (sRet false [] (xOp dAdd (xC (.int 1)) (xCB cSum (xCons (xL (xLc (xItems (xSl (xVar 0) (xPart (xC (.int 1))) xNoP)) (gNm 1) xYes (xCall (C 431) (xCons (xVar 1) xNil)) [1])) xNil)))))
def b_terms_term_text (fuel : Nat) (C : Nat → List D → Rs → Out D) : Sx :=
    (sSeq (sIfF [] (xTr (xCall (C 426) (xCons (xVar 0) xNil))) (sRet false [] (xVar 0)) sNext)
    (sSeq (sIfF [] (xB (xOp dEq (xVar 0) (xC k_TOP))) (sRet false [] (xC (.str "true"))) sNext)
    (sSeq (sIfF [] (xB (xOp dEq (xCB cLen (xCons (xVar 0) xNil)) (xC (.int 1)))) (sRet false [] (xIx (xVar 0) (xC (.int 0)))) sNext)
    (sSeq (sAsg [] (gNm 1) (xJoin (xC (.str ", ")) (xCons (xL (xLc (xItems (xSl (xVar 0) (xPart (xC (.int 1))) xNoP)) (gNm 2) xYes (xCall (C 432) (xCons (xVar 2) xNil)) [2])) xNil)))
    (sRet false [] (xOp dAdd (xOp dAdd (xOp dAdd (xIx (xVar 0) (xC (.int 0))) (xC (.str "("))) (xVar 1)) (xC (.str ")"))))))))
def b_terms_unknowns_of (fuel : Nat) (C : Nat → List D → Rs → Out D) : Sx :=
    (sSeq (sIfF [1] (xTr (xCall (C 426) (xCons (xVar 0) xNil))) (sRetN [1] (xLst' (xCons (xVar 0) xNil))) sNext)
    (sSeq (sAsgN [1] 1 (xLst' xNil))
    (sSeq (sFor [1] (xItems (xSl (xVar 0) (xPart (xC (.int 1))) xNoP)) (gNm 2) (sFor [1] (xItems (xCall (C 433) (xCons (xVar 2) xNil))) (gNm 3) (sIf (xB (xOp dNotIn (xVar 3) (xVar 1))) (isOwnL 1 (sApp [1] 1 (xCons (xVar 3) xNil))) sNext)))
    (sFrz 1
    (sRet false [] (xVar 1))))))
def b_treelines_LineWriter_joined (fuel : Nat) (C : Nat → List D → Rs → Out D) : Sx :=
    (sSeq (sAsg [] (gNm 5) (xCall (C 164) (xCons (xVar 2) xNil)))
    (sSeq (sPar [] 6 7 (xCons (xMeth 31 (C 435) (xVar 0) (xCons (xVar 1) xNil)) (xCons (xMeth 31 (C 435) (xVar 0) (xCons (xVar 4) xNil)) xNil)))
    (sSeq (sIfF [] (xB (xOp dNotIn (xVar 5) (xVar 7))) (sRet false [] (xVar 4)) sNext)
    (sSeq (sPar [] 8 9 (xCons (xIndex (xVar 6) (xCons (xVar 2) xNil)) (xCons (xIndex (xVar 7) (xCons (xVar 5) xNil)) xNil)))
    (sSeq (sAsg [] (gNm 10) (xCall (C 422) (xCons (xVar 6) (xCons (xVar 8) (xCons (xVar 3) (xCons (xVar 7) (xCons (xVar 9) (xCons (xTup (xCons (xVar 3) xNil)) xNil))))))))
    (sRet false [] (xMeth 31 (C 441) (xVar 0) (xCons (xMeth 31 (C 437) (xVar 0) (xCons (xVar 10) (xCons (xTup (xCons (xC (.str "replace")) (xCons (xVar 1) (xCons (xVar 8) (xCons (xVar 3) (xCons (xVar 4) (xCons (xVar 9) (xCons (xTup (xCons (xVar 3) xNil)) xNil)))))))) xNil))) xNil))))))))
def b_treelines_LineWriter_row_of (fuel : Nat) (C : Nat → List D → Rs → Out D) : Sx :=
    (sSeq (sIfF [] (xB (xOp dEq (xIx (xVar 3) (xC (.int 0))) (xC (.str "false")))) (sRet false [] (xMeth 31 (C 439) (xVar 0) (xCons (xVar 1) (xCons (xVar 2) (xCons (xVar 3) xNil))))) sNext)
    (sSeq (sAsg [] (gNm 4) (xTup (xCons (xIx (xVar 3) (xC (.int 1))) (xCons (xIx (xVar 3) (xC (.int 2))) xNil))))
    (sSeq (sAsg [] (gNm 5) (xOp dAdd (xTup (xCons (xIx (xVar 3) (xC (.int 1))) xNil)) (xCB cTuple (xCons (xL (xLc (xItems (xIx (xVar 3) (xC (.int 2)))) (gNm 6) xYes (xIx (xVar 2) (xVar 6)) [6])) xNil))))
    (sSeq (sIfF [] (xTr (xCall (C 424) (xCons (xVar 5) xNil))) (sSeq (sAsg [] (gNm 7) (xMeth 31 (C 438) (xVar 0) (xCons (xMeth 20 (C 331) (xVar 1) (xCons (xVar 4) (xCons (xC (.bl false)) xNil))) (xCons (xVar 2) (xCons (xIx (xIx (xVar 3) (xC (.int 3))) (xC (.int 0))) xNil)))))
    (sSeq (sAsg [] (gNm 8) (xCall (C 163) (xCons (xC (.bl true)) (xCons (xVar 5) (xCons (xC k_TOP) xNil)))))
    (sSeq (sIfF [] (xB (xOp dIn (xVar 8) (xMeth 31 (C 435) (xVar 0) (xCons (xVar 7) xNil)))) (sSeq (sAsg [] (gNm 9) (xMeth 31 (C 438) (xVar 0) (xCons (xMeth 20 (C 331) (xVar 1) (xCons (xVar 4) (xCons (xC (.bl true)) xNil))) (xCons (xVar 2) (xCons (xIx (xIx (xVar 3) (xC (.int 3))) (xC (.int 1))) xNil)))))
    (sAsg [] (gNm 7) (xMeth 31 (C 436) (xVar 0) (xCons (xVar 7) (xCons (xVar 8) (xCons (xC (.int 0)) (xCons (xVar 9) xNil))))))) sNext)
    (sRet false [] (xVar 7))))) sNext)
    (sSeq (sAsg [] (gNm 7) (xMeth 31 (C 438) (xVar 0) (xCons (xMeth 20 (C 331) (xVar 1) (xCons (xVar 4) (xCons (xFld 20 1 (xVar 1)) xNil))) (xCons (xOp dAdd (xVar 2) (xLst (xCons (xVar 5) xNil))) (xCons (xIx (xIx (xVar 3) (xC (.int 3))) (xNeg (xC (.int 1)))) xNil)))))
    (sSeq (sFor [] (xRng1 (xCons (xFld 20 1 (xVar 1)) xNil)) (gNm 6) (sSeq (sAsg [] (gNm 8) (xCall (C 163) (xCons (xC (.bl true)) (xCons (xVar 5) (xCons (xIx (xVar 2) (xVar 6)) xNil)))))
    (sIfF [] (xB (xOp dIn (xVar 8) (xMeth 31 (C 435) (xVar 0) (xCons (xVar 7) xNil)))) (sSeq (sAsg [] (gNm 9) (xMeth 31 (C 438) (xVar 0) (xCons (xMeth 20 (C 331) (xVar 1) (xCons (xVar 4) (xCons (xVar 6) xNil))) (xCons (xVar 2) (xCons (xIx (xIx (xVar 3) (xC (.int 3))) (xVar 6)) xNil)))))
    (sAsg [] (gNm 7) (xMeth 31 (C 436) (xVar 0) (xCons (xVar 7) (xCons (xVar 8) (xCons (xIf (xB (xOp dEq (xIx (xVar 8) (xC (.int 1))) (xVar 5))) (xC (.int 0)) (xC (.int 1))) (xCons (xVar 9) xNil))))))) sNext)))
    (sRet false [] (xVar 7))))))))
def b_treelines_LineWriter_with_name (fuel : Nat) (C : Nat → List D → Rs → Out D) : Sx :=
    (sSeq (sAsg [] (gTp 4 (gCons' (gNm 3) (gCons' (gNm 4) (gCons' (gNm 5) (gCons' (gNm 6) gNil'))))) (xVar 2))
    (sSeq (sAsg [] (gNm 7) (xCall (C 163) (xCons (xC (.bl true)) (xCons (xVar 5) (xCons (xVar 6) xNil)))))
    (sSeq (sAsg [] (gNm 8) (xMeth 31 (C 437) (xVar 0) (xCons (xCall (C 416) (xCons (xVar 7) xNil)) (xCons (xTup (xCons (xC (.str "either")) (xCons (xVar 7) xNil))) xNil))))
    (sSeq (sAsg [] (gNm 9) (xMeth 31 (C 435) (xVar 0) (xCons (xVar 8) xNil)))
    (sSeq (sAsg [] (gNm 10) (xIndex (xVar 9) (xCons (xVar 7) xNil)))
    (sSeq (sAsg [] (gNm 11) (xIf (xB (xOp dEq (xIx (xVar 7) (xC (.int 1))) (xVar 5))) (xC (.int 0)) (xC (.int 1))))
    (sSeq (sAsg [] (gNm 12) (xCall (C 422) (xCons (xVar 9) (xCons (xVar 10) (xCons (xVar 11) (xCons (xMeth 31 (C 435) (xVar 0) (xCons (xVar 1) xNil)) (xCons (xVar 3) (xCons (xVar 4) xNil))))))))
    (sRet false [] (xMeth 31 (C 437) (xVar 0) (xCons (xVar 12) (xCons (xTup (xCons (xC (.str "replace")) (xCons (xVar 8) (xCons (xVar 10) (xCons (xVar 11) (xCons (xVar 1) (xCons (xVar 3) (xCons (xVar 4) xNil)))))))) xNil)))))))))))
def b_treelines_LineWriter_without_drops (fuel : Nat) (C : Nat → List D → Rs → Out D) : Sx :=
    (sSeq (sAsg [] (gNm 2) (xCall (C 415) (xCons (xMeth 31 (C 435) (xVar 0) (xCons (xVar 1) xNil)) xNil)))
    (sRet false [] (xIf (xB (xOp dEq (xVar 2) (xMeth 31 (C 435) (xVar 0) (xCons (xVar 1) xNil)))) (xVar 1) (xMeth 31 (C 437) (xVar 0) (xCons (xVar 2) (xCons (xTup (xCons (xC (.str "drop")) (xCons (xVar 1) xNil))) xNil))))))
def b_treelines_first_name (fuel : Nat) (C : Nat → List D → Rs → Out D) : Sx :=
    (sSeq (sAsg [3] (gNm 2) (xCall (C 332) (xCons (xVar 0) (xCons (xVar 1) xNil))))
    (sSeq (sIfF [3] (xB (xOp dIsNot (xVar 2) (xC .non))) (sRet false [3] (xTup (xCons (xVar 2) xNil))) sNext)
    (sSeq (sAsgN [3] 3 (xLc (xItems (xOp dAdd (xFld 13 0 (xVar 0)) (xFld 13 1 (xVar 0)))) (gTp 2 (gCons' (gNm 4) (gCons' (gNm 5) gNil'))) xYes (xVar 4) [4, 5]))
    (sSeq (sFor [3] (xItems (xVar 1)) (gNm 6) (isOwnL 3 (sExt [3] 3 (xCons (xCall (C 155) (xCons (xVar 6) xNil)) xNil))))
    (sFrz 3
    (sRet false [] (xCall (C 310) (xCons (xC (.str "u")) (xCons (xVar 3) xNil)))))))))
def b_treelines_first_spot (fuel : Nat) (C : Nat → List D → Rs → Out D) : Sx :=
    (sSeq (sFor [] (xRng1 (xCons (xCB cLen (xCons (xVar 2) xNil)) xNil)) (gNm 3) (sSeq (sAsg [] (gNm 4) (xIx (xVar 2) (xVar 3)))
    (sFor [] (xItems (xCall (C 160) (xCons (xVar 4) xNil))) (gNm 5) (sSeq (sAsg [] (gNm 6) (xCall (C 427) (xCons (xIx (xVar 4) (xOp dAdd (xC (.int 1)) (xIx (xVar 5) (xC (.int 0))))) (xCons (xSl (xVar 5) (xPart (xC (.int 1))) xNoP) xNil))))
    (sSeq (sAsg [] (gNm 7) (xCall (C 445) (xCons (xVar 0) (xCons (xVar 1) (xCons (xVar 6) xNil)))))
    (sSeq (sAsg [] (gNm 8) (xAndV (xNotV (xIx (xVar 4) (xC (.int 0)))) (xAndV (xOp dEq (xCB cLen (xCons (xVar 5) xNil)) (xC (.int 1))) (xOp dEq (xIx (xVar 4) (xOp dSub (xC (.int 2)) (xIx (xVar 5) (xC (.int 0))))) (xVar 7)))))
    (sIfF [] (xAnd (xB (xOp dIsNot (xVar 7) (xC .non))) (xNot (xTr (xVar 8)))) (sRet false [] (xTup (xCons (xVar 3) (xCons (xVar 5) (xCons (xVar 6) (xCons (xVar 7) xNil)))))) sNext)))))))
    (sRet false [] (xC .non)))
def b_treelines_name_of_value (fuel : Nat) (C : Nat → List D → Rs → Out D) : Sx :=
    (sSeq (sIfF [] (xOr (xTr (xCall (C 426) (xCons (xVar 2) xNil))) (xOr (xTr (xCall (C 424) (xCons (xVar 2) xNil))) (xOr (xB (xOp dEq (xVar 2) (xC k_TOP))) (xB (xOp dIn (xVar 2) (xVar 1)))))) (sRet false [] (xC .non)) sNext)
    (sSeq (sFor [] (xItems (xSl (xVar 2) (xPart (xC (.int 1))) xNoP)) (gNm 3) (sIfF [] (xB (xOp dNotIn (xVar 3) (xVar 1))) (sRet false [] (xC .non)) sNext))
    (sSeq (sAsg [] (gNm 4) (xCB cTuple (xCons (xL (xLc (xItems (xSl (xVar 2) (xPart (xC (.int 1))) xNoP)) (gNm 3) xYes (xIndex (xVar 1) (xCons (xVar 3) xNil)) [3])) xNil)))
    (sRet false [] (xIx (xVar 1) (xDGet (xFld 20 2 (xVar 0)) (xTup (xCons (xIx (xVar 2) (xC (.int 0))) (xCons (xVar 4) xNil)))))))))
def b_trees_cells_under (fuel : Nat) (C : Nat → List D → Rs → Out D) : Sx :=
    (sSeq (sIfF [3] (xOr (xTr (xCall (C 426) (xCons (xVar 1) xNil))) (xB (xOp dEq (xVar 1) (xC k_TOP)))) (sRetN [3] (xLst' xNil)) sNext)
    (sSeq (sAsgN [3] 3 (xLst' xNil))
    (sSeq (sFor [3] (xItems (xSl (xVar 1) (xPart (xC (.int 1))) xNoP)) (gNm 4) (isOwnL 3 (sExt [3] 3 (xCons (xCall (C 447) (xCons (xVar 0) (xCons (xVar 4) (xCons (xVar 2) xNil)))) xNil))))
    (sSeq (sAsg [3] (gNm 5) (xL (xLc (xItems (xSl (xVar 1) (xPart (xC (.int 1))) xNoP)) (gNm 4) xYes (xIx (xMeth 20 (C 329) (xVar 0) (xCons (xVar 4) (xCons (xVar 2) xNil))) (xC (.int 1))) [4])))
    (sFrz 3
    (sRet false [] (xOp dAdd (xVar 3) (xLst (xCons (xTup (xCons (xIx (xVar 1) (xC (.int 0))) (xCons (xCB cTuple (xCons (xVar 5) xNil)) xNil))) xNil)))))))))
def b_trees_cut_tree (fuel : Nat) (C : Nat → List D → Rs → Out D) : Sx :=
    (sRet false [] (xIx (xCall (C 449) (xCons (xNewF 20 (C 324) (xCons (xVar 0) (xCons (xVar 1) xNil))) (xCons (xVar 1) (xCons (xVar 2) xNil)))) (xC (.int 0))))
def b_trees_fault_below (fuel : Nat) (C : Nat → List D → Rs → Out D) : Sx :=
    (sSeq (sIfF [] (xB (xOp dEq (xIx (xVar 3) (xC (.int 0))) (xC (.str "false")))) (sRet false [] (xIf (xTr (xCall (C 454) (xCons (xVar 0) (xCons (xVar 1) (xCons (xVar 3) xNil))))) (xC .non) (xTup xNil))) sNext)
    (sSeq (sIfF [] (xB (xOp dNe (xIx (xVar 3) (xC (.int 0))) (xC (.str "cell")))) (sRet false [] (xTup xNil)) sNext)
    (sSeq (sAsg [] (gNm 4) (xTup (xCons (xIx (xVar 3) (xC (.int 1))) (xCons (xIx (xVar 3) (xC (.int 2))) xNil))))
    (sSeq (sIfF [] (xOr (xNot (xTr (xMeth 20 (C 326) (xVar 0) (xCons (xVar 4) xNil)))) (xB (xOp dNe (xCB cLen (xCons (xIx (xVar 3) (xC (.int 3))) xNil)) (xCB cLen (xCons (xMeth 20 (C 330) (xVar 0) (xCons (xVar 4) xNil)) xNil))))) (sRet false [] (xTup xNil)) sNext)
    (sSeq (sAsg [] (gNm 5) (xAndV (xOp dEq (xFld 20 1 (xVar 0)) (xVar 2)) (xNotV (xCall (C 312) (xCons (xIx (xVar 3) (xC (.int 1))) xNil)))))
    (sSeq (sFor [] (xRng1 (xCons (xCB cLen (xCons (xIx (xVar 3) (xC (.int 3))) xNil)) xNil)) (gNm 6) (sSeq (sAsg [] (gNm 7) (xIx (xIx (xVar 3) (xC (.int 3))) (xVar 6)))
    (sSeq (sIfF [] (xAnd (xTr (xVar 5)) (xB (xOp dEq (xVar 6) (xVar 2)))) (sAsg [] (gNm 8) (xIf (xB (xOp dEq (xIx (xVar 7) (xC (.int 0))) (xC (.str "beyond")))) (xC .non) (xTup xNil))) (sAsg [] (gNm 8) (xCall (C 451) (xCons (xMeth 20 (C 331) (xVar 0) (xCons (xVar 4) (xCons (xIx (xMeth 20 (C 330) (xVar 0) (xCons (xVar 4) xNil)) (xVar 6)) xNil))) (xCons (xVar 1) (xCons (xVar 2) (xCons (xVar 7) xNil)))))))
    (sIfF [] (xB (xOp dIsNot (xVar 8) (xC .non))) (sRet false [] (xOp dAdd (xTup (xCons (xVar 6) xNil)) (xVar 8))) sNext))))
    (sRet false [] (xC .non))))))))
def b_trees_first_fault (fuel : Nat) (C : Nat → List D → Rs → Out D) : Sx :=
    (sSeq (sIfF [] (xB (xOp dLt (xVar 2) (xC (.int 1)))) (sRet false [] (xTup xNil)) sNext)
    (sRet false [] (xCall (C 451) (xCons (xNewF 20 (C 324) (xCons (xVar 0) (xCons (xVar 1) xNil))) (xCons (xVar 1) (xCons (xVar 2) (xCons (xVar 3) xNil)))))))
def b_trees_judge_tree (fuel : Nat) (C : Nat → List D → Rs → Out D) : Sx :=
    (sSeq (sIfF [] (xB (xOp dIsNot (xCall (C 452) (xCons (xVar 0) (xCons (xVar 1) (xCons (xVar 2) (xCons (xVar 3) xNil))))) (xC .non))) (sRet false [] (xC (.str "wrong"))) sNext)
    (sRet false [] (xIf (xTr (xCall (C 453) (xCons (xVar 3) xNil))) (xC (.str "beyond")) (xC (.str "closed")))))
def b_treetext_TreeReader_next_is (fuel : Nat) (C : Nat → List D → Rs → Out D) : Sx :=
    (sRet false [] (xAndV (xOp dNe (xMeth 30 (C 461) (xVar 0) xNil) (xC (.str ""))) (xOp dIn (xMeth 30 (C 461) (xVar 0) xNil) (xVar 1))))
def b_treetext_TreeReader_take_depth (fuel : Nat) (C : Nat → List D → Rs → Out D) : Sx :=
    (sSeq (sAsg [] (gNm 2) (xC (.int 0)))
    (sSeq (whileGoF [] (xAnd (xB (xOp dLt (xVar 2) (xVar 1))) (xTr (xMeth 30 (C 460) (xVar 0) (xCons (xC (.str " ")) xNil)))) (sSeq (sExp [] (xMeth 30 (C 462) (xVar 0) (xCons (xC (.str "  ")) xNil)))
    (sAug 2 (fun i j => i + j) (xC (.int 1)))) fuel)
    (sSeq (sIfF [] (xOr (xB (xOp dEq (xVar 2) (xC (.int 0)))) (xTr (xMeth 30 (C 460) (xVar 0) (xCons (xC (.str " ")) xNil)))) (sExp [] (xMeth 30 (C 459) (xVar 0) xNil)) sNext)
    (sRet false [] (xVar 2)))))
def b_treetext_TreeReader_take_node (fuel : Nat) (C : Nat → List D → Rs → Out D) : Sx :=
    (sSeq (sIfF [] (xTr (xMeth 30 (C 460) (xVar 0) (xCons (xC (.str "b")) xNil))) (sSeq (sExp [] (xMeth 30 (C 462) (xVar 0) (xCons (xC (.str "beyond")) xNil)))
    (sAsg [] (gNm 1) (xTup (xCons (xC (.str "beyond")) xNil)))) (sIfF [] (xTr (xMeth 30 (C 460) (xVar 0) (xCons (xC (.str "f")) xNil))) (sSeq (sExp [] (xMeth 30 (C 462) (xVar 0) (xCons (xC (.str "false ")) xNil)))
    (sSeq (sAsg [] (gNm 2) (xMeth 30 (C 466) (xVar 0) xNil))
    (sAsg [] (gNm 1) (xTup (xCons (xC (.str "false")) (xCons (xVar 2) (xCons (xMeth 30 (C 467) (xVar 0) xNil) xNil))))))) (sSeq (sExp [] (xMeth 30 (C 462) (xVar 0) (xCons (xC (.str "cell ")) xNil)))
    (sSeq (sAsg [] (gNm 3) (xMeth 30 (C 464) (xVar 0) xNil))
    (sAsg [] (gNm 1) (xTup (xCons (xC (.str "cell")) (xCons (xVar 3) (xCons (xMeth 30 (C 467) (xVar 0) xNil) xNil)))))))))
    (sSeq (sIfF [] (xB (xOp dNotIn (xMeth 30 (C 461) (xVar 0) xNil) (xTup (xCons (xC (.str "")) (xCons (xC (.str "\n")) xNil))))) (sExp [] (xMeth 30 (C 459) (xVar 0) xNil)) sNext)
    (sRet false [] (xVar 1))))
def b_treetext_TreeReader_take_number (fuel : Nat) (C : Nat → List D → Rs → Out D) : Sx :=
    (sSeq (sAsg [] (gNm 1) (xOrV (xMeth 30 (C 468) (xVar 0) (xCons (xC (.str "0")) (xCons (xC (.int 1)) xNil))) (xMeth 30 (C 468) (xVar 0) (xCons (xC k_DIGITS) (xCons (xC k_MOST_DIGITS) xNil)))))
    (sSeq (sIfF [] (xB (xOp dEq (xVar 1) (xC (.str "")))) (sExp [] (xMeth 30 (C 459) (xVar 0) xNil)) sNext)
    (sRet false [] (xCB cInt (xCons (xVar 1) xNil)))))
def b_treetext_TreeReader_take_numbers (fuel : Nat) (C : Nat → List D → Rs → Out D) : Sx :=
    (sSeq (sAsgN [1] 1 (xLst' xNil))
    (sSeq (whileGoF [1] (xTr (xMeth 30 (C 460) (xVar 0) (xCons (xC (.str " ")) xNil))) (sSeq (sExp [1] (xMeth 30 (C 462) (xVar 0) (xCons (xC (.str " ")) xNil)))
    (isOwnL 1 (sApp [1] 1 (xCons (xMeth 30 (C 466) (xVar 0) xNil) xNil)))) fuel)
    (sFrz 1
    (sRet false [] (xCB cTuple (xCons (xVar 1) xNil))))))
def b_treetext_lines_below (fuel : Nat) (C : Nat → List D → Rs → Out D) : Sx :=
    (sSeq (sAsgN [2] 2 (xLst' (xCons (xOp dAdd (xVar 1) (xCall (C 471) (xCons (xVar 0) xNil))) xNil)))
    (sSeq (sIfF [2] (xB (xOp dEq (xIx (xVar 0) (xC (.int 0))) (xC (.str "cell")))) (sFor [2] (xItems (xIx (xVar 0) (xC (.int 3)))) (gNm 3) (isOwnL 2 (sExt [2] 2 (xCons (xCall (C 470) (xCons (xVar 3) (xCons (xOp dAdd (xVar 1) (xC (.str "  "))) xNil))) xNil)))) sNext)
    (sFrz 2
    (sRet false [] (xVar 2)))))
def b_treetext_node_text (fuel : Nat) (C : Nat → List D → Rs → Out D) : Sx :=
    (sSeq (sIfF [] (xB (xOp dEq (xIx (xVar 0) (xC (.int 0))) (xC (.str "beyond")))) (sRet false [] (xC (.str "beyond"))) sNext)
    (sRet false [] (xJoin (xC (.str " ")) (xCons (xOp dAdd (xLst (xCons (xIx (xVar 0) (xC (.int 0))) (xCons (xCB cStr (xCons (xIx (xVar 0) (xC (.int 1))) xNil)) xNil))) (xL (xLc (xItems (xIx (xVar 0) (xC (.int 2)))) (gNm 1) xYes (xCB cStr (xCons (xVar 1) xNil)) [1]))) xNil))))
def b_treetext_tree_text (fuel : Nat) (C : Nat → List D → Rs → Out D) : Sx :=
    (sRet false [] (xJoin (xC (.str "\n")) (xCons (xCall (C 470) (xCons (xVar 0) (xCons (xC (.str "")) xNil))) xNil)))
def b_truth_atom_true (fuel : Nat) (C : Nat → List D → Rs → Out D) : Sx :=
    (sRet false [] (xMeth 15 (C 486) (xVar 0) (xCons (xIx (xVar 1) (xC (.int 0))) (xCons (xL (xLc (xItems (xSl (xVar 1) (xPart (xC (.int 1))) xNoP)) (gNm 3) xYes (xCall (C 482) (xCons (xVar 0) (xCons (xVar 3) (xCons (xVar 2) xNil)))) [3])) xNil))))
def b_truth_binder_true (fuel : Nat) (C : Nat → List D → Rs → Out D) : Sx :=
    (sSeq (sAsg [6] (gTp 3 (gCons' (gNm 3) (gCons' (gNm 4) (gCons' (gNm 5) gNil')))) (xVar 1))
    (sSeq (sAsgD [6] 6 (xDCopy (xCons (xVar 2) xNil)))
    (sSeq (sFor [6] (xItems (xMeth 15 (C 488) (xVar 0) xNil)) (gNm 7) (sSeq (isOwnD 6 (sDPut' [6] 6 (xVar 4) (xVar 7)))
    (sIf (xB (xOp dEq (xCall (C 481) (xCons (xVar 0) (xCons (xVar 5) (xCons (xVar 6) xNil)))) (xOp dEq (xVar 3) (xC (.str "some"))))) (sRet false [6] (xOp dEq (xVar 3) (xC (.str "some")))) sNext)))
    (sRet false [6] (xOp dEq (xVar 3) (xC (.str "all")))))))
def b_truth_book_true (fuel : Nat) (C : Nat → List D → Rs → Out D) : Sx :=
    (sRet false [] (xCB cAll (xCons (xL (xLc (xItems (xFld 14 1 (xVar 1))) (gNm 2) xYes (xCallD (C 481) [.non] (xCons (xVar 0) (xCons (xVar 2) xNil))) [2])) xNil)))
def b_truth_clause_true (fuel : Nat) (C : Nat → List D → Rs → Out D) : Sx :=
    (sRet false [] (xOp dIs (xCall (C 479) (xCons (xVar 0) (xCons (xVar 1) xNil))) (xC .non)))
def b_truth_clauses_true (fuel : Nat) (C : Nat → List D → Rs → Out D) : Sx :=
    (sRet false [] (xCB cAll (xCons (xL (xLc (xItems (xVar 1)) (gNm 2) xYes (xCall (C 477) (xCons (xVar 0) (xCons (xVar 2) xNil))) [2])) xNil)))
def b_truth_literal_true (fuel : Nat) (C : Nat → List D → Rs → Out D) : Sx :=
    (sSeq (sAsg [] (gTp 3 (gCons' (gNm 3) (gCons' (gNm 4) (gCons' (gNm 5) gNil')))) (xVar 1))
    (sSeq (sIfF [] (xB (xOp dEq (xVar 5) (xC k_TOP))) (sRet false [] (xOp dEq (xOrV (xOp dEq (xVar 4) (xC k_TOP)) (xCall (C 474) (xCons (xVar 0) (xCons (xVar 4) (xCons (xVar 2) xNil))))) (xVar 3))) sNext)
    (sRet false [] (xOp dEq (xOp dEq (xCall (C 482) (xCons (xVar 0) (xCons (xVar 4) (xCons (xVar 2) xNil)))) (xCall (C 482) (xCons (xVar 0) (xCons (xVar 5) (xCons (xVar 2) xNil))))) (xVar 3)))))
def b_truth_sentence_true (fuel : Nat) (C : Nat → List D → Rs → Out D) : Sx :=
    (sSeq (sIfF [] (xB (xOp dIs (xVar 2) (xC .non))) (sAsg [] (gNm 2) (xD xDNew)) sNext)
    (sSeq (sAsg [] (gNm 3) (xIx (xVar 1) (xC (.int 0))))
    (sSeq (sIfF [] (xB (xOp dEq (xVar 3) (xC (.str "holds")))) (sRet false [] (xCall (C 474) (xCons (xVar 0) (xCons (xIx (xVar 1) (xC (.int 1))) (xCons (xVar 2) xNil))))) sNext)
    (sSeq (sIfF [] (xB (xOp dEq (xVar 3) (xC (.str "same")))) (sSeq (sAsg [] (gTp 2 (gCons' (gNm 4) (gCons' (gNm 5) gNil'))) (xCall (C 368) (xCons (xVar 1) xNil)))
    (sRet false [] (xOp dEq (xCall (C 482) (xCons (xVar 0) (xCons (xVar 4) (xCons (xVar 2) xNil)))) (xCall (C 482) (xCons (xVar 0) (xCons (xVar 5) (xCons (xVar 2) xNil))))))) sNext)
    (sSeq (sIfF [] (xB (xOp dEq (xVar 3) (xC (.str "not")))) (sRet false [] (xNotV (xCall (C 481) (xCons (xVar 0) (xCons (xIx (xVar 1) (xC (.int 1))) (xCons (xVar 2) xNil)))))) sNext)
    (sSeq (sIfF [] (xB (xOp dIn (xVar 3) (xC k_BINDERS))) (sRet false [] (xCall (C 475) (xCons (xVar 0) (xCons (xVar 1) (xCons (xVar 2) xNil))))) sNext)
    (sSeq (sAsg [] (gNm 6) (xCall (C 481) (xCons (xVar 0) (xCons (xIx (xVar 1) (xC (.int 1))) (xCons (xVar 2) xNil)))))
    (sSeq (sIfF [] (xAnd (xB (xOp dIn (xVar 3) (xTup (xCons (xC (.str "and")) (xCons (xC (.str "or")) xNil))))) (xB (xOp dEq (xVar 6) (xOp dEq (xVar 3) (xC (.str "or")))))) (sRet false [] (xVar 6)) sNext)
    (sSeq (sIfF [] (xAnd (xB (xOp dEq (xVar 3) (xC (.str "implies")))) (xNot (xTr (xVar 6)))) (sRet false [] (xC (.bl true))) sNext)
    (sSeq (sAsg [] (gNm 7) (xCall (C 481) (xCons (xVar 0) (xCons (xIx (xVar 1) (xC (.int 2))) (xCons (xVar 2) xNil)))))
    (sRet false [] (xIf (xB (xOp dEq (xVar 3) (xC (.str "iff")))) (xOp dEq (xVar 6) (xVar 7)) (xVar 7)))))))))))))
def b_truth_term_value (fuel : Nat) (C : Nat → List D → Rs → Out D) : Sx :=
    (sSeq (sIfF [] (xTr (xCall (C 426) (xCons (xVar 1) xNil))) (sRet false [] (xDGet (xVar 2) (xVar 1))) sNext)
    (sRet false [] (xMeth 15 (C 489) (xVar 0) (xCons (xIx (xVar 1) (xC (.int 0))) (xCons (xL (xLc (xItems (xSl (xVar 1) (xPart (xC (.int 1))) xNoP)) (gNm 3) xYes (xCall (C 482) (xCons (xVar 0) (xCons (xVar 3) (xCons (xVar 2) xNil)))) [3])) xNil)))))
def b_worlds_World___init__ (fuel : Nat) (C : Nat → List D → Rs → Out D) : Sx :=
    (sSeq (sIfF [] (xB (xOp dLt (xVar 2) (xC (.int 1)))) (sRaise 8) sNext)
    (sSeq (sSetF [] 15 0 (xVar 0) (xVar 1))
    (sSeq (sSetF [] 15 1 (xVar 0) (xVar 2))
    (sSeq (sSetF [] 15 2 (xVar 0) (xResD xDNew))
    (sSeq (sFor [] (xItems (xCall (C 491) (xCons (xVar 1) xNil))) (gTp 2 (gCons' (gNm 4) (gCons' (gNm 5) gNil'))) (sSeq (sIfF [] (xNot (xDIn (xVar 4) (xVar 3))) (sRaise 8) sNext)
    (sDSetR [] (xFld 15 2 (xVar 0)) (xVar 4) (xCall (C 492) (xCons (xVar 2) (xCons (xVar 4) (xCons (xVar 5) (xCons (xDGet (xVar 3) (xVar 4)) xNil))))))))
    (sIfF [] (xB (xOp dNe (xCB cLen (xCons (xVar 3) xNil)) (xCB cLen (xCons (xFld 15 2 (xVar 0)) xNil)))) (sRaise 8) sNext))))))
def b_worlds_World__entry (fuel : Nat) (C : Nat → List D → Rs → Out D) : Sx :=
    (sSeq (sIfF [] (xB (xOp dNe (xCB cLen (xCons (xVar 2) xNil)) (xMeth 13 (C 127) (xFld 15 0 (xVar 0)) (xCons (xVar 1) xNil)))) (sRaise 8) sNext)
    (sSeq (sFor [] (xItems (xVar 2)) (gNm 3) (sIfF [] (xNot (xCh dLe dLt (xC (.int 0)) (xVar 3) (xFld 15 1 (xVar 0)))) (sRaise 8) sNext))
    (sRet false [] (xIx (xDGet (xFld 15 2 (xVar 0)) (xVar 1)) (xCall (C 496) (xCons (xFld 15 1 (xVar 0)) (xCons (xVar 2) xNil)))))))
def b_worlds_World_holds (fuel : Nat) (C : Nat → List D → Rs → Out D) : Sx :=
    (sSeq (sIfF [] (xOr (xNot (xTr (xMeth 13 (C 132) (xFld 15 0 (xVar 0)) (xCons (xVar 1) xNil)))) (xTr (xCall (C 494) (xCons (xVar 1) xNil)))) (sRaise 3) sNext)
    (sRet false [] (xMeth 15 (C 484) (xVar 0) (xCons (xVar 1) (xCons (xVar 2) xNil)))))
def b_worlds_World_table (fuel : Nat) (C : Nat → List D → Rs → Out D) : Sx :=
    (sSeq (sIfF [] (xNot (xTr (xMeth 13 (C 132) (xFld 15 0 (xVar 0)) (xCons (xVar 1) xNil)))) (sRaise 3) sNext)
    (sRet false [] (xDGet (xFld 15 2 (xVar 0)) (xVar 1))))
def b_worlds_World_things (fuel : Nat) (C : Nat → List D → Rs → Out D) : Sx :=
    (sRet false [] (xCB cTuple (xCons (xCB cRng (xCons (xFld 15 1 (xVar 0)) xNil)) xNil)))
def b_worlds_World_value (fuel : Nat) (C : Nat → List D → Rs → Out D) : Sx :=
    (sSeq (sIfF [] (xOr (xNot (xTr (xMeth 13 (C 132) (xFld 15 0 (xVar 0)) (xCons (xVar 1) xNil)))) (xNot (xTr (xCall (C 494) (xCons (xVar 1) xNil))))) (sRaise 3) sNext)
    (sRet false [] (xMeth 15 (C 484) (xVar 0) (xCons (xVar 1) (xCons (xVar 2) xNil)))))
def b_worlds_World_with_table (fuel : Nat) (C : Nat → List D → Rs → Out D) : Sx :=
    (sSeq (sIfF [3] (xNot (xTr (xMeth 13 (C 132) (xFld 15 0 (xVar 0)) (xCons (xVar 1) xNil)))) (sRaise 3) sNext)
    (sSeq (sAsgD [3] 3 (xDCopy (xCons (xFld 15 2 (xVar 0)) xNil)))
    (sSeq (isOwnD 3 (sDPut' [3] 3 (xVar 1) (xVar 2)))
    (sFrz 3
    (sRet false [] (xNewF 15 (C 483) (xCons (xFld 15 0 (xVar 0)) (xCons (xFld 15 1 (xVar 0)) (xCons (xVar 3) xNil)))))))))
def b_worlds_all_names (fuel : Nat) (C : Nat → List D → Rs → Out D) : Sx :=
    (sRet false [] (xOp dAdd (xFld 13 0 (xVar 0)) (xFld 13 1 (xVar 0))))
def b_worlds_checked_entries (fuel : Nat) (C : Nat → List D → Rs → Out D) : Sx :=
    (sSeq (sIfF [] (xB (xOp dNe (xCB cLen (xCons (xVar 3) xNil)) (xCall (C 497) (xCons (xVar 0) (xCons (xVar 2) xNil))))) (sRaise 8) sNext)
    (sSeq (sIfF [] (xTr (xCall (C 494) (xCons (xVar 1) xNil))) (sFor [] (xItems (xVar 3)) (gNm 4) (sIfF [] (xNot (xCh dLe dLt (xC (.int 0)) (xVar 4) (xVar 0))) (sRaise 8) sNext)) sNext)
    (sRet false [] (xCB cTuple (xCons (xVar 3) xNil)))))
def b_worlds_is_function (fuel : Nat) (C : Nat → List D → Rs → Out D) : Sx :=
    (sRet false [] (xV (xCh dLe dLe (xC (.str "a")) (xIx (xVar 0) (xC (.int 0))) (xC (.str "z")))))
def b_worlds_row_index (fuel : Nat) (C : Nat → List D → Rs → Out D) : Sx :=
    (sSeq (sAsg [] (gNm 2) (xC (.int 0)))
    (sSeq (sFor [] (xItems (xVar 1)) (gNm 3) (sAsg [] (gNm 2) (xOp dAdd (xOp dMul (xVar 2) (xVar 0)) (xVar 3))))
    (sRet false [] (xVar 2))))
def b_worlds_table_length (fuel : Nat) (C : Nat → List D → Rs → Out D) : Sx :=
    (sSeq (sAsg [] (gNm 2) (xC (.int 1)))
    (sSeq (sFor [] (xRng1 (xCons (xVar 1) xNil)) (gNm 3) (sAsg [] (gNm 2) (xOp dMul (xVar 2) (xVar 0))))
    (sRet false [] (xVar 2))))
def b_worlds_things_rows (fuel : Nat) (C : Nat → List D → Rs → Out D) : Sx :=
    (sRetN [] (xLc (xRng1 (xCons (xCall (C 497) (xCons (xVar 0) (xCons (xVar 1) xNil))) xNil)) (gNm 2) xYes (xCall (C 495) (xCons (xVar 0) (xCons (xVar 1) (xCons (xVar 2) xNil)))) [2]))
def b_writing_ends_open (fuel : Nat) (C : Nat → List D → Rs → Out D) : Sx :=
    (sSeq (sIfF [] (xB (xOp dEq (xIx (xVar 0) (xC (.int 0))) (xC (.str "not")))) (sRet false [] (xCall (C 501) (xCons (xIx (xVar 0) (xC (.int 1))) xNil))) sNext)
    (sRet false [] (xOp dIn (xIx (xVar 0) (xC (.int 0))) (xC k_BINDERS))))
def b_writing_equation_text (fuel : Nat) (C : Nat → List D → Rs → Out D) : Sx :=
    (sRet false [] (xOp dAdd (xOp dAdd (xCall (C 432) (xCons (xIx (xVar 0) (xC (.int 1))) xNil)) (xVar 1)) (xCall (C 432) (xCons (xIx (xVar 0) (xC (.int 2))) xNil))))
def b_writing_sentence_text (fuel : Nat) (C : Nat → List D → Rs → Out D) : Sx :=
    (sSeq (sAsg [] (gNm 1) (xIx (xVar 0) (xC (.int 0))))
    (sSeq (sIfF [] (xB (xOp dEq (xVar 1) (xC (.str "holds")))) (sRet false [] (xCall (C 432) (xCons (xIx (xVar 0) (xC (.int 1))) xNil))) sNext)
    (sSeq (sIfF [] (xB (xOp dEq (xVar 1) (xC (.str "same")))) (sRet false [] (xCall (C 502) (xCons (xVar 0) (xCons (xC (.str " = ")) xNil)))) sNext)
    (sSeq (sIfF [] (xAnd (xB (xOp dEq (xVar 1) (xC (.str "not")))) (xB (xOp dEq (xIx (xIx (xVar 0) (xC (.int 1))) (xC (.int 0))) (xC (.str "same"))))) (sRet false [] (xCall (C 502) (xCons (xIx (xVar 0) (xC (.int 1))) (xCons (xC (.str " != ")) xNil)))) sNext)
    (sSeq (sIfF [] (xB (xOp dEq (xVar 1) (xC (.str "not")))) (sRet false [] (xOp dAdd (xC (.str "not ")) (xCall (C 503) (xCons (xIx (xVar 0) (xC (.int 1))) xNil)))) sNext)
    (sSeq (sIfF [] (xB (xOp dIn (xVar 1) (xC k_BINDERS))) (sRet false [] (xOp dAdd (xOp dAdd (xOp dAdd (xOp dAdd (xVar 1) (xC (.str " "))) (xIx (xVar 0) (xC (.int 1)))) (xC (.str ". "))) (xCall (C 503) (xCons (xIx (xVar 0) (xC (.int 2))) xNil)))) sNext)
    (sSeq (sAsg [] (gNm 2) (xCall (C 503) (xCons (xIx (xVar 0) (xC (.int 1))) xNil)))
    (sSeq (sIfF [] (xTr (xCall (C 501) (xCons (xIx (xVar 0) (xC (.int 1))) xNil))) (sAsg [] (gNm 2) (xOp dAdd (xOp dAdd (xC (.str "(")) (xVar 2)) (xC (.str ")")))) sNext)
    (sRet false [] (xOp dAdd (xOp dAdd (xOp dAdd (xOp dAdd (xOp dAdd (xOp dAdd (xC (.str "(")) (xVar 2)) (xC (.str " "))) (xVar 1)) (xC (.str " "))) (xCall (C 503) (xCons (xIx (xVar 0) (xC (.int 2))) xNil))) (xC (.str ")"))))))))))))
/-- the program, by the depth of its calls; LW: the law's own defs -/
def prP (fuel : Nat) (LW : (Nat → List D → Rs → Out D) → Nat → List D → Rs → Out D) : Nat → Nat → List D → Rs → Out D
  | 0, _ => fun _ _ => .bad
  | n + 1, i => match i with
    | 101 => runF 2 (b_answers_decided_clauses fuel (prP fuel LW n))
    | 102 => runF 2 (b_answers_decided_origins fuel (prP fuel LW n))
    | 103 => runF 2 (b_answers_is_world_of fuel (prP fuel LW n))
    | 105 => runF 6 (b_answers_shows_no_world fuel (prP fuel LW n))
    | 106 => runF 4 (b_answers_shows_none_smaller fuel (prP fuel LW n))
    | 122 => runF 4 (b_benches_replay fuel (prP fuel LW n))
    | 510 => runF 2 (b_books_Book_with_sentence_v1 fuel (prP fuel LW n))
    | 125 => runF 2 (b_books_Book_without fuel (prP fuel LW n))
    | 126 => runF 6 (b_books_Signature___init__ fuel (prP fuel LW n))
    | 127 => runF 2 (b_books_Signature_arity fuel (prP fuel LW n))
    | 511 => runF 6 (b_books_Signature_check_sentence_v1 fuel (prP fuel LW n))
    | 512 => runF 4 (b_books_Signature_check_term_v1 fuel (prP fuel LW n))
    | 513 => runF 3 (b_books_Signature_constants_v1 fuel (prP fuel LW n))
    | 514 => runF 2 (b_books_Signature_extended_v1 fuel (prP fuel LW n))
    | 132 => runF 2 (b_books_Signature_has fuel (prP fuel LW n))
    | 133 => runF 1 (b_casepapers_case_paper fuel (prP fuel LW n))
    | 134 => runF 2 (b_casepapers_cases_before_paper fuel (prP fuel LW n))
    | 135 => runF 4 (b_casepapers_first_false fuel (prP fuel LW n))
    | 136 => runF 7 (b_casepapers_judge_below fuel (prP fuel LW n))
    | 137 => runF 2 (b_casepapers_judge_cases fuel (prP fuel LW n))
    | 138 => runF 3 (b_casepapers_judge_cases_before fuel (prP fuel LW n))
    | 142 => runF 6 (b_choices_rows_of_things fuel (prP fuel LW n))
    | 143 => runF 7 (b_choices_with fuel (prP fuel LW n))
    | 144 => runF 5 (b_clauseorders_bag_of fuel (prP fuel LW n))
    | 146 => runF 7 (b_clauseorders_compare_clauses fuel (prP fuel LW n))
    | 147 => runF 7 (b_clauseorders_compare_literals fuel (prP fuel LW n))
    | 148 => runF 2 (b_clauseorders_compare_numbers fuel (prP fuel LW n))
    | 149 => runF 5 (b_clauseorders_descending fuel (prP fuel LW n))
    | 150 => runF 3 (b_clauseorders_greater_side fuel (prP fuel LW n))
    | 151 => runF 4 (b_clauseorders_greatest_index fuel (prP fuel LW n))
    | 153 => runF 2 (b_clauses_always_true fuel (prP fuel LW n))
    | 154 => runF 2 (b_clauses_clause_text fuel (prP fuel LW n))
    | 155 => runF 5 (b_clauses_clause_unknowns fuel (prP fuel LW n))
    | 156 => runF 3 (b_clauses_fill_clause fuel (prP fuel LW n))
    | 157 => runF 2 (b_clauses_fill_literal fuel (prP fuel LW n))
    | 158 => runF 1 (b_clauses_is_ground fuel (prP fuel LW n))
    | 159 => runF 1 (b_clauses_is_literal fuel (prP fuel LW n))
    | 160 => runF 3 (b_clauses_literal_places fuel (prP fuel LW n))
    | 161 => runF 4 (b_clauses_literal_text fuel (prP fuel LW n))
    | 162 => runF 4 (b_clauses_make_clause fuel (prP fuel LW n))
    | 163 => runF 3 (b_clauses_make_literal fuel (prP fuel LW n))
    | 164 => runF 1 (b_clauses_opposite fuel (prP fuel LW n))
    | 175 => runF 6 (b_deciders_rounds_enough fuel (prP fuel LW n))
    | 195 => runF 10 (b_fillings_closed_terms fuel (prP fuel LW n))
    | 197 => runF 4 (b_fillings_named_signature fuel (prP fuel LW n))
    | 198 => runF 4 (b_fillings_power fuel (prP fuel LW n))
    | 199 => runF 6 (b_fillings_rows_of fuel (prP fuel LW n))
    | 200 => runF 8 (b_forms_Form___init__ fuel (prP fuel LW n))
    | 203 => runF 5 (b_forms_Form__set_apart fuel (prP fuel LW n))
    | 206 => runF 7 (b_forms_Form__step fuel (prP fuel LW n))
    | 207 => runF 1 (b_forms_form_of fuel (prP fuel LW n))
    | 208 => runF 1 (b_forms_is_all fuel (prP fuel LW n))
    | 209 => runF 1 (b_forms_is_some fuel (prP fuel LW n))
    | 210 => runF 3 (b_forms_literal_of fuel (prP fuel LW n))
    | 211 => runF 5 (b_forms_literal_rows fuel (prP fuel LW n))
    | 212 => runF 5 (b_forms_names_in fuel (prP fuel LW n))
    | 216 => runF 6 (b_going_count_worlds fuel (prP fuel LW n))
    | 217 => runF 2 (b_going_entry_choices fuel (prP fuel LW n))
    | 219 => runF 5 (b_going_world_number fuel (prP fuel LW n))
    | 222 => runF 6 (b_groundworlds_rows_of_things fuel (prP fuel LW n))
    | 223 => runF 9 (b_groundworlds_rule_made fuel (prP fuel LW n))
    | 224 => runF 5 (b_groundworlds_rules_of fuel (prP fuel LW n))
    | 225 => runF 7 (b_groundworlds_table_of fuel (prP fuel LW n))
    | 226 => runF 12 (b_groundworlds_world_of fuel (prP fuel LW n))
    | 228 => runF 2 (b_growing_Branch_closed fuel (prP fuel LW n))
    | 229 => runF 7 (b_growing_Grower___init__ fuel (prP fuel LW n))
    | 234 => runF 5 (b_growing_Grower__read_new fuel (prP fuel LW n))
    | 235 => runF 1 (b_growing_Grower_has_ended fuel (prP fuel LW n))
    | 237 => runF 7 (b_growing_filled_world fuel (prP fuel LW n))
    | 240 => runF 7 (b_growing_most_nodes fuel (prP fuel LW n))
    | 241 => runF 4 (b_hearts_Heart___init__ fuel (prP fuel LW n))
    | 242 => runF 2 (b_hearts_Heart_add fuel (prP fuel LW n))
    | 243 => runF 1 (b_hearts_Heart_has_ended fuel (prP fuel LW n))
    | 244 => runF 3 (b_hearts_Heart_infer fuel (prP fuel LW n))
    | 245 => runF 9 (b_hearts_Heart_infer_join fuel (prP fuel LW n))
    | 525 => runF 1 (b_hearts_Heart_kept_clauses_v1 fuel (prP fuel LW n))
    | 248 => runF 5 (b_hearts_Heart_least_row fuel (prP fuel LW n))
    | 249 => runF 3 (b_hearts_Heart_put fuel (prP fuel LW n))
    | 252 => runF 6 (b_hearts_saturate fuel (prP fuel LW n))
    | 253 => runF 2 (b_inferring_can_drop fuel (prP fuel LW n))
    | 254 => runF 4 (b_inferring_covered fuel (prP fuel LW n))
    | 256 => runF 4 (b_inferring_first_place fuel (prP fuel LW n))
    | 257 => runF 4 (b_inferring_head_of fuel (prP fuel LW n))
    | 258 => runF 3 (b_inferring_holds_all fuel (prP fuel LW n))
    | 261 => runF 5 (b_inferring_join fuel (prP fuel LW n))
    | 262 => runF 8 (b_inferring_join_heads fuel (prP fuel LW n))
    | 263 => runF 3 (b_inferring_needless fuel (prP fuel LW n))
    | 264 => runF 5 (b_inferring_place_in_clause fuel (prP fuel LW n))
    | 265 => runF 7 (b_inferring_simpler fuel (prP fuel LW n))
    | 266 => runF 3 (b_inferring_simplify fuel (prP fuel LW n))
    | 267 => runF 5 (b_kinds_above_arity fuel (prP fuel LW n))
    | 269 => runF 2 (b_kinds_enough fuel (prP fuel LW n))
    | 270 => runF 3 (b_kinds_function_names fuel (prP fuel LW n))
    | 272 => runF 3 (b_kinds_has_some_in_all fuel (prP fuel LW n))
    | 274 => runF 3 (b_kinds_is_linked fuel (prP fuel LW n))
    | 275 => runF 2 (b_kinds_is_positive fuel (prP fuel LW n))
    | 276 => runF 3 (b_kinds_is_prefix fuel (prP fuel LW n))
    | 277 => runF 3 (b_kinds_is_single fuel (prP fuel LW n))
    | 278 => runF 3 (b_kinds_kinds_of fuel (prP fuel LW n))
    | 279 => runF 5 (b_kinds_listing fuel (prP fuel LW n))
    | 281 => runF 2 (b_kinds_many_some fuel (prP fuel LW n))
    | 282 => runF 8 (b_kinds_names_in fuel (prP fuel LW n))
    | 283 => runF 5 (b_kinds_of_arity fuel (prP fuel LW n))
    | 284 => runF 1 (b_kinds_or_parts fuel (prP fuel LW n))
    | 285 => runF 5 (b_kinds_size_for fuel (prP fuel LW n))
    | 286 => runF 3 (b_kinds_sort_count fuel (prP fuel LW n))
    | 287 => runF 4 (b_kinds_terms_in fuel (prP fuel LW n))
    | 289 => runF 2 (b_likeness_alike fuel (prP fuel LW n))
    | 290 => runF 6 (b_likeness_expanded fuel (prP fuel LW n))
    | 292 => runF 6 (b_likeness_orders_of fuel (prP fuel LW n))
    | 293 => runF 5 (b_likeness_reduct fuel (prP fuel LW n))
    | 294 => runF 11 (b_likeness_renamed fuel (prP fuel LW n))
    | 295 => runF 2 (b_likeness_same_signature fuel (prP fuel LW n))
    | 296 => runF 4 (b_lines_check_literal fuel (prP fuel LW n))
    | 300 => runF 3 (b_lines_judge fuel (prP fuel LW n))
    | 301 => runF 8 (b_lines_made_by fuel (prP fuel LW n))
    | 302 => runF 2 (b_lines_renumbered fuel (prP fuel LW n))
    | 303 => runF 1 (b_lines_sources fuel (prP fuel LW n))
    | 304 => runF 7 (b_matching_match_literal fuel (prP fuel LW n))
    | 307 => runF 2 (b_matching_subsumes fuel (prP fuel LW n))
    | 309 => runF 2 (b_matching_variants fuel (prP fuel LW n))
    | 310 => runF 3 (b_names_fresh_name fuel (prP fuel LW n))
    | 311 => runF 2 (b_names_has_name_signs fuel (prP fuel LW n))
    | 532 => runF 2 (b_names_has_name_signs_v1 fuel (prP fuel LW n))
    | 312 => runF 1 (b_names_is_capital_name fuel (prP fuel LW n))
    | 313 => runF 1 (b_names_is_small_name fuel (prP fuel LW n))
    | 315 => runF 3 (b_orders_Order_compare fuel (prP fuel LW n))
    | 316 => runF 6 (b_orders_Order_is_greater fuel (prP fuel LW n))
    | 320 => runF 3 (b_orders_occurrences fuel (prP fuel LW n))
    | 321 => runF 6 (b_orders_place_among fuel (prP fuel LW n))
    | 323 => runF 5 (b_orders_sorted_terms fuel (prP fuel LW n))
    | 324 => runF 4 (b_partial_Partial___init__ fuel (prP fuel LW n))
    | 326 => runF 5 (b_partial_Partial_is_free fuel (prP fuel LW n))
    | 327 => runF 7 (b_partial_Partial_read_clause fuel (prP fuel LW n))
    | 328 => runF 7 (b_partial_Partial_read_literal fuel (prP fuel LW n))
    | 329 => runF 8 (b_partial_Partial_read_term fuel (prP fuel LW n))
    | 330 => runF 2 (b_partial_Partial_ways fuel (prP fuel LW n))
    | 332 => runF 5 (b_partial_first_constant fuel (prP fuel LW n))
    | 334 => runF 6 (b_partial_rows_of_things fuel (prP fuel LW n))
    | 335 => runF 3 (b_partial_stands_in fuel (prP fuel LW n))
    | 337 => runF 6 (b_questions_independent fuel (prP fuel LW n))
    | 339 => runF 6 (b_questions_least_at_odds fuel (prP fuel LW n))
    | 340 => runF 3 (b_questions_part_of_book fuel (prP fuel LW n))
    | 343 => runF 4 (b_reading_Reader_take_arguments fuel (prP fuel LW n))
    | 539 => runF 3 (b_reading_Reader_take_equation_v1 fuel (prP fuel LW n))
    | 353 => runF 5 (b_reading_read_term fuel (prP fuel LW n))
    | 354 => runF 4 (b_reducing_is_needless fuel (prP fuel LW n))
    | 355 => runF 2 (b_reducing_needed_clauses fuel (prP fuel LW n))
    | 356 => runF 2 (b_rewriting_literal_true_by fuel (prP fuel LW n))
    | 357 => runF 5 (b_rewriting_normal fuel (prP fuel LW n))
    | 358 => runF 3 (b_rewriting_true_by fuel (prP fuel LW n))
    | 359 => runF 2 (b_scanning_Words___init__ fuel (prP fuel LW n))
    | 360 => runF 1 (b_scanning_Words_present fuel (prP fuel LW n))
    | 363 => runF 1 (b_scanning_is_name_sign fuel (prP fuel LW n))
    | 542 => runF 1 (b_scanning_is_name_sign_v1 fuel (prP fuel LW n))
    | 364 => runF 5 (b_scanning_line_words fuel (prP fuel LW n))
    | 367 => runF 3 (b_scanning_word_end fuel (prP fuel LW n))
    | 368 => runF 1 (b_sentences_atom_terms fuel (prP fuel LW n))
    | 369 => runF 3 (b_sentences_atoms_in fuel (prP fuel LW n))
    | 371 => runF 1 (b_sentences_children fuel (prP fuel LW n))
    | 373 => runF 5 (b_sentences_free_unknowns fuel (prP fuel LW n))
    | 375 => runF 4 (b_sentences_replace_sentence_at fuel (prP fuel LW n))
    | 376 => runF 4 (b_sentences_sentence_at fuel (prP fuel LW n))
    | 377 => runF 5 (b_sentences_sentence_places fuel (prP fuel LW n))
    | 378 => runF 2 (b_sentences_with_children fuel (prP fuel LW n))
    | 379 => runF 1 (b_shaping_can_narrow fuel (prP fuel LW n))
    | 380 => runF 1 (b_shaping_can_unfold fuel (prP fuel LW n))
    | 381 => runF 3 (b_shaping_changed_part fuel (prP fuel LW n))
    | 382 => runF 5 (b_shaping_chosen_body fuel (prP fuel LW n))
    | 384 => runF 7 (b_shaping_narrowed fuel (prP fuel LW n))
    | 386 => runF 1 (b_shaping_negation_form fuel (prP fuel LW n))
    | 388 => runF 2 (b_shaping_renamed_binder fuel (prP fuel LW n))
    | 389 => runF 7 (b_shaping_signed_form fuel (prP fuel LW n))
    | 392 => runF 8 (b_shrinking_cut_world fuel (prP fuel LW n))
    | 395 => runF 3 (b_shrinking_shrink fuel (prP fuel LW n))
    | 399 => runF 2 (b_sorts_case_of fuel (prP fuel LW n))
    | 400 => runF 1 (b_sorts_case_size fuel (prP fuel LW n))
    | 401 => runF 1 (b_sorts_cases_of fuel (prP fuel LW n))
    | 402 => runF 4 (b_sorts_cell_count fuel (prP fuel LW n))
    | 403 => runF 3 (b_sorts_has_digit fuel (prP fuel LW n))
    | 410 => runF 6 (b_sorts_rows_of fuel (prP fuel LW n))
    | 411 => runF 2 (b_sorts_small_world fuel (prP fuel LW n))
    | 413 => runF 5 (b_sorts_sort_of fuel (prP fuel LW n))
    | 415 => runF 2 (b_steps_drop_step fuel (prP fuel LW n))
    | 416 => runF 2 (b_steps_either_step fuel (prP fuel LW n))
    | 417 => runF 9 (b_steps_factor_step fuel (prP fuel LW n))
    | 418 => runF 5 (b_steps_fill_step fuel (prP fuel LW n))
    | 419 => runF 2 (b_steps_literal_of fuel (prP fuel LW n))
    | 420 => runF 3 (b_steps_other_literals fuel (prP fuel LW n))
    | 421 => runF 4 (b_steps_positive_sides fuel (prP fuel LW n))
    | 423 => runF 3 (b_terms_fill_term fuel (prP fuel LW n))
    | 424 => runF 1 (b_terms_is_atom fuel (prP fuel LW n))
    | 425 => runF 2 (b_terms_is_plain fuel (prP fuel LW n))
    | 426 => runF 1 (b_terms_is_unknown fuel (prP fuel LW n))
    | 427 => runF 3 (b_terms_part_at fuel (prP fuel LW n))
    | 428 => runF 4 (b_terms_parts_of fuel (prP fuel LW n))
    | 429 => runF 4 (b_terms_places_of fuel (prP fuel LW n))
    | 430 => runF 5 (b_terms_replace_at fuel (prP fuel LW n))
    | 431 => runF 2 (b_terms_term_size fuel (prP fuel LW n))
    | 432 => runF 3 (b_terms_term_text fuel (prP fuel LW n))
    | 433 => runF 4 (b_terms_unknowns_of fuel (prP fuel LW n))
    | 436 => runF 11 (b_treelines_LineWriter_joined fuel (prP fuel LW n))
    | 438 => runF 10 (b_treelines_LineWriter_row_of fuel (prP fuel LW n))
    | 440 => runF 13 (b_treelines_LineWriter_with_name fuel (prP fuel LW n))
    | 441 => runF 3 (b_treelines_LineWriter_without_drops fuel (prP fuel LW n))
    | 442 => runF 7 (b_treelines_first_name fuel (prP fuel LW n))
    | 443 => runF 9 (b_treelines_first_spot fuel (prP fuel LW n))
    | 445 => runF 5 (b_treelines_name_of_value fuel (prP fuel LW n))
    | 447 => runF 6 (b_trees_cells_under fuel (prP fuel LW n))
    | 450 => runF 3 (b_trees_cut_tree fuel (prP fuel LW n))
    | 451 => runF 9 (b_trees_fault_below fuel (prP fuel LW n))
    | 452 => runF 4 (b_trees_first_fault fuel (prP fuel LW n))
    | 455 => runF 4 (b_trees_judge_tree fuel (prP fuel LW n))
    | 460 => runF 2 (b_treetext_TreeReader_next_is fuel (prP fuel LW n))
    | 463 => runF 3 (b_treetext_TreeReader_take_depth fuel (prP fuel LW n))
    | 465 => runF 4 (b_treetext_TreeReader_take_node fuel (prP fuel LW n))
    | 466 => runF 2 (b_treetext_TreeReader_take_number fuel (prP fuel LW n))
    | 467 => runF 2 (b_treetext_TreeReader_take_numbers fuel (prP fuel LW n))
    | 470 => runF 4 (b_treetext_lines_below fuel (prP fuel LW n))
    | 471 => runF 2 (b_treetext_node_text fuel (prP fuel LW n))
    | 473 => runF 1 (b_treetext_tree_text fuel (prP fuel LW n))
    | 474 => runF 4 (b_truth_atom_true fuel (prP fuel LW n))
    | 475 => runF 8 (b_truth_binder_true fuel (prP fuel LW n))
    | 476 => runF 3 (b_truth_book_true fuel (prP fuel LW n))
    | 477 => runF 2 (b_truth_clause_true fuel (prP fuel LW n))
    | 478 => runF 3 (b_truth_clauses_true fuel (prP fuel LW n))
    | 480 => runF 6 (b_truth_literal_true fuel (prP fuel LW n))
    | 481 => runF 8 (b_truth_sentence_true fuel (prP fuel LW n))
    | 482 => runF 4 (b_truth_term_value fuel (prP fuel LW n))
    | 483 => runF 6 (b_worlds_World___init__ fuel (prP fuel LW n))
    | 484 => runF 4 (b_worlds_World__entry fuel (prP fuel LW n))
    | 486 => runF 3 (b_worlds_World_holds fuel (prP fuel LW n))
    | 487 => runF 2 (b_worlds_World_table fuel (prP fuel LW n))
    | 488 => runF 1 (b_worlds_World_things fuel (prP fuel LW n))
    | 489 => runF 3 (b_worlds_World_value fuel (prP fuel LW n))
    | 490 => runF 4 (b_worlds_World_with_table fuel (prP fuel LW n))
    | 491 => runF 1 (b_worlds_all_names fuel (prP fuel LW n))
    | 492 => runF 5 (b_worlds_checked_entries fuel (prP fuel LW n))
    | 494 => runF 1 (b_worlds_is_function fuel (prP fuel LW n))
    | 496 => runF 4 (b_worlds_row_index fuel (prP fuel LW n))
    | 497 => runF 4 (b_worlds_table_length fuel (prP fuel LW n))
    | 498 => runF 3 (b_worlds_things_rows fuel (prP fuel LW n))
    | 501 => runF 1 (b_writing_ends_open fuel (prP fuel LW n))
    | 502 => runF 2 (b_writing_equation_text fuel (prP fuel LW n))
    | 503 => runF 3 (b_writing_sentence_text fuel (prP fuel LW n))
    | i => LW (prP fuel LW n) i
theorem e_answers_decided_clauses {fuel LW n} : prP fuel LW (n + 1) 101 = runF 2 (b_answers_decided_clauses fuel (prP fuel LW n)) := rfl
theorem e_answers_decided_origins {fuel LW n} : prP fuel LW (n + 1) 102 = runF 2 (b_answers_decided_origins fuel (prP fuel LW n)) := rfl
theorem e_answers_is_world_of {fuel LW n} : prP fuel LW (n + 1) 103 = runF 2 (b_answers_is_world_of fuel (prP fuel LW n)) := rfl
theorem e_answers_shows_no_world {fuel LW n} : prP fuel LW (n + 1) 105 = runF 6 (b_answers_shows_no_world fuel (prP fuel LW n)) := rfl
theorem e_answers_shows_none_smaller {fuel LW n} : prP fuel LW (n + 1) 106 = runF 4 (b_answers_shows_none_smaller fuel (prP fuel LW n)) := rfl
theorem e_benches_replay {fuel LW n} : prP fuel LW (n + 1) 122 = runF 4 (b_benches_replay fuel (prP fuel LW n)) := rfl
theorem e_books_Book_with_sentence_v1 {fuel LW n} : prP fuel LW (n + 1) 510 = runF 2 (b_books_Book_with_sentence_v1 fuel (prP fuel LW n)) := rfl
theorem e_books_Book_without {fuel LW n} : prP fuel LW (n + 1) 125 = runF 2 (b_books_Book_without fuel (prP fuel LW n)) := rfl
theorem e_books_Signature___init__ {fuel LW n} : prP fuel LW (n + 1) 126 = runF 6 (b_books_Signature___init__ fuel (prP fuel LW n)) := rfl
theorem e_books_Signature_arity {fuel LW n} : prP fuel LW (n + 1) 127 = runF 2 (b_books_Signature_arity fuel (prP fuel LW n)) := rfl
theorem e_books_Signature_check_sentence_v1 {fuel LW n} : prP fuel LW (n + 1) 511 = runF 6 (b_books_Signature_check_sentence_v1 fuel (prP fuel LW n)) := rfl
theorem e_books_Signature_check_term_v1 {fuel LW n} : prP fuel LW (n + 1) 512 = runF 4 (b_books_Signature_check_term_v1 fuel (prP fuel LW n)) := rfl
theorem e_books_Signature_constants_v1 {fuel LW n} : prP fuel LW (n + 1) 513 = runF 3 (b_books_Signature_constants_v1 fuel (prP fuel LW n)) := rfl
theorem e_books_Signature_extended_v1 {fuel LW n} : prP fuel LW (n + 1) 514 = runF 2 (b_books_Signature_extended_v1 fuel (prP fuel LW n)) := rfl
theorem e_books_Signature_has {fuel LW n} : prP fuel LW (n + 1) 132 = runF 2 (b_books_Signature_has fuel (prP fuel LW n)) := rfl
theorem e_casepapers_case_paper {fuel LW n} : prP fuel LW (n + 1) 133 = runF 1 (b_casepapers_case_paper fuel (prP fuel LW n)) := rfl
theorem e_casepapers_cases_before_paper {fuel LW n} : prP fuel LW (n + 1) 134 = runF 2 (b_casepapers_cases_before_paper fuel (prP fuel LW n)) := rfl
theorem e_casepapers_first_false {fuel LW n} : prP fuel LW (n + 1) 135 = runF 4 (b_casepapers_first_false fuel (prP fuel LW n)) := rfl
theorem e_casepapers_judge_below {fuel LW n} : prP fuel LW (n + 1) 136 = runF 7 (b_casepapers_judge_below fuel (prP fuel LW n)) := rfl
theorem e_casepapers_judge_cases {fuel LW n} : prP fuel LW (n + 1) 137 = runF 2 (b_casepapers_judge_cases fuel (prP fuel LW n)) := rfl
theorem e_casepapers_judge_cases_before {fuel LW n} : prP fuel LW (n + 1) 138 = runF 3 (b_casepapers_judge_cases_before fuel (prP fuel LW n)) := rfl
theorem e_choices_rows_of_things {fuel LW n} : prP fuel LW (n + 1) 142 = runF 6 (b_choices_rows_of_things fuel (prP fuel LW n)) := rfl
theorem e_choices_with {fuel LW n} : prP fuel LW (n + 1) 143 = runF 7 (b_choices_with fuel (prP fuel LW n)) := rfl
theorem e_clauseorders_bag_of {fuel LW n} : prP fuel LW (n + 1) 144 = runF 5 (b_clauseorders_bag_of fuel (prP fuel LW n)) := rfl
theorem e_clauseorders_compare_clauses {fuel LW n} : prP fuel LW (n + 1) 146 = runF 7 (b_clauseorders_compare_clauses fuel (prP fuel LW n)) := rfl
theorem e_clauseorders_compare_literals {fuel LW n} : prP fuel LW (n + 1) 147 = runF 7 (b_clauseorders_compare_literals fuel (prP fuel LW n)) := rfl
theorem e_clauseorders_compare_numbers {fuel LW n} : prP fuel LW (n + 1) 148 = runF 2 (b_clauseorders_compare_numbers fuel (prP fuel LW n)) := rfl
theorem e_clauseorders_descending {fuel LW n} : prP fuel LW (n + 1) 149 = runF 5 (b_clauseorders_descending fuel (prP fuel LW n)) := rfl
theorem e_clauseorders_greater_side {fuel LW n} : prP fuel LW (n + 1) 150 = runF 3 (b_clauseorders_greater_side fuel (prP fuel LW n)) := rfl
theorem e_clauseorders_greatest_index {fuel LW n} : prP fuel LW (n + 1) 151 = runF 4 (b_clauseorders_greatest_index fuel (prP fuel LW n)) := rfl
theorem e_clauses_always_true {fuel LW n} : prP fuel LW (n + 1) 153 = runF 2 (b_clauses_always_true fuel (prP fuel LW n)) := rfl
theorem e_clauses_clause_text {fuel LW n} : prP fuel LW (n + 1) 154 = runF 2 (b_clauses_clause_text fuel (prP fuel LW n)) := rfl
theorem e_clauses_clause_unknowns {fuel LW n} : prP fuel LW (n + 1) 155 = runF 5 (b_clauses_clause_unknowns fuel (prP fuel LW n)) := rfl
theorem e_clauses_fill_clause {fuel LW n} : prP fuel LW (n + 1) 156 = runF 3 (b_clauses_fill_clause fuel (prP fuel LW n)) := rfl
theorem e_clauses_fill_literal {fuel LW n} : prP fuel LW (n + 1) 157 = runF 2 (b_clauses_fill_literal fuel (prP fuel LW n)) := rfl
theorem e_clauses_is_ground {fuel LW n} : prP fuel LW (n + 1) 158 = runF 1 (b_clauses_is_ground fuel (prP fuel LW n)) := rfl
theorem e_clauses_is_literal {fuel LW n} : prP fuel LW (n + 1) 159 = runF 1 (b_clauses_is_literal fuel (prP fuel LW n)) := rfl
theorem e_clauses_literal_places {fuel LW n} : prP fuel LW (n + 1) 160 = runF 3 (b_clauses_literal_places fuel (prP fuel LW n)) := rfl
theorem e_clauses_literal_text {fuel LW n} : prP fuel LW (n + 1) 161 = runF 4 (b_clauses_literal_text fuel (prP fuel LW n)) := rfl
theorem e_clauses_make_clause {fuel LW n} : prP fuel LW (n + 1) 162 = runF 4 (b_clauses_make_clause fuel (prP fuel LW n)) := rfl
theorem e_clauses_make_literal {fuel LW n} : prP fuel LW (n + 1) 163 = runF 3 (b_clauses_make_literal fuel (prP fuel LW n)) := rfl
theorem e_clauses_opposite {fuel LW n} : prP fuel LW (n + 1) 164 = runF 1 (b_clauses_opposite fuel (prP fuel LW n)) := rfl
theorem e_deciders_rounds_enough {fuel LW n} : prP fuel LW (n + 1) 175 = runF 6 (b_deciders_rounds_enough fuel (prP fuel LW n)) := rfl
theorem e_fillings_closed_terms {fuel LW n} : prP fuel LW (n + 1) 195 = runF 10 (b_fillings_closed_terms fuel (prP fuel LW n)) := rfl
theorem e_fillings_named_signature {fuel LW n} : prP fuel LW (n + 1) 197 = runF 4 (b_fillings_named_signature fuel (prP fuel LW n)) := rfl
theorem e_fillings_power {fuel LW n} : prP fuel LW (n + 1) 198 = runF 4 (b_fillings_power fuel (prP fuel LW n)) := rfl
theorem e_fillings_rows_of {fuel LW n} : prP fuel LW (n + 1) 199 = runF 6 (b_fillings_rows_of fuel (prP fuel LW n)) := rfl
theorem e_forms_Form___init__ {fuel LW n} : prP fuel LW (n + 1) 200 = runF 8 (b_forms_Form___init__ fuel (prP fuel LW n)) := rfl
theorem e_forms_Form__set_apart {fuel LW n} : prP fuel LW (n + 1) 203 = runF 5 (b_forms_Form__set_apart fuel (prP fuel LW n)) := rfl
theorem e_forms_Form__step {fuel LW n} : prP fuel LW (n + 1) 206 = runF 7 (b_forms_Form__step fuel (prP fuel LW n)) := rfl
theorem e_forms_form_of {fuel LW n} : prP fuel LW (n + 1) 207 = runF 1 (b_forms_form_of fuel (prP fuel LW n)) := rfl
theorem e_forms_is_all {fuel LW n} : prP fuel LW (n + 1) 208 = runF 1 (b_forms_is_all fuel (prP fuel LW n)) := rfl
theorem e_forms_is_some {fuel LW n} : prP fuel LW (n + 1) 209 = runF 1 (b_forms_is_some fuel (prP fuel LW n)) := rfl
theorem e_forms_literal_of {fuel LW n} : prP fuel LW (n + 1) 210 = runF 3 (b_forms_literal_of fuel (prP fuel LW n)) := rfl
theorem e_forms_literal_rows {fuel LW n} : prP fuel LW (n + 1) 211 = runF 5 (b_forms_literal_rows fuel (prP fuel LW n)) := rfl
theorem e_forms_names_in {fuel LW n} : prP fuel LW (n + 1) 212 = runF 5 (b_forms_names_in fuel (prP fuel LW n)) := rfl
theorem e_going_count_worlds {fuel LW n} : prP fuel LW (n + 1) 216 = runF 6 (b_going_count_worlds fuel (prP fuel LW n)) := rfl
theorem e_going_entry_choices {fuel LW n} : prP fuel LW (n + 1) 217 = runF 2 (b_going_entry_choices fuel (prP fuel LW n)) := rfl
theorem e_going_world_number {fuel LW n} : prP fuel LW (n + 1) 219 = runF 5 (b_going_world_number fuel (prP fuel LW n)) := rfl
theorem e_groundworlds_rows_of_things {fuel LW n} : prP fuel LW (n + 1) 222 = runF 6 (b_groundworlds_rows_of_things fuel (prP fuel LW n)) := rfl
theorem e_groundworlds_rule_made {fuel LW n} : prP fuel LW (n + 1) 223 = runF 9 (b_groundworlds_rule_made fuel (prP fuel LW n)) := rfl
theorem e_groundworlds_rules_of {fuel LW n} : prP fuel LW (n + 1) 224 = runF 5 (b_groundworlds_rules_of fuel (prP fuel LW n)) := rfl
theorem e_groundworlds_table_of {fuel LW n} : prP fuel LW (n + 1) 225 = runF 7 (b_groundworlds_table_of fuel (prP fuel LW n)) := rfl
theorem e_groundworlds_world_of {fuel LW n} : prP fuel LW (n + 1) 226 = runF 12 (b_groundworlds_world_of fuel (prP fuel LW n)) := rfl
theorem e_growing_Branch_closed {fuel LW n} : prP fuel LW (n + 1) 228 = runF 2 (b_growing_Branch_closed fuel (prP fuel LW n)) := rfl
theorem e_growing_Grower___init__ {fuel LW n} : prP fuel LW (n + 1) 229 = runF 7 (b_growing_Grower___init__ fuel (prP fuel LW n)) := rfl
theorem e_growing_Grower__read_new {fuel LW n} : prP fuel LW (n + 1) 234 = runF 5 (b_growing_Grower__read_new fuel (prP fuel LW n)) := rfl
theorem e_growing_Grower_has_ended {fuel LW n} : prP fuel LW (n + 1) 235 = runF 1 (b_growing_Grower_has_ended fuel (prP fuel LW n)) := rfl
theorem e_growing_filled_world {fuel LW n} : prP fuel LW (n + 1) 237 = runF 7 (b_growing_filled_world fuel (prP fuel LW n)) := rfl
theorem e_growing_most_nodes {fuel LW n} : prP fuel LW (n + 1) 240 = runF 7 (b_growing_most_nodes fuel (prP fuel LW n)) := rfl
theorem e_hearts_Heart___init__ {fuel LW n} : prP fuel LW (n + 1) 241 = runF 4 (b_hearts_Heart___init__ fuel (prP fuel LW n)) := rfl
theorem e_hearts_Heart_add {fuel LW n} : prP fuel LW (n + 1) 242 = runF 2 (b_hearts_Heart_add fuel (prP fuel LW n)) := rfl
theorem e_hearts_Heart_has_ended {fuel LW n} : prP fuel LW (n + 1) 243 = runF 1 (b_hearts_Heart_has_ended fuel (prP fuel LW n)) := rfl
theorem e_hearts_Heart_infer {fuel LW n} : prP fuel LW (n + 1) 244 = runF 3 (b_hearts_Heart_infer fuel (prP fuel LW n)) := rfl
theorem e_hearts_Heart_infer_join {fuel LW n} : prP fuel LW (n + 1) 245 = runF 9 (b_hearts_Heart_infer_join fuel (prP fuel LW n)) := rfl
theorem e_hearts_Heart_kept_clauses_v1 {fuel LW n} : prP fuel LW (n + 1) 525 = runF 1 (b_hearts_Heart_kept_clauses_v1 fuel (prP fuel LW n)) := rfl
theorem e_hearts_Heart_least_row {fuel LW n} : prP fuel LW (n + 1) 248 = runF 5 (b_hearts_Heart_least_row fuel (prP fuel LW n)) := rfl
theorem e_hearts_Heart_put {fuel LW n} : prP fuel LW (n + 1) 249 = runF 3 (b_hearts_Heart_put fuel (prP fuel LW n)) := rfl
theorem e_hearts_saturate {fuel LW n} : prP fuel LW (n + 1) 252 = runF 6 (b_hearts_saturate fuel (prP fuel LW n)) := rfl
theorem e_inferring_can_drop {fuel LW n} : prP fuel LW (n + 1) 253 = runF 2 (b_inferring_can_drop fuel (prP fuel LW n)) := rfl
theorem e_inferring_covered {fuel LW n} : prP fuel LW (n + 1) 254 = runF 4 (b_inferring_covered fuel (prP fuel LW n)) := rfl
theorem e_inferring_first_place {fuel LW n} : prP fuel LW (n + 1) 256 = runF 4 (b_inferring_first_place fuel (prP fuel LW n)) := rfl
theorem e_inferring_head_of {fuel LW n} : prP fuel LW (n + 1) 257 = runF 4 (b_inferring_head_of fuel (prP fuel LW n)) := rfl
theorem e_inferring_holds_all {fuel LW n} : prP fuel LW (n + 1) 258 = runF 3 (b_inferring_holds_all fuel (prP fuel LW n)) := rfl
theorem e_inferring_join {fuel LW n} : prP fuel LW (n + 1) 261 = runF 5 (b_inferring_join fuel (prP fuel LW n)) := rfl
theorem e_inferring_join_heads {fuel LW n} : prP fuel LW (n + 1) 262 = runF 8 (b_inferring_join_heads fuel (prP fuel LW n)) := rfl
theorem e_inferring_needless {fuel LW n} : prP fuel LW (n + 1) 263 = runF 3 (b_inferring_needless fuel (prP fuel LW n)) := rfl
theorem e_inferring_place_in_clause {fuel LW n} : prP fuel LW (n + 1) 264 = runF 5 (b_inferring_place_in_clause fuel (prP fuel LW n)) := rfl
theorem e_inferring_simpler {fuel LW n} : prP fuel LW (n + 1) 265 = runF 7 (b_inferring_simpler fuel (prP fuel LW n)) := rfl
theorem e_inferring_simplify {fuel LW n} : prP fuel LW (n + 1) 266 = runF 3 (b_inferring_simplify fuel (prP fuel LW n)) := rfl
theorem e_kinds_above_arity {fuel LW n} : prP fuel LW (n + 1) 267 = runF 5 (b_kinds_above_arity fuel (prP fuel LW n)) := rfl
theorem e_kinds_enough {fuel LW n} : prP fuel LW (n + 1) 269 = runF 2 (b_kinds_enough fuel (prP fuel LW n)) := rfl
theorem e_kinds_function_names {fuel LW n} : prP fuel LW (n + 1) 270 = runF 3 (b_kinds_function_names fuel (prP fuel LW n)) := rfl
theorem e_kinds_has_some_in_all {fuel LW n} : prP fuel LW (n + 1) 272 = runF 3 (b_kinds_has_some_in_all fuel (prP fuel LW n)) := rfl
theorem e_kinds_is_linked {fuel LW n} : prP fuel LW (n + 1) 274 = runF 3 (b_kinds_is_linked fuel (prP fuel LW n)) := rfl
theorem e_kinds_is_positive {fuel LW n} : prP fuel LW (n + 1) 275 = runF 2 (b_kinds_is_positive fuel (prP fuel LW n)) := rfl
theorem e_kinds_is_prefix {fuel LW n} : prP fuel LW (n + 1) 276 = runF 3 (b_kinds_is_prefix fuel (prP fuel LW n)) := rfl
theorem e_kinds_is_single {fuel LW n} : prP fuel LW (n + 1) 277 = runF 3 (b_kinds_is_single fuel (prP fuel LW n)) := rfl
theorem e_kinds_kinds_of {fuel LW n} : prP fuel LW (n + 1) 278 = runF 3 (b_kinds_kinds_of fuel (prP fuel LW n)) := rfl
theorem e_kinds_listing {fuel LW n} : prP fuel LW (n + 1) 279 = runF 5 (b_kinds_listing fuel (prP fuel LW n)) := rfl
theorem e_kinds_many_some {fuel LW n} : prP fuel LW (n + 1) 281 = runF 2 (b_kinds_many_some fuel (prP fuel LW n)) := rfl
theorem e_kinds_names_in {fuel LW n} : prP fuel LW (n + 1) 282 = runF 8 (b_kinds_names_in fuel (prP fuel LW n)) := rfl
theorem e_kinds_of_arity {fuel LW n} : prP fuel LW (n + 1) 283 = runF 5 (b_kinds_of_arity fuel (prP fuel LW n)) := rfl
theorem e_kinds_or_parts {fuel LW n} : prP fuel LW (n + 1) 284 = runF 1 (b_kinds_or_parts fuel (prP fuel LW n)) := rfl
theorem e_kinds_size_for {fuel LW n} : prP fuel LW (n + 1) 285 = runF 5 (b_kinds_size_for fuel (prP fuel LW n)) := rfl
theorem e_kinds_sort_count {fuel LW n} : prP fuel LW (n + 1) 286 = runF 3 (b_kinds_sort_count fuel (prP fuel LW n)) := rfl
theorem e_kinds_terms_in {fuel LW n} : prP fuel LW (n + 1) 287 = runF 4 (b_kinds_terms_in fuel (prP fuel LW n)) := rfl
theorem e_likeness_alike {fuel LW n} : prP fuel LW (n + 1) 289 = runF 2 (b_likeness_alike fuel (prP fuel LW n)) := rfl
theorem e_likeness_expanded {fuel LW n} : prP fuel LW (n + 1) 290 = runF 6 (b_likeness_expanded fuel (prP fuel LW n)) := rfl
theorem e_likeness_orders_of {fuel LW n} : prP fuel LW (n + 1) 292 = runF 6 (b_likeness_orders_of fuel (prP fuel LW n)) := rfl
theorem e_likeness_reduct {fuel LW n} : prP fuel LW (n + 1) 293 = runF 5 (b_likeness_reduct fuel (prP fuel LW n)) := rfl
theorem e_likeness_renamed {fuel LW n} : prP fuel LW (n + 1) 294 = runF 11 (b_likeness_renamed fuel (prP fuel LW n)) := rfl
theorem e_likeness_same_signature {fuel LW n} : prP fuel LW (n + 1) 295 = runF 2 (b_likeness_same_signature fuel (prP fuel LW n)) := rfl
theorem e_lines_check_literal {fuel LW n} : prP fuel LW (n + 1) 296 = runF 4 (b_lines_check_literal fuel (prP fuel LW n)) := rfl
theorem e_lines_judge {fuel LW n} : prP fuel LW (n + 1) 300 = runF 3 (b_lines_judge fuel (prP fuel LW n)) := rfl
theorem e_lines_made_by {fuel LW n} : prP fuel LW (n + 1) 301 = runF 8 (b_lines_made_by fuel (prP fuel LW n)) := rfl
theorem e_lines_renumbered {fuel LW n} : prP fuel LW (n + 1) 302 = runF 2 (b_lines_renumbered fuel (prP fuel LW n)) := rfl
theorem e_lines_sources {fuel LW n} : prP fuel LW (n + 1) 303 = runF 1 (b_lines_sources fuel (prP fuel LW n)) := rfl
theorem e_matching_match_literal {fuel LW n} : prP fuel LW (n + 1) 304 = runF 7 (b_matching_match_literal fuel (prP fuel LW n)) := rfl
theorem e_matching_subsumes {fuel LW n} : prP fuel LW (n + 1) 307 = runF 2 (b_matching_subsumes fuel (prP fuel LW n)) := rfl
theorem e_matching_variants {fuel LW n} : prP fuel LW (n + 1) 309 = runF 2 (b_matching_variants fuel (prP fuel LW n)) := rfl
theorem e_names_fresh_name {fuel LW n} : prP fuel LW (n + 1) 310 = runF 3 (b_names_fresh_name fuel (prP fuel LW n)) := rfl
theorem e_names_has_name_signs {fuel LW n} : prP fuel LW (n + 1) 311 = runF 2 (b_names_has_name_signs fuel (prP fuel LW n)) := rfl
theorem e_names_has_name_signs_v1 {fuel LW n} : prP fuel LW (n + 1) 532 = runF 2 (b_names_has_name_signs_v1 fuel (prP fuel LW n)) := rfl
theorem e_names_is_capital_name {fuel LW n} : prP fuel LW (n + 1) 312 = runF 1 (b_names_is_capital_name fuel (prP fuel LW n)) := rfl
theorem e_names_is_small_name {fuel LW n} : prP fuel LW (n + 1) 313 = runF 1 (b_names_is_small_name fuel (prP fuel LW n)) := rfl
theorem e_orders_Order_compare {fuel LW n} : prP fuel LW (n + 1) 315 = runF 3 (b_orders_Order_compare fuel (prP fuel LW n)) := rfl
theorem e_orders_Order_is_greater {fuel LW n} : prP fuel LW (n + 1) 316 = runF 6 (b_orders_Order_is_greater fuel (prP fuel LW n)) := rfl
theorem e_orders_occurrences {fuel LW n} : prP fuel LW (n + 1) 320 = runF 3 (b_orders_occurrences fuel (prP fuel LW n)) := rfl
theorem e_orders_place_among {fuel LW n} : prP fuel LW (n + 1) 321 = runF 6 (b_orders_place_among fuel (prP fuel LW n)) := rfl
theorem e_orders_sorted_terms {fuel LW n} : prP fuel LW (n + 1) 323 = runF 5 (b_orders_sorted_terms fuel (prP fuel LW n)) := rfl
theorem e_partial_Partial___init__ {fuel LW n} : prP fuel LW (n + 1) 324 = runF 4 (b_partial_Partial___init__ fuel (prP fuel LW n)) := rfl
theorem e_partial_Partial_is_free {fuel LW n} : prP fuel LW (n + 1) 326 = runF 5 (b_partial_Partial_is_free fuel (prP fuel LW n)) := rfl
theorem e_partial_Partial_read_clause {fuel LW n} : prP fuel LW (n + 1) 327 = runF 7 (b_partial_Partial_read_clause fuel (prP fuel LW n)) := rfl
theorem e_partial_Partial_read_literal {fuel LW n} : prP fuel LW (n + 1) 328 = runF 7 (b_partial_Partial_read_literal fuel (prP fuel LW n)) := rfl
theorem e_partial_Partial_read_term {fuel LW n} : prP fuel LW (n + 1) 329 = runF 8 (b_partial_Partial_read_term fuel (prP fuel LW n)) := rfl
theorem e_partial_Partial_ways {fuel LW n} : prP fuel LW (n + 1) 330 = runF 2 (b_partial_Partial_ways fuel (prP fuel LW n)) := rfl
theorem e_partial_first_constant {fuel LW n} : prP fuel LW (n + 1) 332 = runF 5 (b_partial_first_constant fuel (prP fuel LW n)) := rfl
theorem e_partial_rows_of_things {fuel LW n} : prP fuel LW (n + 1) 334 = runF 6 (b_partial_rows_of_things fuel (prP fuel LW n)) := rfl
theorem e_partial_stands_in {fuel LW n} : prP fuel LW (n + 1) 335 = runF 3 (b_partial_stands_in fuel (prP fuel LW n)) := rfl
theorem e_questions_independent {fuel LW n} : prP fuel LW (n + 1) 337 = runF 6 (b_questions_independent fuel (prP fuel LW n)) := rfl
theorem e_questions_least_at_odds {fuel LW n} : prP fuel LW (n + 1) 339 = runF 6 (b_questions_least_at_odds fuel (prP fuel LW n)) := rfl
theorem e_questions_part_of_book {fuel LW n} : prP fuel LW (n + 1) 340 = runF 3 (b_questions_part_of_book fuel (prP fuel LW n)) := rfl
theorem e_reading_Reader_take_arguments {fuel LW n} : prP fuel LW (n + 1) 343 = runF 4 (b_reading_Reader_take_arguments fuel (prP fuel LW n)) := rfl
theorem e_reading_Reader_take_equation_v1 {fuel LW n} : prP fuel LW (n + 1) 539 = runF 3 (b_reading_Reader_take_equation_v1 fuel (prP fuel LW n)) := rfl
theorem e_reading_read_term {fuel LW n} : prP fuel LW (n + 1) 353 = runF 5 (b_reading_read_term fuel (prP fuel LW n)) := rfl
theorem e_reducing_is_needless {fuel LW n} : prP fuel LW (n + 1) 354 = runF 4 (b_reducing_is_needless fuel (prP fuel LW n)) := rfl
theorem e_reducing_needed_clauses {fuel LW n} : prP fuel LW (n + 1) 355 = runF 2 (b_reducing_needed_clauses fuel (prP fuel LW n)) := rfl
theorem e_rewriting_literal_true_by {fuel LW n} : prP fuel LW (n + 1) 356 = runF 2 (b_rewriting_literal_true_by fuel (prP fuel LW n)) := rfl
theorem e_rewriting_normal {fuel LW n} : prP fuel LW (n + 1) 357 = runF 5 (b_rewriting_normal fuel (prP fuel LW n)) := rfl
theorem e_rewriting_true_by {fuel LW n} : prP fuel LW (n + 1) 358 = runF 3 (b_rewriting_true_by fuel (prP fuel LW n)) := rfl
theorem e_scanning_Words___init__ {fuel LW n} : prP fuel LW (n + 1) 359 = runF 2 (b_scanning_Words___init__ fuel (prP fuel LW n)) := rfl
theorem e_scanning_Words_present {fuel LW n} : prP fuel LW (n + 1) 360 = runF 1 (b_scanning_Words_present fuel (prP fuel LW n)) := rfl
theorem e_scanning_is_name_sign {fuel LW n} : prP fuel LW (n + 1) 363 = runF 1 (b_scanning_is_name_sign fuel (prP fuel LW n)) := rfl
theorem e_scanning_is_name_sign_v1 {fuel LW n} : prP fuel LW (n + 1) 542 = runF 1 (b_scanning_is_name_sign_v1 fuel (prP fuel LW n)) := rfl
theorem e_scanning_line_words {fuel LW n} : prP fuel LW (n + 1) 364 = runF 5 (b_scanning_line_words fuel (prP fuel LW n)) := rfl
theorem e_scanning_word_end {fuel LW n} : prP fuel LW (n + 1) 367 = runF 3 (b_scanning_word_end fuel (prP fuel LW n)) := rfl
theorem e_sentences_atom_terms {fuel LW n} : prP fuel LW (n + 1) 368 = runF 1 (b_sentences_atom_terms fuel (prP fuel LW n)) := rfl
theorem e_sentences_atoms_in {fuel LW n} : prP fuel LW (n + 1) 369 = runF 3 (b_sentences_atoms_in fuel (prP fuel LW n)) := rfl
theorem e_sentences_children {fuel LW n} : prP fuel LW (n + 1) 371 = runF 1 (b_sentences_children fuel (prP fuel LW n)) := rfl
theorem e_sentences_free_unknowns {fuel LW n} : prP fuel LW (n + 1) 373 = runF 5 (b_sentences_free_unknowns fuel (prP fuel LW n)) := rfl
theorem e_sentences_replace_sentence_at {fuel LW n} : prP fuel LW (n + 1) 375 = runF 4 (b_sentences_replace_sentence_at fuel (prP fuel LW n)) := rfl
theorem e_sentences_sentence_at {fuel LW n} : prP fuel LW (n + 1) 376 = runF 4 (b_sentences_sentence_at fuel (prP fuel LW n)) := rfl
theorem e_sentences_sentence_places {fuel LW n} : prP fuel LW (n + 1) 377 = runF 5 (b_sentences_sentence_places fuel (prP fuel LW n)) := rfl
theorem e_sentences_with_children {fuel LW n} : prP fuel LW (n + 1) 378 = runF 2 (b_sentences_with_children fuel (prP fuel LW n)) := rfl
theorem e_shaping_can_narrow {fuel LW n} : prP fuel LW (n + 1) 379 = runF 1 (b_shaping_can_narrow fuel (prP fuel LW n)) := rfl
theorem e_shaping_can_unfold {fuel LW n} : prP fuel LW (n + 1) 380 = runF 1 (b_shaping_can_unfold fuel (prP fuel LW n)) := rfl
theorem e_shaping_changed_part {fuel LW n} : prP fuel LW (n + 1) 381 = runF 3 (b_shaping_changed_part fuel (prP fuel LW n)) := rfl
theorem e_shaping_chosen_body {fuel LW n} : prP fuel LW (n + 1) 382 = runF 5 (b_shaping_chosen_body fuel (prP fuel LW n)) := rfl
theorem e_shaping_narrowed {fuel LW n} : prP fuel LW (n + 1) 384 = runF 7 (b_shaping_narrowed fuel (prP fuel LW n)) := rfl
theorem e_shaping_negation_form {fuel LW n} : prP fuel LW (n + 1) 386 = runF 1 (b_shaping_negation_form fuel (prP fuel LW n)) := rfl
theorem e_shaping_renamed_binder {fuel LW n} : prP fuel LW (n + 1) 388 = runF 2 (b_shaping_renamed_binder fuel (prP fuel LW n)) := rfl
theorem e_shaping_signed_form {fuel LW n} : prP fuel LW (n + 1) 389 = runF 7 (b_shaping_signed_form fuel (prP fuel LW n)) := rfl
theorem e_shrinking_cut_world {fuel LW n} : prP fuel LW (n + 1) 392 = runF 8 (b_shrinking_cut_world fuel (prP fuel LW n)) := rfl
theorem e_shrinking_shrink {fuel LW n} : prP fuel LW (n + 1) 395 = runF 3 (b_shrinking_shrink fuel (prP fuel LW n)) := rfl
theorem e_sorts_case_of {fuel LW n} : prP fuel LW (n + 1) 399 = runF 2 (b_sorts_case_of fuel (prP fuel LW n)) := rfl
theorem e_sorts_case_size {fuel LW n} : prP fuel LW (n + 1) 400 = runF 1 (b_sorts_case_size fuel (prP fuel LW n)) := rfl
theorem e_sorts_cases_of {fuel LW n} : prP fuel LW (n + 1) 401 = runF 1 (b_sorts_cases_of fuel (prP fuel LW n)) := rfl
theorem e_sorts_cell_count {fuel LW n} : prP fuel LW (n + 1) 402 = runF 4 (b_sorts_cell_count fuel (prP fuel LW n)) := rfl
theorem e_sorts_has_digit {fuel LW n} : prP fuel LW (n + 1) 403 = runF 3 (b_sorts_has_digit fuel (prP fuel LW n)) := rfl
theorem e_sorts_rows_of {fuel LW n} : prP fuel LW (n + 1) 410 = runF 6 (b_sorts_rows_of fuel (prP fuel LW n)) := rfl
theorem e_sorts_small_world {fuel LW n} : prP fuel LW (n + 1) 411 = runF 2 (b_sorts_small_world fuel (prP fuel LW n)) := rfl
theorem e_sorts_sort_of {fuel LW n} : prP fuel LW (n + 1) 413 = runF 5 (b_sorts_sort_of fuel (prP fuel LW n)) := rfl
theorem e_steps_drop_step {fuel LW n} : prP fuel LW (n + 1) 415 = runF 2 (b_steps_drop_step fuel (prP fuel LW n)) := rfl
theorem e_steps_either_step {fuel LW n} : prP fuel LW (n + 1) 416 = runF 2 (b_steps_either_step fuel (prP fuel LW n)) := rfl
theorem e_steps_factor_step {fuel LW n} : prP fuel LW (n + 1) 417 = runF 9 (b_steps_factor_step fuel (prP fuel LW n)) := rfl
theorem e_steps_fill_step {fuel LW n} : prP fuel LW (n + 1) 418 = runF 5 (b_steps_fill_step fuel (prP fuel LW n)) := rfl
theorem e_steps_literal_of {fuel LW n} : prP fuel LW (n + 1) 419 = runF 2 (b_steps_literal_of fuel (prP fuel LW n)) := rfl
theorem e_steps_other_literals {fuel LW n} : prP fuel LW (n + 1) 420 = runF 3 (b_steps_other_literals fuel (prP fuel LW n)) := rfl
theorem e_steps_positive_sides {fuel LW n} : prP fuel LW (n + 1) 421 = runF 4 (b_steps_positive_sides fuel (prP fuel LW n)) := rfl
theorem e_terms_fill_term {fuel LW n} : prP fuel LW (n + 1) 423 = runF 3 (b_terms_fill_term fuel (prP fuel LW n)) := rfl
theorem e_terms_is_atom {fuel LW n} : prP fuel LW (n + 1) 424 = runF 1 (b_terms_is_atom fuel (prP fuel LW n)) := rfl
theorem e_terms_is_plain {fuel LW n} : prP fuel LW (n + 1) 425 = runF 2 (b_terms_is_plain fuel (prP fuel LW n)) := rfl
theorem e_terms_is_unknown {fuel LW n} : prP fuel LW (n + 1) 426 = runF 1 (b_terms_is_unknown fuel (prP fuel LW n)) := rfl
theorem e_terms_part_at {fuel LW n} : prP fuel LW (n + 1) 427 = runF 3 (b_terms_part_at fuel (prP fuel LW n)) := rfl
theorem e_terms_parts_of {fuel LW n} : prP fuel LW (n + 1) 428 = runF 4 (b_terms_parts_of fuel (prP fuel LW n)) := rfl
theorem e_terms_places_of {fuel LW n} : prP fuel LW (n + 1) 429 = runF 4 (b_terms_places_of fuel (prP fuel LW n)) := rfl
theorem e_terms_replace_at {fuel LW n} : prP fuel LW (n + 1) 430 = runF 5 (b_terms_replace_at fuel (prP fuel LW n)) := rfl
theorem e_terms_term_size {fuel LW n} : prP fuel LW (n + 1) 431 = runF 2 (b_terms_term_size fuel (prP fuel LW n)) := rfl
theorem e_terms_term_text {fuel LW n} : prP fuel LW (n + 1) 432 = runF 3 (b_terms_term_text fuel (prP fuel LW n)) := rfl
theorem e_terms_unknowns_of {fuel LW n} : prP fuel LW (n + 1) 433 = runF 4 (b_terms_unknowns_of fuel (prP fuel LW n)) := rfl
theorem e_treelines_LineWriter_joined {fuel LW n} : prP fuel LW (n + 1) 436 = runF 11 (b_treelines_LineWriter_joined fuel (prP fuel LW n)) := rfl
theorem e_treelines_LineWriter_row_of {fuel LW n} : prP fuel LW (n + 1) 438 = runF 10 (b_treelines_LineWriter_row_of fuel (prP fuel LW n)) := rfl
theorem e_treelines_LineWriter_with_name {fuel LW n} : prP fuel LW (n + 1) 440 = runF 13 (b_treelines_LineWriter_with_name fuel (prP fuel LW n)) := rfl
theorem e_treelines_LineWriter_without_drops {fuel LW n} : prP fuel LW (n + 1) 441 = runF 3 (b_treelines_LineWriter_without_drops fuel (prP fuel LW n)) := rfl
theorem e_treelines_first_name {fuel LW n} : prP fuel LW (n + 1) 442 = runF 7 (b_treelines_first_name fuel (prP fuel LW n)) := rfl
theorem e_treelines_first_spot {fuel LW n} : prP fuel LW (n + 1) 443 = runF 9 (b_treelines_first_spot fuel (prP fuel LW n)) := rfl
theorem e_treelines_name_of_value {fuel LW n} : prP fuel LW (n + 1) 445 = runF 5 (b_treelines_name_of_value fuel (prP fuel LW n)) := rfl
theorem e_trees_cells_under {fuel LW n} : prP fuel LW (n + 1) 447 = runF 6 (b_trees_cells_under fuel (prP fuel LW n)) := rfl
theorem e_trees_cut_tree {fuel LW n} : prP fuel LW (n + 1) 450 = runF 3 (b_trees_cut_tree fuel (prP fuel LW n)) := rfl
theorem e_trees_fault_below {fuel LW n} : prP fuel LW (n + 1) 451 = runF 9 (b_trees_fault_below fuel (prP fuel LW n)) := rfl
theorem e_trees_first_fault {fuel LW n} : prP fuel LW (n + 1) 452 = runF 4 (b_trees_first_fault fuel (prP fuel LW n)) := rfl
theorem e_trees_judge_tree {fuel LW n} : prP fuel LW (n + 1) 455 = runF 4 (b_trees_judge_tree fuel (prP fuel LW n)) := rfl
theorem e_treetext_TreeReader_next_is {fuel LW n} : prP fuel LW (n + 1) 460 = runF 2 (b_treetext_TreeReader_next_is fuel (prP fuel LW n)) := rfl
theorem e_treetext_TreeReader_take_depth {fuel LW n} : prP fuel LW (n + 1) 463 = runF 3 (b_treetext_TreeReader_take_depth fuel (prP fuel LW n)) := rfl
theorem e_treetext_TreeReader_take_node {fuel LW n} : prP fuel LW (n + 1) 465 = runF 4 (b_treetext_TreeReader_take_node fuel (prP fuel LW n)) := rfl
theorem e_treetext_TreeReader_take_number {fuel LW n} : prP fuel LW (n + 1) 466 = runF 2 (b_treetext_TreeReader_take_number fuel (prP fuel LW n)) := rfl
theorem e_treetext_TreeReader_take_numbers {fuel LW n} : prP fuel LW (n + 1) 467 = runF 2 (b_treetext_TreeReader_take_numbers fuel (prP fuel LW n)) := rfl
theorem e_treetext_lines_below {fuel LW n} : prP fuel LW (n + 1) 470 = runF 4 (b_treetext_lines_below fuel (prP fuel LW n)) := rfl
theorem e_treetext_node_text {fuel LW n} : prP fuel LW (n + 1) 471 = runF 2 (b_treetext_node_text fuel (prP fuel LW n)) := rfl
theorem e_treetext_tree_text {fuel LW n} : prP fuel LW (n + 1) 473 = runF 1 (b_treetext_tree_text fuel (prP fuel LW n)) := rfl
theorem e_truth_atom_true {fuel LW n} : prP fuel LW (n + 1) 474 = runF 4 (b_truth_atom_true fuel (prP fuel LW n)) := rfl
theorem e_truth_binder_true {fuel LW n} : prP fuel LW (n + 1) 475 = runF 8 (b_truth_binder_true fuel (prP fuel LW n)) := rfl
theorem e_truth_book_true {fuel LW n} : prP fuel LW (n + 1) 476 = runF 3 (b_truth_book_true fuel (prP fuel LW n)) := rfl
theorem e_truth_clause_true {fuel LW n} : prP fuel LW (n + 1) 477 = runF 2 (b_truth_clause_true fuel (prP fuel LW n)) := rfl
theorem e_truth_clauses_true {fuel LW n} : prP fuel LW (n + 1) 478 = runF 3 (b_truth_clauses_true fuel (prP fuel LW n)) := rfl
theorem e_truth_literal_true {fuel LW n} : prP fuel LW (n + 1) 480 = runF 6 (b_truth_literal_true fuel (prP fuel LW n)) := rfl
theorem e_truth_sentence_true {fuel LW n} : prP fuel LW (n + 1) 481 = runF 8 (b_truth_sentence_true fuel (prP fuel LW n)) := rfl
theorem e_truth_term_value {fuel LW n} : prP fuel LW (n + 1) 482 = runF 4 (b_truth_term_value fuel (prP fuel LW n)) := rfl
theorem e_worlds_World___init__ {fuel LW n} : prP fuel LW (n + 1) 483 = runF 6 (b_worlds_World___init__ fuel (prP fuel LW n)) := rfl
theorem e_worlds_World__entry {fuel LW n} : prP fuel LW (n + 1) 484 = runF 4 (b_worlds_World__entry fuel (prP fuel LW n)) := rfl
theorem e_worlds_World_holds {fuel LW n} : prP fuel LW (n + 1) 486 = runF 3 (b_worlds_World_holds fuel (prP fuel LW n)) := rfl
theorem e_worlds_World_table {fuel LW n} : prP fuel LW (n + 1) 487 = runF 2 (b_worlds_World_table fuel (prP fuel LW n)) := rfl
theorem e_worlds_World_things {fuel LW n} : prP fuel LW (n + 1) 488 = runF 1 (b_worlds_World_things fuel (prP fuel LW n)) := rfl
theorem e_worlds_World_value {fuel LW n} : prP fuel LW (n + 1) 489 = runF 3 (b_worlds_World_value fuel (prP fuel LW n)) := rfl
theorem e_worlds_World_with_table {fuel LW n} : prP fuel LW (n + 1) 490 = runF 4 (b_worlds_World_with_table fuel (prP fuel LW n)) := rfl
theorem e_worlds_all_names {fuel LW n} : prP fuel LW (n + 1) 491 = runF 1 (b_worlds_all_names fuel (prP fuel LW n)) := rfl
theorem e_worlds_checked_entries {fuel LW n} : prP fuel LW (n + 1) 492 = runF 5 (b_worlds_checked_entries fuel (prP fuel LW n)) := rfl
theorem e_worlds_is_function {fuel LW n} : prP fuel LW (n + 1) 494 = runF 1 (b_worlds_is_function fuel (prP fuel LW n)) := rfl
theorem e_worlds_row_index {fuel LW n} : prP fuel LW (n + 1) 496 = runF 4 (b_worlds_row_index fuel (prP fuel LW n)) := rfl
theorem e_worlds_table_length {fuel LW n} : prP fuel LW (n + 1) 497 = runF 4 (b_worlds_table_length fuel (prP fuel LW n)) := rfl
theorem e_worlds_things_rows {fuel LW n} : prP fuel LW (n + 1) 498 = runF 3 (b_worlds_things_rows fuel (prP fuel LW n)) := rfl
theorem e_writing_ends_open {fuel LW n} : prP fuel LW (n + 1) 501 = runF 1 (b_writing_ends_open fuel (prP fuel LW n)) := rfl
theorem e_writing_equation_text {fuel LW n} : prP fuel LW (n + 1) 502 = runF 2 (b_writing_equation_text fuel (prP fuel LW n)) := rfl
theorem e_writing_sentence_text {fuel LW n} : prP fuel LW (n + 1) 503 = runF 3 (b_writing_sentence_text fuel (prP fuel LW n)) := rfl
end Law

/-! ML1: mirrors are run from the outside in; what follows is kept shut (Tag). -/
namespace ML
open PySem L2 DL
universe u v
inductive Tag2 {α : Sort u} {β : Sort v} (a : α) (b : β) : Type where
  | mk
  | no
def Ev {α : Type} (o : Out α) (Q : α → Rs → Prop) (E : Nat → List (Str × Int) → Rs → Prop) (_ : Tag2 Q E) : Prop := match o with
  | .ok a r => Q a r
  | .exc c fs r => E c fs r
  | .bad => False
structure Ks where
  C : En → Rs → Prop
  B : En → Rs → Prop
  T : D → Rs → Prop
  E : Nat → List (Str × Int) → En → Rs → Prop
def Sv (o : SOut) (N : En → Rs → Prop) (k : Ks) (_ : Tag2 N k) : Prop := match o with
  | .next ρ r => N ρ r
  | .brk ρ r => k.B ρ r
  | .cont ρ r => k.C ρ r
  | .ret d r => k.T d r
  | .exc c fs ρ r => k.E c fs ρ r
  | .bad => False
def So {α : Type} (x : Option α) (Q : α → Prop) (_ : Tag2 Q Q) : Prop := match x with
  | some a => Q a
  | none => False
def SoP {α β : Type} (x : Option (α × β)) (Q : α → β → Prop) (_ : Tag2 Q Q) : Prop := match x with
  | some p => Q p.1 p.2
  | none => False
def Ck (c P : Prop) (_ : Tag2 P P) : Prop := c ∧ P
def Bif (b : Bool) (P Q : Prop) (_ : Tag2 P Q) : Prop := if b = true then P else Q
def GetE (ρ : En) (i : Nat) (Q : D → Prop) (_ : Tag2 Q Q) : Prop := match ρ[i]? with
  | some (some d) => Q d
  | _ => False
def SetE (ρ : En) (i : Nat) (d : D) (Q : En → Prop) (_ : Tag2 Q Q) : Prop := i < ρ.length ∧ Q (ρ.set i (some d))
def SetN (ρ : En) (i : Nat) (Q : En → Prop) (_ : Tag2 Q Q) : Prop := Q (ρ.set i none)
def Wp (ρ : En) (O : List Nat) (Q : En → Prop) (_ : Tag2 Q Q) : Prop := Q (wipeE ρ O)
def Ver (r r1 : Rs) (Q : Rs → Prop) (_ : Tag2 Q Q) : Prop := verOk r r1 = true ∧ Q (mixR r r1)
def Tgt (tg : Tg) (d : D) (ρ : En) (Q : En → Prop) (_ : Tag2 Q Q) : Prop := match tg d ρ with
  | some ρ' => Q ρ'
  | none => False
def Tgts (u : List D → En → Option En) (ds : List D) (ρ : En) (Q : En → Prop) (_ : Tag2 Q Q) : Prop := match u ds ρ with
  | some ρ' => Q ρ'
  | none => False
def AsL (d : D) (Q : List D → Prop) (_ : Tag2 Q Q) : Prop := match d with
  | .lst xs => Q xs
  | _ => False
def AsD (d : D) (Q : List (Key × D) → Prop) (_ : Tag2 Q Q) : Prop := match d with
  | .dic xs => Q xs
  | _ => False
def AsB (d : D) (Q : Bool → Prop) (_ : Tag2 Q Q) : Prop := match d with
  | .bl b => Q b
  | _ => False
def AsI (d : D) (Q : Int → Prop) (_ : Tag2 Q Q) : Prop := match d with
  | .int b => Q b
  | _ => False
def AsS (d : D) (Q : Str → Prop) (_ : Tag2 Q Q) : Prop := match d with
  | .str b => Q b
  | _ => False
def As1 (ds : List D) (Q : D → Prop) (_ : Tag2 Q Q) : Prop := match ds with
  | [d] => Q d
  | _ => False
def As2 (ds : List D) (Q : D → D → Prop) (_ : Tag2 Q Q) : Prop := match ds with
  | [d, e] => Q d e
  | _ => False
def Imm (d : D) (P : Prop) (_ : Tag2 P P) : Prop := d.imm = true ∧ P
def Imms (ds : List D) (P : Prop) (_ : Tag2 P P) : Prop := D.imms ds = true ∧ P
section
variable {α β : Type} {o : Out α} {Q : α → Rs → Prop} {E : Nat → List (Str × Int) → Rs → Prop} {t : Tag2 Q E}
theorem ev_congr {Q' : α → Rs → Prop} {t' : Tag2 Q' E} (h : ∀ a r, Q a r = Q' a r) : Ev o Q E t = Ev o Q' E t' := by
  have : Q = Q' := by funext a r; exact h a r
  subst this; rfl
theorem so_congr {x : Option α} {Q Q' : α → Prop} {t : Tag2 Q Q} {t' : Tag2 Q' Q'} (h : ∀ a, Q a = Q' a) : So x Q t = So x Q' t' := by
  have : Q = Q' := by funext a; exact h a
  subst this; rfl
theorem ev_bind {o : Out α} {k : α → Rs → Out β} {Q : β → Rs → Prop} {t : Tag2 Q E} : Ev (o.bind k) Q E t = Ev o (fun a r => Ev (k a r) Q E .mk) E .mk := by cases o <;> rfl
theorem ev_so {x : Option α} {r : Rs} : Ev (match x with | some d => .ok d r | none => .bad) Q E t = So x (fun d => Q d r) .mk := by cases x <;> rfl
theorem ev_ck {c : Prop} [Decidable c] : Ev (if c then o else .bad) Q E t = Ck c (Ev o Q E t) .mk := by
  unfold Ck
  by_cases h : c <;> simp [h, Ev]
theorem sv_ck {c : Prop} [Decidable c] {o : SOut} {N : En → Rs → Prop} {k : Ks} {t : Tag2 N k} : Sv (if c then o else .bad) N k t = Ck c (Sv o N k t) .mk := by
  unfold Ck
  by_cases h : c <;> simp [h, Sv]
end
section
variable {α : Type} {Q : α → Rs → Prop} {E : Nat → List (Str × Int) → Rs → Prop} {N : En → Rs → Prop} {k : Ks} {ρ : En} {r r1 : Rs} {f g h : Ex} {F G : D → D → Option D} {fa ga : Ax} {fl : Lx} {fd : Dx} {ft gt : Tx}
theorem ev_ok {a : α} {t : Tag2 Q E} : Ev (.ok a r) Q E t = Q a r := rfl
theorem ev_exc {c : Nat} {fs : List (Str × Int)} {t : Tag2 Q E} : Ev (α := α) (.exc c fs r) Q E t = E c fs r := rfl
theorem ev_var {i : Nat} {Q : D → Rs → Prop} {t : Tag2 Q E} : Ev (xVar i ρ r) Q E t = GetE ρ i (fun d => Q d r) .mk := by
  unfold xVar GetE; split <;> rename_i h <;> simp_all [Ev]
theorem ev_c {d : D} {Q : D → Rs → Prop} {t : Tag2 Q E} : Ev (xC d ρ r) Q E t = Q d r := rfl
theorem ev_op {Q : D → Rs → Prop} {t : Tag2 Q E} : Ev (xOp F f g ρ r) Q E t = Ev (f ρ r) (fun a r1 => Ev (g ρ r1) (fun b r2 => So (F a b) (fun d => Q d r2) .mk) E .mk) E .mk := by
  unfold xOp; rw [ev_bind]; refine ev_congr fun _ _ => ?_; rw [ev_bind]; refine ev_congr fun _ _ => ?_; rename_i a _ b _; cases F a b <;> rfl
theorem ev_ix {Q : D → Rs → Prop} {t : Tag2 Q E} : Ev (xIx f g ρ r) Q E t = Ev (f ρ r) (fun a r1 => Ev (g ρ r1) (fun b r2 => So (dIx r2 a b) (fun d => Q d r2) .mk) E .mk) E .mk := by
  unfold xIx; rw [ev_bind]; refine ev_congr fun _ _ => ?_; rw [ev_bind]; refine ev_congr fun _ _ => ?_; rename_i a _ b r2; cases dIx r2 a b <;> rfl
theorem ev_nop {Q : Option Int → Rs → Prop} {t : Tag2 Q E} : Ev (xNoP ρ r) Q E t = Q none r := rfl
theorem ev_part {Q : Option Int → Rs → Prop} {t : Tag2 Q E} : Ev (xPart f ρ r) Q E t = Ev (f ρ r) (fun d r1 => AsI d (fun i => Q (some i) r1) .mk) E .mk := by
  unfold xPart; rw [ev_bind]; refine ev_congr fun _ _ => ?_; rename_i d _; cases d <;> rfl
theorem ev_sl {lo hi : Ox} {Q : D → Rs → Prop} {t : Tag2 Q E} : Ev (xSl f lo hi ρ r) Q E t = Ev (f ρ r) (fun a r1 => Ev (lo ρ r1) (fun l r2 => Ev (hi ρ r2) (fun u r3 => So (dSl a l u) (fun d => Q d r3) .mk) E .mk) E .mk) E .mk := by
  unfold xSl; rw [ev_bind]; refine ev_congr fun _ _ => ?_; rw [ev_bind]; refine ev_congr fun _ _ => ?_; rw [ev_bind]; refine ev_congr fun _ _ => ?_; rename_i a _ b _ c _; cases dSl a b c <;> rfl
theorem ev_tr {Q : Bool → Rs → Prop} {t : Tag2 Q E} : Ev (xTr f ρ r) Q E t = Ev (f ρ r) (fun d r1 => So (truth r1 d) (fun b => Q b r1) .mk) E .mk := by
  unfold xTr; rw [ev_bind]; refine ev_congr fun _ _ => ?_; rename_i d r1; cases truth r1 d <;> rfl
theorem ev_b {Q : Bool → Rs → Prop} {t : Tag2 Q E} : Ev (xB f ρ r) Q E t = Ev (f ρ r) (fun d r1 => AsB d (fun b => Q b r1) .mk) E .mk := by
  unfold xB; rw [ev_bind]; refine ev_congr fun _ _ => ?_; rename_i d r1; cases d <;> rfl
theorem ev_ch {Q : Bool → Rs → Prop} {t : Tag2 Q E} : Ev (xCh F G f g h ρ r) Q E t = Ev (f ρ r) (fun a r1 => Ev (g ρ r1) (fun b r2 => So (F a b) (fun d => AsB d (fun x => Bif x (Ev (h ρ r2) (fun c r3 => So (G b c) (fun e => AsB e (fun y => Q y r3) .mk) .mk) E .mk) (Q false r2) .mk) .mk) .mk) E .mk) E .mk := by
  unfold xCh; rw [ev_bind]; refine ev_congr fun _ _ => ?_; rw [ev_bind]; refine ev_congr fun _ _ => ?_; rename_i a _ b r2
  cases e : F a b with
  | none => rfl
  | some d =>
    cases d <;> try rfl
    rename_i x
    cases x
    · rfl
    · refine Eq.trans (b := Ev (h ρ r2) (fun c r3 => Ev (match G b c with | some (.bl k) => .ok k r3 | _ => .bad) Q E t) E .mk) ev_bind (ev_congr (t' := .mk) fun c r3 => ?_)
      show Ev (match G b c with | some (.bl k) => .ok k r3 | _ => .bad) _ _ _ = So (G b c) _ _
      cases G b c with
      | none => rfl
      | some d => cases d <;> rfl
theorem ev_v {Q : D → Rs → Prop} {t : Tag2 Q E} : Ev (xV ft ρ r) Q E t = Ev (ft ρ r) (fun b r1 => Q (.bl b) r1) E .mk := by
  unfold xV; rw [ev_bind]; refine ev_congr fun _ _ => ?_; rfl
theorem ev_and {Q : Bool → Rs → Prop} {t : Tag2 Q E} : Ev (xAnd ft gt ρ r) Q E t = Ev (ft ρ r) (fun b r1 => Bif b (Ev (gt ρ r1) Q E t) (Q false r1) .mk) E .mk := by
  unfold xAnd; rw [ev_bind]; refine ev_congr fun _ _ => ?_; rename_i b _; cases b <;> rfl
theorem ev_or {Q : Bool → Rs → Prop} {t : Tag2 Q E} : Ev (xOr ft gt ρ r) Q E t = Ev (ft ρ r) (fun b r1 => Bif b (Q true r1) (Ev (gt ρ r1) Q E t) .mk) E .mk := by
  unfold xOr; rw [ev_bind]; refine ev_congr fun _ _ => ?_; rename_i b _; cases b <;> rfl
theorem ev_not {Q : Bool → Rs → Prop} {t : Tag2 Q E} : Ev (xNot ft ρ r) Q E t = Ev (ft ρ r) (fun b r1 => Q (!b) r1) E .mk := by
  unfold xNot; rw [ev_bind]; refine ev_congr fun _ _ => ?_; rfl
theorem ev_if {Q : D → Rs → Prop} {t : Tag2 Q E} : Ev (xIf ft f g ρ r) Q E t = Ev (ft ρ r) (fun b r1 => Bif b (Ev (f ρ r1) Q E t) (Ev (g ρ r1) Q E t) .mk) E .mk := by
  unfold xIf; rw [ev_bind]; refine ev_congr fun _ _ => ?_; rename_i b _; cases b <;> rfl
theorem ev_tif {f g : Tx} {Q : Bool → Rs → Prop} {t : Tag2 Q E} : Ev (xTIf ft f g ρ r) Q E t = Ev (ft ρ r) (fun b r1 => Bif b (Ev (f ρ r1) Q E t) (Ev (g ρ r1) Q E t) .mk) E .mk := by
  unfold xTIf; rw [ev_bind]; refine ev_congr fun _ _ => ?_; rename_i b _; cases b <;> rfl
theorem ev_andv {Q : D → Rs → Prop} {t : Tag2 Q E} : Ev (xAndV f g ρ r) Q E t = Ev (f ρ r) (fun d r1 => So (truth r1 d) (fun b => Bif b (Ev (g ρ r1) Q E t) (Q d r1) .mk) .mk) E .mk := by
  unfold xAndV; rw [ev_bind]; refine ev_congr fun _ _ => ?_; rename_i d r1; cases truth r1 d with | none => rfl | some b => cases b <;> rfl
theorem ev_orv {Q : D → Rs → Prop} {t : Tag2 Q E} : Ev (xOrV f g ρ r) Q E t = Ev (f ρ r) (fun d r1 => So (truth r1 d) (fun b => Bif b (Q d r1) (Ev (g ρ r1) Q E t) .mk) .mk) E .mk := by
  unfold xOrV; rw [ev_bind]; refine ev_congr fun _ _ => ?_; rename_i d r1; cases truth r1 d with | none => rfl | some b => cases b <;> rfl
theorem ev_notv {Q : D → Rs → Prop} {t : Tag2 Q E} : Ev (xNotV f ρ r) Q E t = Ev (f ρ r) (fun d r1 => So (truth r1 d) (fun b => Q (.bl (!b)) r1) .mk) E .mk := by
  unfold xNotV; rw [ev_bind]; refine ev_congr fun _ _ => ?_; rename_i d r1; cases truth r1 d with | none => rfl | some b => cases b <;> rfl
theorem ev_neg {Q : D → Rs → Prop} {t : Tag2 Q E} : Ev (xNeg f ρ r) Q E t = Ev (f ρ r) (fun d r1 => AsI d (fun i => Q (.int (-i)) r1) .mk) E .mk := by
  unfold xNeg; rw [ev_bind]; refine ev_congr fun _ _ => ?_; rename_i d _; cases d <;> rfl
theorem ev_nil {Q : List D → Rs → Prop} {t : Tag2 Q E} : Ev (xNil ρ r) Q E t = Q [] r := rfl
theorem ev_cons {Q : List D → Rs → Prop} {t : Tag2 Q E} : Ev (xCons f fa ρ r) Q E t = Ev (f ρ r) (fun d r1 => Ev (fa ρ r1) (fun ds r2 => Q (d :: ds) r2) E .mk) E .mk := by
  unfold xCons; rw [ev_bind]; refine ev_congr fun _ _ => ?_; rw [ev_bind]; refine ev_congr fun _ _ => ?_; rfl
theorem ev_tup {Q : D → Rs → Prop} {t : Tag2 Q E} : Ev (xTup fa ρ r) Q E t = Ev (fa ρ r) (fun ds r1 => Ck (ds.length ≤ lim) (Q (.tup ds) r1) .mk) E .mk := by
  unfold xTup; rw [ev_bind]; refine ev_congr fun _ _ => ?_; rw [ev_ck]; rfl
theorem ev_lst {Q : D → Rs → Prop} {t : Tag2 Q E} : Ev (xLst fa ρ r) Q E t = Ev (fa ρ r) (fun ds r1 => Ck (ds.length ≤ lim) (Q (.lst ds) r1) .mk) E .mk := by
  unfold xLst; rw [ev_bind]; refine ev_congr fun _ _ => ?_; rw [ev_ck]; rfl
theorem ev_lst' {Q : List D → Rs → Prop} {t : Tag2 Q E} : Ev (xLst' fa ρ r) Q E t = Ev (fa ρ r) (fun ds r1 => Ck (ds.length ≤ lim) (Q ds r1) .mk) E .mk := by
  unfold xLst'; rw [ev_bind]; refine ev_congr fun _ _ => ?_; rw [ev_ck]; rfl
theorem ev_cb {F : Rs → List D → Option D} {Q : D → Rs → Prop} {t : Tag2 Q E} : Ev (xCB F fa ρ r) Q E t = Ev (fa ρ r) (fun ds r1 => So (F r1 ds) (fun d => Q d r1) .mk) E .mk := by
  unfold xCB; rw [ev_bind]; refine ev_congr fun _ _ => ?_; rename_i ds r1; cases F r1 ds <;> rfl
theorem ev_call {F : List D → Rs → Out D} {Q : D → Rs → Prop} {t : Tag2 Q E} : Ev (xCall F fa ρ r) Q E t = Ev (fa ρ r) (fun ds r1 => Ev (F ds r1) Q E t) E .mk := by
  unfold xCall; rw [ev_bind]; refine ev_congr fun _ _ => ?_; rfl
theorem ev_calld {F : List D → Rs → Out D} {es : List D} {Q : D → Rs → Prop} {t : Tag2 Q E} : Ev (xCallD F es fa ρ r) Q E t = Ev (fa ρ r) (fun ds r1 => Ev (F (ds ++ es) r1) Q E t) E .mk := by
  unfold xCallD; rw [ev_call]
theorem ev_l {Q : D → Rs → Prop} {t : Tag2 Q E} : Ev (xL fl ρ r) Q E t = Ev (fl ρ r) (fun ds r1 => Q (.lst ds) r1) E .mk := by
  unfold xL; rw [ev_bind]; refine ev_congr fun _ _ => ?_; rfl
theorem ev_d {Q : D → Rs → Prop} {t : Tag2 Q E} : Ev (xD fd ρ r) Q E t = Ev (fd ρ r) (fun ds r1 => Q (.dic ds) r1) E .mk := by
  unfold xD; rw [ev_bind]; refine ev_congr fun _ _ => ?_; rfl
theorem ev_listn {Q : List D → Rs → Prop} {t : Tag2 Q E} : Ev (xListN fa ρ r) Q E t = Ev (fa ρ r) (fun ds r1 => So (cListN ds) (fun es => Q es r1) .mk) E .mk := by
  unfold xListN; rw [ev_bind]; refine ev_congr fun _ _ => ?_; rename_i ds r1; cases cListN ds <;> rfl
theorem ev_items {Q : List D → Rs → Prop} {t : Tag2 Q E} : Ev (xItems f ρ r) Q E t = Ev (f ρ r) (fun d r1 => So (items d) (fun es => Q es r1) .mk) E .mk := by
  unfold xItems; rw [ev_bind]; refine ev_congr fun _ _ => ?_; rename_i d r1; cases items d <;> rfl
theorem ev_rng1 {Q : List D → Rs → Prop} {t : Tag2 Q E} : Ev (xRng1 fa ρ r) Q E t = Ev (fa ρ r) (fun ds r1 => As1 ds (fun d => AsI d (fun j => Ck (big j = true) (Q (rng 0 j.toNat) r1) .mk) .mk) .mk) E .mk := by
  unfold xRng1; rw [ev_bind]; refine ev_congr fun _ _ => ?_; rename_i ds r1; match ds with
  | [] => rfl
  | [d] => (cases d <;> try rfl); rename_i j; exact ev_ck
  | d :: _ :: _ => cases d <;> rfl
theorem ev_rng2 {Q : List D → Rs → Prop} {t : Tag2 Q E} : Ev (xRng2 fa ρ r) Q E t = Ev (fa ρ r) (fun ds r1 => As2 ds (fun d e => AsI d (fun i => AsI e (fun j => Ck ((big i && big j) = true) (Q (rng i (j - i).toNat) r1) .mk) .mk) .mk) .mk) E .mk := by
  unfold xRng2; rw [ev_bind]; refine ev_congr fun _ _ => ?_; rename_i ds r1; match ds with
  | [] => rfl
  | [d] => cases d <;> rfl
  | [d, e] => (cases d <;> try rfl) <;> (cases e <;> try rfl); exact ev_ck
  | d :: e :: _ :: _ => cases d <;> (try rfl) <;> cases e <;> rfl
theorem ev_lc {tg : Tg} {vs : List Nat} {Q : List D → Rs → Prop} {t : Tag2 Q E} : Ev (xLc fl tg ft f vs ρ r) Q E t = Ev (fl ρ r) (fun ds r1 => Wp ρ vs (fun ρ' => SoP (lcGo tg ft f ρ' ds r1) (fun es r2 => Ck (es.length ≤ lim) (Q es r2) .mk) .mk) .mk) E .mk := by
  unfold xLc; rw [ev_bind]; refine ev_congr fun _ _ => ?_; rename_i ds r1; unfold Wp; dsimp only
  cases lcGo tg ft f (wipeE ρ vs) ds r1 with
  | none => rfl
  | some p => exact ev_ck
theorem ev_lc2 {tg tg2 : Tg} {it2 : Lx} {vs vs1 : List Nat} {Q : List D → Rs → Prop} {t : Tag2 Q E} : Ev (xLc2 fl tg it2 tg2 ft f vs vs1 ρ r) Q E t = Ev (fl ρ r) (fun ds r1 => Wp ρ vs (fun ρ' => SoP (lc2Go tg it2 tg2 ft f vs1 ρ' ds r1) (fun es r2 => Ck (es.length ≤ lim) (Q es r2) .mk) .mk) .mk) E .mk := by
  unfold xLc2; rw [ev_bind]; refine ev_congr fun _ _ => ?_; rename_i ds r1; unfold Wp; dsimp only
  cases lc2Go tg it2 tg2 ft f vs1 (wipeE ρ vs) ds r1 with
  | none => rfl
  | some p => exact ev_ck
theorem ev_dget {Q : D → Rs → Prop} {t : Tag2 Q E} : Ev (xDGet f g ρ r) Q E t = Ev (f ρ r) (fun a r1 => Ev (g ρ r1) (fun b r2 => So (dGet r2 a b) (fun o => So o (fun d => Q d r2) .mk) .mk) E .mk) E .mk := by
  unfold xDGet; rw [ev_bind]; refine ev_congr fun _ _ => ?_; rw [ev_bind]; refine ev_congr fun _ _ => ?_; rename_i a _ b r2; cases dGet r2 a b with | none => rfl | some o => cases o <;> rfl
theorem ev_dget1 {Q : D → Rs → Prop} {t : Tag2 Q E} : Ev (xDGet1 f g ρ r) Q E t = Ev (f ρ r) (fun a r1 => Ck (a.isD r1 = true) (Ev (g ρ r1) (fun b r2 => So (dGet r2 a b) (fun o => Q (o.getD .non) r2) .mk) E .mk) .mk) E .mk := by
  unfold xDGet1; rw [ev_bind]; refine ev_congr fun _ _ => ?_; rw [ev_ck, ev_bind]; unfold Ck; refine congrArg _ (ev_congr fun b r2 => ?_); rename_i a _; cases dGet r2 a b <;> rfl
theorem ev_dget2 {Q : D → Rs → Prop} {t : Tag2 Q E} : Ev (xDGet2 f g h ρ r) Q E t = Ev (f ρ r) (fun a r1 => Ck (a.isD r1 = true) (Ev (g ρ r1) (fun b r2 => Ev (h ρ r2) (fun c r3 => So (dGet r3 a b) (fun o => Q (o.getD c) r3) .mk) E .mk) E .mk) .mk) E .mk := by
  unfold xDGet2; rw [ev_bind]; refine ev_congr fun _ _ => ?_; rw [ev_ck, ev_bind]; unfold Ck; refine congrArg _ (ev_congr fun b r2 => ?_); rw [ev_bind]; refine ev_congr fun c r3 => ?_; rename_i a _; cases dGet r3 a b <;> rfl
theorem ev_din {Q : Bool → Rs → Prop} {t : Tag2 Q E} : Ev (xDIn f g ρ r) Q E t = Ev (f ρ r) (fun a r1 => Ev (g ρ r1) (fun b r2 => So (dGet r2 b a) (fun o => Q o.isSome r2) .mk) E .mk) E .mk := by
  unfold xDIn; rw [ev_bind]; refine ev_congr fun _ _ => ?_; rw [ev_bind]; refine ev_congr fun _ _ => ?_; rename_i a _ b r2; cases dGet r2 b a <;> rfl
theorem ev_kd {tab : List (Str × D)} {Q : D → Rs → Prop} {t : Tag2 Q E} : Ev (xKD tab g ρ r) Q E t = Ev (g ρ r) (fun b r1 => AsS b (fun x => So (tab.lookup x) (fun d => Q d r1) .mk) .mk) E .mk := by
  unfold xKD; rw [ev_bind]; refine ev_congr fun _ _ => ?_; rename_i d r1; cases d <;> try rfl
  rename_i x; show Ev (match tab.lookup x with | some d => .ok d r1 | none => .bad) Q E t = So (tab.lookup x) (fun d => Q d r1) .mk; cases tab.lookup x <;> rfl
theorem ev_dnew {Q : List (Key × D) → Rs → Prop} {t : Tag2 Q E} : Ev (xDNew ρ r) Q E t = Q [] r := rfl
theorem ev_yes {Q : Bool → Rs → Prop} {t : Tag2 Q E} : Ev (xYes ρ r) Q E t = Q true r := rfl
theorem ev_dcopy {Q : List (Key × D) → Rs → Prop} {t : Tag2 Q E} : Ev (xDCopy fa ρ r) Q E t = Ev (fa ρ r) (fun ds r1 => So (dicOf ds) (fun es => Q es r1) .mk) E .mk := by
  unfold xDCopy; rw [ev_bind]; refine ev_congr fun _ _ => ?_; rename_i ds r1; cases dicOf ds <;> rfl
theorem ev_ps0 {Q : List (Key × D) → Rs → Prop} {t : Tag2 Q E} : Ev (xPs [] ρ r) Q E t = Q [] r := rfl
theorem ev_ps1 {ps : List (Ex × Ex)} {Q : List (Key × D) → Rs → Prop} {t : Tag2 Q E} : Ev (xPs ((f, g) :: ps) ρ r) Q E t = Ev (f ρ r) (fun a r1 => Ev (g ρ r1) (fun b r2 => So (keyOf a) (fun k => Ev (xPs ps ρ r2) (fun l r3 => Q ((k, b) :: l) r3) E .mk) .mk) E .mk) E .mk := by
  unfold xPs; rw [ev_bind]; refine ev_congr fun _ _ => ?_; rw [ev_bind]; refine ev_congr fun _ _ => ?_; rename_i a _ b r2; cases keyOf a with | none => rfl | some k => exact ev_bind
theorem ev_disp {ps : List (Ex × Ex)} {Q : List (Key × D) → Rs → Prop} {t : Tag2 Q E} : Ev (xDisp ps ρ r) Q E t = Ev (xPs ps ρ r) (fun l r1 => Ck (l.length ≤ 15) (Q (mergeD [] l) r1) .mk) E .mk := by
  unfold xDisp; rw [ev_bind]; refine ev_congr fun _ _ => ?_; rw [ev_ck]; rfl
theorem ev_res {Q : D → Rs → Prop} {t : Tag2 Q E} : Ev (xRes fl ρ r) Q E t = Ev (fl ρ r) (fun ds r1 => Imms ds (Q (.loc r1.length) (r1 ++ [.lst ds])) .mk) E .mk := by
  unfold xRes; rw [ev_bind]; refine ev_congr fun _ _ => ?_; rw [ev_ck]; rfl
theorem ev_resd {Q : D → Rs → Prop} {t : Tag2 Q E} : Ev (xResD fd ρ r) Q E t = Ev (fd ρ r) (fun ds r1 => Ck (D.immk ds = true) (Q (.loc r1.length) (r1 ++ [.dic ds])) .mk) E .mk := by
  unfold xResD; rw [ev_bind]; refine ev_congr fun _ _ => ?_; rw [ev_ck]; rfl
theorem ev_fld {c i : Nat} {Q : D → Rs → Prop} {t : Tag2 Q E} : Ev (xFld c i f ρ r) Q E t = Ev (f ρ r) (fun a r1 => So (fldD r1 c i a) (fun d => Q d r1) .mk) E .mk := by
  unfold xFld; rw [ev_bind]; refine ev_congr fun _ _ => ?_; rename_i a r1; cases fldD r1 c i a <;> rfl
theorem ev_con {c : Nat} {d : D} {Q : D → Rs → Prop} {t : Tag2 Q E} : Ev (xCon c d f ρ r) Q E t = Ev (f ρ r) (fun a r1 => So (insOf r1 a) (fun p => Ck (p.1 = c) (Q d r1) .mk) .mk) E .mk := by
  unfold xCon; rw [ev_bind]; refine ev_congr fun _ _ => ?_; (rename_i a r1; cases insOf r1 a with | none => rfl | some p => exact ev_ck)
theorem ev_meth {c : Nat} {F : List D → Rs → Out D} {Q : D → Rs → Prop} {t : Tag2 Q E} : Ev (xMeth c F f fa ρ r) Q E t = Ev (f ρ r) (fun a r1 => So (insOf r1 a) (fun p => Ck (p.1 = c) (Ev (fa ρ r1) (fun ds r2 => Ev (F (a :: ds) r2) Q E t) E .mk) .mk) .mk) E .mk := by
  unfold xMeth; rw [ev_bind]; refine ev_congr fun _ _ => ?_; (rename_i a r1; cases insOf r1 a with | none => rfl | some p => exact ev_ck.trans (congrArg (fun z => Ck (p.1 = c) z .mk) ev_bind))
theorem ev_prop {c : Nat} {F : List D → Rs → Out D} {Q : D → Rs → Prop} {t : Tag2 Q E} : Ev (xProp c F f ρ r) Q E t = Ev (f ρ r) (fun a r1 => So (insOf r1 a) (fun p => Ck (p.1 = c) (Ev (noExc (F [a] r1)) Q E t) .mk) .mk) E .mk := by
  unfold xProp; rw [ev_bind]; refine ev_congr fun _ _ => ?_; (rename_i a r1; cases insOf r1 a with | none => rfl | some p => exact ev_ck)
theorem ev_newf {c : Nat} {F : List D → Rs → Out D} {Q : D → Rs → Prop} {t : Tag2 Q E} : Ev (xNewF c F fa ρ r) Q E t = Ev (fa ρ r) (fun ds r1 => Ev (kNewF r1.length (F (.loc r1.length :: ds) (r1 ++ [.obj 0 c []]))) Q E t) E .mk := by
  unfold xNewF; rw [ev_bind]; refine ev_congr fun _ _ => ?_; rfl
theorem ev_newr {c : Nat} {F : List D → Rs → Out D} {Q : D → Rs → Prop} {t : Tag2 Q E} : Ev (xNewR c F fa ρ r) Q E t = Ev (fa ρ r) (fun ds r1 => Ev (F (.loc r1.length :: ds) (r1 ++ [.obj 0 c []])) (fun d r2 => Ck (d = .non) (Q (.loc r1.length) r2) .mk) E .mk) E .mk := by
  unfold xNewR; rw [ev_bind]; refine ev_congr fun _ _ => ?_; rw [ev_bind]; refine ev_congr fun _ _ => ?_; (rename_i d r2; unfold Ck; cases d <;> simp [Ev])
theorem ev_calln {F : List D → Rs → Out D} {Q : List D → Rs → Prop} {t : Tag2 Q E} : Ev (xCallN F fa ρ r) Q E t = Ev (fa ρ r) (fun ds r1 => Ev (F ds r1) (fun d r2 => AsL d (fun es => Q es r2) .mk) E .mk) E .mk := by
  unfold xCallN; rw [ev_bind]; refine ev_congr fun _ _ => ?_; rw [ev_bind]; refine ev_congr fun _ _ => ?_; rename_i d r2; cases d <;> rfl
theorem ev_callnd {F : List D → Rs → Out D} {Q : List (Key × D) → Rs → Prop} {t : Tag2 Q E} : Ev (xCallND F fa ρ r) Q E t = Ev (fa ρ r) (fun ds r1 => Ev (F ds r1) (fun d r2 => AsD d (fun es => Q es r2) .mk) E .mk) E .mk := by
  unfold xCallND; rw [ev_bind]; refine ev_congr fun _ _ => ?_; rw [ev_bind]; refine ev_congr fun _ _ => ?_; rename_i d r2; cases d <;> rfl
theorem ev_sort {Q : List D → Rs → Prop} {t : Tag2 Q E} : Ev (xSort fa ρ r) Q E t = Ev (fa ρ r) (fun ds r1 => So (cSort ds) (fun es => Q es r1) .mk) E .mk := by
  unfold xSort; rw [ev_bind]; refine ev_congr fun _ _ => ?_; rename_i ds r1; cases cSort ds <;> rfl
theorem ev_join {Q : D → Rs → Prop} {t : Tag2 Q E} : Ev (xJoin f fa ρ r) Q E t = Ev (f ρ r) (fun a r1 => AsS a (fun x => Ev (fa ρ r1) (fun ds r2 => As1 ds (fun b => So (joinD x b) (fun d => Q d r2) .mk) .mk) E .mk) .mk) E .mk := by
  unfold xJoin; rw [ev_bind]; refine ev_congr fun _ _ => ?_; rename_i a r1; cases a <;> try rfl
  rename_i x
  refine Eq.trans (b := Ev (fa ρ r1) (fun ds r2 => Ev (match ds with | [b] => (match joinD x b with | some d => .ok d r2 | none => .bad) | _ => .bad) Q E t) E .mk) ev_bind (ev_congr (t' := .mk) fun ds r2 => ?_)
  match ds with
  | [] => rfl
  | [b] => show Ev (match joinD x b with | some d => .ok d r2 | none => .bad) Q E t = So (joinD x b) (fun d => Q d r2) .mk; cases joinD x b <;> rfl
  | _ :: _ :: _ => rfl
theorem ev_dc {tg : Tg} {vs : List Nat} {Q : List (Key × D) → Rs → Prop} {t : Tag2 Q E} : Ev (xDc fl tg ft f g vs ρ r) Q E t = Ev (fl ρ r) (fun ds r1 => Ck (ds.length < lim) (Wp ρ vs (fun ρ' => SoP (dcGo tg ft f g ρ' ds [] r1) (fun es r2 => Q es r2) .mk) .mk) .mk) E .mk := by
  unfold xDc; rw [ev_bind]; refine ev_congr fun _ _ => ?_; rename_i ds r1; rw [ev_ck]; unfold Ck Wp; refine congrArg _ ?_; dsimp only; cases dcGo tg ft f g (wipeE ρ vs) ds [] r1 <;> rfl
end
section
variable {α : Type} {N : En → Rs → Prop} {k : Ks} {t : Tag2 N k} {ρ : En} {r r1 : Rs} {f g : Ex} {fa : Ax} {fl : Lx} {fd : Dx} {ft : Tx} {a b : Sx} {O : List Nat} {i j : Nat} {tg : Tg}
theorem sv_next  : Sv (.next ρ r) N k t = N ρ r := rfl
theorem sv_brk  : Sv (.brk ρ r) N k t = k.B ρ r := rfl
theorem sv_cont  : Sv (.cont ρ r) N k t = k.C ρ r := rfl
theorem sv_ret {d : D} : Sv (.ret d r) N k t = k.T d r := rfl
theorem sv_exc {c : Nat} {fs : List (Str × Int)} : Sv (.exc c fs ρ r) N k t = k.E c fs ρ r := rfl
theorem sv_seq  : Sv (sSeq a b ρ r) N k t = Sv (a ρ r) (fun ρ r => Sv (b ρ r) N k t) k .mk := by
  unfold sSeq; cases a ρ r <;> rfl
theorem sv_nx  : Sv (sNext ρ r) N k t = N ρ r := rfl
theorem sv_bk  : Sv (sBrk ρ r) N k t = k.B ρ r := rfl
theorem sv_ct  : Sv (sCont ρ r) N k t = k.C ρ r := rfl
theorem sv_evF {f : En → Rs → Out α} {K : α → En → Rs → SOut} : Sv (evF O f K ρ r) N k t = Wp ρ O (fun ρ' => Ev (f ρ' r) (fun x r1 => Sv (K x ρ r1) N k t) (fun c fs r1 => k.E c fs ρ r1) .mk) .mk := by unfold evF Wp; dsimp only; cases f (wipeE ρ O) r <;> rfl
theorem sv_evI {f : En → Rs → Out α} {K : α → En → Rs → SOut} : Sv (evI f K ρ r) N k t = Ev (f ρ r) (fun x r1 => Ver r r1 (fun r2 => Sv (K x ρ r2) N k t) .mk) (fun c fs r1 => Ver r r1 (fun r2 => k.E c fs ρ r2) .mk) .mk := by
  unfold evI Ver
  cases f ρ r with
  | ok x r1 => exact (sv_ck (c := verOk r r1 = true))
  | exc c fs r1 =>
    show Sv (if verOk r r1 = true then _ else _) N k t = _
    by_cases h : verOk r r1 = true <;> simp [h, Sv, Ev]
  | bad => rfl
theorem sv_store {d : D} : Sv (kStore tg d ρ r) N k t = Tgt tg d ρ (fun ρ' => N ρ' r) .mk := by
  unfold kStore Tgt; cases tg d ρ <;> rfl
theorem sv_asg  : Sv (sAsg O tg f ρ r) N k t = Wp ρ O (fun ρ' => Ev (f ρ' r) (fun d r1 => Tgt tg d ρ (fun ρ2 => N ρ2 r1) .mk) (fun c fs r1 => k.E c fs ρ r1) .mk) .mk := by
  unfold sAsg; rw [sv_evF]; unfold Wp; exact ev_congr fun _ _ => sv_store
theorem sv_asgI  : Sv (sAsgI tg f ρ r) N k t = Ev (f ρ r) (fun d r1 => Ver r r1 (fun r2 => Imm d (Tgt tg d ρ (fun ρ2 => N ρ2 r2) .mk) .mk) .mk) (fun c fs r1 => Ver r r1 (fun r2 => k.E c fs ρ r2) .mk) .mk := by
  unfold sAsgI; rw [sv_evI]; refine ev_congr fun d r1 => ?_; unfold Ver Imm; simp only [sv_ck, sv_store, Ck]
theorem set_ck {d : D} : Sv (if i < ρ.length then .next (ρ.set i (some d)) r else .bad) N k t = SetE ρ i d (fun ρ' => N ρ' r) .mk := by
  rw [sv_ck]; rfl
theorem sv_own {ds : List D} : Sv (kOwn i ds ρ r) N k t = SetE ρ i (.lst ds) (fun ρ' => N ρ' r) .mk := by
  unfold kOwn; exact set_ck
theorem sv_ownD {ds : List (Key × D)} : Sv (kOwnD i ds ρ r) N k t = SetE ρ i (.dic ds) (fun ρ' => N ρ' r) .mk := by
  unfold kOwnD; exact set_ck
theorem sv_asgN  : Sv (sAsgN O i fl ρ r) N k t = Wp ρ O (fun ρ' => Ev (fl ρ' r) (fun ds r1 => SetE ρ i (.lst ds) (fun ρ2 => N ρ2 r1) .mk) (fun c fs r1 => k.E c fs ρ r1) .mk) .mk := by
  unfold sAsgN; rw [sv_evF]; unfold Wp; exact ev_congr fun _ _ => sv_own
theorem sv_asgD  : Sv (sAsgD O i fd ρ r) N k t = Wp ρ O (fun ρ' => Ev (fd ρ' r) (fun ds r1 => SetE ρ i (.dic ds) (fun ρ2 => N ρ2 r1) .mk) (fun c fs r1 => k.E c fs ρ r1) .mk) .mk := by
  unfold sAsgD; rw [sv_evF]; unfold Wp; exact ev_congr fun _ _ => sv_ownD
theorem sv_asgNI  : Sv (sAsgNI i fl ρ r) N k t = Ev (fl ρ r) (fun ds r1 => Ver r r1 (fun r2 => Imms ds (SetE ρ i (.lst ds) (fun ρ2 => N ρ2 r2) .mk) .mk) .mk) (fun c fs r1 => Ver r r1 (fun r2 => k.E c fs ρ r2) .mk) .mk := by
  unfold sAsgNI; rw [sv_evI]; refine ev_congr fun d r1 => ?_; unfold Ver Imms; simp only [sv_ck, sv_own, Ck]
theorem sv_exp  : Sv (sExp O f ρ r) N k t = Wp ρ O (fun ρ' => Ev (f ρ' r) (fun _ r1 => N ρ r1) (fun c fs r1 => k.E c fs ρ r1) .mk) .mk := by
  unfold sExp; rw [sv_evF]; rfl
theorem sv_sret  : Sv (sRet false O f ρ r) N k t = Wp ρ O (fun ρ' => Ev (f ρ' r) (fun d r1 => k.T d r1) (fun c fs r1 => k.E c fs ρ r1) .mk) .mk := by
  unfold sRet; rw [sv_evF]; unfold Wp; refine ev_congr fun d r1 => ?_; simp [Sv]
theorem sv_sretI  : Sv (sRetI f ρ r) N k t = Ev (f ρ r) (fun d r1 => Ver r r1 (fun r2 => Imm d (k.T d r2) .mk) .mk) (fun c fs r1 => Ver r r1 (fun r2 => k.E c fs ρ r2) .mk) .mk := by
  unfold sRetI; rw [sv_evI]; refine ev_congr fun d r1 => ?_; unfold Ver Imm; simp only [sv_ck, sv_ret, Ck]
theorem sv_sretN  : Sv (sRetN O fl ρ r) N k t = Wp ρ O (fun ρ' => Ev (fl ρ' r) (fun d r1 => k.T (.lst d) r1) (fun c fs r1 => k.E c fs ρ r1) .mk) .mk := by
  unfold sRetN; rw [sv_evF]; rfl
theorem sv_sretD  : Sv (sRetD O fd ρ r) N k t = Wp ρ O (fun ρ' => Ev (fd ρ' r) (fun d r1 => k.T (.dic d) r1) (fun c fs r1 => k.E c fs ρ r1) .mk) .mk := by
  unfold sRetD; rw [sv_evF]; rfl
theorem sv_sretNI  : Sv (sRetNI fl ρ r) N k t = Ev (fl ρ r) (fun d r1 => Ver r r1 (fun r2 => Imms d (k.T (.lst d) r2) .mk) .mk) (fun c fs r1 => Ver r r1 (fun r2 => k.E c fs ρ r2) .mk) .mk := by
  unfold sRetNI; rw [sv_evI]; refine ev_congr fun d r1 => ?_; unfold Ver Imms; simp only [sv_ck, sv_ret, Ck]
theorem sv_sretO  : Sv (sRetO i ρ r) N k t = GetE ρ i (fun d => AsL d (fun ds => k.T (.lst ds) r) .mk) .mk := by
  unfold sRetO GetE; cases e : ρ[i]? with | none => rfl | some o => cases o with | none => rfl | some d => cases d <;> rfl
theorem sv_sretOD  : Sv (sRetOD i ρ r) N k t = GetE ρ i (fun d => AsD d (fun ds => k.T (.dic ds) r) .mk) .mk := by
  unfold sRetOD GetE; cases e : ρ[i]? with | none => rfl | some o => cases o with | none => rfl | some d => cases d <;> rfl
theorem sv_retn  : Sv ((fun _ r => .ret .non r : Sx) ρ r) N k t = k.T .non r := rfl
theorem sv_move  : Sv (sMove i j ρ r) N k t = GetE ρ j (fun d => SetN ρ j (fun ρ1 => SetE ρ1 i d (fun ρ2 => N ρ2 r) .mk) .mk) .mk := by
  unfold sMove GetE SetN SetE
  cases e : ρ[j]? with
  | none => rfl
  | some o => cases o with
    | none => rfl
    | some d => exact (sv_ck (c := i < ρ.length)).trans (by unfold Ck; simp only [List.length_set]; rfl)
theorem sv_give  : Sv (sGive tg j ρ r) N k t = GetE ρ j (fun d => SetN ρ j (fun ρ1 => Tgt tg d ρ1 (fun ρ2 => N ρ2 r) .mk) .mk) .mk := by
  unfold sGive GetE SetN
  cases e : ρ[j]? with
  | none => rfl
  | some o => cases o with
    | none => rfl
    | some d => exact sv_store
theorem sv_isL  : Sv (isOwnL i a ρ r) N k t = GetE ρ i (fun d => AsL d (fun _ => Sv (a ρ r) N k t) .mk) .mk := by
  unfold isOwnL GetE; cases e : ρ[i]? with | none => rfl | some o => cases o with | none => rfl | some d => cases d <;> rfl
theorem sv_isD  : Sv (isOwnD i a ρ r) N k t = GetE ρ i (fun d => AsD d (fun _ => Sv (a ρ r) N k t) .mk) .mk := by
  unfold isOwnD GetE; cases e : ρ[i]? with | none => rfl | some o => cases o with | none => rfl | some d => cases d <;> rfl
theorem set_in {d z : D} {Q : En → Prop} {t : Tag2 Q Q} (e : ρ[i]? = some (some z)) : SetE ρ i d Q t = Q (ρ.set i (some d)) := by
  have hi : i < ρ.length := (List.getElem?_eq_some_iff.mp e).1
  unfold SetE; simp [hi]
theorem set_in' {d z : D} (e : ρ[i]? = some (some z)) : Sv (.next (ρ.set i (some d)) r) N k t = SetE ρ i d (fun ρ' => N ρ' r) .mk := (set_in (Q := fun ρ' => N ρ' r) (t := .mk) e).symm
theorem sv_kApp {ds : List D} : Sv (kApp i ds ρ r) N k t = As1 ds (fun d => GetE ρ i (fun z => AsL z (fun xs => Ck (xs.length < lim) (SetE ρ i (.lst (xs ++ [d])) (fun ρ' => N ρ' r) .mk) .mk) .mk) .mk) .mk := by
  unfold kApp GetE
  match ds with
  | [] => rfl
  | [d] =>
    show Sv (match [d], ρ[i]? with | [d], some (some (.lst xs)) => if xs.length < lim then .next (ρ.set i (some (.lst (xs ++ [d])))) r else .bad | _, _ => .bad) N k t = (match ρ[i]? with | some (some z) => AsL z _ .mk | _ => False)
    cases e : ρ[i]? with
    | none => rfl
    | some o => cases o with
      | none => rfl
      | some z =>
        cases z <;> try rfl
        rename_i xs
        refine sv_ck.trans ?_; exact congrArg (fun z => Ck (xs.length < lim) z .mk) (set_in' e)
  | _ :: _ :: _ => rfl
theorem sv_app  : Sv (sApp O i fa ρ r) N k t = Wp ρ O (fun ρ' => Ev (fa ρ' r) (fun ds r1 => Sv (kApp i ds ρ r1) N k t) (fun c fs r1 => k.E c fs ρ r1) .mk) .mk := sv_evF
theorem sv_appI  : Sv (sAppI i fa ρ r) N k t = Ev (fa ρ r) (fun ds r1 => Ver r r1 (fun r2 => Imms ds (Sv (kApp i ds ρ r2) N k t) .mk) .mk) (fun c fs r1 => Ver r r1 (fun r2 => k.E c fs ρ r2) .mk) .mk := by
  unfold sAppI; rw [sv_evI]; refine ev_congr fun d r1 => ?_; unfold Ver Imms; simp only [sv_ck, Ck]
theorem sv_kIns {j : Int} {d : D} : Sv (kIns i [.int j, d] ρ r) N k t = GetE ρ i (fun z => AsL z (fun xs => Ck (xs.length < lim ∧ 0 ≤ j ∧ big j = true) (SetE ρ i (.lst (xs.take j.toNat ++ [d] ++ xs.drop j.toNat)) (fun ρ' => N ρ' r) .mk) .mk) .mk) .mk := by
  unfold kIns GetE
  show Sv (match [D.int j, d], ρ[i]? with | [.int j, d], some (some (.lst xs)) => if xs.length < lim ∧ 0 ≤ j ∧ big j = true then .next (ρ.set i (some (.lst (xs.take j.toNat ++ [d] ++ xs.drop j.toNat)))) r else .bad | _, _ => .bad) N k t = (match ρ[i]? with | some (some z) => AsL z _ .mk | _ => False)
  cases e : ρ[i]? with
  | none => rfl
  | some o => cases o with
    | none => rfl
    | some z =>
      cases z <;> try rfl
      rename_i xs
      refine sv_ck.trans ?_; exact congrArg (fun z => Ck (xs.length < lim ∧ 0 ≤ j ∧ big j = true) z .mk) (set_in' e)
theorem sv_ins  : Sv (sIns O i fa ρ r) N k t = Wp ρ O (fun ρ' => Ev (fa ρ' r) (fun ds r1 => Sv (kIns i ds ρ r1) N k t) (fun c fs r1 => k.E c fs ρ r1) .mk) .mk := sv_evF
theorem sv_insI  : Sv (sInsI i fa ρ r) N k t = Ev (fa ρ r) (fun ds r1 => Ver r r1 (fun r2 => Imms ds (Sv (kIns i ds ρ r2) N k t) .mk) .mk) (fun c fs r1 => Ver r r1 (fun r2 => k.E c fs ρ r2) .mk) .mk := by
  unfold sInsI; rw [sv_evI]; refine ev_congr fun d r1 => ?_; unfold Ver Imms; simp only [sv_ck, Ck]
theorem sv_xt {es : List D} : Sv (match ρ[i]? with | some (some (.lst xs)) => if xs.length + es.length ≤ lim then .next (ρ.set i (some (.lst (xs ++ es)))) r else .bad | _ => .bad) N k t = GetE ρ i (fun z => AsL z (fun xs => Ck (xs.length + es.length ≤ lim) (SetE ρ i (.lst (xs ++ es)) (fun ρ' => N ρ' r) .mk) .mk) .mk) .mk := by
  unfold GetE
  cases e : ρ[i]? with
  | none => rfl
  | some o => cases o with
    | none => rfl
    | some z =>
      cases z <;> try rfl
      rename_i xs
      refine sv_ck.trans ?_; exact congrArg (fun z => Ck (xs.length + es.length ≤ lim) z .mk) (set_in' e)
theorem sv_extN  : Sv (sExtN O i fl ρ r) N k t = Wp ρ O (fun ρ' => Ev (fl ρ' r) (fun es r1 => GetE ρ i (fun z => AsL z (fun xs => Ck (xs.length + es.length ≤ lim) (SetE ρ i (.lst (xs ++ es)) (fun ρ' => N ρ' r1) .mk) .mk) .mk) .mk) (fun c fs r1 => k.E c fs ρ r1) .mk) .mk := by
  unfold sExtN; rw [sv_evF]; unfold Wp; exact ev_congr fun _ _ => sv_xt
theorem sv_extI  : Sv (sExtI i fl ρ r) N k t = Ev (fl ρ r) (fun es r1 => Ver r r1 (fun r2 => Imms es (GetE ρ i (fun z => AsL z (fun xs => Ck (xs.length + es.length ≤ lim) (SetE ρ i (.lst (xs ++ es)) (fun ρ' => N ρ' r2) .mk) .mk) .mk) .mk) .mk) .mk) (fun c fs r1 => Ver r r1 (fun r2 => k.E c fs ρ r2) .mk) .mk := by
  unfold sExtI; rw [sv_evI]; refine ev_congr fun d r1 => ?_; unfold Ver Imms; refine congrArg (fun z => verOk r r1 = true ∧ z) ?_; dsimp only; rw [sv_ck]; unfold Ck; refine congrArg (fun z => D.imms d = true ∧ z) ?_; exact sv_xt
theorem sv_ext  : Sv (sExt O i fa ρ r) N k t = Wp ρ O (fun ρ' => Ev (fa ρ' r) (fun ds r1 => As1 ds (fun d => AsL d (fun es => GetE ρ i (fun z => AsL z (fun xs => Ck (xs.length + es.length ≤ lim) (SetE ρ i (.lst (xs ++ es)) (fun ρ' => N ρ' r1) .mk) .mk) .mk) .mk) .mk) .mk) (fun c fs r1 => k.E c fs ρ r1) .mk) .mk := by
  unfold sExt; rw [sv_evF]; unfold Wp; refine ev_congr fun ds r1 => ?_
  unfold kExt
  match ds with
  | [] => rfl
  | [d] =>
    cases d <;> try rfl
    rename_i es
    show Sv (match [D.lst es], ρ[i]? with | [.lst es], some (some (.lst xs)) => if xs.length + es.length ≤ lim then .next (ρ.set i (some (.lst (xs ++ es)))) r1 else .bad | _, _ => .bad) N k t = GetE ρ i (fun z => AsL z (fun xs => Ck (xs.length + es.length ≤ lim) (SetE ρ i (.lst (xs ++ es)) (fun ρ' => N ρ' r1) .mk) .mk) .mk) .mk
    rw [← sv_xt (t := t)]
    cases e : ρ[i]? with
    | none => rfl
    | some o => cases o with
      | none => rfl
      | some z => cases z <;> rfl
  | d :: _ :: _ => cases d <;> rfl
theorem sv_if  : Sv (sIf ft a b ρ r) N k t = Ev (ft ρ r) (fun x r1 => Ver r r1 (fun r2 => Bif x (Sv (a ρ r2) N k t) (Sv (b ρ r2) N k t) .mk) .mk) (fun c fs r1 => Ver r r1 (fun r2 => k.E c fs ρ r2) .mk) .mk := by
  unfold sIf; rw [sv_evI]; refine ev_congr fun d r1 => ?_; unfold Ver; cases d <;> rfl
theorem sv_ifF  : Sv (sIfF O ft a b ρ r) N k t = Wp ρ O (fun ρ' => Ev (ft ρ' r) (fun x r1 => Bif x (Sv (a ρ r1) N k t) (Sv (b ρ r1) N k t) .mk) (fun c fs r1 => k.E c fs ρ r1) .mk) .mk := by
  unfold sIfF; rw [sv_evF]; unfold Wp; refine ev_congr fun d r1 => ?_; cases d <;> rfl
theorem sv_for  : Sv (sFor O fl tg a ρ r) N k t = Wp ρ O (fun ρ' => Ev (fl ρ' r) (fun ds r1 => Sv (forGo tg a ds ρ r1) N k t) (fun c fs r1 => k.E c fs ρ r1) .mk) .mk := sv_evF
theorem sv_forR1I  : Sv (sForR1I fa tg a ρ r) N k t = Ev (fa ρ r) (fun ds r1 => Ver r r1 (fun r2 => As1 ds (fun d => AsI d (fun j => Ck (big j = true) (Sv (forGo tg a (rng 0 j.toNat) ρ r2) N k t) .mk) .mk) .mk) .mk) (fun c fs r1 => Ver r r1 (fun r2 => k.E c fs ρ r2) .mk) .mk := by
  unfold sForR1I; rw [sv_evI]; refine ev_congr fun ds r1 => ?_; unfold Ver; refine congrArg _ ?_
  match ds with
  | [] => rfl
  | [d] => (cases d <;> try rfl); rename_i j; exact sv_ck
  | d :: _ :: _ => cases d <;> rfl
theorem sv_aug {op : Int → Int → Int} : Sv (sAug i op f ρ r) N k t = GetE ρ i (fun z => AsI z (fun x => Ev (f ρ r) (fun d r1 => Ver r r1 (fun r2 => AsI d (fun y => SetE ρ i (.int (op x y)) (fun ρ' => N ρ' r2) .mk) .mk) .mk) (fun c fs r1 => Ver r r1 (fun r2 => k.E c fs ρ r2) .mk) .mk) .mk) .mk := by
  unfold sAug GetE
  cases e : ρ[i]? with
  | none => rfl
  | some o => cases o with
    | none => rfl
    | some z =>
      cases z <;> try rfl
      rename_i x
      refine sv_evI.trans (ev_congr (t' := .mk) fun d r1 => ?_)
      unfold Ver kAug; refine congrArg _ ?_; dsimp only
      rw [e]
      cases d <;> try rfl
      exact set_in' e
theorem sv_par  : Sv (sPar O i j fa ρ r) N k t = Wp ρ O (fun ρ' => Ev (fa ρ' r) (fun ds r1 => As2 ds (fun x y => SetE ρ i x (fun ρ1 => SetE ρ1 j y (fun ρ2 => N ρ2 r1) .mk) .mk) .mk) (fun c fs r1 => k.E c fs ρ r1) .mk) .mk := by
  unfold sPar; rw [sv_evF]; unfold Wp; refine ev_congr fun ds r1 => ?_
  unfold kPar SetE
  match ds with
  | [] => rfl
  | [_] => rfl
  | [x, y] => show Sv (if i < ρ.length ∧ j < ρ.length then _ else _) N k t = (i < ρ.length ∧ j < (ρ.set i (some x)).length ∧ _); rw [sv_ck, List.length_set]; unfold Ck; simp only [Sv, and_assoc]
  | _ :: _ :: _ :: _ => rfl
theorem sv_raise  : Sv (sRaise i ρ r) N k t = k.E i [] ρ r := rfl
theorem sv_setOI  : Sv (sSetOI i f g ρ r) N k t = Ev (g ρ r) (fun v r1 => Ver r r1 (fun r2 => Imm v (Ev (f ρ r2) (fun x r3 => Ver r2 r3 (fun r4 => Sv (kSetO i v x ρ r4) N k t) .mk) (fun c fs r3 => Ver r2 r3 (fun r4 => k.E c fs ρ r4) .mk) .mk) .mk) .mk) (fun c fs r1 => Ver r r1 (fun r2 => k.E c fs ρ r2) .mk) .mk := by
  unfold sSetOI; rw [sv_evI]; refine ev_congr fun d r1 => ?_; unfold Ver Imm; simp only [sv_ck, sv_evI, Ck]; rfl
theorem wrap_sv {o : SOut} {N : En → Rs → Prop} {k : Ks} {t : Tag2 N k} {i : Nat} : Sv (wrapE i o) N k t = Sv o (fun ρ3 r3 => SetN ρ3 i (fun ρ4 => N ρ4 r3) .mk) ⟨fun ρ3 r3 => SetN ρ3 i (fun ρ4 => k.C ρ4 r3) .mk, fun ρ3 r3 => SetN ρ3 i (fun ρ4 => k.B ρ4 r3) .mk, k.T, fun _ _ _ _ => False⟩ .mk := by cases o <;> rfl
theorem sv_tryAs {cs : List Nat} {c0 : Nat} {su : Nat → Sx} : Sv (sTryAs cs c0 i a su ρ r) N k t = Sv (a ρ r) N ⟨k.C, k.B, k.T, fun x fs ρ1 r1 => Ck ((fs.isEmpty && cs.contains x && decide (i < ρ1.length)) = true) (Bif (subE x c0) (SetN ρ1 i (fun ρ2 => Sv (su x ρ2 r1) (fun ρ3 r3 => SetN ρ3 i (fun ρ4 => N ρ4 r3) .mk) ⟨fun ρ3 r3 => SetN ρ3 i (fun ρ4 => k.C ρ4 r3) .mk, fun ρ3 r3 => SetN ρ3 i (fun ρ4 => k.B ρ4 r3) .mk, k.T, fun _ _ _ _ => False⟩ .mk) .mk) (k.E x fs ρ1 r1) .mk) .mk⟩ .mk := by
  unfold sTryAs
  cases a ρ r with
  | exc x fs ρ1 r1 =>
    show Sv (if (fs.isEmpty && cs.contains x && decide (i < ρ1.length)) = true then (if subE x c0 = true then wrapE i (su x (ρ1.set i none) r1) else .exc x fs ρ1 r1) else .bad) N k t = _
    rw [sv_ck]
    refine congrArg (fun z => Ck _ z .mk) ?_
    unfold Bif
    by_cases h : subE x c0 = true
    · rw [if_pos h, if_pos h]; exact wrap_sv
    · rw [if_neg h, if_neg h]; rfl
  | _ => rfl
theorem sv_tryAsE {cs : List Nat} {c0 : Nat} {su : Nat → Sx} : Sv (sTryAsE cs c0 i a su b ρ r) N k t = Sv (a ρ r) (fun ρ1 r1 => Sv (b ρ1 r1) N k .mk) ⟨k.C, k.B, k.T, fun x fs ρ1 r1 => Ck ((fs.isEmpty && cs.contains x && subE x c0 && decide (i < ρ1.length)) = true) (SetN ρ1 i (fun ρ2 => Sv (su x ρ2 r1) (fun ρ3 r3 => SetN ρ3 i (fun ρ4 => N ρ4 r3) .mk) ⟨fun ρ3 r3 => SetN ρ3 i (fun ρ4 => k.C ρ4 r3) .mk, fun ρ3 r3 => SetN ρ3 i (fun ρ4 => k.B ρ4 r3) .mk, k.T, fun _ _ _ _ => False⟩ .mk) .mk) .mk⟩ .mk := by
  unfold sTryAsE
  cases a ρ r with
  | exc x fs ρ1 r1 =>
    show Sv (if (fs.isEmpty && cs.contains x && subE x c0 && decide (i < ρ1.length)) = true then wrapE i (su x (ρ1.set i none) r1) else .bad) N k t = _
    rw [sv_ck]
    exact congrArg (fun z => Ck _ z .mk) wrap_sv
  | _ => rfl
theorem sv_suIf  : Sv (sSuIf ft a b ρ r) N k t = Ev (ft ρ r) (fun x r1 => Ver r r1 (fun r2 => Bif x (Sv (a ρ r2) (fun _ _ => False) k .mk) (Sv (b ρ r2) N k t) .mk) .mk) (fun c fs r1 => Ver r r1 (fun r2 => k.E c fs ρ r2) .mk) .mk := by
  unfold sSuIf; rw [sv_evI]; refine ev_congr fun d r1 => ?_; unfold Ver; refine congrArg (fun z => verOk r r1 = true ∧ z) ?_
  cases d
  · rfl
  · show Sv (noNx (a ρ (mixR r r1))) N k t = Sv (a ρ (mixR r r1)) (fun _ _ => False) k .mk
    cases a ρ (mixR r r1) <;> rfl
theorem sv_frz  : Sv (sFrz i a ρ r) N k t = Sv (a ρ r) (fun ρ r => SetN ρ i (fun ρ' => N ρ' r) .mk) ⟨fun ρ r => k.C (ρ.set i none) r, fun ρ r => k.B (ρ.set i none) r, k.T, fun c fs ρ r => k.E c fs (ρ.set i none) r⟩ .mk := by
  unfold sFrz; cases a ρ r <;> rfl
theorem sv_pop {K : D → En → Rs → SOut} : Sv (sPop i K ρ r) N k t = GetE ρ i (fun z => AsL z (fun xs => So xs[xs.length - 1]? (fun d => SetE ρ i (.lst xs.dropLast) (fun ρ' => Sv (K d ρ' r) N k t) .mk) .mk) .mk) .mk := by
  unfold sPop GetE
  cases e : ρ[i]? with
  | none => rfl
  | some o => cases o with
    | none => rfl
    | some z =>
      cases z <;> try rfl
      rename_i xs
      show Sv (match xs[xs.length - 1]? with | some d => K d (ρ.set i (some (.lst xs.dropLast))) r | none => .bad) N k t = So xs[xs.length - 1]? (fun d => SetE ρ i (.lst xs.dropLast) (fun ρ' => Sv (K d ρ' r) N k t) .mk) .mk
      cases xs[xs.length - 1]? with
      | none => rfl
      | some d => exact (set_in (Q := fun ρ' => Sv (K d ρ' r) N k t) (t := .mk) e).symm
theorem sv_kSetO {v : D} {x : Int} : Sv (kSetO i v (.int x) ρ r) N k t = GetE ρ i (fun z => AsL z (fun ds => So (ixN ds.length x) (fun n => SetE ρ i (.lst (ds.set n v)) (fun ρ' => N ρ' r) .mk) .mk) .mk) .mk := by
  unfold kSetO GetE
  show Sv (match D.int x, ρ[i]? with | .int j, some (some (.lst ds)) => (match ixN ds.length j with | some n => .next (ρ.set i (some (.lst (ds.set n v)))) r | none => .bad) | _, _ => .bad) N k t = (match ρ[i]? with | some (some z) => AsL z _ .mk | _ => False)
  cases e : ρ[i]? with
  | none => rfl
  | some o => cases o with
    | none => rfl
    | some z =>
      cases z <;> try rfl
      rename_i ds
      show Sv (match ixN ds.length x with | some n => .next (ρ.set i (some (.lst (ds.set n v)))) r | none => .bad) N k t = So (ixN ds.length x) (fun n => SetE ρ i (.lst (ds.set n v)) (fun ρ' => N ρ' r) .mk) .mk
      cases ixN ds.length x with
      | none => rfl
      | some n => exact set_in' e
theorem sv_setO  : Sv (sSetO O i f g ρ r) N k t = Wp ρ O (fun ρ' => Ev (g ρ' r) (fun v r1 => Ev (f ρ' r1) (fun x r2 => Sv (kSetO i v x ρ r2) N k t) (fun c fs r1 => k.E c fs ρ r1) .mk) (fun c fs r1 => k.E c fs ρ r1) .mk) .mk := by
  unfold sSetO; rw [sv_evF]; unfold Wp; refine ev_congr fun v r1 => ?_; rw [sv_evF]; rfl
theorem sv_kDPut {v x : D} : Sv (kDPut i v x ρ r) N k t = So (keyOf x) (fun key => GetE ρ i (fun z => AsD z (fun ds => Ck (ds.length < lim) (SetE ρ i (.dic (setK ds key v)) (fun ρ' => N ρ' r) .mk) .mk) .mk) .mk) .mk := by
  unfold kDPut GetE
  cases keyOf x with
  | none => rfl
  | some key =>
    show Sv (match some key, ρ[i]? with | some key, some (some (.dic kds)) => if kds.length < lim then .next (ρ.set i (some (.dic (setK kds key v)))) r else .bad | _, _ => .bad) N k t = (match ρ[i]? with | some (some z) => AsD z _ .mk | _ => False)
    cases e : ρ[i]? with
    | none => rfl
    | some o => cases o with
      | none => rfl
      | some z =>
        cases z <;> try rfl
        rename_i ds
        refine sv_ck.trans ?_; exact congrArg (fun z => Ck (ds.length < lim) z .mk) (set_in' e)
theorem sv_dput  : Sv (sDPut' O i f g ρ r) N k t = Wp ρ O (fun ρ' => Ev (g ρ' r) (fun v r1 => Ev (f ρ' r1) (fun x r2 => Sv (kDPut i v x ρ r2) N k t) (fun c fs r1 => k.E c fs ρ r1) .mk) (fun c fs r1 => k.E c fs ρ r1) .mk) .mk := by
  unfold sDPut'; rw [sv_evF]; unfold Wp; refine ev_congr fun v r1 => ?_; rw [sv_evF]; rfl
theorem ev_run {n : Nat} {ds : List D} {Q : D → Rs → Prop} {E : Nat → List (Str × Int) → Rs → Prop} {u : Tag2 Q E} : Ev (runF n a ds r) Q E u = Sv (a (ds.map some ++ List.replicate (n - ds.length) none) r) (fun _ r => Q .non r) ⟨fun _ _ => False, fun _ _ => False, fun d r => Q d r, fun c fs _ r => E c fs r⟩ .mk := by
  unfold runF; cases a (ds.map some ++ List.replicate (n - ds.length) none) r <;> rfl
end
section
variable {α : Type} {P P' : Prop} {b : Bool}
theorem bif_t {t : Tag2 P P'} : Bif true P P' t = P := by
  simp [Bif]
theorem bif_f {t : Tag2 P P'} : Bif false P P' t = P' := by
  simp [Bif]
theorem bif_nt {t : Tag2 P P'} : Bif (!true) P P' t = P' := by
  simp [Bif]
theorem bif_nf {t : Tag2 P P'} : Bif (!false) P P' t = P := by
  simp [Bif]
theorem bif_sn {t : Tag2 P P'} : Bif (Option.isSome (none : Option α)) P P' t = P' := by
  simp [Bif]
theorem bif_ss {x : α} {t : Tag2 P P'} : Bif (Option.isSome (some x)) P P' t = P := by
  simp [Bif]
theorem so_some {a : α} {Q : α → Prop} {t : Tag2 Q Q} : So (some a) Q t = Q a := rfl
theorem sop_some {β : Type} {a : α} {b : β} {Q : α → β → Prop} {t : Tag2 Q Q} : SoP (some (a, b)) Q t = Q a b := rfl
theorem ck_true {t : Tag2 P P} : Ck True P t = P := by
  simp [Ck]
theorem ck_tt {t : Tag2 P P} : Ck (true = true) P t = P := by
  simp [Ck]
theorem ck_eq {x : α} {t : Tag2 P P} : Ck (x = x) P t = P := by
  simp [Ck]
theorem ck_len0 {t : Tag2 P P} : Ck (List.length ([] : List α) ≤ lim) P t = P := by
  unfold Ck; simp
theorem ck_len1 {a0 : α} {t : Tag2 P P} : Ck (List.length [a0] ≤ lim) P t = P := (by unfold Ck; exact propext ⟨fun h => h.2, fun h => ⟨by show 1 ≤ 1000000; decide, h⟩⟩)
theorem ck_len2 {a0 a1 : α} {t : Tag2 P P} : Ck (List.length [a0, a1] ≤ lim) P t = P := (by unfold Ck; exact propext ⟨fun h => h.2, fun h => ⟨by show 2 ≤ 1000000; decide, h⟩⟩)
theorem ck_len3 {a0 a1 a2 : α} {t : Tag2 P P} : Ck (List.length [a0, a1, a2] ≤ lim) P t = P := (by unfold Ck; exact propext ⟨fun h => h.2, fun h => ⟨by show 3 ≤ 1000000; decide, h⟩⟩)
theorem ck_len4 {a0 a1 a2 a3 : α} {t : Tag2 P P} : Ck (List.length [a0, a1, a2, a3] ≤ lim) P t = P := (by unfold Ck; exact propext ⟨fun h => h.2, fun h => ⟨by show 4 ≤ 1000000; decide, h⟩⟩)
theorem ck_len5 {a0 a1 a2 a3 a4 : α} {t : Tag2 P P} : Ck (List.length [a0, a1, a2, a3, a4] ≤ lim) P t = P := (by unfold Ck; exact propext ⟨fun h => h.2, fun h => ⟨by show 5 ≤ 1000000; decide, h⟩⟩)
theorem ck_len6 {a0 a1 a2 a3 a4 a5 : α} {t : Tag2 P P} : Ck (List.length [a0, a1, a2, a3, a4, a5] ≤ lim) P t = P := (by unfold Ck; exact propext ⟨fun h => h.2, fun h => ⟨by show 6 ≤ 1000000; decide, h⟩⟩)
theorem ck_len7 {a0 a1 a2 a3 a4 a5 a6 : α} {t : Tag2 P P} : Ck (List.length [a0, a1, a2, a3, a4, a5, a6] ≤ lim) P t = P := (by unfold Ck; exact propext ⟨fun h => h.2, fun h => ⟨by show 7 ≤ 1000000; decide, h⟩⟩)
theorem ck_len8 {a0 a1 a2 a3 a4 a5 a6 a7 : α} {t : Tag2 P P} : Ck (List.length [a0, a1, a2, a3, a4, a5, a6, a7] ≤ lim) P t = P := (by unfold Ck; exact propext ⟨fun h => h.2, fun h => ⟨by show 8 ≤ 1000000; decide, h⟩⟩)
theorem ck_len9 {a0 a1 a2 a3 a4 a5 a6 a7 a8 : α} {t : Tag2 P P} : Ck (List.length [a0, a1, a2, a3, a4, a5, a6, a7, a8] ≤ lim) P t = P := (by unfold Ck; exact propext ⟨fun h => h.2, fun h => ⟨by show 9 ≤ 1000000; decide, h⟩⟩)
theorem ck_len10 {a0 a1 a2 a3 a4 a5 a6 a7 a8 a9 : α} {t : Tag2 P P} : Ck (List.length [a0, a1, a2, a3, a4, a5, a6, a7, a8, a9] ≤ lim) P t = P := (by unfold Ck; exact propext ⟨fun h => h.2, fun h => ⟨by show 10 ≤ 1000000; decide, h⟩⟩)
theorem ck_len11 {a0 a1 a2 a3 a4 a5 a6 a7 a8 a9 a10 : α} {t : Tag2 P P} : Ck (List.length [a0, a1, a2, a3, a4, a5, a6, a7, a8, a9, a10] ≤ lim) P t = P := (by unfold Ck; exact propext ⟨fun h => h.2, fun h => ⟨by show 11 ≤ 1000000; decide, h⟩⟩)
theorem ck_len12 {a0 a1 a2 a3 a4 a5 a6 a7 a8 a9 a10 a11 : α} {t : Tag2 P P} : Ck (List.length [a0, a1, a2, a3, a4, a5, a6, a7, a8, a9, a10, a11] ≤ lim) P t = P := (by unfold Ck; exact propext ⟨fun h => h.2, fun h => ⟨by show 12 ≤ 1000000; decide, h⟩⟩)
theorem ck_len13 {a0 a1 a2 a3 a4 a5 a6 a7 a8 a9 a10 a11 a12 : α} {t : Tag2 P P} : Ck (List.length [a0, a1, a2, a3, a4, a5, a6, a7, a8, a9, a10, a11, a12] ≤ lim) P t = P := (by unfold Ck; exact propext ⟨fun h => h.2, fun h => ⟨by show 13 ≤ 1000000; decide, h⟩⟩)
theorem ck_len14 {a0 a1 a2 a3 a4 a5 a6 a7 a8 a9 a10 a11 a12 a13 : α} {t : Tag2 P P} : Ck (List.length [a0, a1, a2, a3, a4, a5, a6, a7, a8, a9, a10, a11, a12, a13] ≤ lim) P t = P := (by unfold Ck; exact propext ⟨fun h => h.2, fun h => ⟨by show 14 ≤ 1000000; decide, h⟩⟩)
theorem ck_len15 {a0 a1 a2 a3 a4 a5 a6 a7 a8 a9 a10 a11 a12 a13 a14 : α} {t : Tag2 P P} : Ck (List.length [a0, a1, a2, a3, a4, a5, a6, a7, a8, a9, a10, a11, a12, a13, a14] ≤ lim) P t = P := (by unfold Ck; exact propext ⟨fun h => h.2, fun h => ⟨by show 15 ≤ 1000000; decide, h⟩⟩)
theorem ck_len16 {a0 a1 a2 a3 a4 a5 a6 a7 a8 a9 a10 a11 a12 a13 a14 a15 : α} {t : Tag2 P P} : Ck (List.length [a0, a1, a2, a3, a4, a5, a6, a7, a8, a9, a10, a11, a12, a13, a14, a15] ≤ lim) P t = P := (by unfold Ck; exact propext ⟨fun h => h.2, fun h => ⟨by show 16 ≤ 1000000; decide, h⟩⟩)
theorem ck_lt0 {t : Tag2 P P} : Ck (List.length ([] : List α) < lim) P t = P := (by unfold Ck; exact propext ⟨fun h => h.2, fun h => ⟨by show 0 < 1000000; decide, h⟩⟩)
theorem ck_15_0 {t : Tag2 P P} : Ck (List.length ([] : List α) ≤ 15) P t = P := by
  unfold Ck; simp
theorem ck_lt1 {a0 : α} {t : Tag2 P P} : Ck (List.length [a0] < lim) P t = P := (by unfold Ck; exact propext ⟨fun h => h.2, fun h => ⟨by show 1 < 1000000; decide, h⟩⟩)
theorem ck_15_1 {a0 : α} {t : Tag2 P P} : Ck (List.length [a0] ≤ 15) P t = P := by
  unfold Ck; simp
theorem ck_lt2 {a0 a1 : α} {t : Tag2 P P} : Ck (List.length [a0, a1] < lim) P t = P := (by unfold Ck; exact propext ⟨fun h => h.2, fun h => ⟨by show 2 < 1000000; decide, h⟩⟩)
theorem ck_15_2 {a0 a1 : α} {t : Tag2 P P} : Ck (List.length [a0, a1] ≤ 15) P t = P := by
  unfold Ck; simp
theorem ck_lt3 {a0 a1 a2 : α} {t : Tag2 P P} : Ck (List.length [a0, a1, a2] < lim) P t = P := (by unfold Ck; exact propext ⟨fun h => h.2, fun h => ⟨by show 3 < 1000000; decide, h⟩⟩)
theorem ck_15_3 {a0 a1 a2 : α} {t : Tag2 P P} : Ck (List.length [a0, a1, a2] ≤ 15) P t = P := by
  unfold Ck; simp
theorem ck_lt4 {a0 a1 a2 a3 : α} {t : Tag2 P P} : Ck (List.length [a0, a1, a2, a3] < lim) P t = P := (by unfold Ck; exact propext ⟨fun h => h.2, fun h => ⟨by show 4 < 1000000; decide, h⟩⟩)
theorem ck_15_4 {a0 a1 a2 a3 : α} {t : Tag2 P P} : Ck (List.length [a0, a1, a2, a3] ≤ 15) P t = P := by
  unfold Ck; simp
theorem ck_lt5 {a0 a1 a2 a3 a4 : α} {t : Tag2 P P} : Ck (List.length [a0, a1, a2, a3, a4] < lim) P t = P := (by unfold Ck; exact propext ⟨fun h => h.2, fun h => ⟨by show 5 < 1000000; decide, h⟩⟩)
theorem ck_15_5 {a0 a1 a2 a3 a4 : α} {t : Tag2 P P} : Ck (List.length [a0, a1, a2, a3, a4] ≤ 15) P t = P := by
  unfold Ck; simp
theorem ck_lt6 {a0 a1 a2 a3 a4 a5 : α} {t : Tag2 P P} : Ck (List.length [a0, a1, a2, a3, a4, a5] < lim) P t = P := (by unfold Ck; exact propext ⟨fun h => h.2, fun h => ⟨by show 6 < 1000000; decide, h⟩⟩)
theorem ck_15_6 {a0 a1 a2 a3 a4 a5 : α} {t : Tag2 P P} : Ck (List.length [a0, a1, a2, a3, a4, a5] ≤ 15) P t = P := by
  unfold Ck; simp
theorem ck_lt7 {a0 a1 a2 a3 a4 a5 a6 : α} {t : Tag2 P P} : Ck (List.length [a0, a1, a2, a3, a4, a5, a6] < lim) P t = P := (by unfold Ck; exact propext ⟨fun h => h.2, fun h => ⟨by show 7 < 1000000; decide, h⟩⟩)
theorem ck_15_7 {a0 a1 a2 a3 a4 a5 a6 : α} {t : Tag2 P P} : Ck (List.length [a0, a1, a2, a3, a4, a5, a6] ≤ 15) P t = P := by
  unfold Ck; simp
theorem ck_lt8 {a0 a1 a2 a3 a4 a5 a6 a7 : α} {t : Tag2 P P} : Ck (List.length [a0, a1, a2, a3, a4, a5, a6, a7] < lim) P t = P := (by unfold Ck; exact propext ⟨fun h => h.2, fun h => ⟨by show 8 < 1000000; decide, h⟩⟩)
theorem ck_15_8 {a0 a1 a2 a3 a4 a5 a6 a7 : α} {t : Tag2 P P} : Ck (List.length [a0, a1, a2, a3, a4, a5, a6, a7] ≤ 15) P t = P := by
  unfold Ck; simp
theorem ck_lt9 {a0 a1 a2 a3 a4 a5 a6 a7 a8 : α} {t : Tag2 P P} : Ck (List.length [a0, a1, a2, a3, a4, a5, a6, a7, a8] < lim) P t = P := (by unfold Ck; exact propext ⟨fun h => h.2, fun h => ⟨by show 9 < 1000000; decide, h⟩⟩)
theorem ck_15_9 {a0 a1 a2 a3 a4 a5 a6 a7 a8 : α} {t : Tag2 P P} : Ck (List.length [a0, a1, a2, a3, a4, a5, a6, a7, a8] ≤ 15) P t = P := by
  unfold Ck; simp
theorem ck_lt10 {a0 a1 a2 a3 a4 a5 a6 a7 a8 a9 : α} {t : Tag2 P P} : Ck (List.length [a0, a1, a2, a3, a4, a5, a6, a7, a8, a9] < lim) P t = P := (by unfold Ck; exact propext ⟨fun h => h.2, fun h => ⟨by show 10 < 1000000; decide, h⟩⟩)
theorem ck_15_10 {a0 a1 a2 a3 a4 a5 a6 a7 a8 a9 : α} {t : Tag2 P P} : Ck (List.length [a0, a1, a2, a3, a4, a5, a6, a7, a8, a9] ≤ 15) P t = P := by
  unfold Ck; simp
theorem ck_lt11 {a0 a1 a2 a3 a4 a5 a6 a7 a8 a9 a10 : α} {t : Tag2 P P} : Ck (List.length [a0, a1, a2, a3, a4, a5, a6, a7, a8, a9, a10] < lim) P t = P := (by unfold Ck; exact propext ⟨fun h => h.2, fun h => ⟨by show 11 < 1000000; decide, h⟩⟩)
theorem ck_15_11 {a0 a1 a2 a3 a4 a5 a6 a7 a8 a9 a10 : α} {t : Tag2 P P} : Ck (List.length [a0, a1, a2, a3, a4, a5, a6, a7, a8, a9, a10] ≤ 15) P t = P := by
  unfold Ck; simp
end
section
variable {ρ : En} {r r1 : Rs} {d : D} {ds : List D} {Q : En → Prop} {t : Tag2 Q Q}
theorem get_0 {Q : D → Prop} {t : Tag2 Q Q} : GetE (some d :: ρ) 0 Q t = Q d := rfl
theorem set_0 {y : Option D} : SetE (y :: ρ) 0 d Q t = Q (some d :: ρ) := by
  unfold SetE; simp
theorem setn_0 {y : Option D} : SetN (y :: ρ) 0 Q t = Q (none :: ρ) := rfl
theorem get_1 {x0 : Option D} {Q : D → Prop} {t : Tag2 Q Q} : GetE (x0 :: some d :: ρ) 1 Q t = Q d := rfl
theorem set_1 {x0 : Option D} {y : Option D} : SetE (x0 :: y :: ρ) 1 d Q t = Q (x0 :: some d :: ρ) := by
  unfold SetE; simp
theorem setn_1 {x0 : Option D} {y : Option D} : SetN (x0 :: y :: ρ) 1 Q t = Q (x0 :: none :: ρ) := rfl
theorem get_2 {x0 x1 : Option D} {Q : D → Prop} {t : Tag2 Q Q} : GetE (x0 :: x1 :: some d :: ρ) 2 Q t = Q d := rfl
theorem set_2 {x0 x1 : Option D} {y : Option D} : SetE (x0 :: x1 :: y :: ρ) 2 d Q t = Q (x0 :: x1 :: some d :: ρ) := by
  unfold SetE; simp
theorem setn_2 {x0 x1 : Option D} {y : Option D} : SetN (x0 :: x1 :: y :: ρ) 2 Q t = Q (x0 :: x1 :: none :: ρ) := rfl
theorem get_3 {x0 x1 x2 : Option D} {Q : D → Prop} {t : Tag2 Q Q} : GetE (x0 :: x1 :: x2 :: some d :: ρ) 3 Q t = Q d := rfl
theorem set_3 {x0 x1 x2 : Option D} {y : Option D} : SetE (x0 :: x1 :: x2 :: y :: ρ) 3 d Q t = Q (x0 :: x1 :: x2 :: some d :: ρ) := by
  unfold SetE; simp
theorem setn_3 {x0 x1 x2 : Option D} {y : Option D} : SetN (x0 :: x1 :: x2 :: y :: ρ) 3 Q t = Q (x0 :: x1 :: x2 :: none :: ρ) := rfl
theorem get_4 {x0 x1 x2 x3 : Option D} {Q : D → Prop} {t : Tag2 Q Q} : GetE (x0 :: x1 :: x2 :: x3 :: some d :: ρ) 4 Q t = Q d := rfl
theorem set_4 {x0 x1 x2 x3 : Option D} {y : Option D} : SetE (x0 :: x1 :: x2 :: x3 :: y :: ρ) 4 d Q t = Q (x0 :: x1 :: x2 :: x3 :: some d :: ρ) := by
  unfold SetE; simp
theorem setn_4 {x0 x1 x2 x3 : Option D} {y : Option D} : SetN (x0 :: x1 :: x2 :: x3 :: y :: ρ) 4 Q t = Q (x0 :: x1 :: x2 :: x3 :: none :: ρ) := rfl
theorem get_5 {x0 x1 x2 x3 x4 : Option D} {Q : D → Prop} {t : Tag2 Q Q} : GetE (x0 :: x1 :: x2 :: x3 :: x4 :: some d :: ρ) 5 Q t = Q d := rfl
theorem set_5 {x0 x1 x2 x3 x4 : Option D} {y : Option D} : SetE (x0 :: x1 :: x2 :: x3 :: x4 :: y :: ρ) 5 d Q t = Q (x0 :: x1 :: x2 :: x3 :: x4 :: some d :: ρ) := by
  unfold SetE; simp
theorem setn_5 {x0 x1 x2 x3 x4 : Option D} {y : Option D} : SetN (x0 :: x1 :: x2 :: x3 :: x4 :: y :: ρ) 5 Q t = Q (x0 :: x1 :: x2 :: x3 :: x4 :: none :: ρ) := rfl
theorem get_6 {x0 x1 x2 x3 x4 x5 : Option D} {Q : D → Prop} {t : Tag2 Q Q} : GetE (x0 :: x1 :: x2 :: x3 :: x4 :: x5 :: some d :: ρ) 6 Q t = Q d := rfl
theorem set_6 {x0 x1 x2 x3 x4 x5 : Option D} {y : Option D} : SetE (x0 :: x1 :: x2 :: x3 :: x4 :: x5 :: y :: ρ) 6 d Q t = Q (x0 :: x1 :: x2 :: x3 :: x4 :: x5 :: some d :: ρ) := by
  unfold SetE; simp
theorem setn_6 {x0 x1 x2 x3 x4 x5 : Option D} {y : Option D} : SetN (x0 :: x1 :: x2 :: x3 :: x4 :: x5 :: y :: ρ) 6 Q t = Q (x0 :: x1 :: x2 :: x3 :: x4 :: x5 :: none :: ρ) := rfl
theorem get_7 {x0 x1 x2 x3 x4 x5 x6 : Option D} {Q : D → Prop} {t : Tag2 Q Q} : GetE (x0 :: x1 :: x2 :: x3 :: x4 :: x5 :: x6 :: some d :: ρ) 7 Q t = Q d := rfl
theorem set_7 {x0 x1 x2 x3 x4 x5 x6 : Option D} {y : Option D} : SetE (x0 :: x1 :: x2 :: x3 :: x4 :: x5 :: x6 :: y :: ρ) 7 d Q t = Q (x0 :: x1 :: x2 :: x3 :: x4 :: x5 :: x6 :: some d :: ρ) := by
  unfold SetE; simp
theorem setn_7 {x0 x1 x2 x3 x4 x5 x6 : Option D} {y : Option D} : SetN (x0 :: x1 :: x2 :: x3 :: x4 :: x5 :: x6 :: y :: ρ) 7 Q t = Q (x0 :: x1 :: x2 :: x3 :: x4 :: x5 :: x6 :: none :: ρ) := rfl
theorem get_8 {x0 x1 x2 x3 x4 x5 x6 x7 : Option D} {Q : D → Prop} {t : Tag2 Q Q} : GetE (x0 :: x1 :: x2 :: x3 :: x4 :: x5 :: x6 :: x7 :: some d :: ρ) 8 Q t = Q d := rfl
theorem set_8 {x0 x1 x2 x3 x4 x5 x6 x7 : Option D} {y : Option D} : SetE (x0 :: x1 :: x2 :: x3 :: x4 :: x5 :: x6 :: x7 :: y :: ρ) 8 d Q t = Q (x0 :: x1 :: x2 :: x3 :: x4 :: x5 :: x6 :: x7 :: some d :: ρ) := by
  unfold SetE; simp
theorem setn_8 {x0 x1 x2 x3 x4 x5 x6 x7 : Option D} {y : Option D} : SetN (x0 :: x1 :: x2 :: x3 :: x4 :: x5 :: x6 :: x7 :: y :: ρ) 8 Q t = Q (x0 :: x1 :: x2 :: x3 :: x4 :: x5 :: x6 :: x7 :: none :: ρ) := rfl
theorem get_9 {x0 x1 x2 x3 x4 x5 x6 x7 x8 : Option D} {Q : D → Prop} {t : Tag2 Q Q} : GetE (x0 :: x1 :: x2 :: x3 :: x4 :: x5 :: x6 :: x7 :: x8 :: some d :: ρ) 9 Q t = Q d := rfl
theorem set_9 {x0 x1 x2 x3 x4 x5 x6 x7 x8 : Option D} {y : Option D} : SetE (x0 :: x1 :: x2 :: x3 :: x4 :: x5 :: x6 :: x7 :: x8 :: y :: ρ) 9 d Q t = Q (x0 :: x1 :: x2 :: x3 :: x4 :: x5 :: x6 :: x7 :: x8 :: some d :: ρ) := by
  unfold SetE; simp
theorem setn_9 {x0 x1 x2 x3 x4 x5 x6 x7 x8 : Option D} {y : Option D} : SetN (x0 :: x1 :: x2 :: x3 :: x4 :: x5 :: x6 :: x7 :: x8 :: y :: ρ) 9 Q t = Q (x0 :: x1 :: x2 :: x3 :: x4 :: x5 :: x6 :: x7 :: x8 :: none :: ρ) := rfl
theorem get_10 {x0 x1 x2 x3 x4 x5 x6 x7 x8 x9 : Option D} {Q : D → Prop} {t : Tag2 Q Q} : GetE (x0 :: x1 :: x2 :: x3 :: x4 :: x5 :: x6 :: x7 :: x8 :: x9 :: some d :: ρ) 10 Q t = Q d := rfl
theorem set_10 {x0 x1 x2 x3 x4 x5 x6 x7 x8 x9 : Option D} {y : Option D} : SetE (x0 :: x1 :: x2 :: x3 :: x4 :: x5 :: x6 :: x7 :: x8 :: x9 :: y :: ρ) 10 d Q t = Q (x0 :: x1 :: x2 :: x3 :: x4 :: x5 :: x6 :: x7 :: x8 :: x9 :: some d :: ρ) := by
  unfold SetE; simp
theorem setn_10 {x0 x1 x2 x3 x4 x5 x6 x7 x8 x9 : Option D} {y : Option D} : SetN (x0 :: x1 :: x2 :: x3 :: x4 :: x5 :: x6 :: x7 :: x8 :: x9 :: y :: ρ) 10 Q t = Q (x0 :: x1 :: x2 :: x3 :: x4 :: x5 :: x6 :: x7 :: x8 :: x9 :: none :: ρ) := rfl
theorem get_11 {x0 x1 x2 x3 x4 x5 x6 x7 x8 x9 x10 : Option D} {Q : D → Prop} {t : Tag2 Q Q} : GetE (x0 :: x1 :: x2 :: x3 :: x4 :: x5 :: x6 :: x7 :: x8 :: x9 :: x10 :: some d :: ρ) 11 Q t = Q d := rfl
theorem set_11 {x0 x1 x2 x3 x4 x5 x6 x7 x8 x9 x10 : Option D} {y : Option D} : SetE (x0 :: x1 :: x2 :: x3 :: x4 :: x5 :: x6 :: x7 :: x8 :: x9 :: x10 :: y :: ρ) 11 d Q t = Q (x0 :: x1 :: x2 :: x3 :: x4 :: x5 :: x6 :: x7 :: x8 :: x9 :: x10 :: some d :: ρ) := by
  unfold SetE; simp
theorem setn_11 {x0 x1 x2 x3 x4 x5 x6 x7 x8 x9 x10 : Option D} {y : Option D} : SetN (x0 :: x1 :: x2 :: x3 :: x4 :: x5 :: x6 :: x7 :: x8 :: x9 :: x10 :: y :: ρ) 11 Q t = Q (x0 :: x1 :: x2 :: x3 :: x4 :: x5 :: x6 :: x7 :: x8 :: x9 :: x10 :: none :: ρ) := rfl
theorem get_12 {x0 x1 x2 x3 x4 x5 x6 x7 x8 x9 x10 x11 : Option D} {Q : D → Prop} {t : Tag2 Q Q} : GetE (x0 :: x1 :: x2 :: x3 :: x4 :: x5 :: x6 :: x7 :: x8 :: x9 :: x10 :: x11 :: some d :: ρ) 12 Q t = Q d := rfl
theorem set_12 {x0 x1 x2 x3 x4 x5 x6 x7 x8 x9 x10 x11 : Option D} {y : Option D} : SetE (x0 :: x1 :: x2 :: x3 :: x4 :: x5 :: x6 :: x7 :: x8 :: x9 :: x10 :: x11 :: y :: ρ) 12 d Q t = Q (x0 :: x1 :: x2 :: x3 :: x4 :: x5 :: x6 :: x7 :: x8 :: x9 :: x10 :: x11 :: some d :: ρ) := by
  unfold SetE; simp
theorem setn_12 {x0 x1 x2 x3 x4 x5 x6 x7 x8 x9 x10 x11 : Option D} {y : Option D} : SetN (x0 :: x1 :: x2 :: x3 :: x4 :: x5 :: x6 :: x7 :: x8 :: x9 :: x10 :: x11 :: y :: ρ) 12 Q t = Q (x0 :: x1 :: x2 :: x3 :: x4 :: x5 :: x6 :: x7 :: x8 :: x9 :: x10 :: x11 :: none :: ρ) := rfl
theorem get_13 {x0 x1 x2 x3 x4 x5 x6 x7 x8 x9 x10 x11 x12 : Option D} {Q : D → Prop} {t : Tag2 Q Q} : GetE (x0 :: x1 :: x2 :: x3 :: x4 :: x5 :: x6 :: x7 :: x8 :: x9 :: x10 :: x11 :: x12 :: some d :: ρ) 13 Q t = Q d := rfl
theorem set_13 {x0 x1 x2 x3 x4 x5 x6 x7 x8 x9 x10 x11 x12 : Option D} {y : Option D} : SetE (x0 :: x1 :: x2 :: x3 :: x4 :: x5 :: x6 :: x7 :: x8 :: x9 :: x10 :: x11 :: x12 :: y :: ρ) 13 d Q t = Q (x0 :: x1 :: x2 :: x3 :: x4 :: x5 :: x6 :: x7 :: x8 :: x9 :: x10 :: x11 :: x12 :: some d :: ρ) := by
  unfold SetE; simp
theorem setn_13 {x0 x1 x2 x3 x4 x5 x6 x7 x8 x9 x10 x11 x12 : Option D} {y : Option D} : SetN (x0 :: x1 :: x2 :: x3 :: x4 :: x5 :: x6 :: x7 :: x8 :: x9 :: x10 :: x11 :: x12 :: y :: ρ) 13 Q t = Q (x0 :: x1 :: x2 :: x3 :: x4 :: x5 :: x6 :: x7 :: x8 :: x9 :: x10 :: x11 :: x12 :: none :: ρ) := rfl
theorem get_14 {x0 x1 x2 x3 x4 x5 x6 x7 x8 x9 x10 x11 x12 x13 : Option D} {Q : D → Prop} {t : Tag2 Q Q} : GetE (x0 :: x1 :: x2 :: x3 :: x4 :: x5 :: x6 :: x7 :: x8 :: x9 :: x10 :: x11 :: x12 :: x13 :: some d :: ρ) 14 Q t = Q d := rfl
theorem set_14 {x0 x1 x2 x3 x4 x5 x6 x7 x8 x9 x10 x11 x12 x13 : Option D} {y : Option D} : SetE (x0 :: x1 :: x2 :: x3 :: x4 :: x5 :: x6 :: x7 :: x8 :: x9 :: x10 :: x11 :: x12 :: x13 :: y :: ρ) 14 d Q t = Q (x0 :: x1 :: x2 :: x3 :: x4 :: x5 :: x6 :: x7 :: x8 :: x9 :: x10 :: x11 :: x12 :: x13 :: some d :: ρ) := by
  unfold SetE; simp
theorem setn_14 {x0 x1 x2 x3 x4 x5 x6 x7 x8 x9 x10 x11 x12 x13 : Option D} {y : Option D} : SetN (x0 :: x1 :: x2 :: x3 :: x4 :: x5 :: x6 :: x7 :: x8 :: x9 :: x10 :: x11 :: x12 :: x13 :: y :: ρ) 14 Q t = Q (x0 :: x1 :: x2 :: x3 :: x4 :: x5 :: x6 :: x7 :: x8 :: x9 :: x10 :: x11 :: x12 :: x13 :: none :: ρ) := rfl
theorem get_15 {x0 x1 x2 x3 x4 x5 x6 x7 x8 x9 x10 x11 x12 x13 x14 : Option D} {Q : D → Prop} {t : Tag2 Q Q} : GetE (x0 :: x1 :: x2 :: x3 :: x4 :: x5 :: x6 :: x7 :: x8 :: x9 :: x10 :: x11 :: x12 :: x13 :: x14 :: some d :: ρ) 15 Q t = Q d := rfl
theorem set_15 {x0 x1 x2 x3 x4 x5 x6 x7 x8 x9 x10 x11 x12 x13 x14 : Option D} {y : Option D} : SetE (x0 :: x1 :: x2 :: x3 :: x4 :: x5 :: x6 :: x7 :: x8 :: x9 :: x10 :: x11 :: x12 :: x13 :: x14 :: y :: ρ) 15 d Q t = Q (x0 :: x1 :: x2 :: x3 :: x4 :: x5 :: x6 :: x7 :: x8 :: x9 :: x10 :: x11 :: x12 :: x13 :: x14 :: some d :: ρ) := by
  unfold SetE; simp
theorem setn_15 {x0 x1 x2 x3 x4 x5 x6 x7 x8 x9 x10 x11 x12 x13 x14 : Option D} {y : Option D} : SetN (x0 :: x1 :: x2 :: x3 :: x4 :: x5 :: x6 :: x7 :: x8 :: x9 :: x10 :: x11 :: x12 :: x13 :: x14 :: y :: ρ) 15 Q t = Q (x0 :: x1 :: x2 :: x3 :: x4 :: x5 :: x6 :: x7 :: x8 :: x9 :: x10 :: x11 :: x12 :: x13 :: x14 :: none :: ρ) := rfl
theorem get_16 {x0 x1 x2 x3 x4 x5 x6 x7 x8 x9 x10 x11 x12 x13 x14 x15 : Option D} {Q : D → Prop} {t : Tag2 Q Q} : GetE (x0 :: x1 :: x2 :: x3 :: x4 :: x5 :: x6 :: x7 :: x8 :: x9 :: x10 :: x11 :: x12 :: x13 :: x14 :: x15 :: some d :: ρ) 16 Q t = Q d := rfl
theorem set_16 {x0 x1 x2 x3 x4 x5 x6 x7 x8 x9 x10 x11 x12 x13 x14 x15 : Option D} {y : Option D} : SetE (x0 :: x1 :: x2 :: x3 :: x4 :: x5 :: x6 :: x7 :: x8 :: x9 :: x10 :: x11 :: x12 :: x13 :: x14 :: x15 :: y :: ρ) 16 d Q t = Q (x0 :: x1 :: x2 :: x3 :: x4 :: x5 :: x6 :: x7 :: x8 :: x9 :: x10 :: x11 :: x12 :: x13 :: x14 :: x15 :: some d :: ρ) := by
  unfold SetE; simp
theorem setn_16 {x0 x1 x2 x3 x4 x5 x6 x7 x8 x9 x10 x11 x12 x13 x14 x15 : Option D} {y : Option D} : SetN (x0 :: x1 :: x2 :: x3 :: x4 :: x5 :: x6 :: x7 :: x8 :: x9 :: x10 :: x11 :: x12 :: x13 :: x14 :: x15 :: y :: ρ) 16 Q t = Q (x0 :: x1 :: x2 :: x3 :: x4 :: x5 :: x6 :: x7 :: x8 :: x9 :: x10 :: x11 :: x12 :: x13 :: x14 :: x15 :: none :: ρ) := rfl
theorem get_17 {x0 x1 x2 x3 x4 x5 x6 x7 x8 x9 x10 x11 x12 x13 x14 x15 x16 : Option D} {Q : D → Prop} {t : Tag2 Q Q} : GetE (x0 :: x1 :: x2 :: x3 :: x4 :: x5 :: x6 :: x7 :: x8 :: x9 :: x10 :: x11 :: x12 :: x13 :: x14 :: x15 :: x16 :: some d :: ρ) 17 Q t = Q d := rfl
theorem set_17 {x0 x1 x2 x3 x4 x5 x6 x7 x8 x9 x10 x11 x12 x13 x14 x15 x16 : Option D} {y : Option D} : SetE (x0 :: x1 :: x2 :: x3 :: x4 :: x5 :: x6 :: x7 :: x8 :: x9 :: x10 :: x11 :: x12 :: x13 :: x14 :: x15 :: x16 :: y :: ρ) 17 d Q t = Q (x0 :: x1 :: x2 :: x3 :: x4 :: x5 :: x6 :: x7 :: x8 :: x9 :: x10 :: x11 :: x12 :: x13 :: x14 :: x15 :: x16 :: some d :: ρ) := by
  unfold SetE; simp
theorem setn_17 {x0 x1 x2 x3 x4 x5 x6 x7 x8 x9 x10 x11 x12 x13 x14 x15 x16 : Option D} {y : Option D} : SetN (x0 :: x1 :: x2 :: x3 :: x4 :: x5 :: x6 :: x7 :: x8 :: x9 :: x10 :: x11 :: x12 :: x13 :: x14 :: x15 :: x16 :: y :: ρ) 17 Q t = Q (x0 :: x1 :: x2 :: x3 :: x4 :: x5 :: x6 :: x7 :: x8 :: x9 :: x10 :: x11 :: x12 :: x13 :: x14 :: x15 :: x16 :: none :: ρ) := rfl
theorem get_18 {x0 x1 x2 x3 x4 x5 x6 x7 x8 x9 x10 x11 x12 x13 x14 x15 x16 x17 : Option D} {Q : D → Prop} {t : Tag2 Q Q} : GetE (x0 :: x1 :: x2 :: x3 :: x4 :: x5 :: x6 :: x7 :: x8 :: x9 :: x10 :: x11 :: x12 :: x13 :: x14 :: x15 :: x16 :: x17 :: some d :: ρ) 18 Q t = Q d := rfl
theorem set_18 {x0 x1 x2 x3 x4 x5 x6 x7 x8 x9 x10 x11 x12 x13 x14 x15 x16 x17 : Option D} {y : Option D} : SetE (x0 :: x1 :: x2 :: x3 :: x4 :: x5 :: x6 :: x7 :: x8 :: x9 :: x10 :: x11 :: x12 :: x13 :: x14 :: x15 :: x16 :: x17 :: y :: ρ) 18 d Q t = Q (x0 :: x1 :: x2 :: x3 :: x4 :: x5 :: x6 :: x7 :: x8 :: x9 :: x10 :: x11 :: x12 :: x13 :: x14 :: x15 :: x16 :: x17 :: some d :: ρ) := by
  unfold SetE; simp
theorem setn_18 {x0 x1 x2 x3 x4 x5 x6 x7 x8 x9 x10 x11 x12 x13 x14 x15 x16 x17 : Option D} {y : Option D} : SetN (x0 :: x1 :: x2 :: x3 :: x4 :: x5 :: x6 :: x7 :: x8 :: x9 :: x10 :: x11 :: x12 :: x13 :: x14 :: x15 :: x16 :: x17 :: y :: ρ) 18 Q t = Q (x0 :: x1 :: x2 :: x3 :: x4 :: x5 :: x6 :: x7 :: x8 :: x9 :: x10 :: x11 :: x12 :: x13 :: x14 :: x15 :: x16 :: x17 :: none :: ρ) := rfl
theorem get_19 {x0 x1 x2 x3 x4 x5 x6 x7 x8 x9 x10 x11 x12 x13 x14 x15 x16 x17 x18 : Option D} {Q : D → Prop} {t : Tag2 Q Q} : GetE (x0 :: x1 :: x2 :: x3 :: x4 :: x5 :: x6 :: x7 :: x8 :: x9 :: x10 :: x11 :: x12 :: x13 :: x14 :: x15 :: x16 :: x17 :: x18 :: some d :: ρ) 19 Q t = Q d := rfl
theorem set_19 {x0 x1 x2 x3 x4 x5 x6 x7 x8 x9 x10 x11 x12 x13 x14 x15 x16 x17 x18 : Option D} {y : Option D} : SetE (x0 :: x1 :: x2 :: x3 :: x4 :: x5 :: x6 :: x7 :: x8 :: x9 :: x10 :: x11 :: x12 :: x13 :: x14 :: x15 :: x16 :: x17 :: x18 :: y :: ρ) 19 d Q t = Q (x0 :: x1 :: x2 :: x3 :: x4 :: x5 :: x6 :: x7 :: x8 :: x9 :: x10 :: x11 :: x12 :: x13 :: x14 :: x15 :: x16 :: x17 :: x18 :: some d :: ρ) := by
  unfold SetE; simp
theorem setn_19 {x0 x1 x2 x3 x4 x5 x6 x7 x8 x9 x10 x11 x12 x13 x14 x15 x16 x17 x18 : Option D} {y : Option D} : SetN (x0 :: x1 :: x2 :: x3 :: x4 :: x5 :: x6 :: x7 :: x8 :: x9 :: x10 :: x11 :: x12 :: x13 :: x14 :: x15 :: x16 :: x17 :: x18 :: y :: ρ) 19 Q t = Q (x0 :: x1 :: x2 :: x3 :: x4 :: x5 :: x6 :: x7 :: x8 :: x9 :: x10 :: x11 :: x12 :: x13 :: x14 :: x15 :: x16 :: x17 :: x18 :: none :: ρ) := rfl
theorem get_20 {x0 x1 x2 x3 x4 x5 x6 x7 x8 x9 x10 x11 x12 x13 x14 x15 x16 x17 x18 x19 : Option D} {Q : D → Prop} {t : Tag2 Q Q} : GetE (x0 :: x1 :: x2 :: x3 :: x4 :: x5 :: x6 :: x7 :: x8 :: x9 :: x10 :: x11 :: x12 :: x13 :: x14 :: x15 :: x16 :: x17 :: x18 :: x19 :: some d :: ρ) 20 Q t = Q d := rfl
theorem set_20 {x0 x1 x2 x3 x4 x5 x6 x7 x8 x9 x10 x11 x12 x13 x14 x15 x16 x17 x18 x19 : Option D} {y : Option D} : SetE (x0 :: x1 :: x2 :: x3 :: x4 :: x5 :: x6 :: x7 :: x8 :: x9 :: x10 :: x11 :: x12 :: x13 :: x14 :: x15 :: x16 :: x17 :: x18 :: x19 :: y :: ρ) 20 d Q t = Q (x0 :: x1 :: x2 :: x3 :: x4 :: x5 :: x6 :: x7 :: x8 :: x9 :: x10 :: x11 :: x12 :: x13 :: x14 :: x15 :: x16 :: x17 :: x18 :: x19 :: some d :: ρ) := by
  unfold SetE; simp
theorem setn_20 {x0 x1 x2 x3 x4 x5 x6 x7 x8 x9 x10 x11 x12 x13 x14 x15 x16 x17 x18 x19 : Option D} {y : Option D} : SetN (x0 :: x1 :: x2 :: x3 :: x4 :: x5 :: x6 :: x7 :: x8 :: x9 :: x10 :: x11 :: x12 :: x13 :: x14 :: x15 :: x16 :: x17 :: x18 :: x19 :: y :: ρ) 20 Q t = Q (x0 :: x1 :: x2 :: x3 :: x4 :: x5 :: x6 :: x7 :: x8 :: x9 :: x10 :: x11 :: x12 :: x13 :: x14 :: x15 :: x16 :: x17 :: x18 :: x19 :: none :: ρ) := rfl
theorem get_21 {x0 x1 x2 x3 x4 x5 x6 x7 x8 x9 x10 x11 x12 x13 x14 x15 x16 x17 x18 x19 x20 : Option D} {Q : D → Prop} {t : Tag2 Q Q} : GetE (x0 :: x1 :: x2 :: x3 :: x4 :: x5 :: x6 :: x7 :: x8 :: x9 :: x10 :: x11 :: x12 :: x13 :: x14 :: x15 :: x16 :: x17 :: x18 :: x19 :: x20 :: some d :: ρ) 21 Q t = Q d := rfl
theorem set_21 {x0 x1 x2 x3 x4 x5 x6 x7 x8 x9 x10 x11 x12 x13 x14 x15 x16 x17 x18 x19 x20 : Option D} {y : Option D} : SetE (x0 :: x1 :: x2 :: x3 :: x4 :: x5 :: x6 :: x7 :: x8 :: x9 :: x10 :: x11 :: x12 :: x13 :: x14 :: x15 :: x16 :: x17 :: x18 :: x19 :: x20 :: y :: ρ) 21 d Q t = Q (x0 :: x1 :: x2 :: x3 :: x4 :: x5 :: x6 :: x7 :: x8 :: x9 :: x10 :: x11 :: x12 :: x13 :: x14 :: x15 :: x16 :: x17 :: x18 :: x19 :: x20 :: some d :: ρ) := by
  unfold SetE; simp
theorem setn_21 {x0 x1 x2 x3 x4 x5 x6 x7 x8 x9 x10 x11 x12 x13 x14 x15 x16 x17 x18 x19 x20 : Option D} {y : Option D} : SetN (x0 :: x1 :: x2 :: x3 :: x4 :: x5 :: x6 :: x7 :: x8 :: x9 :: x10 :: x11 :: x12 :: x13 :: x14 :: x15 :: x16 :: x17 :: x18 :: x19 :: x20 :: y :: ρ) 21 Q t = Q (x0 :: x1 :: x2 :: x3 :: x4 :: x5 :: x6 :: x7 :: x8 :: x9 :: x10 :: x11 :: x12 :: x13 :: x14 :: x15 :: x16 :: x17 :: x18 :: x19 :: x20 :: none :: ρ) := rfl
theorem get_22 {x0 x1 x2 x3 x4 x5 x6 x7 x8 x9 x10 x11 x12 x13 x14 x15 x16 x17 x18 x19 x20 x21 : Option D} {Q : D → Prop} {t : Tag2 Q Q} : GetE (x0 :: x1 :: x2 :: x3 :: x4 :: x5 :: x6 :: x7 :: x8 :: x9 :: x10 :: x11 :: x12 :: x13 :: x14 :: x15 :: x16 :: x17 :: x18 :: x19 :: x20 :: x21 :: some d :: ρ) 22 Q t = Q d := rfl
theorem set_22 {x0 x1 x2 x3 x4 x5 x6 x7 x8 x9 x10 x11 x12 x13 x14 x15 x16 x17 x18 x19 x20 x21 : Option D} {y : Option D} : SetE (x0 :: x1 :: x2 :: x3 :: x4 :: x5 :: x6 :: x7 :: x8 :: x9 :: x10 :: x11 :: x12 :: x13 :: x14 :: x15 :: x16 :: x17 :: x18 :: x19 :: x20 :: x21 :: y :: ρ) 22 d Q t = Q (x0 :: x1 :: x2 :: x3 :: x4 :: x5 :: x6 :: x7 :: x8 :: x9 :: x10 :: x11 :: x12 :: x13 :: x14 :: x15 :: x16 :: x17 :: x18 :: x19 :: x20 :: x21 :: some d :: ρ) := by
  unfold SetE; simp
theorem setn_22 {x0 x1 x2 x3 x4 x5 x6 x7 x8 x9 x10 x11 x12 x13 x14 x15 x16 x17 x18 x19 x20 x21 : Option D} {y : Option D} : SetN (x0 :: x1 :: x2 :: x3 :: x4 :: x5 :: x6 :: x7 :: x8 :: x9 :: x10 :: x11 :: x12 :: x13 :: x14 :: x15 :: x16 :: x17 :: x18 :: x19 :: x20 :: x21 :: y :: ρ) 22 Q t = Q (x0 :: x1 :: x2 :: x3 :: x4 :: x5 :: x6 :: x7 :: x8 :: x9 :: x10 :: x11 :: x12 :: x13 :: x14 :: x15 :: x16 :: x17 :: x18 :: x19 :: x20 :: x21 :: none :: ρ) := rfl
theorem get_23 {x0 x1 x2 x3 x4 x5 x6 x7 x8 x9 x10 x11 x12 x13 x14 x15 x16 x17 x18 x19 x20 x21 x22 : Option D} {Q : D → Prop} {t : Tag2 Q Q} : GetE (x0 :: x1 :: x2 :: x3 :: x4 :: x5 :: x6 :: x7 :: x8 :: x9 :: x10 :: x11 :: x12 :: x13 :: x14 :: x15 :: x16 :: x17 :: x18 :: x19 :: x20 :: x21 :: x22 :: some d :: ρ) 23 Q t = Q d := rfl
theorem set_23 {x0 x1 x2 x3 x4 x5 x6 x7 x8 x9 x10 x11 x12 x13 x14 x15 x16 x17 x18 x19 x20 x21 x22 : Option D} {y : Option D} : SetE (x0 :: x1 :: x2 :: x3 :: x4 :: x5 :: x6 :: x7 :: x8 :: x9 :: x10 :: x11 :: x12 :: x13 :: x14 :: x15 :: x16 :: x17 :: x18 :: x19 :: x20 :: x21 :: x22 :: y :: ρ) 23 d Q t = Q (x0 :: x1 :: x2 :: x3 :: x4 :: x5 :: x6 :: x7 :: x8 :: x9 :: x10 :: x11 :: x12 :: x13 :: x14 :: x15 :: x16 :: x17 :: x18 :: x19 :: x20 :: x21 :: x22 :: some d :: ρ) := by
  unfold SetE; simp
theorem setn_23 {x0 x1 x2 x3 x4 x5 x6 x7 x8 x9 x10 x11 x12 x13 x14 x15 x16 x17 x18 x19 x20 x21 x22 : Option D} {y : Option D} : SetN (x0 :: x1 :: x2 :: x3 :: x4 :: x5 :: x6 :: x7 :: x8 :: x9 :: x10 :: x11 :: x12 :: x13 :: x14 :: x15 :: x16 :: x17 :: x18 :: x19 :: x20 :: x21 :: x22 :: y :: ρ) 23 Q t = Q (x0 :: x1 :: x2 :: x3 :: x4 :: x5 :: x6 :: x7 :: x8 :: x9 :: x10 :: x11 :: x12 :: x13 :: x14 :: x15 :: x16 :: x17 :: x18 :: x19 :: x20 :: x21 :: x22 :: none :: ρ) := rfl
theorem get_24 {x0 x1 x2 x3 x4 x5 x6 x7 x8 x9 x10 x11 x12 x13 x14 x15 x16 x17 x18 x19 x20 x21 x22 x23 : Option D} {Q : D → Prop} {t : Tag2 Q Q} : GetE (x0 :: x1 :: x2 :: x3 :: x4 :: x5 :: x6 :: x7 :: x8 :: x9 :: x10 :: x11 :: x12 :: x13 :: x14 :: x15 :: x16 :: x17 :: x18 :: x19 :: x20 :: x21 :: x22 :: x23 :: some d :: ρ) 24 Q t = Q d := rfl
theorem set_24 {x0 x1 x2 x3 x4 x5 x6 x7 x8 x9 x10 x11 x12 x13 x14 x15 x16 x17 x18 x19 x20 x21 x22 x23 : Option D} {y : Option D} : SetE (x0 :: x1 :: x2 :: x3 :: x4 :: x5 :: x6 :: x7 :: x8 :: x9 :: x10 :: x11 :: x12 :: x13 :: x14 :: x15 :: x16 :: x17 :: x18 :: x19 :: x20 :: x21 :: x22 :: x23 :: y :: ρ) 24 d Q t = Q (x0 :: x1 :: x2 :: x3 :: x4 :: x5 :: x6 :: x7 :: x8 :: x9 :: x10 :: x11 :: x12 :: x13 :: x14 :: x15 :: x16 :: x17 :: x18 :: x19 :: x20 :: x21 :: x22 :: x23 :: some d :: ρ) := by
  unfold SetE; simp
theorem setn_24 {x0 x1 x2 x3 x4 x5 x6 x7 x8 x9 x10 x11 x12 x13 x14 x15 x16 x17 x18 x19 x20 x21 x22 x23 : Option D} {y : Option D} : SetN (x0 :: x1 :: x2 :: x3 :: x4 :: x5 :: x6 :: x7 :: x8 :: x9 :: x10 :: x11 :: x12 :: x13 :: x14 :: x15 :: x16 :: x17 :: x18 :: x19 :: x20 :: x21 :: x22 :: x23 :: y :: ρ) 24 Q t = Q (x0 :: x1 :: x2 :: x3 :: x4 :: x5 :: x6 :: x7 :: x8 :: x9 :: x10 :: x11 :: x12 :: x13 :: x14 :: x15 :: x16 :: x17 :: x18 :: x19 :: x20 :: x21 :: x22 :: x23 :: none :: ρ) := rfl
theorem get_25 {x0 x1 x2 x3 x4 x5 x6 x7 x8 x9 x10 x11 x12 x13 x14 x15 x16 x17 x18 x19 x20 x21 x22 x23 x24 : Option D} {Q : D → Prop} {t : Tag2 Q Q} : GetE (x0 :: x1 :: x2 :: x3 :: x4 :: x5 :: x6 :: x7 :: x8 :: x9 :: x10 :: x11 :: x12 :: x13 :: x14 :: x15 :: x16 :: x17 :: x18 :: x19 :: x20 :: x21 :: x22 :: x23 :: x24 :: some d :: ρ) 25 Q t = Q d := rfl
theorem set_25 {x0 x1 x2 x3 x4 x5 x6 x7 x8 x9 x10 x11 x12 x13 x14 x15 x16 x17 x18 x19 x20 x21 x22 x23 x24 : Option D} {y : Option D} : SetE (x0 :: x1 :: x2 :: x3 :: x4 :: x5 :: x6 :: x7 :: x8 :: x9 :: x10 :: x11 :: x12 :: x13 :: x14 :: x15 :: x16 :: x17 :: x18 :: x19 :: x20 :: x21 :: x22 :: x23 :: x24 :: y :: ρ) 25 d Q t = Q (x0 :: x1 :: x2 :: x3 :: x4 :: x5 :: x6 :: x7 :: x8 :: x9 :: x10 :: x11 :: x12 :: x13 :: x14 :: x15 :: x16 :: x17 :: x18 :: x19 :: x20 :: x21 :: x22 :: x23 :: x24 :: some d :: ρ) := by
  unfold SetE; simp
theorem setn_25 {x0 x1 x2 x3 x4 x5 x6 x7 x8 x9 x10 x11 x12 x13 x14 x15 x16 x17 x18 x19 x20 x21 x22 x23 x24 : Option D} {y : Option D} : SetN (x0 :: x1 :: x2 :: x3 :: x4 :: x5 :: x6 :: x7 :: x8 :: x9 :: x10 :: x11 :: x12 :: x13 :: x14 :: x15 :: x16 :: x17 :: x18 :: x19 :: x20 :: x21 :: x22 :: x23 :: x24 :: y :: ρ) 25 Q t = Q (x0 :: x1 :: x2 :: x3 :: x4 :: x5 :: x6 :: x7 :: x8 :: x9 :: x10 :: x11 :: x12 :: x13 :: x14 :: x15 :: x16 :: x17 :: x18 :: x19 :: x20 :: x21 :: x22 :: x23 :: x24 :: none :: ρ) := rfl
theorem get_26 {x0 x1 x2 x3 x4 x5 x6 x7 x8 x9 x10 x11 x12 x13 x14 x15 x16 x17 x18 x19 x20 x21 x22 x23 x24 x25 : Option D} {Q : D → Prop} {t : Tag2 Q Q} : GetE (x0 :: x1 :: x2 :: x3 :: x4 :: x5 :: x6 :: x7 :: x8 :: x9 :: x10 :: x11 :: x12 :: x13 :: x14 :: x15 :: x16 :: x17 :: x18 :: x19 :: x20 :: x21 :: x22 :: x23 :: x24 :: x25 :: some d :: ρ) 26 Q t = Q d := rfl
theorem set_26 {x0 x1 x2 x3 x4 x5 x6 x7 x8 x9 x10 x11 x12 x13 x14 x15 x16 x17 x18 x19 x20 x21 x22 x23 x24 x25 : Option D} {y : Option D} : SetE (x0 :: x1 :: x2 :: x3 :: x4 :: x5 :: x6 :: x7 :: x8 :: x9 :: x10 :: x11 :: x12 :: x13 :: x14 :: x15 :: x16 :: x17 :: x18 :: x19 :: x20 :: x21 :: x22 :: x23 :: x24 :: x25 :: y :: ρ) 26 d Q t = Q (x0 :: x1 :: x2 :: x3 :: x4 :: x5 :: x6 :: x7 :: x8 :: x9 :: x10 :: x11 :: x12 :: x13 :: x14 :: x15 :: x16 :: x17 :: x18 :: x19 :: x20 :: x21 :: x22 :: x23 :: x24 :: x25 :: some d :: ρ) := by
  unfold SetE; simp
theorem setn_26 {x0 x1 x2 x3 x4 x5 x6 x7 x8 x9 x10 x11 x12 x13 x14 x15 x16 x17 x18 x19 x20 x21 x22 x23 x24 x25 : Option D} {y : Option D} : SetN (x0 :: x1 :: x2 :: x3 :: x4 :: x5 :: x6 :: x7 :: x8 :: x9 :: x10 :: x11 :: x12 :: x13 :: x14 :: x15 :: x16 :: x17 :: x18 :: x19 :: x20 :: x21 :: x22 :: x23 :: x24 :: x25 :: y :: ρ) 26 Q t = Q (x0 :: x1 :: x2 :: x3 :: x4 :: x5 :: x6 :: x7 :: x8 :: x9 :: x10 :: x11 :: x12 :: x13 :: x14 :: x15 :: x16 :: x17 :: x18 :: x19 :: x20 :: x21 :: x22 :: x23 :: x24 :: x25 :: none :: ρ) := rfl
theorem get_27 {x0 x1 x2 x3 x4 x5 x6 x7 x8 x9 x10 x11 x12 x13 x14 x15 x16 x17 x18 x19 x20 x21 x22 x23 x24 x25 x26 : Option D} {Q : D → Prop} {t : Tag2 Q Q} : GetE (x0 :: x1 :: x2 :: x3 :: x4 :: x5 :: x6 :: x7 :: x8 :: x9 :: x10 :: x11 :: x12 :: x13 :: x14 :: x15 :: x16 :: x17 :: x18 :: x19 :: x20 :: x21 :: x22 :: x23 :: x24 :: x25 :: x26 :: some d :: ρ) 27 Q t = Q d := rfl
theorem set_27 {x0 x1 x2 x3 x4 x5 x6 x7 x8 x9 x10 x11 x12 x13 x14 x15 x16 x17 x18 x19 x20 x21 x22 x23 x24 x25 x26 : Option D} {y : Option D} : SetE (x0 :: x1 :: x2 :: x3 :: x4 :: x5 :: x6 :: x7 :: x8 :: x9 :: x10 :: x11 :: x12 :: x13 :: x14 :: x15 :: x16 :: x17 :: x18 :: x19 :: x20 :: x21 :: x22 :: x23 :: x24 :: x25 :: x26 :: y :: ρ) 27 d Q t = Q (x0 :: x1 :: x2 :: x3 :: x4 :: x5 :: x6 :: x7 :: x8 :: x9 :: x10 :: x11 :: x12 :: x13 :: x14 :: x15 :: x16 :: x17 :: x18 :: x19 :: x20 :: x21 :: x22 :: x23 :: x24 :: x25 :: x26 :: some d :: ρ) := by
  unfold SetE; simp
theorem setn_27 {x0 x1 x2 x3 x4 x5 x6 x7 x8 x9 x10 x11 x12 x13 x14 x15 x16 x17 x18 x19 x20 x21 x22 x23 x24 x25 x26 : Option D} {y : Option D} : SetN (x0 :: x1 :: x2 :: x3 :: x4 :: x5 :: x6 :: x7 :: x8 :: x9 :: x10 :: x11 :: x12 :: x13 :: x14 :: x15 :: x16 :: x17 :: x18 :: x19 :: x20 :: x21 :: x22 :: x23 :: x24 :: x25 :: x26 :: y :: ρ) 27 Q t = Q (x0 :: x1 :: x2 :: x3 :: x4 :: x5 :: x6 :: x7 :: x8 :: x9 :: x10 :: x11 :: x12 :: x13 :: x14 :: x15 :: x16 :: x17 :: x18 :: x19 :: x20 :: x21 :: x22 :: x23 :: x24 :: x25 :: x26 :: none :: ρ) := rfl
theorem get_28 {x0 x1 x2 x3 x4 x5 x6 x7 x8 x9 x10 x11 x12 x13 x14 x15 x16 x17 x18 x19 x20 x21 x22 x23 x24 x25 x26 x27 : Option D} {Q : D → Prop} {t : Tag2 Q Q} : GetE (x0 :: x1 :: x2 :: x3 :: x4 :: x5 :: x6 :: x7 :: x8 :: x9 :: x10 :: x11 :: x12 :: x13 :: x14 :: x15 :: x16 :: x17 :: x18 :: x19 :: x20 :: x21 :: x22 :: x23 :: x24 :: x25 :: x26 :: x27 :: some d :: ρ) 28 Q t = Q d := rfl
theorem set_28 {x0 x1 x2 x3 x4 x5 x6 x7 x8 x9 x10 x11 x12 x13 x14 x15 x16 x17 x18 x19 x20 x21 x22 x23 x24 x25 x26 x27 : Option D} {y : Option D} : SetE (x0 :: x1 :: x2 :: x3 :: x4 :: x5 :: x6 :: x7 :: x8 :: x9 :: x10 :: x11 :: x12 :: x13 :: x14 :: x15 :: x16 :: x17 :: x18 :: x19 :: x20 :: x21 :: x22 :: x23 :: x24 :: x25 :: x26 :: x27 :: y :: ρ) 28 d Q t = Q (x0 :: x1 :: x2 :: x3 :: x4 :: x5 :: x6 :: x7 :: x8 :: x9 :: x10 :: x11 :: x12 :: x13 :: x14 :: x15 :: x16 :: x17 :: x18 :: x19 :: x20 :: x21 :: x22 :: x23 :: x24 :: x25 :: x26 :: x27 :: some d :: ρ) := by
  unfold SetE; simp
theorem setn_28 {x0 x1 x2 x3 x4 x5 x6 x7 x8 x9 x10 x11 x12 x13 x14 x15 x16 x17 x18 x19 x20 x21 x22 x23 x24 x25 x26 x27 : Option D} {y : Option D} : SetN (x0 :: x1 :: x2 :: x3 :: x4 :: x5 :: x6 :: x7 :: x8 :: x9 :: x10 :: x11 :: x12 :: x13 :: x14 :: x15 :: x16 :: x17 :: x18 :: x19 :: x20 :: x21 :: x22 :: x23 :: x24 :: x25 :: x26 :: x27 :: y :: ρ) 28 Q t = Q (x0 :: x1 :: x2 :: x3 :: x4 :: x5 :: x6 :: x7 :: x8 :: x9 :: x10 :: x11 :: x12 :: x13 :: x14 :: x15 :: x16 :: x17 :: x18 :: x19 :: x20 :: x21 :: x22 :: x23 :: x24 :: x25 :: x26 :: x27 :: none :: ρ) := rfl
theorem get_29 {x0 x1 x2 x3 x4 x5 x6 x7 x8 x9 x10 x11 x12 x13 x14 x15 x16 x17 x18 x19 x20 x21 x22 x23 x24 x25 x26 x27 x28 : Option D} {Q : D → Prop} {t : Tag2 Q Q} : GetE (x0 :: x1 :: x2 :: x3 :: x4 :: x5 :: x6 :: x7 :: x8 :: x9 :: x10 :: x11 :: x12 :: x13 :: x14 :: x15 :: x16 :: x17 :: x18 :: x19 :: x20 :: x21 :: x22 :: x23 :: x24 :: x25 :: x26 :: x27 :: x28 :: some d :: ρ) 29 Q t = Q d := rfl
theorem set_29 {x0 x1 x2 x3 x4 x5 x6 x7 x8 x9 x10 x11 x12 x13 x14 x15 x16 x17 x18 x19 x20 x21 x22 x23 x24 x25 x26 x27 x28 : Option D} {y : Option D} : SetE (x0 :: x1 :: x2 :: x3 :: x4 :: x5 :: x6 :: x7 :: x8 :: x9 :: x10 :: x11 :: x12 :: x13 :: x14 :: x15 :: x16 :: x17 :: x18 :: x19 :: x20 :: x21 :: x22 :: x23 :: x24 :: x25 :: x26 :: x27 :: x28 :: y :: ρ) 29 d Q t = Q (x0 :: x1 :: x2 :: x3 :: x4 :: x5 :: x6 :: x7 :: x8 :: x9 :: x10 :: x11 :: x12 :: x13 :: x14 :: x15 :: x16 :: x17 :: x18 :: x19 :: x20 :: x21 :: x22 :: x23 :: x24 :: x25 :: x26 :: x27 :: x28 :: some d :: ρ) := by
  unfold SetE; simp
theorem setn_29 {x0 x1 x2 x3 x4 x5 x6 x7 x8 x9 x10 x11 x12 x13 x14 x15 x16 x17 x18 x19 x20 x21 x22 x23 x24 x25 x26 x27 x28 : Option D} {y : Option D} : SetN (x0 :: x1 :: x2 :: x3 :: x4 :: x5 :: x6 :: x7 :: x8 :: x9 :: x10 :: x11 :: x12 :: x13 :: x14 :: x15 :: x16 :: x17 :: x18 :: x19 :: x20 :: x21 :: x22 :: x23 :: x24 :: x25 :: x26 :: x27 :: x28 :: y :: ρ) 29 Q t = Q (x0 :: x1 :: x2 :: x3 :: x4 :: x5 :: x6 :: x7 :: x8 :: x9 :: x10 :: x11 :: x12 :: x13 :: x14 :: x15 :: x16 :: x17 :: x18 :: x19 :: x20 :: x21 :: x22 :: x23 :: x24 :: x25 :: x26 :: x27 :: x28 :: none :: ρ) := rfl
theorem get_30 {x0 x1 x2 x3 x4 x5 x6 x7 x8 x9 x10 x11 x12 x13 x14 x15 x16 x17 x18 x19 x20 x21 x22 x23 x24 x25 x26 x27 x28 x29 : Option D} {Q : D → Prop} {t : Tag2 Q Q} : GetE (x0 :: x1 :: x2 :: x3 :: x4 :: x5 :: x6 :: x7 :: x8 :: x9 :: x10 :: x11 :: x12 :: x13 :: x14 :: x15 :: x16 :: x17 :: x18 :: x19 :: x20 :: x21 :: x22 :: x23 :: x24 :: x25 :: x26 :: x27 :: x28 :: x29 :: some d :: ρ) 30 Q t = Q d := rfl
theorem set_30 {x0 x1 x2 x3 x4 x5 x6 x7 x8 x9 x10 x11 x12 x13 x14 x15 x16 x17 x18 x19 x20 x21 x22 x23 x24 x25 x26 x27 x28 x29 : Option D} {y : Option D} : SetE (x0 :: x1 :: x2 :: x3 :: x4 :: x5 :: x6 :: x7 :: x8 :: x9 :: x10 :: x11 :: x12 :: x13 :: x14 :: x15 :: x16 :: x17 :: x18 :: x19 :: x20 :: x21 :: x22 :: x23 :: x24 :: x25 :: x26 :: x27 :: x28 :: x29 :: y :: ρ) 30 d Q t = Q (x0 :: x1 :: x2 :: x3 :: x4 :: x5 :: x6 :: x7 :: x8 :: x9 :: x10 :: x11 :: x12 :: x13 :: x14 :: x15 :: x16 :: x17 :: x18 :: x19 :: x20 :: x21 :: x22 :: x23 :: x24 :: x25 :: x26 :: x27 :: x28 :: x29 :: some d :: ρ) := by
  unfold SetE; simp
theorem setn_30 {x0 x1 x2 x3 x4 x5 x6 x7 x8 x9 x10 x11 x12 x13 x14 x15 x16 x17 x18 x19 x20 x21 x22 x23 x24 x25 x26 x27 x28 x29 : Option D} {y : Option D} : SetN (x0 :: x1 :: x2 :: x3 :: x4 :: x5 :: x6 :: x7 :: x8 :: x9 :: x10 :: x11 :: x12 :: x13 :: x14 :: x15 :: x16 :: x17 :: x18 :: x19 :: x20 :: x21 :: x22 :: x23 :: x24 :: x25 :: x26 :: x27 :: x28 :: x29 :: y :: ρ) 30 Q t = Q (x0 :: x1 :: x2 :: x3 :: x4 :: x5 :: x6 :: x7 :: x8 :: x9 :: x10 :: x11 :: x12 :: x13 :: x14 :: x15 :: x16 :: x17 :: x18 :: x19 :: x20 :: x21 :: x22 :: x23 :: x24 :: x25 :: x26 :: x27 :: x28 :: x29 :: none :: ρ) := rfl
theorem get_31 {x0 x1 x2 x3 x4 x5 x6 x7 x8 x9 x10 x11 x12 x13 x14 x15 x16 x17 x18 x19 x20 x21 x22 x23 x24 x25 x26 x27 x28 x29 x30 : Option D} {Q : D → Prop} {t : Tag2 Q Q} : GetE (x0 :: x1 :: x2 :: x3 :: x4 :: x5 :: x6 :: x7 :: x8 :: x9 :: x10 :: x11 :: x12 :: x13 :: x14 :: x15 :: x16 :: x17 :: x18 :: x19 :: x20 :: x21 :: x22 :: x23 :: x24 :: x25 :: x26 :: x27 :: x28 :: x29 :: x30 :: some d :: ρ) 31 Q t = Q d := rfl
theorem set_31 {x0 x1 x2 x3 x4 x5 x6 x7 x8 x9 x10 x11 x12 x13 x14 x15 x16 x17 x18 x19 x20 x21 x22 x23 x24 x25 x26 x27 x28 x29 x30 : Option D} {y : Option D} : SetE (x0 :: x1 :: x2 :: x3 :: x4 :: x5 :: x6 :: x7 :: x8 :: x9 :: x10 :: x11 :: x12 :: x13 :: x14 :: x15 :: x16 :: x17 :: x18 :: x19 :: x20 :: x21 :: x22 :: x23 :: x24 :: x25 :: x26 :: x27 :: x28 :: x29 :: x30 :: y :: ρ) 31 d Q t = Q (x0 :: x1 :: x2 :: x3 :: x4 :: x5 :: x6 :: x7 :: x8 :: x9 :: x10 :: x11 :: x12 :: x13 :: x14 :: x15 :: x16 :: x17 :: x18 :: x19 :: x20 :: x21 :: x22 :: x23 :: x24 :: x25 :: x26 :: x27 :: x28 :: x29 :: x30 :: some d :: ρ) := by
  unfold SetE; simp
theorem setn_31 {x0 x1 x2 x3 x4 x5 x6 x7 x8 x9 x10 x11 x12 x13 x14 x15 x16 x17 x18 x19 x20 x21 x22 x23 x24 x25 x26 x27 x28 x29 x30 : Option D} {y : Option D} : SetN (x0 :: x1 :: x2 :: x3 :: x4 :: x5 :: x6 :: x7 :: x8 :: x9 :: x10 :: x11 :: x12 :: x13 :: x14 :: x15 :: x16 :: x17 :: x18 :: x19 :: x20 :: x21 :: x22 :: x23 :: x24 :: x25 :: x26 :: x27 :: x28 :: x29 :: x30 :: y :: ρ) 31 Q t = Q (x0 :: x1 :: x2 :: x3 :: x4 :: x5 :: x6 :: x7 :: x8 :: x9 :: x10 :: x11 :: x12 :: x13 :: x14 :: x15 :: x16 :: x17 :: x18 :: x19 :: x20 :: x21 :: x22 :: x23 :: x24 :: x25 :: x26 :: x27 :: x28 :: x29 :: x30 :: none :: ρ) := rfl
theorem get_32 {x0 x1 x2 x3 x4 x5 x6 x7 x8 x9 x10 x11 x12 x13 x14 x15 x16 x17 x18 x19 x20 x21 x22 x23 x24 x25 x26 x27 x28 x29 x30 x31 : Option D} {Q : D → Prop} {t : Tag2 Q Q} : GetE (x0 :: x1 :: x2 :: x3 :: x4 :: x5 :: x6 :: x7 :: x8 :: x9 :: x10 :: x11 :: x12 :: x13 :: x14 :: x15 :: x16 :: x17 :: x18 :: x19 :: x20 :: x21 :: x22 :: x23 :: x24 :: x25 :: x26 :: x27 :: x28 :: x29 :: x30 :: x31 :: some d :: ρ) 32 Q t = Q d := rfl
theorem set_32 {x0 x1 x2 x3 x4 x5 x6 x7 x8 x9 x10 x11 x12 x13 x14 x15 x16 x17 x18 x19 x20 x21 x22 x23 x24 x25 x26 x27 x28 x29 x30 x31 : Option D} {y : Option D} : SetE (x0 :: x1 :: x2 :: x3 :: x4 :: x5 :: x6 :: x7 :: x8 :: x9 :: x10 :: x11 :: x12 :: x13 :: x14 :: x15 :: x16 :: x17 :: x18 :: x19 :: x20 :: x21 :: x22 :: x23 :: x24 :: x25 :: x26 :: x27 :: x28 :: x29 :: x30 :: x31 :: y :: ρ) 32 d Q t = Q (x0 :: x1 :: x2 :: x3 :: x4 :: x5 :: x6 :: x7 :: x8 :: x9 :: x10 :: x11 :: x12 :: x13 :: x14 :: x15 :: x16 :: x17 :: x18 :: x19 :: x20 :: x21 :: x22 :: x23 :: x24 :: x25 :: x26 :: x27 :: x28 :: x29 :: x30 :: x31 :: some d :: ρ) := by
  unfold SetE; simp
theorem setn_32 {x0 x1 x2 x3 x4 x5 x6 x7 x8 x9 x10 x11 x12 x13 x14 x15 x16 x17 x18 x19 x20 x21 x22 x23 x24 x25 x26 x27 x28 x29 x30 x31 : Option D} {y : Option D} : SetN (x0 :: x1 :: x2 :: x3 :: x4 :: x5 :: x6 :: x7 :: x8 :: x9 :: x10 :: x11 :: x12 :: x13 :: x14 :: x15 :: x16 :: x17 :: x18 :: x19 :: x20 :: x21 :: x22 :: x23 :: x24 :: x25 :: x26 :: x27 :: x28 :: x29 :: x30 :: x31 :: y :: ρ) 32 Q t = Q (x0 :: x1 :: x2 :: x3 :: x4 :: x5 :: x6 :: x7 :: x8 :: x9 :: x10 :: x11 :: x12 :: x13 :: x14 :: x15 :: x16 :: x17 :: x18 :: x19 :: x20 :: x21 :: x22 :: x23 :: x24 :: x25 :: x26 :: x27 :: x28 :: x29 :: x30 :: x31 :: none :: ρ) := rfl
theorem get_33 {x0 x1 x2 x3 x4 x5 x6 x7 x8 x9 x10 x11 x12 x13 x14 x15 x16 x17 x18 x19 x20 x21 x22 x23 x24 x25 x26 x27 x28 x29 x30 x31 x32 : Option D} {Q : D → Prop} {t : Tag2 Q Q} : GetE (x0 :: x1 :: x2 :: x3 :: x4 :: x5 :: x6 :: x7 :: x8 :: x9 :: x10 :: x11 :: x12 :: x13 :: x14 :: x15 :: x16 :: x17 :: x18 :: x19 :: x20 :: x21 :: x22 :: x23 :: x24 :: x25 :: x26 :: x27 :: x28 :: x29 :: x30 :: x31 :: x32 :: some d :: ρ) 33 Q t = Q d := rfl
theorem set_33 {x0 x1 x2 x3 x4 x5 x6 x7 x8 x9 x10 x11 x12 x13 x14 x15 x16 x17 x18 x19 x20 x21 x22 x23 x24 x25 x26 x27 x28 x29 x30 x31 x32 : Option D} {y : Option D} : SetE (x0 :: x1 :: x2 :: x3 :: x4 :: x5 :: x6 :: x7 :: x8 :: x9 :: x10 :: x11 :: x12 :: x13 :: x14 :: x15 :: x16 :: x17 :: x18 :: x19 :: x20 :: x21 :: x22 :: x23 :: x24 :: x25 :: x26 :: x27 :: x28 :: x29 :: x30 :: x31 :: x32 :: y :: ρ) 33 d Q t = Q (x0 :: x1 :: x2 :: x3 :: x4 :: x5 :: x6 :: x7 :: x8 :: x9 :: x10 :: x11 :: x12 :: x13 :: x14 :: x15 :: x16 :: x17 :: x18 :: x19 :: x20 :: x21 :: x22 :: x23 :: x24 :: x25 :: x26 :: x27 :: x28 :: x29 :: x30 :: x31 :: x32 :: some d :: ρ) := by
  unfold SetE; simp
theorem setn_33 {x0 x1 x2 x3 x4 x5 x6 x7 x8 x9 x10 x11 x12 x13 x14 x15 x16 x17 x18 x19 x20 x21 x22 x23 x24 x25 x26 x27 x28 x29 x30 x31 x32 : Option D} {y : Option D} : SetN (x0 :: x1 :: x2 :: x3 :: x4 :: x5 :: x6 :: x7 :: x8 :: x9 :: x10 :: x11 :: x12 :: x13 :: x14 :: x15 :: x16 :: x17 :: x18 :: x19 :: x20 :: x21 :: x22 :: x23 :: x24 :: x25 :: x26 :: x27 :: x28 :: x29 :: x30 :: x31 :: x32 :: y :: ρ) 33 Q t = Q (x0 :: x1 :: x2 :: x3 :: x4 :: x5 :: x6 :: x7 :: x8 :: x9 :: x10 :: x11 :: x12 :: x13 :: x14 :: x15 :: x16 :: x17 :: x18 :: x19 :: x20 :: x21 :: x22 :: x23 :: x24 :: x25 :: x26 :: x27 :: x28 :: x29 :: x30 :: x31 :: x32 :: none :: ρ) := rfl
theorem get_34 {x0 x1 x2 x3 x4 x5 x6 x7 x8 x9 x10 x11 x12 x13 x14 x15 x16 x17 x18 x19 x20 x21 x22 x23 x24 x25 x26 x27 x28 x29 x30 x31 x32 x33 : Option D} {Q : D → Prop} {t : Tag2 Q Q} : GetE (x0 :: x1 :: x2 :: x3 :: x4 :: x5 :: x6 :: x7 :: x8 :: x9 :: x10 :: x11 :: x12 :: x13 :: x14 :: x15 :: x16 :: x17 :: x18 :: x19 :: x20 :: x21 :: x22 :: x23 :: x24 :: x25 :: x26 :: x27 :: x28 :: x29 :: x30 :: x31 :: x32 :: x33 :: some d :: ρ) 34 Q t = Q d := rfl
theorem set_34 {x0 x1 x2 x3 x4 x5 x6 x7 x8 x9 x10 x11 x12 x13 x14 x15 x16 x17 x18 x19 x20 x21 x22 x23 x24 x25 x26 x27 x28 x29 x30 x31 x32 x33 : Option D} {y : Option D} : SetE (x0 :: x1 :: x2 :: x3 :: x4 :: x5 :: x6 :: x7 :: x8 :: x9 :: x10 :: x11 :: x12 :: x13 :: x14 :: x15 :: x16 :: x17 :: x18 :: x19 :: x20 :: x21 :: x22 :: x23 :: x24 :: x25 :: x26 :: x27 :: x28 :: x29 :: x30 :: x31 :: x32 :: x33 :: y :: ρ) 34 d Q t = Q (x0 :: x1 :: x2 :: x3 :: x4 :: x5 :: x6 :: x7 :: x8 :: x9 :: x10 :: x11 :: x12 :: x13 :: x14 :: x15 :: x16 :: x17 :: x18 :: x19 :: x20 :: x21 :: x22 :: x23 :: x24 :: x25 :: x26 :: x27 :: x28 :: x29 :: x30 :: x31 :: x32 :: x33 :: some d :: ρ) := by
  unfold SetE; simp
theorem setn_34 {x0 x1 x2 x3 x4 x5 x6 x7 x8 x9 x10 x11 x12 x13 x14 x15 x16 x17 x18 x19 x20 x21 x22 x23 x24 x25 x26 x27 x28 x29 x30 x31 x32 x33 : Option D} {y : Option D} : SetN (x0 :: x1 :: x2 :: x3 :: x4 :: x5 :: x6 :: x7 :: x8 :: x9 :: x10 :: x11 :: x12 :: x13 :: x14 :: x15 :: x16 :: x17 :: x18 :: x19 :: x20 :: x21 :: x22 :: x23 :: x24 :: x25 :: x26 :: x27 :: x28 :: x29 :: x30 :: x31 :: x32 :: x33 :: y :: ρ) 34 Q t = Q (x0 :: x1 :: x2 :: x3 :: x4 :: x5 :: x6 :: x7 :: x8 :: x9 :: x10 :: x11 :: x12 :: x13 :: x14 :: x15 :: x16 :: x17 :: x18 :: x19 :: x20 :: x21 :: x22 :: x23 :: x24 :: x25 :: x26 :: x27 :: x28 :: x29 :: x30 :: x31 :: x32 :: x33 :: none :: ρ) := rfl
theorem get_35 {x0 x1 x2 x3 x4 x5 x6 x7 x8 x9 x10 x11 x12 x13 x14 x15 x16 x17 x18 x19 x20 x21 x22 x23 x24 x25 x26 x27 x28 x29 x30 x31 x32 x33 x34 : Option D} {Q : D → Prop} {t : Tag2 Q Q} : GetE (x0 :: x1 :: x2 :: x3 :: x4 :: x5 :: x6 :: x7 :: x8 :: x9 :: x10 :: x11 :: x12 :: x13 :: x14 :: x15 :: x16 :: x17 :: x18 :: x19 :: x20 :: x21 :: x22 :: x23 :: x24 :: x25 :: x26 :: x27 :: x28 :: x29 :: x30 :: x31 :: x32 :: x33 :: x34 :: some d :: ρ) 35 Q t = Q d := rfl
theorem set_35 {x0 x1 x2 x3 x4 x5 x6 x7 x8 x9 x10 x11 x12 x13 x14 x15 x16 x17 x18 x19 x20 x21 x22 x23 x24 x25 x26 x27 x28 x29 x30 x31 x32 x33 x34 : Option D} {y : Option D} : SetE (x0 :: x1 :: x2 :: x3 :: x4 :: x5 :: x6 :: x7 :: x8 :: x9 :: x10 :: x11 :: x12 :: x13 :: x14 :: x15 :: x16 :: x17 :: x18 :: x19 :: x20 :: x21 :: x22 :: x23 :: x24 :: x25 :: x26 :: x27 :: x28 :: x29 :: x30 :: x31 :: x32 :: x33 :: x34 :: y :: ρ) 35 d Q t = Q (x0 :: x1 :: x2 :: x3 :: x4 :: x5 :: x6 :: x7 :: x8 :: x9 :: x10 :: x11 :: x12 :: x13 :: x14 :: x15 :: x16 :: x17 :: x18 :: x19 :: x20 :: x21 :: x22 :: x23 :: x24 :: x25 :: x26 :: x27 :: x28 :: x29 :: x30 :: x31 :: x32 :: x33 :: x34 :: some d :: ρ) := by
  unfold SetE; simp
theorem setn_35 {x0 x1 x2 x3 x4 x5 x6 x7 x8 x9 x10 x11 x12 x13 x14 x15 x16 x17 x18 x19 x20 x21 x22 x23 x24 x25 x26 x27 x28 x29 x30 x31 x32 x33 x34 : Option D} {y : Option D} : SetN (x0 :: x1 :: x2 :: x3 :: x4 :: x5 :: x6 :: x7 :: x8 :: x9 :: x10 :: x11 :: x12 :: x13 :: x14 :: x15 :: x16 :: x17 :: x18 :: x19 :: x20 :: x21 :: x22 :: x23 :: x24 :: x25 :: x26 :: x27 :: x28 :: x29 :: x30 :: x31 :: x32 :: x33 :: x34 :: y :: ρ) 35 Q t = Q (x0 :: x1 :: x2 :: x3 :: x4 :: x5 :: x6 :: x7 :: x8 :: x9 :: x10 :: x11 :: x12 :: x13 :: x14 :: x15 :: x16 :: x17 :: x18 :: x19 :: x20 :: x21 :: x22 :: x23 :: x24 :: x25 :: x26 :: x27 :: x28 :: x29 :: x30 :: x31 :: x32 :: x33 :: x34 :: none :: ρ) := rfl
theorem get_36 {x0 x1 x2 x3 x4 x5 x6 x7 x8 x9 x10 x11 x12 x13 x14 x15 x16 x17 x18 x19 x20 x21 x22 x23 x24 x25 x26 x27 x28 x29 x30 x31 x32 x33 x34 x35 : Option D} {Q : D → Prop} {t : Tag2 Q Q} : GetE (x0 :: x1 :: x2 :: x3 :: x4 :: x5 :: x6 :: x7 :: x8 :: x9 :: x10 :: x11 :: x12 :: x13 :: x14 :: x15 :: x16 :: x17 :: x18 :: x19 :: x20 :: x21 :: x22 :: x23 :: x24 :: x25 :: x26 :: x27 :: x28 :: x29 :: x30 :: x31 :: x32 :: x33 :: x34 :: x35 :: some d :: ρ) 36 Q t = Q d := rfl
theorem set_36 {x0 x1 x2 x3 x4 x5 x6 x7 x8 x9 x10 x11 x12 x13 x14 x15 x16 x17 x18 x19 x20 x21 x22 x23 x24 x25 x26 x27 x28 x29 x30 x31 x32 x33 x34 x35 : Option D} {y : Option D} : SetE (x0 :: x1 :: x2 :: x3 :: x4 :: x5 :: x6 :: x7 :: x8 :: x9 :: x10 :: x11 :: x12 :: x13 :: x14 :: x15 :: x16 :: x17 :: x18 :: x19 :: x20 :: x21 :: x22 :: x23 :: x24 :: x25 :: x26 :: x27 :: x28 :: x29 :: x30 :: x31 :: x32 :: x33 :: x34 :: x35 :: y :: ρ) 36 d Q t = Q (x0 :: x1 :: x2 :: x3 :: x4 :: x5 :: x6 :: x7 :: x8 :: x9 :: x10 :: x11 :: x12 :: x13 :: x14 :: x15 :: x16 :: x17 :: x18 :: x19 :: x20 :: x21 :: x22 :: x23 :: x24 :: x25 :: x26 :: x27 :: x28 :: x29 :: x30 :: x31 :: x32 :: x33 :: x34 :: x35 :: some d :: ρ) := by
  unfold SetE; simp
theorem setn_36 {x0 x1 x2 x3 x4 x5 x6 x7 x8 x9 x10 x11 x12 x13 x14 x15 x16 x17 x18 x19 x20 x21 x22 x23 x24 x25 x26 x27 x28 x29 x30 x31 x32 x33 x34 x35 : Option D} {y : Option D} : SetN (x0 :: x1 :: x2 :: x3 :: x4 :: x5 :: x6 :: x7 :: x8 :: x9 :: x10 :: x11 :: x12 :: x13 :: x14 :: x15 :: x16 :: x17 :: x18 :: x19 :: x20 :: x21 :: x22 :: x23 :: x24 :: x25 :: x26 :: x27 :: x28 :: x29 :: x30 :: x31 :: x32 :: x33 :: x34 :: x35 :: y :: ρ) 36 Q t = Q (x0 :: x1 :: x2 :: x3 :: x4 :: x5 :: x6 :: x7 :: x8 :: x9 :: x10 :: x11 :: x12 :: x13 :: x14 :: x15 :: x16 :: x17 :: x18 :: x19 :: x20 :: x21 :: x22 :: x23 :: x24 :: x25 :: x26 :: x27 :: x28 :: x29 :: x30 :: x31 :: x32 :: x33 :: x34 :: x35 :: none :: ρ) := rfl
theorem get_37 {x0 x1 x2 x3 x4 x5 x6 x7 x8 x9 x10 x11 x12 x13 x14 x15 x16 x17 x18 x19 x20 x21 x22 x23 x24 x25 x26 x27 x28 x29 x30 x31 x32 x33 x34 x35 x36 : Option D} {Q : D → Prop} {t : Tag2 Q Q} : GetE (x0 :: x1 :: x2 :: x3 :: x4 :: x5 :: x6 :: x7 :: x8 :: x9 :: x10 :: x11 :: x12 :: x13 :: x14 :: x15 :: x16 :: x17 :: x18 :: x19 :: x20 :: x21 :: x22 :: x23 :: x24 :: x25 :: x26 :: x27 :: x28 :: x29 :: x30 :: x31 :: x32 :: x33 :: x34 :: x35 :: x36 :: some d :: ρ) 37 Q t = Q d := rfl
theorem set_37 {x0 x1 x2 x3 x4 x5 x6 x7 x8 x9 x10 x11 x12 x13 x14 x15 x16 x17 x18 x19 x20 x21 x22 x23 x24 x25 x26 x27 x28 x29 x30 x31 x32 x33 x34 x35 x36 : Option D} {y : Option D} : SetE (x0 :: x1 :: x2 :: x3 :: x4 :: x5 :: x6 :: x7 :: x8 :: x9 :: x10 :: x11 :: x12 :: x13 :: x14 :: x15 :: x16 :: x17 :: x18 :: x19 :: x20 :: x21 :: x22 :: x23 :: x24 :: x25 :: x26 :: x27 :: x28 :: x29 :: x30 :: x31 :: x32 :: x33 :: x34 :: x35 :: x36 :: y :: ρ) 37 d Q t = Q (x0 :: x1 :: x2 :: x3 :: x4 :: x5 :: x6 :: x7 :: x8 :: x9 :: x10 :: x11 :: x12 :: x13 :: x14 :: x15 :: x16 :: x17 :: x18 :: x19 :: x20 :: x21 :: x22 :: x23 :: x24 :: x25 :: x26 :: x27 :: x28 :: x29 :: x30 :: x31 :: x32 :: x33 :: x34 :: x35 :: x36 :: some d :: ρ) := by
  unfold SetE; simp
theorem setn_37 {x0 x1 x2 x3 x4 x5 x6 x7 x8 x9 x10 x11 x12 x13 x14 x15 x16 x17 x18 x19 x20 x21 x22 x23 x24 x25 x26 x27 x28 x29 x30 x31 x32 x33 x34 x35 x36 : Option D} {y : Option D} : SetN (x0 :: x1 :: x2 :: x3 :: x4 :: x5 :: x6 :: x7 :: x8 :: x9 :: x10 :: x11 :: x12 :: x13 :: x14 :: x15 :: x16 :: x17 :: x18 :: x19 :: x20 :: x21 :: x22 :: x23 :: x24 :: x25 :: x26 :: x27 :: x28 :: x29 :: x30 :: x31 :: x32 :: x33 :: x34 :: x35 :: x36 :: y :: ρ) 37 Q t = Q (x0 :: x1 :: x2 :: x3 :: x4 :: x5 :: x6 :: x7 :: x8 :: x9 :: x10 :: x11 :: x12 :: x13 :: x14 :: x15 :: x16 :: x17 :: x18 :: x19 :: x20 :: x21 :: x22 :: x23 :: x24 :: x25 :: x26 :: x27 :: x28 :: x29 :: x30 :: x31 :: x32 :: x33 :: x34 :: x35 :: x36 :: none :: ρ) := rfl
theorem get_38 {x0 x1 x2 x3 x4 x5 x6 x7 x8 x9 x10 x11 x12 x13 x14 x15 x16 x17 x18 x19 x20 x21 x22 x23 x24 x25 x26 x27 x28 x29 x30 x31 x32 x33 x34 x35 x36 x37 : Option D} {Q : D → Prop} {t : Tag2 Q Q} : GetE (x0 :: x1 :: x2 :: x3 :: x4 :: x5 :: x6 :: x7 :: x8 :: x9 :: x10 :: x11 :: x12 :: x13 :: x14 :: x15 :: x16 :: x17 :: x18 :: x19 :: x20 :: x21 :: x22 :: x23 :: x24 :: x25 :: x26 :: x27 :: x28 :: x29 :: x30 :: x31 :: x32 :: x33 :: x34 :: x35 :: x36 :: x37 :: some d :: ρ) 38 Q t = Q d := rfl
theorem set_38 {x0 x1 x2 x3 x4 x5 x6 x7 x8 x9 x10 x11 x12 x13 x14 x15 x16 x17 x18 x19 x20 x21 x22 x23 x24 x25 x26 x27 x28 x29 x30 x31 x32 x33 x34 x35 x36 x37 : Option D} {y : Option D} : SetE (x0 :: x1 :: x2 :: x3 :: x4 :: x5 :: x6 :: x7 :: x8 :: x9 :: x10 :: x11 :: x12 :: x13 :: x14 :: x15 :: x16 :: x17 :: x18 :: x19 :: x20 :: x21 :: x22 :: x23 :: x24 :: x25 :: x26 :: x27 :: x28 :: x29 :: x30 :: x31 :: x32 :: x33 :: x34 :: x35 :: x36 :: x37 :: y :: ρ) 38 d Q t = Q (x0 :: x1 :: x2 :: x3 :: x4 :: x5 :: x6 :: x7 :: x8 :: x9 :: x10 :: x11 :: x12 :: x13 :: x14 :: x15 :: x16 :: x17 :: x18 :: x19 :: x20 :: x21 :: x22 :: x23 :: x24 :: x25 :: x26 :: x27 :: x28 :: x29 :: x30 :: x31 :: x32 :: x33 :: x34 :: x35 :: x36 :: x37 :: some d :: ρ) := by
  unfold SetE; simp
theorem setn_38 {x0 x1 x2 x3 x4 x5 x6 x7 x8 x9 x10 x11 x12 x13 x14 x15 x16 x17 x18 x19 x20 x21 x22 x23 x24 x25 x26 x27 x28 x29 x30 x31 x32 x33 x34 x35 x36 x37 : Option D} {y : Option D} : SetN (x0 :: x1 :: x2 :: x3 :: x4 :: x5 :: x6 :: x7 :: x8 :: x9 :: x10 :: x11 :: x12 :: x13 :: x14 :: x15 :: x16 :: x17 :: x18 :: x19 :: x20 :: x21 :: x22 :: x23 :: x24 :: x25 :: x26 :: x27 :: x28 :: x29 :: x30 :: x31 :: x32 :: x33 :: x34 :: x35 :: x36 :: x37 :: y :: ρ) 38 Q t = Q (x0 :: x1 :: x2 :: x3 :: x4 :: x5 :: x6 :: x7 :: x8 :: x9 :: x10 :: x11 :: x12 :: x13 :: x14 :: x15 :: x16 :: x17 :: x18 :: x19 :: x20 :: x21 :: x22 :: x23 :: x24 :: x25 :: x26 :: x27 :: x28 :: x29 :: x30 :: x31 :: x32 :: x33 :: x34 :: x35 :: x36 :: x37 :: none :: ρ) := rfl
theorem get_39 {x0 x1 x2 x3 x4 x5 x6 x7 x8 x9 x10 x11 x12 x13 x14 x15 x16 x17 x18 x19 x20 x21 x22 x23 x24 x25 x26 x27 x28 x29 x30 x31 x32 x33 x34 x35 x36 x37 x38 : Option D} {Q : D → Prop} {t : Tag2 Q Q} : GetE (x0 :: x1 :: x2 :: x3 :: x4 :: x5 :: x6 :: x7 :: x8 :: x9 :: x10 :: x11 :: x12 :: x13 :: x14 :: x15 :: x16 :: x17 :: x18 :: x19 :: x20 :: x21 :: x22 :: x23 :: x24 :: x25 :: x26 :: x27 :: x28 :: x29 :: x30 :: x31 :: x32 :: x33 :: x34 :: x35 :: x36 :: x37 :: x38 :: some d :: ρ) 39 Q t = Q d := rfl
theorem set_39 {x0 x1 x2 x3 x4 x5 x6 x7 x8 x9 x10 x11 x12 x13 x14 x15 x16 x17 x18 x19 x20 x21 x22 x23 x24 x25 x26 x27 x28 x29 x30 x31 x32 x33 x34 x35 x36 x37 x38 : Option D} {y : Option D} : SetE (x0 :: x1 :: x2 :: x3 :: x4 :: x5 :: x6 :: x7 :: x8 :: x9 :: x10 :: x11 :: x12 :: x13 :: x14 :: x15 :: x16 :: x17 :: x18 :: x19 :: x20 :: x21 :: x22 :: x23 :: x24 :: x25 :: x26 :: x27 :: x28 :: x29 :: x30 :: x31 :: x32 :: x33 :: x34 :: x35 :: x36 :: x37 :: x38 :: y :: ρ) 39 d Q t = Q (x0 :: x1 :: x2 :: x3 :: x4 :: x5 :: x6 :: x7 :: x8 :: x9 :: x10 :: x11 :: x12 :: x13 :: x14 :: x15 :: x16 :: x17 :: x18 :: x19 :: x20 :: x21 :: x22 :: x23 :: x24 :: x25 :: x26 :: x27 :: x28 :: x29 :: x30 :: x31 :: x32 :: x33 :: x34 :: x35 :: x36 :: x37 :: x38 :: some d :: ρ) := by
  unfold SetE; simp
theorem setn_39 {x0 x1 x2 x3 x4 x5 x6 x7 x8 x9 x10 x11 x12 x13 x14 x15 x16 x17 x18 x19 x20 x21 x22 x23 x24 x25 x26 x27 x28 x29 x30 x31 x32 x33 x34 x35 x36 x37 x38 : Option D} {y : Option D} : SetN (x0 :: x1 :: x2 :: x3 :: x4 :: x5 :: x6 :: x7 :: x8 :: x9 :: x10 :: x11 :: x12 :: x13 :: x14 :: x15 :: x16 :: x17 :: x18 :: x19 :: x20 :: x21 :: x22 :: x23 :: x24 :: x25 :: x26 :: x27 :: x28 :: x29 :: x30 :: x31 :: x32 :: x33 :: x34 :: x35 :: x36 :: x37 :: x38 :: y :: ρ) 39 Q t = Q (x0 :: x1 :: x2 :: x3 :: x4 :: x5 :: x6 :: x7 :: x8 :: x9 :: x10 :: x11 :: x12 :: x13 :: x14 :: x15 :: x16 :: x17 :: x18 :: x19 :: x20 :: x21 :: x22 :: x23 :: x24 :: x25 :: x26 :: x27 :: x28 :: x29 :: x30 :: x31 :: x32 :: x33 :: x34 :: x35 :: x36 :: x37 :: x38 :: none :: ρ) := rfl
theorem get_40 {x0 x1 x2 x3 x4 x5 x6 x7 x8 x9 x10 x11 x12 x13 x14 x15 x16 x17 x18 x19 x20 x21 x22 x23 x24 x25 x26 x27 x28 x29 x30 x31 x32 x33 x34 x35 x36 x37 x38 x39 : Option D} {Q : D → Prop} {t : Tag2 Q Q} : GetE (x0 :: x1 :: x2 :: x3 :: x4 :: x5 :: x6 :: x7 :: x8 :: x9 :: x10 :: x11 :: x12 :: x13 :: x14 :: x15 :: x16 :: x17 :: x18 :: x19 :: x20 :: x21 :: x22 :: x23 :: x24 :: x25 :: x26 :: x27 :: x28 :: x29 :: x30 :: x31 :: x32 :: x33 :: x34 :: x35 :: x36 :: x37 :: x38 :: x39 :: some d :: ρ) 40 Q t = Q d := rfl
theorem set_40 {x0 x1 x2 x3 x4 x5 x6 x7 x8 x9 x10 x11 x12 x13 x14 x15 x16 x17 x18 x19 x20 x21 x22 x23 x24 x25 x26 x27 x28 x29 x30 x31 x32 x33 x34 x35 x36 x37 x38 x39 : Option D} {y : Option D} : SetE (x0 :: x1 :: x2 :: x3 :: x4 :: x5 :: x6 :: x7 :: x8 :: x9 :: x10 :: x11 :: x12 :: x13 :: x14 :: x15 :: x16 :: x17 :: x18 :: x19 :: x20 :: x21 :: x22 :: x23 :: x24 :: x25 :: x26 :: x27 :: x28 :: x29 :: x30 :: x31 :: x32 :: x33 :: x34 :: x35 :: x36 :: x37 :: x38 :: x39 :: y :: ρ) 40 d Q t = Q (x0 :: x1 :: x2 :: x3 :: x4 :: x5 :: x6 :: x7 :: x8 :: x9 :: x10 :: x11 :: x12 :: x13 :: x14 :: x15 :: x16 :: x17 :: x18 :: x19 :: x20 :: x21 :: x22 :: x23 :: x24 :: x25 :: x26 :: x27 :: x28 :: x29 :: x30 :: x31 :: x32 :: x33 :: x34 :: x35 :: x36 :: x37 :: x38 :: x39 :: some d :: ρ) := by
  unfold SetE; simp
theorem setn_40 {x0 x1 x2 x3 x4 x5 x6 x7 x8 x9 x10 x11 x12 x13 x14 x15 x16 x17 x18 x19 x20 x21 x22 x23 x24 x25 x26 x27 x28 x29 x30 x31 x32 x33 x34 x35 x36 x37 x38 x39 : Option D} {y : Option D} : SetN (x0 :: x1 :: x2 :: x3 :: x4 :: x5 :: x6 :: x7 :: x8 :: x9 :: x10 :: x11 :: x12 :: x13 :: x14 :: x15 :: x16 :: x17 :: x18 :: x19 :: x20 :: x21 :: x22 :: x23 :: x24 :: x25 :: x26 :: x27 :: x28 :: x29 :: x30 :: x31 :: x32 :: x33 :: x34 :: x35 :: x36 :: x37 :: x38 :: x39 :: y :: ρ) 40 Q t = Q (x0 :: x1 :: x2 :: x3 :: x4 :: x5 :: x6 :: x7 :: x8 :: x9 :: x10 :: x11 :: x12 :: x13 :: x14 :: x15 :: x16 :: x17 :: x18 :: x19 :: x20 :: x21 :: x22 :: x23 :: x24 :: x25 :: x26 :: x27 :: x28 :: x29 :: x30 :: x31 :: x32 :: x33 :: x34 :: x35 :: x36 :: x37 :: x38 :: x39 :: none :: ρ) := rfl
theorem get_41 {x0 x1 x2 x3 x4 x5 x6 x7 x8 x9 x10 x11 x12 x13 x14 x15 x16 x17 x18 x19 x20 x21 x22 x23 x24 x25 x26 x27 x28 x29 x30 x31 x32 x33 x34 x35 x36 x37 x38 x39 x40 : Option D} {Q : D → Prop} {t : Tag2 Q Q} : GetE (x0 :: x1 :: x2 :: x3 :: x4 :: x5 :: x6 :: x7 :: x8 :: x9 :: x10 :: x11 :: x12 :: x13 :: x14 :: x15 :: x16 :: x17 :: x18 :: x19 :: x20 :: x21 :: x22 :: x23 :: x24 :: x25 :: x26 :: x27 :: x28 :: x29 :: x30 :: x31 :: x32 :: x33 :: x34 :: x35 :: x36 :: x37 :: x38 :: x39 :: x40 :: some d :: ρ) 41 Q t = Q d := rfl
theorem set_41 {x0 x1 x2 x3 x4 x5 x6 x7 x8 x9 x10 x11 x12 x13 x14 x15 x16 x17 x18 x19 x20 x21 x22 x23 x24 x25 x26 x27 x28 x29 x30 x31 x32 x33 x34 x35 x36 x37 x38 x39 x40 : Option D} {y : Option D} : SetE (x0 :: x1 :: x2 :: x3 :: x4 :: x5 :: x6 :: x7 :: x8 :: x9 :: x10 :: x11 :: x12 :: x13 :: x14 :: x15 :: x16 :: x17 :: x18 :: x19 :: x20 :: x21 :: x22 :: x23 :: x24 :: x25 :: x26 :: x27 :: x28 :: x29 :: x30 :: x31 :: x32 :: x33 :: x34 :: x35 :: x36 :: x37 :: x38 :: x39 :: x40 :: y :: ρ) 41 d Q t = Q (x0 :: x1 :: x2 :: x3 :: x4 :: x5 :: x6 :: x7 :: x8 :: x9 :: x10 :: x11 :: x12 :: x13 :: x14 :: x15 :: x16 :: x17 :: x18 :: x19 :: x20 :: x21 :: x22 :: x23 :: x24 :: x25 :: x26 :: x27 :: x28 :: x29 :: x30 :: x31 :: x32 :: x33 :: x34 :: x35 :: x36 :: x37 :: x38 :: x39 :: x40 :: some d :: ρ) := by
  unfold SetE; simp
theorem setn_41 {x0 x1 x2 x3 x4 x5 x6 x7 x8 x9 x10 x11 x12 x13 x14 x15 x16 x17 x18 x19 x20 x21 x22 x23 x24 x25 x26 x27 x28 x29 x30 x31 x32 x33 x34 x35 x36 x37 x38 x39 x40 : Option D} {y : Option D} : SetN (x0 :: x1 :: x2 :: x3 :: x4 :: x5 :: x6 :: x7 :: x8 :: x9 :: x10 :: x11 :: x12 :: x13 :: x14 :: x15 :: x16 :: x17 :: x18 :: x19 :: x20 :: x21 :: x22 :: x23 :: x24 :: x25 :: x26 :: x27 :: x28 :: x29 :: x30 :: x31 :: x32 :: x33 :: x34 :: x35 :: x36 :: x37 :: x38 :: x39 :: x40 :: y :: ρ) 41 Q t = Q (x0 :: x1 :: x2 :: x3 :: x4 :: x5 :: x6 :: x7 :: x8 :: x9 :: x10 :: x11 :: x12 :: x13 :: x14 :: x15 :: x16 :: x17 :: x18 :: x19 :: x20 :: x21 :: x22 :: x23 :: x24 :: x25 :: x26 :: x27 :: x28 :: x29 :: x30 :: x31 :: x32 :: x33 :: x34 :: x35 :: x36 :: x37 :: x38 :: x39 :: x40 :: none :: ρ) := rfl
theorem get_42 {x0 x1 x2 x3 x4 x5 x6 x7 x8 x9 x10 x11 x12 x13 x14 x15 x16 x17 x18 x19 x20 x21 x22 x23 x24 x25 x26 x27 x28 x29 x30 x31 x32 x33 x34 x35 x36 x37 x38 x39 x40 x41 : Option D} {Q : D → Prop} {t : Tag2 Q Q} : GetE (x0 :: x1 :: x2 :: x3 :: x4 :: x5 :: x6 :: x7 :: x8 :: x9 :: x10 :: x11 :: x12 :: x13 :: x14 :: x15 :: x16 :: x17 :: x18 :: x19 :: x20 :: x21 :: x22 :: x23 :: x24 :: x25 :: x26 :: x27 :: x28 :: x29 :: x30 :: x31 :: x32 :: x33 :: x34 :: x35 :: x36 :: x37 :: x38 :: x39 :: x40 :: x41 :: some d :: ρ) 42 Q t = Q d := rfl
theorem set_42 {x0 x1 x2 x3 x4 x5 x6 x7 x8 x9 x10 x11 x12 x13 x14 x15 x16 x17 x18 x19 x20 x21 x22 x23 x24 x25 x26 x27 x28 x29 x30 x31 x32 x33 x34 x35 x36 x37 x38 x39 x40 x41 : Option D} {y : Option D} : SetE (x0 :: x1 :: x2 :: x3 :: x4 :: x5 :: x6 :: x7 :: x8 :: x9 :: x10 :: x11 :: x12 :: x13 :: x14 :: x15 :: x16 :: x17 :: x18 :: x19 :: x20 :: x21 :: x22 :: x23 :: x24 :: x25 :: x26 :: x27 :: x28 :: x29 :: x30 :: x31 :: x32 :: x33 :: x34 :: x35 :: x36 :: x37 :: x38 :: x39 :: x40 :: x41 :: y :: ρ) 42 d Q t = Q (x0 :: x1 :: x2 :: x3 :: x4 :: x5 :: x6 :: x7 :: x8 :: x9 :: x10 :: x11 :: x12 :: x13 :: x14 :: x15 :: x16 :: x17 :: x18 :: x19 :: x20 :: x21 :: x22 :: x23 :: x24 :: x25 :: x26 :: x27 :: x28 :: x29 :: x30 :: x31 :: x32 :: x33 :: x34 :: x35 :: x36 :: x37 :: x38 :: x39 :: x40 :: x41 :: some d :: ρ) := by
  unfold SetE; simp
theorem setn_42 {x0 x1 x2 x3 x4 x5 x6 x7 x8 x9 x10 x11 x12 x13 x14 x15 x16 x17 x18 x19 x20 x21 x22 x23 x24 x25 x26 x27 x28 x29 x30 x31 x32 x33 x34 x35 x36 x37 x38 x39 x40 x41 : Option D} {y : Option D} : SetN (x0 :: x1 :: x2 :: x3 :: x4 :: x5 :: x6 :: x7 :: x8 :: x9 :: x10 :: x11 :: x12 :: x13 :: x14 :: x15 :: x16 :: x17 :: x18 :: x19 :: x20 :: x21 :: x22 :: x23 :: x24 :: x25 :: x26 :: x27 :: x28 :: x29 :: x30 :: x31 :: x32 :: x33 :: x34 :: x35 :: x36 :: x37 :: x38 :: x39 :: x40 :: x41 :: y :: ρ) 42 Q t = Q (x0 :: x1 :: x2 :: x3 :: x4 :: x5 :: x6 :: x7 :: x8 :: x9 :: x10 :: x11 :: x12 :: x13 :: x14 :: x15 :: x16 :: x17 :: x18 :: x19 :: x20 :: x21 :: x22 :: x23 :: x24 :: x25 :: x26 :: x27 :: x28 :: x29 :: x30 :: x31 :: x32 :: x33 :: x34 :: x35 :: x36 :: x37 :: x38 :: x39 :: x40 :: x41 :: none :: ρ) := rfl
theorem get_43 {x0 x1 x2 x3 x4 x5 x6 x7 x8 x9 x10 x11 x12 x13 x14 x15 x16 x17 x18 x19 x20 x21 x22 x23 x24 x25 x26 x27 x28 x29 x30 x31 x32 x33 x34 x35 x36 x37 x38 x39 x40 x41 x42 : Option D} {Q : D → Prop} {t : Tag2 Q Q} : GetE (x0 :: x1 :: x2 :: x3 :: x4 :: x5 :: x6 :: x7 :: x8 :: x9 :: x10 :: x11 :: x12 :: x13 :: x14 :: x15 :: x16 :: x17 :: x18 :: x19 :: x20 :: x21 :: x22 :: x23 :: x24 :: x25 :: x26 :: x27 :: x28 :: x29 :: x30 :: x31 :: x32 :: x33 :: x34 :: x35 :: x36 :: x37 :: x38 :: x39 :: x40 :: x41 :: x42 :: some d :: ρ) 43 Q t = Q d := rfl
theorem set_43 {x0 x1 x2 x3 x4 x5 x6 x7 x8 x9 x10 x11 x12 x13 x14 x15 x16 x17 x18 x19 x20 x21 x22 x23 x24 x25 x26 x27 x28 x29 x30 x31 x32 x33 x34 x35 x36 x37 x38 x39 x40 x41 x42 : Option D} {y : Option D} : SetE (x0 :: x1 :: x2 :: x3 :: x4 :: x5 :: x6 :: x7 :: x8 :: x9 :: x10 :: x11 :: x12 :: x13 :: x14 :: x15 :: x16 :: x17 :: x18 :: x19 :: x20 :: x21 :: x22 :: x23 :: x24 :: x25 :: x26 :: x27 :: x28 :: x29 :: x30 :: x31 :: x32 :: x33 :: x34 :: x35 :: x36 :: x37 :: x38 :: x39 :: x40 :: x41 :: x42 :: y :: ρ) 43 d Q t = Q (x0 :: x1 :: x2 :: x3 :: x4 :: x5 :: x6 :: x7 :: x8 :: x9 :: x10 :: x11 :: x12 :: x13 :: x14 :: x15 :: x16 :: x17 :: x18 :: x19 :: x20 :: x21 :: x22 :: x23 :: x24 :: x25 :: x26 :: x27 :: x28 :: x29 :: x30 :: x31 :: x32 :: x33 :: x34 :: x35 :: x36 :: x37 :: x38 :: x39 :: x40 :: x41 :: x42 :: some d :: ρ) := by
  unfold SetE; simp
theorem setn_43 {x0 x1 x2 x3 x4 x5 x6 x7 x8 x9 x10 x11 x12 x13 x14 x15 x16 x17 x18 x19 x20 x21 x22 x23 x24 x25 x26 x27 x28 x29 x30 x31 x32 x33 x34 x35 x36 x37 x38 x39 x40 x41 x42 : Option D} {y : Option D} : SetN (x0 :: x1 :: x2 :: x3 :: x4 :: x5 :: x6 :: x7 :: x8 :: x9 :: x10 :: x11 :: x12 :: x13 :: x14 :: x15 :: x16 :: x17 :: x18 :: x19 :: x20 :: x21 :: x22 :: x23 :: x24 :: x25 :: x26 :: x27 :: x28 :: x29 :: x30 :: x31 :: x32 :: x33 :: x34 :: x35 :: x36 :: x37 :: x38 :: x39 :: x40 :: x41 :: x42 :: y :: ρ) 43 Q t = Q (x0 :: x1 :: x2 :: x3 :: x4 :: x5 :: x6 :: x7 :: x8 :: x9 :: x10 :: x11 :: x12 :: x13 :: x14 :: x15 :: x16 :: x17 :: x18 :: x19 :: x20 :: x21 :: x22 :: x23 :: x24 :: x25 :: x26 :: x27 :: x28 :: x29 :: x30 :: x31 :: x32 :: x33 :: x34 :: x35 :: x36 :: x37 :: x38 :: x39 :: x40 :: x41 :: x42 :: none :: ρ) := rfl
theorem get_44 {x0 x1 x2 x3 x4 x5 x6 x7 x8 x9 x10 x11 x12 x13 x14 x15 x16 x17 x18 x19 x20 x21 x22 x23 x24 x25 x26 x27 x28 x29 x30 x31 x32 x33 x34 x35 x36 x37 x38 x39 x40 x41 x42 x43 : Option D} {Q : D → Prop} {t : Tag2 Q Q} : GetE (x0 :: x1 :: x2 :: x3 :: x4 :: x5 :: x6 :: x7 :: x8 :: x9 :: x10 :: x11 :: x12 :: x13 :: x14 :: x15 :: x16 :: x17 :: x18 :: x19 :: x20 :: x21 :: x22 :: x23 :: x24 :: x25 :: x26 :: x27 :: x28 :: x29 :: x30 :: x31 :: x32 :: x33 :: x34 :: x35 :: x36 :: x37 :: x38 :: x39 :: x40 :: x41 :: x42 :: x43 :: some d :: ρ) 44 Q t = Q d := rfl
theorem set_44 {x0 x1 x2 x3 x4 x5 x6 x7 x8 x9 x10 x11 x12 x13 x14 x15 x16 x17 x18 x19 x20 x21 x22 x23 x24 x25 x26 x27 x28 x29 x30 x31 x32 x33 x34 x35 x36 x37 x38 x39 x40 x41 x42 x43 : Option D} {y : Option D} : SetE (x0 :: x1 :: x2 :: x3 :: x4 :: x5 :: x6 :: x7 :: x8 :: x9 :: x10 :: x11 :: x12 :: x13 :: x14 :: x15 :: x16 :: x17 :: x18 :: x19 :: x20 :: x21 :: x22 :: x23 :: x24 :: x25 :: x26 :: x27 :: x28 :: x29 :: x30 :: x31 :: x32 :: x33 :: x34 :: x35 :: x36 :: x37 :: x38 :: x39 :: x40 :: x41 :: x42 :: x43 :: y :: ρ) 44 d Q t = Q (x0 :: x1 :: x2 :: x3 :: x4 :: x5 :: x6 :: x7 :: x8 :: x9 :: x10 :: x11 :: x12 :: x13 :: x14 :: x15 :: x16 :: x17 :: x18 :: x19 :: x20 :: x21 :: x22 :: x23 :: x24 :: x25 :: x26 :: x27 :: x28 :: x29 :: x30 :: x31 :: x32 :: x33 :: x34 :: x35 :: x36 :: x37 :: x38 :: x39 :: x40 :: x41 :: x42 :: x43 :: some d :: ρ) := by
  unfold SetE; simp
theorem setn_44 {x0 x1 x2 x3 x4 x5 x6 x7 x8 x9 x10 x11 x12 x13 x14 x15 x16 x17 x18 x19 x20 x21 x22 x23 x24 x25 x26 x27 x28 x29 x30 x31 x32 x33 x34 x35 x36 x37 x38 x39 x40 x41 x42 x43 : Option D} {y : Option D} : SetN (x0 :: x1 :: x2 :: x3 :: x4 :: x5 :: x6 :: x7 :: x8 :: x9 :: x10 :: x11 :: x12 :: x13 :: x14 :: x15 :: x16 :: x17 :: x18 :: x19 :: x20 :: x21 :: x22 :: x23 :: x24 :: x25 :: x26 :: x27 :: x28 :: x29 :: x30 :: x31 :: x32 :: x33 :: x34 :: x35 :: x36 :: x37 :: x38 :: x39 :: x40 :: x41 :: x42 :: x43 :: y :: ρ) 44 Q t = Q (x0 :: x1 :: x2 :: x3 :: x4 :: x5 :: x6 :: x7 :: x8 :: x9 :: x10 :: x11 :: x12 :: x13 :: x14 :: x15 :: x16 :: x17 :: x18 :: x19 :: x20 :: x21 :: x22 :: x23 :: x24 :: x25 :: x26 :: x27 :: x28 :: x29 :: x30 :: x31 :: x32 :: x33 :: x34 :: x35 :: x36 :: x37 :: x38 :: x39 :: x40 :: x41 :: x42 :: x43 :: none :: ρ) := rfl
theorem get_45 {x0 x1 x2 x3 x4 x5 x6 x7 x8 x9 x10 x11 x12 x13 x14 x15 x16 x17 x18 x19 x20 x21 x22 x23 x24 x25 x26 x27 x28 x29 x30 x31 x32 x33 x34 x35 x36 x37 x38 x39 x40 x41 x42 x43 x44 : Option D} {Q : D → Prop} {t : Tag2 Q Q} : GetE (x0 :: x1 :: x2 :: x3 :: x4 :: x5 :: x6 :: x7 :: x8 :: x9 :: x10 :: x11 :: x12 :: x13 :: x14 :: x15 :: x16 :: x17 :: x18 :: x19 :: x20 :: x21 :: x22 :: x23 :: x24 :: x25 :: x26 :: x27 :: x28 :: x29 :: x30 :: x31 :: x32 :: x33 :: x34 :: x35 :: x36 :: x37 :: x38 :: x39 :: x40 :: x41 :: x42 :: x43 :: x44 :: some d :: ρ) 45 Q t = Q d := rfl
theorem set_45 {x0 x1 x2 x3 x4 x5 x6 x7 x8 x9 x10 x11 x12 x13 x14 x15 x16 x17 x18 x19 x20 x21 x22 x23 x24 x25 x26 x27 x28 x29 x30 x31 x32 x33 x34 x35 x36 x37 x38 x39 x40 x41 x42 x43 x44 : Option D} {y : Option D} : SetE (x0 :: x1 :: x2 :: x3 :: x4 :: x5 :: x6 :: x7 :: x8 :: x9 :: x10 :: x11 :: x12 :: x13 :: x14 :: x15 :: x16 :: x17 :: x18 :: x19 :: x20 :: x21 :: x22 :: x23 :: x24 :: x25 :: x26 :: x27 :: x28 :: x29 :: x30 :: x31 :: x32 :: x33 :: x34 :: x35 :: x36 :: x37 :: x38 :: x39 :: x40 :: x41 :: x42 :: x43 :: x44 :: y :: ρ) 45 d Q t = Q (x0 :: x1 :: x2 :: x3 :: x4 :: x5 :: x6 :: x7 :: x8 :: x9 :: x10 :: x11 :: x12 :: x13 :: x14 :: x15 :: x16 :: x17 :: x18 :: x19 :: x20 :: x21 :: x22 :: x23 :: x24 :: x25 :: x26 :: x27 :: x28 :: x29 :: x30 :: x31 :: x32 :: x33 :: x34 :: x35 :: x36 :: x37 :: x38 :: x39 :: x40 :: x41 :: x42 :: x43 :: x44 :: some d :: ρ) := by
  unfold SetE; simp
theorem setn_45 {x0 x1 x2 x3 x4 x5 x6 x7 x8 x9 x10 x11 x12 x13 x14 x15 x16 x17 x18 x19 x20 x21 x22 x23 x24 x25 x26 x27 x28 x29 x30 x31 x32 x33 x34 x35 x36 x37 x38 x39 x40 x41 x42 x43 x44 : Option D} {y : Option D} : SetN (x0 :: x1 :: x2 :: x3 :: x4 :: x5 :: x6 :: x7 :: x8 :: x9 :: x10 :: x11 :: x12 :: x13 :: x14 :: x15 :: x16 :: x17 :: x18 :: x19 :: x20 :: x21 :: x22 :: x23 :: x24 :: x25 :: x26 :: x27 :: x28 :: x29 :: x30 :: x31 :: x32 :: x33 :: x34 :: x35 :: x36 :: x37 :: x38 :: x39 :: x40 :: x41 :: x42 :: x43 :: x44 :: y :: ρ) 45 Q t = Q (x0 :: x1 :: x2 :: x3 :: x4 :: x5 :: x6 :: x7 :: x8 :: x9 :: x10 :: x11 :: x12 :: x13 :: x14 :: x15 :: x16 :: x17 :: x18 :: x19 :: x20 :: x21 :: x22 :: x23 :: x24 :: x25 :: x26 :: x27 :: x28 :: x29 :: x30 :: x31 :: x32 :: x33 :: x34 :: x35 :: x36 :: x37 :: x38 :: x39 :: x40 :: x41 :: x42 :: x43 :: x44 :: none :: ρ) := rfl
theorem get_46 {x0 x1 x2 x3 x4 x5 x6 x7 x8 x9 x10 x11 x12 x13 x14 x15 x16 x17 x18 x19 x20 x21 x22 x23 x24 x25 x26 x27 x28 x29 x30 x31 x32 x33 x34 x35 x36 x37 x38 x39 x40 x41 x42 x43 x44 x45 : Option D} {Q : D → Prop} {t : Tag2 Q Q} : GetE (x0 :: x1 :: x2 :: x3 :: x4 :: x5 :: x6 :: x7 :: x8 :: x9 :: x10 :: x11 :: x12 :: x13 :: x14 :: x15 :: x16 :: x17 :: x18 :: x19 :: x20 :: x21 :: x22 :: x23 :: x24 :: x25 :: x26 :: x27 :: x28 :: x29 :: x30 :: x31 :: x32 :: x33 :: x34 :: x35 :: x36 :: x37 :: x38 :: x39 :: x40 :: x41 :: x42 :: x43 :: x44 :: x45 :: some d :: ρ) 46 Q t = Q d := rfl
theorem set_46 {x0 x1 x2 x3 x4 x5 x6 x7 x8 x9 x10 x11 x12 x13 x14 x15 x16 x17 x18 x19 x20 x21 x22 x23 x24 x25 x26 x27 x28 x29 x30 x31 x32 x33 x34 x35 x36 x37 x38 x39 x40 x41 x42 x43 x44 x45 : Option D} {y : Option D} : SetE (x0 :: x1 :: x2 :: x3 :: x4 :: x5 :: x6 :: x7 :: x8 :: x9 :: x10 :: x11 :: x12 :: x13 :: x14 :: x15 :: x16 :: x17 :: x18 :: x19 :: x20 :: x21 :: x22 :: x23 :: x24 :: x25 :: x26 :: x27 :: x28 :: x29 :: x30 :: x31 :: x32 :: x33 :: x34 :: x35 :: x36 :: x37 :: x38 :: x39 :: x40 :: x41 :: x42 :: x43 :: x44 :: x45 :: y :: ρ) 46 d Q t = Q (x0 :: x1 :: x2 :: x3 :: x4 :: x5 :: x6 :: x7 :: x8 :: x9 :: x10 :: x11 :: x12 :: x13 :: x14 :: x15 :: x16 :: x17 :: x18 :: x19 :: x20 :: x21 :: x22 :: x23 :: x24 :: x25 :: x26 :: x27 :: x28 :: x29 :: x30 :: x31 :: x32 :: x33 :: x34 :: x35 :: x36 :: x37 :: x38 :: x39 :: x40 :: x41 :: x42 :: x43 :: x44 :: x45 :: some d :: ρ) := by
  unfold SetE; simp
theorem setn_46 {x0 x1 x2 x3 x4 x5 x6 x7 x8 x9 x10 x11 x12 x13 x14 x15 x16 x17 x18 x19 x20 x21 x22 x23 x24 x25 x26 x27 x28 x29 x30 x31 x32 x33 x34 x35 x36 x37 x38 x39 x40 x41 x42 x43 x44 x45 : Option D} {y : Option D} : SetN (x0 :: x1 :: x2 :: x3 :: x4 :: x5 :: x6 :: x7 :: x8 :: x9 :: x10 :: x11 :: x12 :: x13 :: x14 :: x15 :: x16 :: x17 :: x18 :: x19 :: x20 :: x21 :: x22 :: x23 :: x24 :: x25 :: x26 :: x27 :: x28 :: x29 :: x30 :: x31 :: x32 :: x33 :: x34 :: x35 :: x36 :: x37 :: x38 :: x39 :: x40 :: x41 :: x42 :: x43 :: x44 :: x45 :: y :: ρ) 46 Q t = Q (x0 :: x1 :: x2 :: x3 :: x4 :: x5 :: x6 :: x7 :: x8 :: x9 :: x10 :: x11 :: x12 :: x13 :: x14 :: x15 :: x16 :: x17 :: x18 :: x19 :: x20 :: x21 :: x22 :: x23 :: x24 :: x25 :: x26 :: x27 :: x28 :: x29 :: x30 :: x31 :: x32 :: x33 :: x34 :: x35 :: x36 :: x37 :: x38 :: x39 :: x40 :: x41 :: x42 :: x43 :: x44 :: x45 :: none :: ρ) := rfl
theorem get_47 {x0 x1 x2 x3 x4 x5 x6 x7 x8 x9 x10 x11 x12 x13 x14 x15 x16 x17 x18 x19 x20 x21 x22 x23 x24 x25 x26 x27 x28 x29 x30 x31 x32 x33 x34 x35 x36 x37 x38 x39 x40 x41 x42 x43 x44 x45 x46 : Option D} {Q : D → Prop} {t : Tag2 Q Q} : GetE (x0 :: x1 :: x2 :: x3 :: x4 :: x5 :: x6 :: x7 :: x8 :: x9 :: x10 :: x11 :: x12 :: x13 :: x14 :: x15 :: x16 :: x17 :: x18 :: x19 :: x20 :: x21 :: x22 :: x23 :: x24 :: x25 :: x26 :: x27 :: x28 :: x29 :: x30 :: x31 :: x32 :: x33 :: x34 :: x35 :: x36 :: x37 :: x38 :: x39 :: x40 :: x41 :: x42 :: x43 :: x44 :: x45 :: x46 :: some d :: ρ) 47 Q t = Q d := rfl
theorem set_47 {x0 x1 x2 x3 x4 x5 x6 x7 x8 x9 x10 x11 x12 x13 x14 x15 x16 x17 x18 x19 x20 x21 x22 x23 x24 x25 x26 x27 x28 x29 x30 x31 x32 x33 x34 x35 x36 x37 x38 x39 x40 x41 x42 x43 x44 x45 x46 : Option D} {y : Option D} : SetE (x0 :: x1 :: x2 :: x3 :: x4 :: x5 :: x6 :: x7 :: x8 :: x9 :: x10 :: x11 :: x12 :: x13 :: x14 :: x15 :: x16 :: x17 :: x18 :: x19 :: x20 :: x21 :: x22 :: x23 :: x24 :: x25 :: x26 :: x27 :: x28 :: x29 :: x30 :: x31 :: x32 :: x33 :: x34 :: x35 :: x36 :: x37 :: x38 :: x39 :: x40 :: x41 :: x42 :: x43 :: x44 :: x45 :: x46 :: y :: ρ) 47 d Q t = Q (x0 :: x1 :: x2 :: x3 :: x4 :: x5 :: x6 :: x7 :: x8 :: x9 :: x10 :: x11 :: x12 :: x13 :: x14 :: x15 :: x16 :: x17 :: x18 :: x19 :: x20 :: x21 :: x22 :: x23 :: x24 :: x25 :: x26 :: x27 :: x28 :: x29 :: x30 :: x31 :: x32 :: x33 :: x34 :: x35 :: x36 :: x37 :: x38 :: x39 :: x40 :: x41 :: x42 :: x43 :: x44 :: x45 :: x46 :: some d :: ρ) := by
  unfold SetE; simp
theorem setn_47 {x0 x1 x2 x3 x4 x5 x6 x7 x8 x9 x10 x11 x12 x13 x14 x15 x16 x17 x18 x19 x20 x21 x22 x23 x24 x25 x26 x27 x28 x29 x30 x31 x32 x33 x34 x35 x36 x37 x38 x39 x40 x41 x42 x43 x44 x45 x46 : Option D} {y : Option D} : SetN (x0 :: x1 :: x2 :: x3 :: x4 :: x5 :: x6 :: x7 :: x8 :: x9 :: x10 :: x11 :: x12 :: x13 :: x14 :: x15 :: x16 :: x17 :: x18 :: x19 :: x20 :: x21 :: x22 :: x23 :: x24 :: x25 :: x26 :: x27 :: x28 :: x29 :: x30 :: x31 :: x32 :: x33 :: x34 :: x35 :: x36 :: x37 :: x38 :: x39 :: x40 :: x41 :: x42 :: x43 :: x44 :: x45 :: x46 :: y :: ρ) 47 Q t = Q (x0 :: x1 :: x2 :: x3 :: x4 :: x5 :: x6 :: x7 :: x8 :: x9 :: x10 :: x11 :: x12 :: x13 :: x14 :: x15 :: x16 :: x17 :: x18 :: x19 :: x20 :: x21 :: x22 :: x23 :: x24 :: x25 :: x26 :: x27 :: x28 :: x29 :: x30 :: x31 :: x32 :: x33 :: x34 :: x35 :: x36 :: x37 :: x38 :: x39 :: x40 :: x41 :: x42 :: x43 :: x44 :: x45 :: x46 :: none :: ρ) := rfl
theorem wp_nil  : Wp ρ [] Q t = Q ρ := rfl
theorem wp_cons {v : Nat} {vs : List Nat} : Wp ρ (v :: vs) Q t = Wp ρ vs (fun ρ' => SetN ρ' v Q t) .mk := rfl
theorem ver_self {Q : Rs → Prop} {t : Tag2 Q Q} : Ver r r Q t = Q r := by
  unfold Ver; rw [verOk_self, mixR_self]; simp
theorem tgt_nm {i : Nat} : Tgt (gNm i) d ρ Q t = SetE ρ i d Q t := by
  unfold Tgt gNm SetE; by_cases h : i < ρ.length <;> simp [h]
theorem tgt_tup1 {u : List D → En → Option En} {a0 : D} : Tgt (gTp 1 u) (.tup [a0]) ρ Q t = Tgts u [a0] ρ Q t := by
  unfold Tgt Tgts gTp; simp
theorem tgt_lst1 {u : List D → En → Option En} {a0 : D} : Tgt (gLs 1 u) (.lst [a0]) ρ Q t = Tgts u [a0] ρ Q t := by
  unfold Tgt Tgts gLs; simp
theorem tgt_tup2 {u : List D → En → Option En} {a0 a1 : D} : Tgt (gTp 2 u) (.tup [a0, a1]) ρ Q t = Tgts u [a0, a1] ρ Q t := by
  unfold Tgt Tgts gTp; simp
theorem tgt_lst2 {u : List D → En → Option En} {a0 a1 : D} : Tgt (gLs 2 u) (.lst [a0, a1]) ρ Q t = Tgts u [a0, a1] ρ Q t := by
  unfold Tgt Tgts gLs; simp
theorem tgt_tup3 {u : List D → En → Option En} {a0 a1 a2 : D} : Tgt (gTp 3 u) (.tup [a0, a1, a2]) ρ Q t = Tgts u [a0, a1, a2] ρ Q t := by
  unfold Tgt Tgts gTp; simp
theorem tgt_lst3 {u : List D → En → Option En} {a0 a1 a2 : D} : Tgt (gLs 3 u) (.lst [a0, a1, a2]) ρ Q t = Tgts u [a0, a1, a2] ρ Q t := by
  unfold Tgt Tgts gLs; simp
theorem tgt_tup4 {u : List D → En → Option En} {a0 a1 a2 a3 : D} : Tgt (gTp 4 u) (.tup [a0, a1, a2, a3]) ρ Q t = Tgts u [a0, a1, a2, a3] ρ Q t := by
  unfold Tgt Tgts gTp; simp
theorem tgt_lst4 {u : List D → En → Option En} {a0 a1 a2 a3 : D} : Tgt (gLs 4 u) (.lst [a0, a1, a2, a3]) ρ Q t = Tgts u [a0, a1, a2, a3] ρ Q t := by
  unfold Tgt Tgts gLs; simp
theorem tgt_tup5 {u : List D → En → Option En} {a0 a1 a2 a3 a4 : D} : Tgt (gTp 5 u) (.tup [a0, a1, a2, a3, a4]) ρ Q t = Tgts u [a0, a1, a2, a3, a4] ρ Q t := by
  unfold Tgt Tgts gTp; simp
theorem tgt_lst5 {u : List D → En → Option En} {a0 a1 a2 a3 a4 : D} : Tgt (gLs 5 u) (.lst [a0, a1, a2, a3, a4]) ρ Q t = Tgts u [a0, a1, a2, a3, a4] ρ Q t := by
  unfold Tgt Tgts gLs; simp
theorem tgt_tup6 {u : List D → En → Option En} {a0 a1 a2 a3 a4 a5 : D} : Tgt (gTp 6 u) (.tup [a0, a1, a2, a3, a4, a5]) ρ Q t = Tgts u [a0, a1, a2, a3, a4, a5] ρ Q t := by
  unfold Tgt Tgts gTp; simp
theorem tgt_lst6 {u : List D → En → Option En} {a0 a1 a2 a3 a4 a5 : D} : Tgt (gLs 6 u) (.lst [a0, a1, a2, a3, a4, a5]) ρ Q t = Tgts u [a0, a1, a2, a3, a4, a5] ρ Q t := by
  unfold Tgt Tgts gLs; simp
theorem tgts_nil  : Tgts gNil' [] ρ Q t = Q ρ := rfl
theorem tgts_cons {tg : Tg} {u : List D → En → Option En} : Tgts (gCons' tg u) (d :: ds) ρ Q t = Tgt tg d ρ (fun ρ1 => Tgts u ds ρ1 Q t) .mk := by
  unfold Tgts Tgt; show (match (tg d ρ).bind fun ρ1 => u ds ρ1 with | some ρ' => Q ρ' | none => False) = _; cases tg d ρ <;> rfl
theorem as_l {Q : List D → Prop} {t : Tag2 Q Q} : AsL (.lst ds) Q t = Q ds := rfl
theorem as_d {kds : List (Key × D)} {Q : List (Key × D) → Prop} {t : Tag2 Q Q} : AsD (.dic kds) Q t = Q kds := rfl
theorem as_b {b : Bool} {Q : Bool → Prop} {t : Tag2 Q Q} : AsB (.bl b) Q t = Q b := rfl
theorem as_i {b : Int} {Q : Int → Prop} {t : Tag2 Q Q} : AsI (.int b) Q t = Q b := rfl
theorem as_s {b : Str} {Q : Str → Prop} {t : Tag2 Q Q} : AsS (.str b) Q t = Q b := rfl
theorem as_1 {Q : D → Prop} {t : Tag2 Q Q} : As1 [d] Q t = Q d := rfl
theorem as_2 {e : D} {Q : D → D → Prop} {t : Tag2 Q Q} : As2 [d, e] Q t = Q d e := rfl
theorem imm_int {i : Int} {P : Prop} {t : Tag2 P P} : Imm (.int i) P t = P := by
  unfold Imm D.imm; simp
theorem imm_str {i : Str} {P : Prop} {t : Tag2 P P} : Imm (.str i) P t = P := by
  unfold Imm D.imm; simp
theorem imm_bl {i : Bool} {P : Prop} {t : Tag2 P P} : Imm (.bl i) P t = P := by
  unfold Imm D.imm; simp
theorem imm_non {P : Prop} {t : Tag2 P P} : Imm (.non) P t = P := by
  unfold Imm D.imm; simp
theorem imm_loc {i : Nat} {P : Prop} {t : Tag2 P P} : Imm (.loc i) P t = P := by
  unfold Imm D.imm; simp
theorem imm_tup {P : Prop} {t : Tag2 P P} : Imm (.tup ds) P t = Imms ds P t := by
  unfold Imm Imms; rw [D.imm]
theorem imms_nil {P : Prop} {t : Tag2 P P} : Imms [] P t = P := by
  unfold Imms D.imms; simp
theorem imms_cons {P : Prop} {t : Tag2 P P} : Imms (d :: ds) P t = Imm d (Imms ds P t) .mk := by
  unfold Imms Imm; rw [D.imms, Bool.and_eq_true, and_assoc]
end
section
variable {Q : D → Prop} {t : Tag2 Q Q} {i j : Int} {r : Rs} {ds es : List D} {x y : Str} {p q : Bool}
theorem so_add  : So (dAdd (.int i) (.int j)) Q t = Q (.int (i + j)) := rfl
theorem so_sub  : So (dSub (.int i) (.int j)) Q t = Q (.int (i - j)) := rfl
theorem so_lt  : So (dLt (.int i) (.int j)) Q t = Q (.bl (decide (i < j))) := rfl
theorem so_le  : So (dLe (.int i) (.int j)) Q t = Q (.bl (decide (i ≤ j))) := rfl
theorem so_gt  : So (dGt (.int i) (.int j)) Q t = Q (.bl (decide (j < i))) := rfl
theorem so_ge  : So (dGe (.int i) (.int j)) Q t = Q (.bl (decide (j ≤ i))) := rfl
theorem so_if {α : Type} {Q : α → Prop} {t : Tag2 Q Q} {c : Prop} [Decidable c] {a : α} : So (if c then some a else none) Q t = Ck c (Q a) .mk := by
  unfold Ck; by_cases h : c <;> simp [h, So]
theorem so_mul  : So (dMul (.int i) (.int j)) Q t = Ck ((small i || small j) = true) (Q (.int (i * j))) .mk := so_if
theorem so_mod  : So (dMod (.int i) (.int j)) Q t = Ck (0 < j) (Q (.int (i % j))) .mk := so_if
theorem so_div  : So (dDiv (.int i) (.int j)) Q t = Ck (0 < j ∧ j < 1073741824) (Q (.int (i / j))) .mk := so_if
theorem so_addT  : So (dAdd (.tup ds) (.tup es)) Q t = Ck (ds.length + es.length ≤ lim) (Q (.tup (ds ++ es))) .mk := so_if
theorem so_addL  : So (dAdd (.lst ds) (.lst es)) Q t = Ck (ds.length + es.length ≤ lim) (Q (.lst (ds ++ es))) .mk := so_if
theorem so_addS  : So (dAdd (.str x) (.str y)) Q t = Ck (x.length + y.length ≤ lim) (Q (.str (x ++ y))) .mk := so_if
theorem so_ixL  : So (dIx r (.lst ds) (.int i)) Q t = So (atI ds i) Q t := rfl
theorem so_ixT  : So (dIx r (.tup ds) (.int i)) Q t = So (atI ds i) Q t := rfl
theorem so_slL {a b : Option Int} : So (dSl (.lst ds) a b) Q t = Q (.lst (cutA ds a b)) := rfl
theorem so_slT {a b : Option Int} : So (dSl (.tup ds) a b) Q t = Q (.tup (cutA ds a b)) := rfl
theorem so_len1  : So (cLen r [.lst ds]) Q t = Q (.int ds.length) := rfl
theorem so_len2  : So (cLen r [.tup ds]) Q t = Q (.int ds.length) := rfl
theorem so_len3 {ns : List Int} : So (cLen r [.scr ns]) Q t = Q (.int ns.length) := rfl
theorem so_len4  : So (cLen r [.str x]) Q t = Ck (x.length ≤ lim) (Q (.int x.length)) .mk := so_if
theorem so_len5 {kds : List (Key × D)} : So (cLen r [.dic kds]) Q t = Q (.int kds.length) := rfl
theorem so_abs  : So (cAbs r [.int i]) Q t = Q (.int (if i < 0 then -i else i)) := rfl
theorem so_int  : So (cInt r [.int i]) Q t = Q (.int i) := rfl
theorem so_intb  : So (cInt r [.bl p]) Q t = Q (.int (if p then 1 else 0)) := rfl
theorem so_list1  : So (cList r [.lst ds]) Q t = Q (.lst ds) := rfl
theorem so_list2  : So (cList r [.tup ds]) Q t = Q (.lst ds) := rfl
theorem so_tuple1  : So (cTuple r [.lst ds]) Q t = Q (.tup ds) := rfl
theorem so_tuple2  : So (cTuple r [.tup ds]) Q t = Q (.tup ds) := rfl
theorem so_max2  : So (cMax2 r [.int i, .int j]) Q t = Q (.int (if j > i then j else i)) := rfl
theorem so_min2  : So (cMin2 r [.int i, .int j]) Q t = Q (.int (if j < i then j else i)) := rfl
theorem so_str  : So (cStr r [.int i]) Q t = Ck (big i = true) (Q (.str (toString i))) .mk := so_if
theorem so_isL  : So (cIsi r [.lst ds, .ty "list"]) Q t = Q (.bl true) := rfl
theorem so_isT  : So (cIsi r [.tup ds, .ty "tuple"]) Q t = Q (.bl true) := rfl
theorem so_isS  : So (cIsi r [.str x, .ty "str"]) Q t = Q (.bl true) := rfl
theorem so_isST  : So (cIsi r [.tup ds, .ty "str"]) Q t = Q (.bl false) := rfl
theorem so_isTS  : So (cIsi r [.str x, .ty "tuple"]) Q t = Q (.bl false) := rfl
theorem so_isI  : So (cIsi r [.int i, .ty "int"]) Q t = Q (.bl true) := rfl
theorem so_isIB  : So (cIsi r [.int i, .ty "bool"]) Q t = Q (.bl false) := rfl
theorem so_isN {d : D} : So (dIs d .non) Q t = Q (.bl d.isN) := by
  cases d <;> rfl
theorem so_isnN {d : D} : So (dIsNot d .non) Q t = Q (.bl (!d.isN)) := by
  cases d <;> rfl
theorem so_isb  : So (dIs (.bl p) (.bl q)) Q t = Q (.bl (decide (p = q))) := rfl
theorem so_isnb  : So (dIsNot (.bl p) (.bl q)) Q t = Q (.bl (!decide (p = q))) := rfl
end
section
variable {i : Int} {r : Rs} {ds : List D} {p : Bool} {Q : List D → Prop} {t : Tag2 Q Q} {Q' : Bool → Prop} {t' : Tag2 Q' Q'}
theorem so_listn1  : So (cListN [.lst ds]) Q t = Q ds := rfl
theorem so_listn2  : So (cListN [.tup ds]) Q t = Q ds := rfl
theorem so_it1  : So (items (.lst ds)) Q t = Q ds := rfl
theorem so_it2  : So (items (.tup ds)) Q t = Q ds := rfl
theorem tr_b  : So (truth r (.bl p)) Q' t' = Q' p := rfl
theorem tr_i  : So (truth r (.int i)) Q' t' = Q' (i != 0) := rfl
theorem tr_l  : So (truth r (.lst ds)) Q' t' = Q' (!ds.isEmpty) := rfl
theorem tr_t  : So (truth r (.tup ds)) Q' t' = Q' (!ds.isEmpty) := rfl
theorem tr_n  : So (truth r .non) Q' t' = Q' false := rfl
theorem keyof_s {x : Str} {K : Key → Prop} {u : Tag2 K K} : So (keyOf (.str x)) K u = K (.inr x) := rfl
theorem keyof_i {K : Key → Prop} {u : Tag2 K K} : So (keyOf (.int i)) K u = K (.inl i) := rfl
end
section
variable {Q : D → Prop} {t : Tag2 Q Q} {r : Rs} {c i : Nat} {fs : List D}
theorem fld_ins  : So (fldD r c i (.ins c fs)) Q t = So fs[i]? Q t := by
  unfold fldD insOf; simp
theorem ins_ins {K : Nat × List D → Prop} {u : Tag2 K K} : So (insOf r (.ins c fs)) K u = K (c, fs) := rfl
theorem soix_0 {y : D} {ds : List D} : So (y :: ds : List D)[0]? Q t = Q y := rfl
theorem soix_1 {x0 : D} {y : D} {ds : List D} : So (x0 :: y :: ds : List D)[1]? Q t = Q y := rfl
theorem soix_2 {x0 x1 : D} {y : D} {ds : List D} : So (x0 :: x1 :: y :: ds : List D)[2]? Q t = Q y := rfl
theorem soix_3 {x0 x1 x2 : D} {y : D} {ds : List D} : So (x0 :: x1 :: x2 :: y :: ds : List D)[3]? Q t = Q y := rfl
theorem soix_4 {x0 x1 x2 x3 : D} {y : D} {ds : List D} : So (x0 :: x1 :: x2 :: x3 :: y :: ds : List D)[4]? Q t = Q y := rfl
theorem soix_5 {x0 x1 x2 x3 x4 : D} {y : D} {ds : List D} : So (x0 :: x1 :: x2 :: x3 :: x4 :: y :: ds : List D)[5]? Q t = Q y := rfl
theorem soix_6 {x0 x1 x2 x3 x4 x5 : D} {y : D} {ds : List D} : So (x0 :: x1 :: x2 :: x3 :: x4 :: x5 :: y :: ds : List D)[6]? Q t = Q y := rfl
theorem soix_7 {x0 x1 x2 x3 x4 x5 x6 : D} {y : D} {ds : List D} : So (x0 :: x1 :: x2 :: x3 :: x4 :: x5 :: x6 :: y :: ds : List D)[7]? Q t = Q y := rfl
end
def AsLoc (d : D) (Q : Nat → Prop) (_ : Tag2 Q Q) : Prop := match d with
  | .loc n => Q n
  | _ => False
def GetRL (r : Rs) (n : Nat) (Q : List D → Prop) (_ : Tag2 Q Q) : Prop := match r[n]? with
  | some (.lst xs) => Q xs
  | _ => False
def GetRD (r : Rs) (n : Nat) (Q : List (Key × D) → Prop) (_ : Tag2 Q Q) : Prop := match r[n]? with
  | some (.dic xs) => Q xs
  | _ => False
def SetRo (r : Rs) (n : Nat) (o : RO) (Q : Rs → Prop) (_ : Tag2 Q Q) : Prop := Q (r.set n o)
theorem atI_n {α : Type} {xs : List α} (n : Nat) (h : n < xs.length) : atI xs (n : Int) = xs[n]? := atI_nat (List.getElem?_eq_getElem h) |>.trans (List.getElem?_eq_getElem h).symm
theorem atI_0 {α : Type} {x : α} {xs : List α} : atI (x :: xs) 0 = some x := atI_n (xs := x :: xs) 0 (by simp)
section
variable {E : Nat → List (Str × Int) → Rs → Prop} {N : En → Rs → Prop} {k : Ks} {t : Tag2 N k} {ρ : En} {r : Rs} {f g h : Ex} {fa : Ax} {O : List Nat} {n : Nat}
theorem as_loc {Q : Nat → Prop} {t : Tag2 Q Q} : AsLoc (.loc n) Q t = Q n := rfl
theorem ev_appR {Q : D → Rs → Prop} {t : Tag2 Q E} : Ev (xAppR f fa ρ r) Q E t = Ev (f ρ r) (fun a r1 => AsLoc a (fun n => GetRL r1 n (fun _ => Ev (fa ρ r1) (fun ds r2 => As1 ds (fun d => GetRL r2 n (fun xs => Ck ((d.imm && decide (xs.length < lim)) = true) (SetRo r2 n (.lst (xs ++ [d])) (fun r3 => Q .non r3) .mk) .mk) .mk) .mk) E .mk) .mk) .mk) E .mk := by
  unfold xAppR; rw [ev_bind]; refine ev_congr fun a r1 => ?_; cases a <;> try rfl
  rename_i n
  show Ev (match r1[n]? with | some (.lst _) => (fa ρ r1).bind _ | _ => .bad) Q E .mk = (match r1[n]? with | some (.lst xs) => _ | _ => False)
  cases r1[n]? with
  | none => rfl
  | some o =>
    cases o <;> try rfl
    refine ev_bind.trans (ev_congr (t' := .mk) fun ds r2 => ?_)
    match ds with
    | [] => rfl
    | [d] =>
      show Ev (match [d], r2[n]? with | [d], some (.lst xs) => if d.imm && decide (xs.length < lim) then .ok .non (r2.set n (.lst (xs ++ [d]))) else .bad | _, _ => .bad) Q E .mk = (match r2[n]? with | some (.lst xs) => _ | _ => False)
      cases r2[n]? with
      | none => rfl
      | some o =>
        cases o <;> try rfl
        exact ev_ck
    | _ :: _ :: _ => rfl
theorem sv_setR  : Sv (sSetR O f g h ρ r) N k t = Wp ρ O (fun ρ' => Ev (h ρ' r) (fun v r1 => Ev (f ρ' r1) (fun o r2 => Ev (g ρ' r2) (fun x r3 => Sv (kSetR v o x ρ r3) N k t) (fun c fs r1 => k.E c fs ρ r1) .mk) (fun c fs r1 => k.E c fs ρ r1) .mk) (fun c fs r1 => k.E c fs ρ r1) .mk) .mk := by
  unfold sSetR; rw [sv_evF]; unfold Wp; refine ev_congr (t' := .mk) fun v r1 => ?_; rw [sv_evF]; unfold Wp; refine ev_congr (t := .mk) (t' := .mk) fun o r2 => ?_; rw [sv_evF]; rfl
theorem sv_kSetR {v : D} {x : Int} : Sv (kSetR v (.loc n) (.int x) ρ r) N k t = GetRL r n (fun xs => So (ixN xs.length x) (fun j => Imm v (SetRo r n (.lst (xs.set j v)) (fun r2 => N ρ r2) .mk) .mk) .mk) .mk := by
  unfold kSetR GetRL
  show Sv (match r[n]? with | some (.lst xs) => (match ixN xs.length x with | some j => if v.imm = true then .next ρ (r.set n (.lst (xs.set j v))) else .bad | none => .bad) | _ => .bad) N k t = (match r[n]? with | some (.lst xs) => _ | _ => False)
  cases r[n]? with
  | none => rfl
  | some o =>
    cases o <;> try rfl
    rename_i xs
    show Sv (match ixN xs.length x with | some j => if v.imm = true then .next ρ (r.set n (.lst (xs.set j v))) else .bad | none => .bad) N k t = So (ixN xs.length x) (fun j => Imm v (SetRo r n (.lst (xs.set j v)) (fun r2 => N ρ r2) .mk) .mk) .mk
    cases ixN xs.length x with
    | none => rfl
    | some j => exact sv_ck
theorem sv_dsetR  : Sv (sDSetR O f g h ρ r) N k t = Wp ρ O (fun ρ' => Ev (h ρ' r) (fun v r1 => Ev (f ρ' r1) (fun o r2 => Ev (g ρ' r2) (fun x r3 => Sv (kDSetR v o x ρ r3) N k t) (fun c fs r1 => k.E c fs ρ r1) .mk) (fun c fs r1 => k.E c fs ρ r1) .mk) (fun c fs r1 => k.E c fs ρ r1) .mk) .mk := by
  unfold sDSetR; rw [sv_evF]; unfold Wp; refine ev_congr (t' := .mk) fun v r1 => ?_; rw [sv_evF]; unfold Wp; refine ev_congr (t := .mk) (t' := .mk) fun o r2 => ?_; rw [sv_evF]; rfl
theorem sv_kDSetR {v x : D} : Sv (kDSetR v (.loc n) x ρ r) N k t = So (keyOf x) (fun key => GetRD r n (fun xs => Ck ((v.imm && decide (xs.length < lim)) = true) (SetRo r n (.dic (setK xs key v)) (fun r2 => N ρ r2) .mk) .mk) .mk) .mk := by
  unfold kDSetR GetRD
  cases keyOf x with
  | none => rfl
  | some key =>
    show Sv (match r[n]? with | some (.dic kds) => if v.imm && decide (kds.length < lim) then .next ρ (r.set n (.dic (setK kds key v))) else .bad | _ => .bad) N k t = (match r[n]? with | some (.dic xs) => _ | _ => False)
    cases r[n]? with
    | none => rfl
    | some o =>
      cases o <;> try rfl
      exact sv_ck
theorem so_ixR {i : Int} {Q : D → Prop} {t : Tag2 Q Q} : So (dIx r (.loc n) (.int i)) Q t = GetRL r n (fun ds => So (atI ds i) Q .mk) .mk := by
  unfold GetRL
  show So (match r[n]? with | some (.lst ds) => atI ds i | _ => none) Q t = _
  cases r[n]? with
  | none => rfl
  | some o => cases o <;> rfl
theorem so_ixs {ns : List Int} {i : Int} {Q : D → Prop} {t : Tag2 Q Q} : So (dIx r (.scr ns) (.int i)) Q t = So (atI ns i) (fun x => Q (.int x)) .mk := by
  show So ((atI ns i).map D.int) Q t = _; cases atI ns i <;> rfl
theorem at_0 {α : Type} {x : α} {xs : List α} {Q : α → Prop} {t : Tag2 Q Q} : So (atI (x :: xs) 0) Q t = Q x := by
  rw [atI_0]; rfl
theorem at_1 {α : Type} {x y : α} {xs : List α} {Q : α → Prop} {t : Tag2 Q Q} : So (atI (x :: y :: xs) 1) Q t = Q y := by
  have e := atI_n (xs := x :: y :: xs) 1 (by simp); rw [show ((1 : Nat) : Int) = 1 from rfl] at e; rw [e]; rfl
theorem at_2 {α : Type} {x y z : α} {xs : List α} {Q : α → Prop} {t : Tag2 Q Q} : So (atI (x :: y :: z :: xs) 2) Q t = Q z := by
  have e := atI_n (xs := x :: y :: z :: xs) 2 (by simp); rw [show ((2 : Nat) : Int) = 2 from rfl] at e; rw [e]; rfl
theorem at_3 {α : Type} {x y z u : α} {xs : List α} {Q : α → Prop} {t : Tag2 Q Q} : So (atI (x :: y :: z :: u :: xs) 3) Q t = Q u := by
  have e := atI_n (xs := x :: y :: z :: u :: xs) 3 (by simp); rw [show ((3 : Nat) : Int) = 3 from rfl] at e; rw [e]; rfl
theorem grl_0 {xs : List D} {Q : List D → Prop} {t : Tag2 Q Q} : GetRL (.lst xs :: r) 0 Q t = Q xs := rfl
theorem grd_0 {xs : List (Key × D)} {Q : List (Key × D) → Prop} {t : Tag2 Q Q} : GetRD (.dic xs :: r) 0 Q t = Q xs := rfl
theorem lenl_0 {xs : List D} {Q : D → Prop} {t : Tag2 Q Q} : So (cLen (.lst xs :: r) [.loc 0]) Q t = Q (.int xs.length) := rfl
theorem lend_0 {xs : List (Key × D)} {Q : D → Prop} {t : Tag2 Q Q} : So (cLen (.dic xs :: r) [.loc 0]) Q t = Q (.int xs.length) := rfl
theorem sro_0 {x o : RO} {Q : Rs → Prop} {t : Tag2 Q Q} : SetRo (x :: r) 0 o Q t = Q (o :: r) := rfl
theorem grl_1 {a0 : RO} {xs : List D} {Q : List D → Prop} {t : Tag2 Q Q} : GetRL (a0 :: .lst xs :: r) 1 Q t = Q xs := rfl
theorem grd_1 {a0 : RO} {xs : List (Key × D)} {Q : List (Key × D) → Prop} {t : Tag2 Q Q} : GetRD (a0 :: .dic xs :: r) 1 Q t = Q xs := rfl
theorem lenl_1 {a0 : RO} {xs : List D} {Q : D → Prop} {t : Tag2 Q Q} : So (cLen (a0 :: .lst xs :: r) [.loc 1]) Q t = Q (.int xs.length) := rfl
theorem lend_1 {a0 : RO} {xs : List (Key × D)} {Q : D → Prop} {t : Tag2 Q Q} : So (cLen (a0 :: .dic xs :: r) [.loc 1]) Q t = Q (.int xs.length) := rfl
theorem sro_1 {a0 : RO} {x o : RO} {Q : Rs → Prop} {t : Tag2 Q Q} : SetRo (a0 :: x :: r) 1 o Q t = Q (a0 :: o :: r) := rfl
theorem grl_2 {a0 a1 : RO} {xs : List D} {Q : List D → Prop} {t : Tag2 Q Q} : GetRL (a0 :: a1 :: .lst xs :: r) 2 Q t = Q xs := rfl
theorem grd_2 {a0 a1 : RO} {xs : List (Key × D)} {Q : List (Key × D) → Prop} {t : Tag2 Q Q} : GetRD (a0 :: a1 :: .dic xs :: r) 2 Q t = Q xs := rfl
theorem lenl_2 {a0 a1 : RO} {xs : List D} {Q : D → Prop} {t : Tag2 Q Q} : So (cLen (a0 :: a1 :: .lst xs :: r) [.loc 2]) Q t = Q (.int xs.length) := rfl
theorem lend_2 {a0 a1 : RO} {xs : List (Key × D)} {Q : D → Prop} {t : Tag2 Q Q} : So (cLen (a0 :: a1 :: .dic xs :: r) [.loc 2]) Q t = Q (.int xs.length) := rfl
theorem sro_2 {a0 a1 : RO} {x o : RO} {Q : Rs → Prop} {t : Tag2 Q Q} : SetRo (a0 :: a1 :: x :: r) 2 o Q t = Q (a0 :: a1 :: o :: r) := rfl
theorem grl_3 {a0 a1 a2 : RO} {xs : List D} {Q : List D → Prop} {t : Tag2 Q Q} : GetRL (a0 :: a1 :: a2 :: .lst xs :: r) 3 Q t = Q xs := rfl
theorem grd_3 {a0 a1 a2 : RO} {xs : List (Key × D)} {Q : List (Key × D) → Prop} {t : Tag2 Q Q} : GetRD (a0 :: a1 :: a2 :: .dic xs :: r) 3 Q t = Q xs := rfl
theorem lenl_3 {a0 a1 a2 : RO} {xs : List D} {Q : D → Prop} {t : Tag2 Q Q} : So (cLen (a0 :: a1 :: a2 :: .lst xs :: r) [.loc 3]) Q t = Q (.int xs.length) := rfl
theorem lend_3 {a0 a1 a2 : RO} {xs : List (Key × D)} {Q : D → Prop} {t : Tag2 Q Q} : So (cLen (a0 :: a1 :: a2 :: .dic xs :: r) [.loc 3]) Q t = Q (.int xs.length) := rfl
theorem sro_3 {a0 a1 a2 : RO} {x o : RO} {Q : Rs → Prop} {t : Tag2 Q Q} : SetRo (a0 :: a1 :: a2 :: x :: r) 3 o Q t = Q (a0 :: a1 :: a2 :: o :: r) := rfl
end
end ML

/-! ML2: loops, comprehensions, draws. -/
local macro_rules | `(tactic| trivial) => `(tactic| (try simp -dsimp only [↓ML.ev_ok, ↓ML.ev_exc, ↓ML.ev_bind, ↓ML.ev_var, ↓ML.ev_c, ↓ML.ev_op, ↓ML.ev_ix, ↓ML.ev_nop, ↓ML.ev_part, ↓ML.ev_sl, ↓ML.ev_tr, ↓ML.ev_b, ↓ML.ev_ch, ↓ML.ev_v, ↓ML.ev_and, ↓ML.ev_or, ↓ML.ev_not, ↓ML.ev_if, ↓ML.ev_tif, ↓ML.ev_andv, ↓ML.ev_orv, ↓ML.ev_notv, ↓ML.ev_neg, ↓ML.ev_nil, ↓ML.ev_cons, ↓ML.ev_tup, ↓ML.ev_lst, ↓ML.ev_lst', ↓ML.ev_cb, ↓ML.ev_call, ↓ML.ev_calld, ↓ML.ev_l, ↓ML.ev_d, ↓ML.ev_listn, ↓ML.ev_items, ↓ML.ev_rng1, ↓ML.ev_rng2, ↓ML.ev_lc, ↓ML.ev_lc2, ↓ML.ev_dget, ↓ML.ev_dget1, ↓ML.ev_dget2, ↓ML.ev_din, ↓ML.ev_kd, ↓ML.ev_dnew, ↓ML.ev_yes, ↓ML.ev_dcopy, ↓ML.ev_ps0, ↓ML.ev_ps1, ↓ML.ev_disp, ↓ML.ev_res, ↓ML.ev_resd, ↓ML.ev_fld, ↓ML.ev_con, ↓ML.ev_meth, ↓ML.ev_prop, ↓ML.ev_newf, ↓ML.ev_newr, ↓ML.ev_calln, ↓ML.ev_callnd, ↓ML.ev_sort, ↓ML.ev_join, ↓ML.ev_dc, ↓ML.sv_next, ↓ML.sv_brk, ↓ML.sv_cont, ↓ML.sv_ret, ↓ML.sv_exc, ↓ML.sv_seq, ↓ML.sv_nx, ↓ML.sv_bk, ↓ML.sv_ct, ↓ML.sv_evF, ↓ML.sv_evI, ↓ML.sv_store, ↓ML.sv_asg, ↓ML.sv_asgI, ↓ML.sv_own, ↓ML.sv_ownD, ↓ML.sv_asgN, ↓ML.sv_asgD, ↓ML.sv_asgNI, ↓ML.sv_exp, ↓ML.sv_sret, ↓ML.sv_sretI, ↓ML.sv_sretN, ↓ML.sv_sretD, ↓ML.sv_sretNI, ↓ML.sv_sretO, ↓ML.sv_sretOD, ↓ML.sv_retn, ↓ML.sv_move, ↓ML.sv_give, ↓ML.sv_isL, ↓ML.sv_isD, ↓ML.sv_kApp, ↓ML.sv_app, ↓ML.sv_appI, ↓ML.sv_kIns, ↓ML.sv_ins, ↓ML.sv_insI, ↓ML.sv_extN, ↓ML.sv_extI, ↓ML.sv_ext, ↓ML.sv_if, ↓ML.sv_ifF, ↓ML.sv_for, ↓ML.sv_forR1I, ↓ML.sv_aug, ↓ML.sv_par, ↓ML.sv_raise, ↓ML.sv_setOI, ↓ML.sv_tryAs, ↓ML.sv_tryAsE, ↓ML.sv_suIf, ↓ML.sv_frz, ↓ML.sv_pop, ↓ML.sv_kSetO, ↓ML.sv_setO, ↓ML.sv_kDPut, ↓ML.sv_dput, ↓ML.bif_t, ↓ML.bif_f, ↓ML.bif_nt, ↓ML.bif_nf, ↓ML.bif_sn, ↓ML.bif_ss, ↓ML.so_some, ↓ML.sop_some, ↓ML.ck_true, ↓ML.ck_tt, ↓ML.ck_eq, ↓ML.ck_len0, ↓ML.ck_len1, ↓ML.ck_len2, ↓ML.ck_len3, ↓ML.ck_len4, ↓ML.ck_len5, ↓ML.ck_len6, ↓ML.ck_len7, ↓ML.ck_len8, ↓ML.ck_len9, ↓ML.ck_len10, ↓ML.ck_len11, ↓ML.ck_len12, ↓ML.ck_len13, ↓ML.ck_len14, ↓ML.ck_len15, ↓ML.ck_len16, ↓ML.ck_lt0, ↓ML.ck_15_0, ↓ML.ck_lt1, ↓ML.ck_15_1, ↓ML.ck_lt2, ↓ML.ck_15_2, ↓ML.ck_lt3, ↓ML.ck_15_3, ↓ML.ck_lt4, ↓ML.ck_15_4, ↓ML.ck_lt5, ↓ML.ck_15_5, ↓ML.ck_lt6, ↓ML.ck_15_6, ↓ML.ck_lt7, ↓ML.ck_15_7, ↓ML.ck_lt8, ↓ML.ck_15_8, ↓ML.ck_lt9, ↓ML.ck_15_9, ↓ML.ck_lt10, ↓ML.ck_15_10, ↓ML.ck_lt11, ↓ML.ck_15_11, ↓ML.get_0, ↓ML.set_0, ↓ML.setn_0, ↓ML.get_1, ↓ML.set_1, ↓ML.setn_1, ↓ML.get_2, ↓ML.set_2, ↓ML.setn_2, ↓ML.get_3, ↓ML.set_3, ↓ML.setn_3, ↓ML.get_4, ↓ML.set_4, ↓ML.setn_4, ↓ML.get_5, ↓ML.set_5, ↓ML.setn_5, ↓ML.get_6, ↓ML.set_6, ↓ML.setn_6, ↓ML.get_7, ↓ML.set_7, ↓ML.setn_7, ↓ML.get_8, ↓ML.set_8, ↓ML.setn_8, ↓ML.get_9, ↓ML.set_9, ↓ML.setn_9, ↓ML.get_10, ↓ML.set_10, ↓ML.setn_10, ↓ML.get_11, ↓ML.set_11, ↓ML.setn_11, ↓ML.get_12, ↓ML.set_12, ↓ML.setn_12, ↓ML.get_13, ↓ML.set_13, ↓ML.setn_13, ↓ML.get_14, ↓ML.set_14, ↓ML.setn_14, ↓ML.get_15, ↓ML.set_15, ↓ML.setn_15, ↓ML.get_16, ↓ML.set_16, ↓ML.setn_16, ↓ML.get_17, ↓ML.set_17, ↓ML.setn_17, ↓ML.get_18, ↓ML.set_18, ↓ML.setn_18, ↓ML.get_19, ↓ML.set_19, ↓ML.setn_19, ↓ML.get_20, ↓ML.set_20, ↓ML.setn_20, ↓ML.get_21, ↓ML.set_21, ↓ML.setn_21, ↓ML.get_22, ↓ML.set_22, ↓ML.setn_22, ↓ML.get_23, ↓ML.set_23, ↓ML.setn_23, ↓ML.get_24, ↓ML.set_24, ↓ML.setn_24, ↓ML.get_25, ↓ML.set_25, ↓ML.setn_25, ↓ML.get_26, ↓ML.set_26, ↓ML.setn_26, ↓ML.get_27, ↓ML.set_27, ↓ML.setn_27, ↓ML.get_28, ↓ML.set_28, ↓ML.setn_28, ↓ML.get_29, ↓ML.set_29, ↓ML.setn_29, ↓ML.get_30, ↓ML.set_30, ↓ML.setn_30, ↓ML.get_31, ↓ML.set_31, ↓ML.setn_31, ↓ML.get_32, ↓ML.set_32, ↓ML.setn_32, ↓ML.get_33, ↓ML.set_33, ↓ML.setn_33, ↓ML.get_34, ↓ML.set_34, ↓ML.setn_34, ↓ML.get_35, ↓ML.set_35, ↓ML.setn_35, ↓ML.get_36, ↓ML.set_36, ↓ML.setn_36, ↓ML.get_37, ↓ML.set_37, ↓ML.setn_37, ↓ML.get_38, ↓ML.set_38, ↓ML.setn_38, ↓ML.get_39, ↓ML.set_39, ↓ML.setn_39, ↓ML.get_40, ↓ML.set_40, ↓ML.setn_40, ↓ML.get_41, ↓ML.set_41, ↓ML.setn_41, ↓ML.get_42, ↓ML.set_42, ↓ML.setn_42, ↓ML.get_43, ↓ML.set_43, ↓ML.setn_43, ↓ML.get_44, ↓ML.set_44, ↓ML.setn_44, ↓ML.get_45, ↓ML.set_45, ↓ML.setn_45, ↓ML.get_46, ↓ML.set_46, ↓ML.setn_46, ↓ML.get_47, ↓ML.set_47, ↓ML.setn_47, ↓ML.wp_nil, ↓ML.wp_cons, ↓ML.ver_self, ↓ML.tgt_nm, ↓ML.tgt_tup1, ↓ML.tgt_lst1, ↓ML.tgt_tup2, ↓ML.tgt_lst2, ↓ML.tgt_tup3, ↓ML.tgt_lst3, ↓ML.tgt_tup4, ↓ML.tgt_lst4, ↓ML.tgt_tup5, ↓ML.tgt_lst5, ↓ML.tgt_tup6, ↓ML.tgt_lst6, ↓ML.tgts_nil, ↓ML.tgts_cons, ↓ML.as_l, ↓ML.as_d, ↓ML.as_b, ↓ML.as_i, ↓ML.as_s, ↓ML.as_1, ↓ML.as_2, ↓ML.imm_int, ↓ML.imm_str, ↓ML.imm_bl, ↓ML.imm_non, ↓ML.imm_loc, ↓ML.imm_tup, ↓ML.imms_nil, ↓ML.imms_cons, ↓ML.so_add, ↓ML.so_sub, ↓ML.so_lt, ↓ML.so_le, ↓ML.so_gt, ↓ML.so_ge, ↓ML.so_if, ↓ML.so_mul, ↓ML.so_mod, ↓ML.so_div, ↓ML.so_addT, ↓ML.so_addL, ↓ML.so_addS, ↓ML.so_ixL, ↓ML.so_ixT, ↓ML.so_slL, ↓ML.so_slT, ↓ML.so_len1, ↓ML.so_len2, ↓ML.so_len3, ↓ML.so_len4, ↓ML.so_len5, ↓ML.so_abs, ↓ML.so_int, ↓ML.so_intb, ↓ML.so_list1, ↓ML.so_list2, ↓ML.so_tuple1, ↓ML.so_tuple2, ↓ML.so_max2, ↓ML.so_min2, ↓ML.so_str, ↓ML.so_isL, ↓ML.so_isT, ↓ML.so_isS, ↓ML.so_isST, ↓ML.so_isTS, ↓ML.so_isI, ↓ML.so_isIB, ↓ML.so_isN, ↓ML.so_isnN, ↓ML.so_isb, ↓ML.so_isnb, ↓ML.so_listn1, ↓ML.so_listn2, ↓ML.so_it1, ↓ML.so_it2, ↓ML.tr_b, ↓ML.tr_i, ↓ML.tr_l, ↓ML.tr_t, ↓ML.tr_n, ↓ML.keyof_s, ↓ML.keyof_i, ↓ML.fld_ins, ↓ML.ins_ins, ↓ML.soix_0, ↓ML.soix_1, ↓ML.soix_2, ↓ML.soix_3, ↓ML.soix_4, ↓ML.soix_5, ↓ML.soix_6, ↓ML.soix_7, ↓ML.as_loc, ↓ML.ev_appR, ↓ML.sv_setR, ↓ML.sv_kSetR, ↓ML.sv_dsetR, ↓ML.sv_kDSetR, ↓ML.so_ixR, ↓ML.so_ixs, ↓ML.at_0, ↓ML.at_1, ↓ML.at_2, ↓ML.at_3, ↓ML.grl_0, ↓ML.grd_0, ↓ML.lenl_0, ↓ML.lend_0, ↓ML.sro_0, ↓ML.grl_1, ↓ML.grd_1, ↓ML.lenl_1, ↓ML.lend_1, ↓ML.sro_1, ↓ML.grl_2, ↓ML.grd_2, ↓ML.lenl_2, ↓ML.lend_2, ↓ML.sro_2, ↓ML.grl_3, ↓ML.grd_3, ↓ML.lenl_3, ↓ML.lend_3, ↓ML.sro_3]))
namespace ML
open PySem L2 DL
theorem ck_i {c P : Prop} {t : Tag2 P P} (h : c) (q : P) : Ck c P t := ⟨h, q⟩
theorem bif_i {b : Bool} {P Q : Prop} {t : Tag2 P Q} (h1 : b = true → P) (h2 : b = false → Q) : Bif b P Q t := by
  cases b
  · simp [Bif]; exact h2 rfl
  · simp [Bif]; exact h1 rfl
theorem bif_d {c : Prop} [Decidable c] {P Q : Prop} {t : Tag2 P Q} (h1 : c → P) (h2 : ¬ c → Q) : Bif (decide c) P Q t := bif_i (fun h => h1 (of_decide_eq_true h)) fun h => h2 (of_decide_eq_false h)
theorem imm_i {d : D} {P : Prop} {t : Tag2 P P} (h : d.imm = true) (q : P) : Imm d P t := ⟨h, q⟩
theorem imms_i {d : List D} {P : Prop} {t : Tag2 P P} (h : D.imms d = true) (q : P) : Imms d P t := ⟨h, q⟩
theorem so_i {α : Type} {x : Option α} {a : α} {Q : α → Prop} {t : Tag2 Q Q} (h : x = some a) (q : Q a) : So x Q t := by rw [h]; exact q
theorem sop_i {α β : Type} {x : Option (α × β)} {a : α} {b : β} {Q : α → β → Prop} {t : Tag2 Q Q} (h : x = some (a, b)) (q : Q a b) : SoP x Q t := by rw [h]; exact q
theorem ev_i {α : Type} {o : Out α} {a : α} {r : Rs} {Q : α → Rs → Prop} {E : Nat → List (Str × Int) → Rs → Prop} {t : Tag2 Q E} (h : o = .ok a r) (q : Q a r) : Ev o Q E t := by rw [h]; exact q
theorem sv_i {o : SOut} {ρ : En} {r : Rs} {N : En → Rs → Prop} {k : Ks} {t : Tag2 N k} (h : o = .next ρ r) (q : N ρ r) : Sv o N k t := by rw [h]; exact q
/-- what a run gives, as an equation -/
theorem ev_eq {α : Type} {o : Out α} {a : α} {r : Rs} (h : Ev o (fun b r' => b = a ∧ r' = r) (fun _ _ _ => False) .mk) : o = .ok a r := by
  cases o with
  | ok b r' => obtain ⟨rfl, rfl⟩ := h; rfl
  | exc c fs r' => exact h.elim
  | bad => exact h.elim
theorem ev_ex {α : Type} {o : Out α} {P : α → Rs → Prop} (h : Ev o P (fun _ _ _ => False) .mk) : ∃ a r, o = .ok a r ∧ P a r := by
  cases o with
  | ok b r' => exact ⟨b, r', rfl, h⟩
  | exc c fs r' => exact h.elim
  | bad => exact h.elim
theorem ev_mono {α : Type} {o : Out α} {P Q : α → Rs → Prop} {E : Nat → List (Str × Int) → Rs → Prop} {t : Tag2 Q E} (h : Ev o P (fun _ _ _ => False) .mk) (i : ∀ a r, P a r → Q a r) : Ev o Q E t := by
  cases o with
  | ok b r' => exact i _ _ h
  | exc c fs r' => exact h.elim
  | bad => exact h.elim
theorem sv_mono {o : SOut} {N N' : En → Rs → Prop} {k k' : Ks} {t : Tag2 N k} {t' : Tag2 N' k'} (h : Sv o N k t) (h1 : ∀ ρ r, N ρ r → N' ρ r) (h2 : ∀ ρ r, k.C ρ r → k'.C ρ r) (h3 : ∀ ρ r, k.B ρ r → k'.B ρ r) (h4 : ∀ d r, k.T d r → k'.T d r) (h5 : ∀ c fs ρ r, k.E c fs ρ r → k'.E c fs ρ r) : Sv o N' k' t' := by
  cases o with
  | next ρ r => exact h1 _ _ h
  | brk ρ r => exact h3 _ _ h
  | cont ρ r => exact h2 _ _ h
  | ret d r => exact h4 _ _ h
  | exc c fs ρ r => exact h5 _ _ _ _ h
  | bad => exact h
theorem tgt_mono {tg : Tg} {d : D} {ρ : En} {Q Q' : En → Prop} {t : Tag2 Q Q} {t' : Tag2 Q' Q'} (h : Tgt tg d ρ Q t) (i : ∀ ρ', Q ρ' → Q' ρ') : Tgt tg d ρ Q' t' := by
  unfold Tgt at *
  revert h
  cases tg d ρ with
  | none => exact id
  | some ρ' => exact fun h => i _ h
/-- a loop: I, what holds before the rest of the things -/
theorem sv_forI {tg : Tg} {b : Sx} {N : En → Rs → Prop} {k : Ks} {t : Tag2 N k} (I : List D → En → Rs → Prop) : ∀ {ds : List D} {ρ : En} {r : Rs}, I ds ρ r →
    (∀ d ds ρ r, I (d :: ds) ρ r → Tgt tg d ρ (fun ρ1 => Sv (b ρ1 r) (fun ρ2 r2 => I ds ρ2 r2) ⟨fun ρ2 r2 => I ds ρ2 r2, fun ρ2 r2 => N ρ2 r2, k.T, k.E⟩ .mk) .mk) → (∀ ρ r, I [] ρ r → N ρ r) → Sv (forGo tg b ds ρ r) N k t
  | [], ρ, r, h, _, h2 => h2 _ _ h
  | d :: ds, ρ, r, h, h1, h2 => by
    have q := h1 d ds ρ r h
    unfold Tgt at q
    rw [forGo]
    cases e : tg d ρ with
    | none => rw [e] at q; exact q.elim
    | some ρ1 =>
      rw [e] at q
      dsimp only at q
      show Sv (match b ρ1 r with | .next ρ2 r2 => forGo tg b ds ρ2 r2 | .cont ρ2 r2 => forGo tg b ds ρ2 r2 | .brk ρ2 r2 => .next ρ2 r2 | o => o) N k t
      revert q
      generalize b ρ1 r = o
      intro q
      cases o with
      | next ρ2 r2 => exact sv_forI I q h1 h2
      | cont ρ2 r2 => exact sv_forI I q h1 h2
      | brk ρ2 r2 => exact q
      | ret d r2 => exact q
      | exc c fs ρ2 r2 => exact q
      | bad => exact q.elim
/-- .. over things that are data of xs; I: what holds when xs1 is done -/
theorem sv_forX {X : Type} {enc : X → D} {tg : Tg} {b : Sx} {N : En → Rs → Prop} {k : Ks} {t : Tag2 N k} (xs : List X) (I : List X → En → Rs → Prop) {ρ : En} {r : Rs} (h0 : I [] ρ r)
    (h1 : ∀ xs1 x xs2, xs = xs1 ++ x :: xs2 → ∀ ρ r, I xs1 ρ r → Tgt tg (enc x) ρ (fun ρ1 => Sv (b ρ1 r) (fun ρ2 r2 => I (xs1 ++ [x]) ρ2 r2) ⟨fun ρ2 r2 => I (xs1 ++ [x]) ρ2 r2, fun ρ2 r2 => N ρ2 r2, k.T, k.E⟩ .mk) .mk)
    (h2 : ∀ ρ r, I xs ρ r → N ρ r) : Sv (forGo tg b (xs.map enc) ρ r) N k t := by
  refine sv_forI (fun ds ρ r => ∃ xs1 xs2, xs = xs1 ++ xs2 ∧ ds = xs2.map enc ∧ I xs1 ρ r) ⟨[], xs, rfl, rfl, h0⟩ ?_ ?_
  · rintro d ds ρ r ⟨xs1, xs2, e1, e2, h⟩
    cases xs2 with
    | nil => cases e2
    | cons x xs2 =>
      rw [List.map_cons] at e2
      cases e2
      have q := h1 xs1 x xs2 e1 ρ r h
      have e3 : xs = (xs1 ++ [x]) ++ xs2 := by rw [e1]; simp
      exact tgt_mono q fun ρ1 q => sv_mono q (fun ρ2 r2 z => ⟨_, xs2, e3, rfl, z⟩) (fun ρ2 r2 z => ⟨_, xs2, e3, rfl, z⟩) (fun _ _ z => z) (fun _ _ z => z) fun _ _ _ _ z => z
  · rintro ρ r ⟨xs1, xs2, e1, e2, h⟩
    have : xs2 = [] := by
      cases xs2 with
      | nil => rfl
      | cons _ _ => cases e2
    subst this
    rw [List.append_nil] at e1
    subst e1
    exact h2 _ _ h
/-- .. n times -/
theorem sv_forN {tg : Tg} {b : Sx} {N : En → Rs → Prop} {k : Ks} {t : Tag2 N k} (lo : Int) (n : Nat) (I : Nat → En → Rs → Prop) {ρ : En} {r : Rs} (h0 : I 0 ρ r)
    (h1 : ∀ i, i < n → ∀ ρ r, I i ρ r → Tgt tg (.int (lo + (i : Nat))) ρ (fun ρ1 => Sv (b ρ1 r) (fun ρ2 r2 => I (i + 1) ρ2 r2) ⟨fun ρ2 r2 => I (i + 1) ρ2 r2, fun ρ2 r2 => N ρ2 r2, k.T, k.E⟩ .mk) .mk)
    (h2 : ∀ ρ r, I n ρ r → N ρ r) : Sv (forGo tg b (rng lo n) ρ r) N k t := by
  have e : rng lo n = (List.range n).map fun i => D.int (lo + (i : Nat)) := rfl
  rw [e]
  refine sv_forX (enc := fun i : Nat => D.int (lo + (i : Nat))) (List.range n) (fun xs1 ρ r => I xs1.length ρ r) h0 ?_ ?_
  · intro xs1 x xs2 e ρ r h
    have hl : xs1.length < n := by
      have := congrArg List.length e
      simp at this
      omega
    have hx : x = xs1.length := by
      have h3 : (List.range n)[xs1.length]? = some x := by rw [e]; simp
      rw [List.getElem?_range hl] at h3
      exact (Option.some.inj h3).symm
    subst hx
    have el : (xs1 ++ [xs1.length]).length = xs1.length + 1 := by simp
    exact tgt_mono (h1 _ hl ρ r h) fun ρ1 q => sv_mono q (fun _ _ z => by rw [el]; exact z) (fun _ _ z => by rw [el]; exact z) (fun _ _ z => z) (fun _ _ z => z) fun _ _ _ _ z => z
  · intro ρ r h
    rw [List.length_range] at h
    exact h2 _ _ h
theorem sv_for0 {tg : Tg} {b : Sx} {N : En → Rs → Prop} {k : Ks} {t : Tag2 N k} {ρ : En} {r : Rs} : Sv (forGo tg b [] ρ r) N k t = N ρ r := rfl
theorem sv_for1 {tg : Tg} {b : Sx} {d : D} {ds : List D} {N : En → Rs → Prop} {k : Ks} {t : Tag2 N k} {ρ : En} {r : Rs} : Sv (forGo tg b (d :: ds) ρ r) N k t = Tgt tg d ρ (fun ρ1 => Sv (b ρ1 r) (fun ρ2 r2 => Sv (forGo tg b ds ρ2 r2) N k t) ⟨fun ρ2 r2 => Sv (forGo tg b ds ρ2 r2) N k t, fun ρ2 r2 => N ρ2 r2, k.T, k.E⟩ .mk) .mk := by
  unfold Tgt
  rw [forGo]
  cases tg d ρ with
  | none => rfl
  | some ρ1 =>
    show Sv (match b ρ1 r with | .next ρ2 r2 => forGo tg b ds ρ2 r2 | .cont ρ2 r2 => forGo tg b ds ρ2 r2 | .brk ρ2 r2 => .next ρ2 r2 | o => o) N k t = Sv (b ρ1 r) _ _ _
    cases b ρ1 r <;> rfl
/-- a statement, then the rest -/
theorem seq_cut {a b : Sx} {ρ : En} {r : Rs} {N : En → Rs → Prop} {k : Ks} {t : Tag2 N k} (P : En → Rs → Prop) (h1 : Sv (a ρ r) P k .mk) (h2 : ∀ ρ r, P ρ r → Sv (b ρ r) N k .mk) : Sv (sSeq a b ρ r) N k t := by
  rw [sv_seq]
  exact sv_mono h1 h2 (fun _ _ z => z) (fun _ _ z => z) (fun _ _ z => z) fun _ _ _ _ z => z
/-- both branches come to P -/
theorem bif_cut {b : Bool} {o1 o2 : SOut} {N : En → Rs → Prop} {k : Ks} {t1 t2 : Tag2 N k} {t : Tag2 (Sv o1 N k t1) (Sv o2 N k t2)} (P : En → Rs → Prop) (hP : ∀ ρ r, P ρ r → N ρ r) (h1 : b = true → Sv o1 P k .mk) (h2 : b = false → Sv o2 P k .mk) : Bif b (Sv o1 N k t1) (Sv o2 N k t2) t :=
  bif_i (fun h => sv_mono (h1 h) hP (fun _ _ z => z) (fun _ _ z => z) (fun _ _ z => z) fun _ _ _ _ z => z) fun h => sv_mono (h2 h) hP (fun _ _ z => z) (fun _ _ z => z) (fun _ _ z => z) fun _ _ _ _ z => z
/-- a comprehension whose turns draw nothing -/
theorem lc_pure {X : Type} {enc : X → D} {tg : Tg} {tt : Tx} {f : Ex} {ρ : En} {r : Rs} (p : X → Bool) (g : X → D) : ∀ {xs : List X}, (∀ x ∈ xs, Tgt tg (enc x) ρ (fun ρ1 => Ev (tt ρ1 r) (fun b r1 => b = p x ∧ r1 = r ∧ (p x = true → Ev (f ρ1 r) (fun d r2 => d = g x ∧ r2 = r) (fun _ _ _ => False) .mk)) (fun _ _ _ => False) .mk) .mk) →
    lcGo tg tt f ρ (xs.map enc) r = some ((xs.filter p).map g, r)
  | [], _ => rfl
  | x :: xs, h => by
    have q := h x List.mem_cons_self
    have ih := lc_pure (xs := xs) p g fun y m => h y (List.mem_cons_of_mem _ m)
    rw [List.map_cons]
    unfold lcGo
    unfold Tgt at q
    cases e : tg (enc x) ρ with
    | none => rw [e] at q; exact q.elim
    | some ρ1 =>
      rw [e] at q
      dsimp only at q
      obtain ⟨b, r1, e1, rfl, rfl, q⟩ := ev_ex q
      show (match tt ρ1 r1 with | .ok true r1 => (match f ρ1 r1 with | .ok e r2 => (lcGo tg tt f ρ (xs.map enc) r2).map fun (p : List D × Rs) => (e :: p.1, p.2) | _ => none) | .ok false r1 => lcGo tg tt f ρ (xs.map enc) r1 | _ => none) = _
      rw [e1]
      cases hp : p x with
      | false => simp only [ih]; rw [List.filter_cons_of_neg (by simp [hp])]
      | true =>
        obtain ⟨d, r2, e2, rfl, rfl⟩ := ev_ex (q hp)
        simp only [e2, ih, Option.map_some]
        rw [List.filter_cons_of_pos hp, List.map_cons]
theorem lc2_pure {X Y : Type} {enc : X → D} {enc2 : Y → D} {tg tg2 : Tg} {it2 : Lx} {tt : Tx} {f : Ex} {vs1 : List Nat} {ρ : En} {r : Rs} (ys : X → List Y) (p : X → Y → Bool) (g : X → Y → D) : ∀ {xs : List X}, (∀ x ∈ xs, Tgt tg (enc x) ρ (fun ρ1 => Ev (it2 ρ1 r) (fun es r1 => es = (ys x).map enc2 ∧ r1 = r ∧ ∀ y ∈ ys x, Wp ρ1 vs1 (fun ρ1 => Tgt tg2 (enc2 y) ρ1 (fun ρ2 => Ev (tt ρ2 r) (fun b r1 => b = p x y ∧ r1 = r ∧ (p x y = true → Ev (f ρ2 r) (fun d r2 => d = g x y ∧ r2 = r) (fun _ _ _ => False) .mk)) (fun _ _ _ => False) .mk) .mk) .mk) (fun _ _ _ => False) .mk) .mk) →
    lc2Go tg it2 tg2 tt f vs1 ρ (xs.map enc) r = some (xs.flatMap fun x => ((ys x).filter (p x)).map (g x), r)
  | [], _ => rfl
  | x :: xs, h => by
    have q := h x List.mem_cons_self
    have ih := lc2_pure (xs := xs) ys p g fun y m => h y (List.mem_cons_of_mem _ m)
    rw [List.map_cons]
    unfold lc2Go
    unfold Tgt at q
    cases e : tg (enc x) ρ with
    | none => rw [e] at q; exact q.elim
    | some ρ1 =>
      rw [e] at q
      dsimp only at q
      obtain ⟨es, r1, e1, rfl, rfl, q⟩ := ev_ex q
      simp only [Option.bind_some, e1, lc_pure (p x) (g x) q, ih, Option.map_some, List.flatMap_cons]

theorem cut_to {α : Type} {xs : List α} {k : Nat} : cutA xs none (some (k : Int)) = xs.take k := by
  unfold cutA
  rw [HT.sIx_none, HT.sIx_nat, List.drop_zero, Nat.sub_zero]
  by_cases h : k ≤ xs.length
  · rw [Nat.min_eq_left h]
  · rw [Nat.min_eq_right (by omega), List.take_length, List.take_of_length_le (by omega)]
theorem nat_of {v : Int} (h : 0 ≤ v) : ∃ k : Nat, v = k := ⟨v.toNat, by omega⟩
/-! ### the draws -/
def bStart : Sx :=
    (sSeq (sAsg [] (gNm 1) (xRes (xLst' xNil)))
    (sSeq (sAsg [] (gNm 2) (xC (.int 17)))
    (sSeq (sFor [] (xRng1 (xCons (xCB cLen (xCons (xVar 0) xNil)) xNil)) (gNm 3) (sSeq (sAsg [] (gNm 4) (xCB cAbs (xCons (xIx (xVar 0) (xVar 3)) xNil)))
    (sSeq (sAsg [] (gNm 2) (xOp dMod (xCB cInt (xCons (xOp dAdd (xOp dAdd (xOp dMul (xVar 2) (xC (.int 31))) (xVar 4)) (xVar 3)) xNil)) (xC (.int 2147483647))))
    (sIfF [] (xB (xOp dGe (xVar 4) (xOp dPow (xC (.int 10)) (xC (.int 18))))) (sSeq (sAsg [] (gNm 4) (xOp dSub (xVar 4) (xOp dPow (xC (.int 10)) (xC (.int 18)))))
    (sFor [] (xRng1 (xCons (xC (.int 60)) xNil)) (gNm 5) (sIfF [] (xB (xOp dGt (xVar 4) (xC (.int 0)))) (sSeq (sExp [] (xAppR (xVar 1) (xCons (xOp dMod (xCB cInt (xCons (xVar 4) xNil)) (xC (.int 840))) xNil)))
    (sAsg [] (gNm 4) (xOp dDiv (xVar 4) (xC (.int 840))))) sNext))) (sSeq (sAsg [] (gNm 6) (xOp dMod (xCB cInt (xCons (xOp dAdd (xOp dMul (xOp dAdd (xVar 4) (xC (.int 1))) (xC (.int 48271))) (xOp dMul (xVar 3) (xC (.int 69621)))) xNil)) (xC (.int 2147483647))))
    (sSeq (sAsg [] (gNm 6) (xOp dMod (xCB cInt (xCons (xOp dAdd (xOp dMul (xVar 6) (xC (.int 40692))) (xC (.int 5))) xNil)) (xC (.int 2147483399))))
    (sExp [] (xAppR (xVar 1) (xCons (xOp dMod (xOp dDiv (xVar 6) (xC (.int 13))) (xC (.int 840))) xNil)))))))))
    (sRet false [] (xRes (xLst' (xCons (xVar 1) (xCons (xC (.int 0)) (xCons (xVar 2) xNil)))))))))
def bTake : Sx :=
    (sSeq (sAsg [] (gNm 2) (xIx (xVar 0) (xC (.int 1))))
    (sSeq (sSetR [] (xVar 0) (xC (.int 1)) (xOp dAdd (xVar 2) (xC (.int 1))))
    (sSeq (sIfF [] (xB (xOp dLt (xVar 2) (xCB cLen (xCons (xIx (xVar 0) (xC (.int 0))) xNil)))) (sRet false [] (xOp dMod (xCB cInt (xCons (xIx (xIx (xVar 0) (xC (.int 0))) (xVar 2)) xNil)) (xVar 1))) sNext)
    (sSeq (sAsg [] (gNm 3) (xOp dMod (xCB cInt (xCons (xOp dMul (xOp dAdd (xIx (xVar 0) (xC (.int 2))) (xOp dMul (xVar 2) (xC (.int 40503)))) (xC (.int 48271))) xNil)) (xC (.int 2147483647))))
    (sSeq (sAsg [] (gNm 3) (xOp dMod (xCB cInt (xCons (xOp dAdd (xOp dMul (xVar 3) (xC (.int 69621))) (xOp dMul (xVar 2) (xVar 2))) xNil)) (xC (.int 2147483629))))
    (sRet false [] (xOp dMod (xOp dDiv (xVar 3) (xC (.int 11))) (xVar 1))))))))
/-- n more draws may be taken -/
def Dr (n : Nat) (R : Rs) : Prop := ∃ (row : List Int) (a : Nat) (seed : Int), R = [.lst (row.map .int), .lst [.loc 0, .int a, .int seed]] ∧ row.length ≤ 100000 ∧ a + n ≤ 1000000000
theorem Dr.le {n m : Nat} {R : Rs} (h : Dr n R) (l : m ≤ n) : Dr m R := by
  obtain ⟨row, a, seed, e, h1, h2⟩ := h
  exact ⟨row, a, seed, e, h1, by omega⟩
theorem dr_no {n : Nat} {R : Rs} (h : Dr n R) : (R.all fun x => !x.isObj) = true ∧ R.length = 2 := by
  obtain ⟨row, a, seed, rfl, h1, h2⟩ := h
  exact ⟨rfl, rfl⟩
theorem ver_dr {n m : Nat} {R R' : Rs} {Q : Rs → Prop} {t : Tag2 Q Q} (h : Dr n R) (h' : Dr m R') (q : Q R') : Ver R R' Q t := by
  obtain ⟨row, a, seed, rfl, h1, h2⟩ := h
  obtain ⟨row', a', seed', rfl, h1', h2'⟩ := h'
  exact ⟨rfl, q⟩
theorem small_n {a : Nat} (h : a < 2 ^ 60) : small (a : Int) = true := by
  unfold small
  rw [decide_eq_true_eq]
  omega
theorem take_ev {k : Nat} {m : Int} {R : Rs} {Q : D → Rs → Prop} {E : Nat → List (Str × Int) → Rs → Prop} {t : Tag2 Q E} (h : Dr (k + 1) R) (hm : 0 < m) (H : ∀ (v : Int) R', 0 ≤ v → v < m → Dr k R' → Q (.int v) R') : Ev (runF 4 bTake [.loc 1, .int m] R) Q E t := by
  obtain ⟨row, a, seed, rfl, h1, h2⟩ := h
  have sa : small (a : Int) = true := small_n (by omega)
  have K : ∀ v : Int, Q (.int (v % m)) [.lst (row.map .int), .lst [.loc 0, .int (a + 1), .int seed]] := fun v => H _ _ (Int.emod_nonneg _ (by omega)) (Int.emod_lt_of_pos _ hm) ⟨row, a + 1, seed, rfl, h1, by omega⟩
  rw [ev_run]
  unfold bTake
  show Sv (sSeq _ _ [some (.loc 1), some (.int m), none, none] _) _ _ _
  trivial
  refine so_i (a := 1) rfl ?_
  trivial
  dsimp only [List.set]
  (try simp -dsimp only [↓ev_ok, ↓ev_exc, ↓ev_bind, ↓ev_var, ↓ev_c, ↓ev_op, ↓ev_ix, ↓ev_nop, ↓ev_part, ↓ev_sl, ↓ev_tr, ↓ev_b, ↓ev_ch, ↓ev_v, ↓ev_and, ↓ev_or, ↓ev_not, ↓ev_if, ↓ev_tif, ↓ev_andv, ↓ev_orv, ↓ev_notv, ↓ev_neg, ↓ev_nil, ↓ev_cons, ↓ev_tup, ↓ev_lst, ↓ev_lst', ↓ev_cb, ↓ev_call, ↓ev_calld, ↓ev_l, ↓ev_d, ↓ev_listn, ↓ev_items, ↓ev_rng1, ↓ev_rng2, ↓ev_lc, ↓ev_lc2, ↓ev_dget, ↓ev_dget1, ↓ev_dget2, ↓ev_din, ↓ev_kd, ↓ev_dnew, ↓ev_yes, ↓ev_dcopy, ↓ev_ps0, ↓ev_ps1, ↓ev_disp, ↓ev_res, ↓ev_resd, ↓ev_fld, ↓ev_con, ↓ev_meth, ↓ev_prop, ↓ev_newf, ↓ev_newr, ↓ev_calln, ↓ev_callnd, ↓ev_sort, ↓ev_join, ↓ev_dc, ↓sv_next, ↓sv_brk, ↓sv_cont, ↓sv_ret, ↓sv_exc, ↓sv_seq, ↓sv_nx, ↓sv_bk, ↓sv_ct, ↓sv_evF, ↓sv_evI, ↓sv_store, ↓sv_asg, ↓sv_asgI, ↓sv_own, ↓sv_ownD, ↓sv_asgN, ↓sv_asgD, ↓sv_asgNI, ↓sv_exp, ↓sv_sret, ↓sv_sretI, ↓sv_sretN, ↓sv_sretD, ↓sv_sretNI, ↓sv_sretO, ↓sv_sretOD, ↓sv_retn, ↓sv_move, ↓sv_give, ↓sv_isL, ↓sv_isD, ↓sv_kApp, ↓sv_app, ↓sv_appI, ↓sv_kIns, ↓sv_ins, ↓sv_insI, ↓sv_extN, ↓sv_extI, ↓sv_ext, ↓sv_if, ↓sv_ifF, ↓sv_for, ↓sv_forR1I, ↓sv_aug, ↓sv_par, ↓sv_raise, ↓sv_setOI, ↓sv_tryAs, ↓sv_tryAsE, ↓sv_suIf, ↓sv_frz, ↓sv_pop, ↓sv_kSetO, ↓sv_setO, ↓sv_kDPut, ↓sv_dput, ↓bif_t, ↓bif_f, ↓bif_nt, ↓bif_nf, ↓bif_sn, ↓bif_ss, ↓so_some, ↓sop_some, ↓ck_true, ↓ck_tt, ↓ck_eq, ↓ck_len0, ↓ck_len1, ↓ck_len2, ↓ck_len3, ↓ck_len4, ↓ck_len5, ↓ck_len6, ↓ck_len7, ↓ck_len8, ↓ck_len9, ↓ck_len10, ↓ck_len11, ↓ck_len12, ↓ck_len13, ↓ck_len14, ↓ck_len15, ↓ck_len16, ↓ck_lt0, ↓ck_15_0, ↓ck_lt1, ↓ck_15_1, ↓ck_lt2, ↓ck_15_2, ↓ck_lt3, ↓ck_15_3, ↓ck_lt4, ↓ck_15_4, ↓ck_lt5, ↓ck_15_5, ↓ck_lt6, ↓ck_15_6, ↓ck_lt7, ↓ck_15_7, ↓ck_lt8, ↓ck_15_8, ↓ck_lt9, ↓ck_15_9, ↓ck_lt10, ↓ck_15_10, ↓ck_lt11, ↓ck_15_11, ↓get_0, ↓set_0, ↓setn_0, ↓get_1, ↓set_1, ↓setn_1, ↓get_2, ↓set_2, ↓setn_2, ↓get_3, ↓set_3, ↓setn_3, ↓get_4, ↓set_4, ↓setn_4, ↓get_5, ↓set_5, ↓setn_5, ↓get_6, ↓set_6, ↓setn_6, ↓get_7, ↓set_7, ↓setn_7, ↓get_8, ↓set_8, ↓setn_8, ↓get_9, ↓set_9, ↓setn_9, ↓get_10, ↓set_10, ↓setn_10, ↓get_11, ↓set_11, ↓setn_11, ↓get_12, ↓set_12, ↓setn_12, ↓get_13, ↓set_13, ↓setn_13, ↓get_14, ↓set_14, ↓setn_14, ↓get_15, ↓set_15, ↓setn_15, ↓get_16, ↓set_16, ↓setn_16, ↓get_17, ↓set_17, ↓setn_17, ↓get_18, ↓set_18, ↓setn_18, ↓get_19, ↓set_19, ↓setn_19, ↓get_20, ↓set_20, ↓setn_20, ↓get_21, ↓set_21, ↓setn_21, ↓get_22, ↓set_22, ↓setn_22, ↓get_23, ↓set_23, ↓setn_23, ↓get_24, ↓set_24, ↓setn_24, ↓get_25, ↓set_25, ↓setn_25, ↓get_26, ↓set_26, ↓setn_26, ↓get_27, ↓set_27, ↓setn_27, ↓get_28, ↓set_28, ↓setn_28, ↓get_29, ↓set_29, ↓setn_29, ↓get_30, ↓set_30, ↓setn_30, ↓get_31, ↓set_31, ↓setn_31, ↓get_32, ↓set_32, ↓setn_32, ↓get_33, ↓set_33, ↓setn_33, ↓get_34, ↓set_34, ↓setn_34, ↓get_35, ↓set_35, ↓setn_35, ↓get_36, ↓set_36, ↓setn_36, ↓get_37, ↓set_37, ↓setn_37, ↓get_38, ↓set_38, ↓setn_38, ↓get_39, ↓set_39, ↓setn_39, ↓get_40, ↓set_40, ↓setn_40, ↓get_41, ↓set_41, ↓setn_41, ↓get_42, ↓set_42, ↓setn_42, ↓get_43, ↓set_43, ↓setn_43, ↓get_44, ↓set_44, ↓setn_44, ↓get_45, ↓set_45, ↓setn_45, ↓get_46, ↓set_46, ↓setn_46, ↓get_47, ↓set_47, ↓setn_47, ↓wp_nil, ↓wp_cons, ↓ver_self, ↓tgt_nm, ↓tgt_tup1, ↓tgt_lst1, ↓tgt_tup2, ↓tgt_lst2, ↓tgt_tup3, ↓tgt_lst3, ↓tgt_tup4, ↓tgt_lst4, ↓tgt_tup5, ↓tgt_lst5, ↓tgt_tup6, ↓tgt_lst6, ↓tgts_nil, ↓tgts_cons, ↓as_l, ↓as_d, ↓as_b, ↓as_i, ↓as_s, ↓as_1, ↓as_2, ↓imm_int, ↓imm_str, ↓imm_bl, ↓imm_non, ↓imm_loc, ↓imm_tup, ↓imms_nil, ↓imms_cons, ↓so_add, ↓so_sub, ↓so_lt, ↓so_le, ↓so_gt, ↓so_ge, ↓so_if, ↓so_mul, ↓so_mod, ↓so_div, ↓so_addT, ↓so_addL, ↓so_addS, ↓so_ixL, ↓so_ixT, ↓so_slL, ↓so_slT, ↓so_len1, ↓so_len2, ↓so_len3, ↓so_len4, ↓so_len5, ↓so_abs, ↓so_int, ↓so_intb, ↓so_list1, ↓so_list2, ↓so_tuple1, ↓so_tuple2, ↓so_max2, ↓so_min2, ↓so_str, ↓so_isL, ↓so_isT, ↓so_isS, ↓so_isST, ↓so_isTS, ↓so_isI, ↓so_isIB, ↓so_isN, ↓so_isnN, ↓so_isb, ↓so_isnb, ↓so_listn1, ↓so_listn2, ↓so_it1, ↓so_it2, ↓tr_b, ↓tr_i, ↓tr_l, ↓tr_t, ↓tr_n, ↓keyof_s, ↓keyof_i, ↓fld_ins, ↓ins_ins, ↓soix_0, ↓soix_1, ↓soix_2, ↓soix_3, ↓soix_4, ↓soix_5, ↓soix_6, ↓soix_7, ↓as_loc, ↓ev_appR, ↓sv_setR, ↓sv_kSetR, ↓sv_dsetR, ↓sv_kDSetR, ↓so_ixR, ↓so_ixs, ↓at_0, ↓at_1, ↓at_2, ↓at_3, ↓grl_0, ↓grd_0, ↓lenl_0, ↓lend_0, ↓sro_0, ↓grl_1, ↓grd_1, ↓lenl_1, ↓lend_1, ↓sro_1, ↓grl_2, ↓grd_2, ↓lenl_2, ↓lend_2, ↓sro_2, ↓grl_3, ↓grd_3, ↓lenl_3, ↓lend_3, ↓sro_3, List.length_map])
  refine bif_d (fun c => ?_) (fun c => ?_)
  · trivial
    have hx : atI (row.map D.int) (a : Int) = some (.int row[a]) := atI_nat (by rw [List.getElem?_map, List.getElem?_eq_getElem (by omega)]; rfl)
    refine so_i hx ?_
    trivial
    exact ck_i hm (K _)
  · trivial
    refine ck_i (by rw [sa]; rfl) ?_
    trivial
    refine ck_i (by rw [show small 48271 = true from rfl, Bool.or_true]) ?_
    trivial
    refine ck_i (by decide) ?_
    trivial
    refine ck_i (by rw [show small 69621 = true from rfl, Bool.or_true]) ?_
    trivial
    refine ck_i (by rw [sa]; rfl) ?_
    trivial
    refine ck_i (by decide) ?_
    trivial
    refine ck_i (by decide) ?_
    trivial
    exact ck_i hm (K _)
theorem map_snoc {X Y : Type} {f : X → Y} {xs : List X} {x : X} : xs.map f ++ [f x] = (xs ++ [x]).map f := by rw [List.map_append]; rfl
theorem inner_ev {N : En → Rs → Prop} {k : Ks} {t : Tag2 N k} (n : Nat) (lo : Int) {row : List Int} {ns : List Int} {x2 x3 x4 : Int} {y5 y6 : Option D} (hr : row.length + n ≤ 100000)
    (H : ∀ (row' : List Int) (z4 : Int) (z5 : Option D), row'.length ≤ row.length + n → N [some (.scr ns), some (.loc 0), some (.int x2), some (.int x3), some (.int z4), z5, y6] [.lst (row'.map .int)]) :
    Sv (forGo (gNm 5) (sIfF [] (xB (xOp dGt (xVar 4) (xC (.int 0)))) (sSeq (sExp [] (xAppR (xVar 1) (xCons (xOp dMod (xCB cInt (xCons (xVar 4) xNil)) (xC (.int 840))) xNil)))
    (sAsg [] (gNm 4) (xOp dDiv (xVar 4) (xC (.int 840))))) sNext) (rng lo n) [some (.scr ns), some (.loc 0), some (.int x2), some (.int x3), some (.int x4), y5, y6] [.lst (row.map .int)]) N k t := by
  refine sv_forN lo n (fun i ρ r => ∃ (row' : List Int) (z4 : Int) (z5 : Option D), row'.length ≤ row.length + i ∧ ρ = [some (.scr ns), some (.loc 0), some (.int x2), some (.int x3), some (.int z4), z5, y6] ∧ r = [.lst (row'.map .int)]) ⟨row, x4, y5, by omega, rfl, rfl⟩ ?_ ?_
  · rintro i hi ρ r ⟨row', z4, z5, hl, rfl, rfl⟩
    trivial
    refine bif_d (fun c => ?_) (fun c => ?_)
    · trivial
      refine ck_i (by decide) ?_
      trivial
      refine ck_i (by simp [D.imm, lim]; omega) ?_
      trivial
      refine ck_i (by decide) ?_
      refine ⟨row' ++ [z4 % 840], _, _, ?_, rfl, ?_⟩
      · simp; omega
      · simp
    · exact ⟨row', z4, _, by omega, rfl, rfl⟩
  · rintro ρ r ⟨row', z4, z5, hl, rfl, rfl⟩
    exact H row' z4 z5 hl
theorem start_ev {ns : List Int} {Q : D → Rs → Prop} {E : Nat → List (Str × Int) → Rs → Prop} {t : Tag2 Q E} (hn : ns.length ≤ 63) (H : ∀ R, Dr 1000000000 R → Q (.loc 1) R) : Ev (runF 7 bStart [.scr ns] []) Q E t := by
  rw [ev_run]
  unfold bStart
  show Sv (sSeq _ _ [some (.scr ns), none, none, none, none, none, none] _) _ _ _
  trivial
  dsimp only [List.length_nil, List.nil_append]
  trivial
  refine ck_i (by unfold big; rw [decide_eq_true_eq]; omega) ?_
  refine sv_forN 0 _ (fun i ρ r => ∃ (row : List Int) (z2 : Int) (z3 z4 z5 z6 : Option D), row.length ≤ 60 * i ∧ ρ = [some (.scr ns), some (.loc 0), some (.int z2), z3, z4, z5, z6] ∧ r = [.lst (row.map .int)]) ⟨[], 17, _, _, _, _, by simp, rfl, rfl⟩ ?_ ?_
  · rintro i hi ρ r ⟨row, z2, z3, z4, z5, z6, hl, rfl, rfl⟩
    have hi' : i < ns.length := by omega
    have ha : atI ns (0 + (i : Int)) = some ns[i] := by rw [Int.zero_add]; exact atI_nat (List.getElem?_eq_getElem hi')
    trivial
    refine so_i ha ?_
    trivial
    refine ck_i (by rw [show small 31 = true from rfl, Bool.or_true]) ?_
    trivial
    refine ck_i (by decide) ?_
    trivial
    refine so_i (a := .int 1000000000000000000) rfl ?_
    trivial
    refine bif_d (fun c => ?_) (fun c => ?_)
    · trivial
      refine so_i (a := .int 1000000000000000000) rfl ?_
      trivial
      refine ck_i (by decide) ?_
      refine inner_ev 60 0 (by omega) fun row' z4 z5 hl' => ⟨row', _, _, _, _, _, by omega, rfl, rfl⟩
    · trivial
      refine ck_i (by rw [show small 48271 = true from rfl, Bool.or_true]) ?_
      trivial
      refine ck_i (by rw [show small 69621 = true from rfl, Bool.or_true]) ?_
      trivial
      refine ck_i (by decide) ?_
      trivial
      refine ck_i (by rw [show small 40692 = true from rfl, Bool.or_true]) ?_
      trivial
      refine ck_i (by decide) ?_
      trivial
      refine ck_i (by decide) ?_
      trivial
      refine ck_i (by decide) ?_
      trivial
      refine ck_i (by simp [D.imm, lim]; omega) ?_
      trivial
      rw [map_snoc]
      refine ⟨_, _, _, _, _, _, ?_, rfl, rfl⟩
      rw [List.length_append, List.length_singleton]; omega
  · rintro ρ r ⟨row, z2, z3, z4, z5, z6, hl, rfl, rfl⟩
    trivial
    exact H _ ⟨row, 0, z2, rfl, by omega, by omega⟩
end ML

/-! ML3: == and in over plain data. -/
namespace ML
open PySem L2 DL
mutual
/-- numbers, texts, None, tuples and lists of them, not deeper than n -/
def pl : Nat → D → Bool
  | _, .non => true
  | _, .int _ => true
  | _, .str x => PyData.strOk x
  | n + 1, .tup xs => pls n xs
  | n + 1, .lst xs => pls n xs
  | _, _ => false
def pls : Nat → List D → Bool
  | _, [] => true
  | n, x :: xs => pl n x && pls n xs
end
theorem pls_iff {n : Nat} : ∀ {xs : List D}, pls n xs = true ↔ ∀ x ∈ xs, pl n x = true
  | [] => by simp [pls]
  | x :: xs => by rw [pls, Bool.and_eq_true, pls_iff (xs := xs)]; simp
theorem pl_tup {n : Nat} {xs : List D} (h : ∀ x ∈ xs, pl n x = true) : pl (n + 1) (.tup xs) = true := by rw [pl]; exact pls_iff.mpr h
theorem pl_lst {n : Nat} {xs : List D} (h : ∀ x ∈ xs, pl n x = true) : pl (n + 1) (.lst xs) = true := by rw [pl]; exact pls_iff.mpr h
theorem pl_int {n : Nat} {i : Int} : pl n (.int i) = true := by unfold pl; rfl
theorem pl_str {n : Nat} {x : Str} (h : PyData.strOk x = true) : pl n (.str x) = true := by unfold pl; exact h
mutual
theorem pl_shaped : ∀ {n : Nat} {d : D}, pl n d = true → d.py.canLay0 = true ∧ d.py.depth ≤ n
  | n, .non, _ => ⟨by simp [D.py, PyData.canLay0], by simp [D.py, PyData.depth]⟩
  | n, .int i, _ => ⟨by simp [D.py, PyData.canLay0], by simp [D.py, PyData.depth]⟩
  | n, .str x, h => ⟨by unfold pl at h; simp [D.py, PyData.canLay0, h], by simp [D.py, PyData.depth]⟩
  | n + 1, .tup xs, h => by
    have q := pls_shaped (xs := xs) (n := n) (by rw [pl] at h; exact h)
    exact ⟨by simp [D.py, PyData.canLay0, q.1], by rw [D.py, PyData.depth]; omega⟩
  | n + 1, .lst xs, h => by
    have q := pls_shaped (xs := xs) (n := n) (by rw [pl] at h; exact h)
    exact ⟨by simp [D.py, PyData.canLay0, q.1], by rw [D.py, PyData.depth]; omega⟩
  | 0, .tup xs, h => by simp [pl] at h
  | 0, .lst xs, h => by simp [pl] at h
  | n, .bl _, h => by cases n <;> simp [pl] at h
  | n, .dic _, h => by cases n <;> simp [pl] at h
  | n, .loc _, h => by cases n <;> simp [pl] at h
  | n, .scr _, h => by cases n <;> simp [pl] at h
  | n, .ty _, h => by cases n <;> simp [pl] at h
  | n, .gl _, h => by cases n <;> simp [pl] at h
  | n, .ins _ _, h => by cases n <;> simp [pl] at h
theorem pls_shaped : ∀ {n : Nat} {xs : List D}, pls n xs = true → PyData.canLayAll0 (D.pys xs) = true ∧ PyData.depthAll (D.pys xs) ≤ n
  | n, [], _ => ⟨by simp [D.pys, PyData.canLayAll0], by simp [D.pys, PyData.depthAll]⟩
  | n, x :: xs, h => by
    rw [pls, Bool.and_eq_true] at h
    have a := pl_shaped h.1
    have b := pls_shaped h.2
    exact ⟨by simp [D.pys, PyData.canLayAll0, a.1, b.1], by rw [D.pys, PyData.depthAll]; exact Nat.max_le.mpr ⟨a.2, b.2⟩⟩
end
theorem shaped_of {n : Nat} {d : D} (h : pl n d = true) (l : n ≤ 64 := by decide) : d.shaped = true := by
  obtain ⟨h1, h2⟩ := pl_shaped h
  unfold D.shaped SeqAt.shaped
  rw [h1, decide_eq_true (Nat.le_trans h2 l)]
  rfl
mutual
theorem eqv_pl : ∀ {n m : Nat} {a b : D}, pl n a = true → pl m b = true → (PyData.eqv a.py b.py = true ↔ a = b)
  | n, m, .non, b, _, hb => by cases b <;> first | (exfalso; cases m <;> simp [pl] at hb; done) | simp [D.py, PyData.eqv]
  | n, m, .int i, b, _, hb => by cases b <;> first | (exfalso; cases m <;> simp [pl] at hb; done) | simp [D.py, PyData.eqv]
  | n, m, .str i, b, _, hb => by cases b <;> first | (exfalso; cases m <;> simp [pl] at hb; done) | simp [D.py, PyData.eqv]
  | n + 1, m, .tup xs, b, ha, hb => by
    cases b <;> first | (exfalso; cases m <;> simp [pl] at hb; done) | (simp [D.py, PyData.eqv]; done) | skip
    case tup ys =>
      cases m with
      | zero => simp [pl] at hb
      | succ m =>
        rw [pl] at ha hb
        have q := eqvs_pl ha hb
        simp only [D.py, PyData.eqv, D.tup.injEq]
        exact q
  | n + 1, m, .lst xs, b, ha, hb => by
    cases b <;> first | (exfalso; cases m <;> simp [pl] at hb; done) | (simp [D.py, PyData.eqv]; done) | skip
    case lst ys =>
      cases m with
      | zero => simp [pl] at hb
      | succ m =>
        rw [pl] at ha hb
        have q := eqvs_pl ha hb
        simp only [D.py, PyData.eqv, D.lst.injEq]
        exact q
  | 0, m, .tup xs, b, ha, hb => by simp [pl] at ha
  | 0, m, .lst xs, b, ha, hb => by simp [pl] at ha
  | n, m, .bl _, b, h, hb => by cases n <;> simp [pl] at h
  | n, m, .dic _, b, h, hb => by cases n <;> simp [pl] at h
  | n, m, .loc _, b, h, hb => by cases n <;> simp [pl] at h
  | n, m, .scr _, b, h, hb => by cases n <;> simp [pl] at h
  | n, m, .ty _, b, h, hb => by cases n <;> simp [pl] at h
  | n, m, .gl _, b, h, hb => by cases n <;> simp [pl] at h
  | n, m, .ins _ _, b, h, hb => by cases n <;> simp [pl] at h
theorem eqvs_pl : ∀ {n m : Nat} {xs ys : List D}, pls n xs = true → pls m ys = true → (PyData.eqvAll (D.pys xs) (D.pys ys) = true ↔ xs = ys)
  | _, _, [], [], _, _ => by simp [D.pys, PyData.eqvAll]
  | _, _, [], _ :: _, _, _ => by simp [D.pys, PyData.eqvAll]
  | _, _, _ :: _, [], _, _ => by simp [D.pys, PyData.eqvAll]
  | n, m, x :: xs, y :: ys, hx, hy => by
    rw [pls, Bool.and_eq_true] at hx hy
    have a := eqv_pl hx.1 hy.1
    have b := eqvs_pl hx.2 hy.2
    rw [D.pys, D.pys, PyData.eqvAll, Bool.and_eq_true, a, b, List.cons.injEq]
end
theorem eqv_pl' {n m : Nat} {a b : D} (ha : pl n a = true) (hb : pl m b = true) [Decidable (a = b)] : PyData.eqv a.py b.py = decide (a = b) := by
  have := eqv_pl ha hb
  by_cases h : a = b
  · rw [decide_eq_true h]; exact this.mpr h
  · rw [decide_eq_false h]
    cases e : PyData.eqv a.py b.py with
    | false => rfl
    | true => exact absurd (this.mp e) h
section
variable {n m : Nat} {a b : D} {Q : D → Prop} {t : Tag2 Q Q}
theorem dEq_pl (ha : pl n a = true) (hb : pl m b = true) [Decidable (a = b)] (h1 : n ≤ 64 := by decide) (h2 : m ≤ 64 := by decide) : dEq a b = some (.bl (decide (a = b))) := by
  unfold dEq
  rw [shaped_of ha h1, shaped_of hb h2, eqv_pl' ha hb]
  rfl
theorem dNe_pl (ha : pl n a = true) (hb : pl m b = true) [Decidable (a = b)] (h1 : n ≤ 64 := by decide) (h2 : m ≤ 64 := by decide) : dNe a b = some (.bl (!decide (a = b))) := by
  unfold dNe
  rw [shaped_of ha h1, shaped_of hb h2, eqv_pl' ha hb]
  rfl
theorem dEq_same (ha : pl n a = true) (h1 : n ≤ 64 := by decide) : dEq a a = some (.bl true) := by
  have := Classical.propDecidable (a = a)
  rw [dEq_pl ha ha h1 h1, decide_eq_true rfl]
theorem dNe_same (ha : pl n a = true) (h1 : n ≤ 64 := by decide) : dNe a a = some (.bl false) := by
  have := Classical.propDecidable (a = a)
  rw [dNe_pl ha ha h1 h1, decide_eq_true rfl]
  rfl
theorem dEq_int {i j : Int} : dEq (.int i) (.int j) = some (.bl (decide (i = j))) := by
  have := Classical.propDecidable (D.int i = D.int j)
  rw [dEq_pl (n := 0) (m := 0) pl_int pl_int]
  congr 2
  exact decide_eq_decide.mpr (by simp)
theorem dNe_int {i j : Int} : dNe (.int i) (.int j) = some (.bl (decide (i ≠ j))) := by
  have := Classical.propDecidable (D.int i = D.int j)
  rw [dNe_pl (n := 0) (m := 0) pl_int pl_int]
  congr 1
  by_cases h : i = j <;> simp [h]
theorem any_pl {x : D} (hx : pl n x = true) : ∀ {ds : List D}, pls m ds = true → ((ds.any fun z => PyData.eqv z.py x.py) = true ↔ x ∈ ds)
  | [], _ => by simp
  | d :: ds, h => by
    rw [pls, Bool.and_eq_true] at h
    rw [List.any_cons, Bool.or_eq_true, any_pl hx h.2, eqv_pl h.1 hx, List.mem_cons]
    constructor
    · rintro (e | e)
      · exact .inl e.symm
      · exact .inr e
    · rintro (e | e)
      · exact .inl e.symm
      · exact .inr e
theorem any_pl' {x : D} {ds : List D} (hx : pl n x = true) (hd : pls m ds = true) [Decidable (x ∈ ds)] : (ds.any fun z => PyData.eqv z.py x.py) = decide (x ∈ ds) := by
  have := any_pl hx hd
  by_cases h : x ∈ ds
  · rw [decide_eq_true h]; exact this.mpr h
  · rw [decide_eq_false h]
    cases e : ds.any fun z => PyData.eqv z.py x.py with
    | false => rfl
    | true => exact absurd (this.mp e) h
theorem dIn_pl {x : D} {ds : List D} (hx : pl n x = true) (hd : pls m ds = true) [Decidable (x ∈ ds)] (h1 : n ≤ 64 := by decide) (h2 : m + 1 ≤ 64 := by decide) : dIn x (.lst ds) = some (.bl (decide (x ∈ ds))) := by
  unfold dIn inD
  dsimp only
  rw [shaped_of hx h1, shaped_of (n := m + 1) (d := .lst ds) (by rw [pl]; exact hd) h2, any_pl' hx hd]
  rfl
theorem dNotIn_pl {x : D} {ds : List D} (hx : pl n x = true) (hd : pls m ds = true) [Decidable (x ∈ ds)] (h1 : n ≤ 64 := by decide) (h2 : m + 1 ≤ 64 := by decide) : dNotIn x (.lst ds) = some (.bl (!decide (x ∈ ds))) := by
  unfold dNotIn inD
  dsimp only
  rw [shaped_of hx h1, shaped_of (n := m + 1) (d := .lst ds) (by rw [pl]; exact hd) h2, any_pl' hx hd]
  rfl
end
mutual
theorem pl_mono : ∀ {n m : Nat} {d : D}, pl n d = true → n ≤ m → pl m d = true
  | _, _, .non, _, _ => by unfold pl; rfl
  | _, _, .int i, _, _ => by unfold pl; rfl
  | _, _, .str x, h, _ => by unfold pl at h ⊢; exact h
  | n + 1, m + 1, .tup xs, h, l => by rw [pl] at h ⊢; exact pls_mono h (by omega)
  | n + 1, m + 1, .lst xs, h, l => by rw [pl] at h ⊢; exact pls_mono h (by omega)
  | _ + 1, 0, .tup xs, h, l => by omega
  | _ + 1, 0, .lst xs, h, l => by omega
  | 0, m, .tup xs, h, _ => by simp [pl] at h
  | 0, m, .lst xs, h, _ => by simp [pl] at h
  | n, _, .bl _, h, _ => by cases n <;> simp [pl] at h
  | n, _, .dic _, h, _ => by cases n <;> simp [pl] at h
  | n, _, .loc _, h, _ => by cases n <;> simp [pl] at h
  | n, _, .scr _, h, _ => by cases n <;> simp [pl] at h
  | n, _, .ty _, h, _ => by cases n <;> simp [pl] at h
  | n, _, .gl _, h, _ => by cases n <;> simp [pl] at h
  | n, _, .ins _ _, h, _ => by cases n <;> simp [pl] at h
theorem pls_mono : ∀ {n m : Nat} {xs : List D}, pls n xs = true → n ≤ m → pls m xs = true
  | _, _, [], _, _ => by unfold pls; rfl
  | n, m, x :: xs, h, l => by
    rw [pls, Bool.and_eq_true] at h ⊢
    exact ⟨pl_mono h.1 l, pls_mono h.2 l⟩
end
theorem imms_iff : ∀ {xs : List D}, D.imms xs = true ↔ ∀ x ∈ xs, x.imm = true
  | [] => by simp [D.imms]
  | x :: xs => by rw [D.imms, Bool.and_eq_true, imms_iff (xs := xs)]; simp
section
variable {i j : Int} {Q : D → Prop} {t : Tag2 Q Q}
theorem so_eqi : So (dEq (.int i) (.int j)) Q t = Q (.bl (decide (i = j))) := by rw [dEq_int]; rfl
theorem so_nei : So (dNe (.int i) (.int j)) Q t = Q (.bl (decide (i ≠ j))) := by rw [dNe_int]; rfl
end
/-! while, turn by turn -/
theorem while1 {O : List Nat} {tt : Tx} {b : Sx} {n : Nat} {ρ : En} {r : Rs} {N : En → Rs → Prop} {k : Ks} {t : Tag2 N k}
    (h : Wp ρ O (fun ρ' => Ev (tt ρ' r) (fun c r1 => Bif c (Sv (b ρ r1) (fun ρ2 r2 => Sv (whileGoF O tt b n ρ2 r2) N k t) ⟨fun ρ2 r2 => Sv (whileGoF O tt b n ρ2 r2) N k t, fun ρ2 r2 => N ρ2 r2, k.T, k.E⟩ .mk) (N ρ r1) .mk) (fun c fs r1 => k.E c fs ρ r1) .mk) .mk) : Sv (whileGoF O tt b (n + 1) ρ r) N k t := by
  unfold whileGoF
  rw [sv_evF]
  unfold Wp at *
  dsimp only at h ⊢
  revert h
  generalize tt (wipeE ρ O) r = o1
  cases o1 with
  | exc c fs r1 => exact fun h => h
  | bad => exact fun h => h
  | ok c r1 =>
    intro h
    cases c with
    | false => rw [ev_ok, bif_f] at h; exact h
    | true =>
      rw [ev_ok, bif_t] at h
      show Sv (match b ρ r1 with | .next ρ2 r2 => whileGoF O tt b n ρ2 r2 | .cont ρ2 r2 => whileGoF O tt b n ρ2 r2 | .brk ρ2 r2 => .next ρ2 r2 | o => o) N k t
      revert h
      generalize b ρ r1 = o
      intro h
      cases o <;> exact h
end ML

/-! MSig: a Signature is made; what its methods answer. -/
local macro_rules | `(tactic| trivial) => `(tactic| (try simp -dsimp only [↓ML.ev_ok, ↓ML.ev_exc, ↓ML.ev_bind, ↓ML.ev_var, ↓ML.ev_c, ↓ML.ev_op, ↓ML.ev_ix, ↓ML.ev_nop, ↓ML.ev_part, ↓ML.ev_sl, ↓ML.ev_tr, ↓ML.ev_b, ↓ML.ev_ch, ↓ML.ev_v, ↓ML.ev_and, ↓ML.ev_or, ↓ML.ev_not, ↓ML.ev_if, ↓ML.ev_tif, ↓ML.ev_andv, ↓ML.ev_orv, ↓ML.ev_notv, ↓ML.ev_neg, ↓ML.ev_nil, ↓ML.ev_cons, ↓ML.ev_tup, ↓ML.ev_lst, ↓ML.ev_lst', ↓ML.ev_cb, ↓ML.ev_call, ↓ML.ev_calld, ↓ML.ev_l, ↓ML.ev_d, ↓ML.ev_listn, ↓ML.ev_items, ↓ML.ev_rng1, ↓ML.ev_rng2, ↓ML.ev_lc, ↓ML.ev_lc2, ↓ML.ev_dget, ↓ML.ev_dget1, ↓ML.ev_dget2, ↓ML.ev_din, ↓ML.ev_kd, ↓ML.ev_dnew, ↓ML.ev_yes, ↓ML.ev_dcopy, ↓ML.ev_ps0, ↓ML.ev_ps1, ↓ML.ev_disp, ↓ML.ev_res, ↓ML.ev_resd, ↓ML.ev_fld, ↓ML.ev_con, ↓ML.ev_meth, ↓ML.ev_prop, ↓ML.ev_newf, ↓ML.ev_newr, ↓ML.ev_calln, ↓ML.ev_callnd, ↓ML.ev_sort, ↓ML.ev_join, ↓ML.ev_dc, ↓ML.sv_next, ↓ML.sv_brk, ↓ML.sv_cont, ↓ML.sv_ret, ↓ML.sv_exc, ↓ML.sv_seq, ↓ML.sv_nx, ↓ML.sv_bk, ↓ML.sv_ct, ↓ML.sv_evF, ↓ML.sv_evI, ↓ML.sv_store, ↓ML.sv_asg, ↓ML.sv_asgI, ↓ML.sv_own, ↓ML.sv_ownD, ↓ML.sv_asgN, ↓ML.sv_asgD, ↓ML.sv_asgNI, ↓ML.sv_exp, ↓ML.sv_sret, ↓ML.sv_sretI, ↓ML.sv_sretN, ↓ML.sv_sretD, ↓ML.sv_sretNI, ↓ML.sv_sretO, ↓ML.sv_sretOD, ↓ML.sv_retn, ↓ML.sv_move, ↓ML.sv_give, ↓ML.sv_isL, ↓ML.sv_isD, ↓ML.sv_kApp, ↓ML.sv_app, ↓ML.sv_appI, ↓ML.sv_kIns, ↓ML.sv_ins, ↓ML.sv_insI, ↓ML.sv_extN, ↓ML.sv_extI, ↓ML.sv_ext, ↓ML.sv_if, ↓ML.sv_ifF, ↓ML.sv_for, ↓ML.sv_forR1I, ↓ML.sv_aug, ↓ML.sv_par, ↓ML.sv_raise, ↓ML.sv_setOI, ↓ML.sv_tryAs, ↓ML.sv_tryAsE, ↓ML.sv_suIf, ↓ML.sv_frz, ↓ML.sv_pop, ↓ML.sv_kSetO, ↓ML.sv_setO, ↓ML.sv_kDPut, ↓ML.sv_dput, ↓ML.bif_t, ↓ML.bif_f, ↓ML.bif_nt, ↓ML.bif_nf, ↓ML.bif_sn, ↓ML.bif_ss, ↓ML.so_some, ↓ML.sop_some, ↓ML.ck_true, ↓ML.ck_tt, ↓ML.ck_eq, ↓ML.ck_len0, ↓ML.ck_len1, ↓ML.ck_len2, ↓ML.ck_len3, ↓ML.ck_len4, ↓ML.ck_len5, ↓ML.ck_len6, ↓ML.ck_len7, ↓ML.ck_len8, ↓ML.ck_len9, ↓ML.ck_len10, ↓ML.ck_len11, ↓ML.ck_len12, ↓ML.ck_len13, ↓ML.ck_len14, ↓ML.ck_len15, ↓ML.ck_len16, ↓ML.ck_lt0, ↓ML.ck_15_0, ↓ML.ck_lt1, ↓ML.ck_15_1, ↓ML.ck_lt2, ↓ML.ck_15_2, ↓ML.ck_lt3, ↓ML.ck_15_3, ↓ML.ck_lt4, ↓ML.ck_15_4, ↓ML.ck_lt5, ↓ML.ck_15_5, ↓ML.ck_lt6, ↓ML.ck_15_6, ↓ML.ck_lt7, ↓ML.ck_15_7, ↓ML.ck_lt8, ↓ML.ck_15_8, ↓ML.ck_lt9, ↓ML.ck_15_9, ↓ML.ck_lt10, ↓ML.ck_15_10, ↓ML.ck_lt11, ↓ML.ck_15_11, ↓ML.get_0, ↓ML.set_0, ↓ML.setn_0, ↓ML.get_1, ↓ML.set_1, ↓ML.setn_1, ↓ML.get_2, ↓ML.set_2, ↓ML.setn_2, ↓ML.get_3, ↓ML.set_3, ↓ML.setn_3, ↓ML.get_4, ↓ML.set_4, ↓ML.setn_4, ↓ML.get_5, ↓ML.set_5, ↓ML.setn_5, ↓ML.get_6, ↓ML.set_6, ↓ML.setn_6, ↓ML.get_7, ↓ML.set_7, ↓ML.setn_7, ↓ML.get_8, ↓ML.set_8, ↓ML.setn_8, ↓ML.get_9, ↓ML.set_9, ↓ML.setn_9, ↓ML.get_10, ↓ML.set_10, ↓ML.setn_10, ↓ML.get_11, ↓ML.set_11, ↓ML.setn_11, ↓ML.get_12, ↓ML.set_12, ↓ML.setn_12, ↓ML.get_13, ↓ML.set_13, ↓ML.setn_13, ↓ML.get_14, ↓ML.set_14, ↓ML.setn_14, ↓ML.get_15, ↓ML.set_15, ↓ML.setn_15, ↓ML.get_16, ↓ML.set_16, ↓ML.setn_16, ↓ML.get_17, ↓ML.set_17, ↓ML.setn_17, ↓ML.get_18, ↓ML.set_18, ↓ML.setn_18, ↓ML.get_19, ↓ML.set_19, ↓ML.setn_19, ↓ML.get_20, ↓ML.set_20, ↓ML.setn_20, ↓ML.get_21, ↓ML.set_21, ↓ML.setn_21, ↓ML.get_22, ↓ML.set_22, ↓ML.setn_22, ↓ML.get_23, ↓ML.set_23, ↓ML.setn_23, ↓ML.get_24, ↓ML.set_24, ↓ML.setn_24, ↓ML.get_25, ↓ML.set_25, ↓ML.setn_25, ↓ML.get_26, ↓ML.set_26, ↓ML.setn_26, ↓ML.get_27, ↓ML.set_27, ↓ML.setn_27, ↓ML.get_28, ↓ML.set_28, ↓ML.setn_28, ↓ML.get_29, ↓ML.set_29, ↓ML.setn_29, ↓ML.get_30, ↓ML.set_30, ↓ML.setn_30, ↓ML.get_31, ↓ML.set_31, ↓ML.setn_31, ↓ML.get_32, ↓ML.set_32, ↓ML.setn_32, ↓ML.get_33, ↓ML.set_33, ↓ML.setn_33, ↓ML.get_34, ↓ML.set_34, ↓ML.setn_34, ↓ML.get_35, ↓ML.set_35, ↓ML.setn_35, ↓ML.get_36, ↓ML.set_36, ↓ML.setn_36, ↓ML.get_37, ↓ML.set_37, ↓ML.setn_37, ↓ML.get_38, ↓ML.set_38, ↓ML.setn_38, ↓ML.get_39, ↓ML.set_39, ↓ML.setn_39, ↓ML.get_40, ↓ML.set_40, ↓ML.setn_40, ↓ML.get_41, ↓ML.set_41, ↓ML.setn_41, ↓ML.get_42, ↓ML.set_42, ↓ML.setn_42, ↓ML.get_43, ↓ML.set_43, ↓ML.setn_43, ↓ML.get_44, ↓ML.set_44, ↓ML.setn_44, ↓ML.get_45, ↓ML.set_45, ↓ML.setn_45, ↓ML.get_46, ↓ML.set_46, ↓ML.setn_46, ↓ML.get_47, ↓ML.set_47, ↓ML.setn_47, ↓ML.wp_nil, ↓ML.wp_cons, ↓ML.ver_self, ↓ML.tgt_nm, ↓ML.tgt_tup1, ↓ML.tgt_lst1, ↓ML.tgt_tup2, ↓ML.tgt_lst2, ↓ML.tgt_tup3, ↓ML.tgt_lst3, ↓ML.tgt_tup4, ↓ML.tgt_lst4, ↓ML.tgt_tup5, ↓ML.tgt_lst5, ↓ML.tgt_tup6, ↓ML.tgt_lst6, ↓ML.tgts_nil, ↓ML.tgts_cons, ↓ML.as_l, ↓ML.as_d, ↓ML.as_b, ↓ML.as_i, ↓ML.as_s, ↓ML.as_1, ↓ML.as_2, ↓ML.imm_int, ↓ML.imm_str, ↓ML.imm_bl, ↓ML.imm_non, ↓ML.imm_loc, ↓ML.imm_tup, ↓ML.imms_nil, ↓ML.imms_cons, ↓ML.so_add, ↓ML.so_sub, ↓ML.so_lt, ↓ML.so_le, ↓ML.so_gt, ↓ML.so_ge, ↓ML.so_if, ↓ML.so_mul, ↓ML.so_mod, ↓ML.so_div, ↓ML.so_addT, ↓ML.so_addL, ↓ML.so_addS, ↓ML.so_ixL, ↓ML.so_ixT, ↓ML.so_slL, ↓ML.so_slT, ↓ML.so_len1, ↓ML.so_len2, ↓ML.so_len3, ↓ML.so_len4, ↓ML.so_len5, ↓ML.so_abs, ↓ML.so_int, ↓ML.so_intb, ↓ML.so_list1, ↓ML.so_list2, ↓ML.so_tuple1, ↓ML.so_tuple2, ↓ML.so_max2, ↓ML.so_min2, ↓ML.so_str, ↓ML.so_isL, ↓ML.so_isT, ↓ML.so_isS, ↓ML.so_isST, ↓ML.so_isTS, ↓ML.so_isI, ↓ML.so_isIB, ↓ML.so_isN, ↓ML.so_isnN, ↓ML.so_isb, ↓ML.so_isnb, ↓ML.so_listn1, ↓ML.so_listn2, ↓ML.so_it1, ↓ML.so_it2, ↓ML.tr_b, ↓ML.tr_i, ↓ML.tr_l, ↓ML.tr_t, ↓ML.tr_n, ↓ML.keyof_s, ↓ML.keyof_i, ↓ML.fld_ins, ↓ML.ins_ins, ↓ML.soix_0, ↓ML.soix_1, ↓ML.soix_2, ↓ML.soix_3, ↓ML.soix_4, ↓ML.soix_5, ↓ML.soix_6, ↓ML.soix_7, ↓ML.as_loc, ↓ML.ev_appR, ↓ML.sv_setR, ↓ML.sv_kSetR, ↓ML.sv_dsetR, ↓ML.sv_kDSetR, ↓ML.so_ixR, ↓ML.so_ixs, ↓ML.at_0, ↓ML.at_1, ↓ML.at_2, ↓ML.at_3, ↓ML.grl_0, ↓ML.grd_0, ↓ML.lenl_0, ↓ML.lend_0, ↓ML.sro_0, ↓ML.grl_1, ↓ML.grd_1, ↓ML.lenl_1, ↓ML.lend_1, ↓ML.sro_1, ↓ML.grl_2, ↓ML.grd_2, ↓ML.lenl_2, ↓ML.lend_2, ↓ML.sro_2, ↓ML.grl_3, ↓ML.grd_3, ↓ML.lenl_3, ↓ML.lend_3, ↓ML.sro_3, ↓ML.sv_for0, ↓ML.sv_for1]))
namespace MS
open PySem L2 DL ML Law
/-! things made last -/
theorem len1 {R : Rs} {o : RO} : (R ++ [o]).length = R.length + 1 := by simp
theorem app2 {R : Rs} {o p : RO} : (R ++ [o]) ++ [p] = R ++ [o, p] := by simp
theorem get_top {R : Rs} {o : RO} {l : Rs} : (R ++ o :: l)[R.length]? = some o := by simp
theorem get_top1 {R : Rs} {o p : RO} {l : Rs} : (R ++ o :: p :: l)[R.length + 1]? = some p := by
  rw [List.getElem?_append_right (by omega)]; simp
theorem set_top {R : Rs} {o x : RO} {l : Rs} : (R ++ o :: l).set R.length x = R ++ x :: l := by simp
theorem set_top1 {R : Rs} {o p x : RO} {l : Rs} : (R ++ o :: p :: l).set (R.length + 1) x = R ++ o :: x :: l := by
  rw [List.set_append_right _ _ (by omega)]; simp
section
variable {N : En → Rs → Prop} {k : Ks} {t : Tag2 N k} {ρ : En} {r R l : Rs} {f g : Ex} {O : List Nat} {c i j : Nat} {fs : List D} {v : D}
theorem sv_setF : Sv (sSetF O c i f g ρ r) N k t = Wp ρ O (fun ρ' => Ev (g ρ' r) (fun v r1 => Ev (f ρ' r1) (fun o r2 => Sv (kSetF c i v o ρ r2) N k t) (fun c fs r1 => k.E c fs ρ r1) .mk) (fun c fs r1 => k.E c fs ρ r1) .mk) .mk := by
  unfold sSetF; rw [sv_evF]; unfold Wp; refine ev_congr (t' := .mk) fun v r1 => ?_; rw [sv_evF]; rfl
theorem sv_kSetF : Sv (kSetF c i v (.loc R.length) ρ (R ++ .obj j c fs :: l)) N k t = So (putI i v fs) (fun fs' => N ρ (R ++ .obj (j + 1) c fs' :: l)) .mk := by
  unfold kSetF
  simp only [get_top, if_true]
  cases putI i v fs with
  | none => rfl
  | some fs' => simp only [set_top]; rfl
theorem so_fldT {Q : D → Prop} {t : Tag2 Q Q} : So (fldD (R ++ .obj j c fs :: l) c i (.loc R.length)) Q t = So fs[i]? Q .mk := by
  unfold fldD insOf
  simp only [get_top, if_true]
  rfl
theorem so_lenT {Q : D → Prop} {t : Tag2 Q Q} {o : RO} {kds : List (Key × D)} : So (cLen (R ++ o :: .dic kds :: l) [.loc (R.length + 1)]) Q t = Q (.int kds.length) := by
  unfold cLen
  simp only [get_top1]
  rfl
theorem grd_T {Q : List (Key × D) → Prop} {t : Tag2 Q Q} {o : RO} {kds : List (Key × D)} : GetRD (R ++ o :: .dic kds :: l) (R.length + 1) Q t = Q kds := by
  unfold GetRD
  rw [get_top1]
theorem sro_T {Q : Rs → Prop} {t : Tag2 Q Q} {o p x : RO} : SetRo (R ++ o :: p :: l) (R.length + 1) x Q t = Q (R ++ o :: x :: l) := by
  unfold SetRo
  rw [set_top1]
theorem dget_T {o : RO} {kds : List (Key × D)} {x : Str} {Q : Option D → Prop} {t : Tag2 Q Q} : So (dGet (R ++ o :: .dic kds :: l) (.loc (R.length + 1)) (.str x)) Q t = Q (getK kds (.inr x)) := by
  unfold dGet dicR
  dsimp only
  rw [get_top1]
  rfl
end
local macro_rules | `(tactic| trivial) => `(tactic| (try simp -dsimp only [↓ML.ev_ok, ↓ML.ev_exc, ↓ML.ev_bind, ↓ML.ev_var, ↓ML.ev_c, ↓ML.ev_op, ↓ML.ev_ix, ↓ML.ev_nop, ↓ML.ev_part, ↓ML.ev_sl, ↓ML.ev_tr, ↓ML.ev_b, ↓ML.ev_ch, ↓ML.ev_v, ↓ML.ev_and, ↓ML.ev_or, ↓ML.ev_not, ↓ML.ev_if, ↓ML.ev_tif, ↓ML.ev_andv, ↓ML.ev_orv, ↓ML.ev_notv, ↓ML.ev_neg, ↓ML.ev_nil, ↓ML.ev_cons, ↓ML.ev_tup, ↓ML.ev_lst, ↓ML.ev_lst', ↓ML.ev_cb, ↓ML.ev_call, ↓ML.ev_calld, ↓ML.ev_l, ↓ML.ev_d, ↓ML.ev_listn, ↓ML.ev_items, ↓ML.ev_rng1, ↓ML.ev_rng2, ↓ML.ev_lc, ↓ML.ev_lc2, ↓ML.ev_dget, ↓ML.ev_dget1, ↓ML.ev_dget2, ↓ML.ev_din, ↓ML.ev_kd, ↓ML.ev_dnew, ↓ML.ev_yes, ↓ML.ev_dcopy, ↓ML.ev_ps0, ↓ML.ev_ps1, ↓ML.ev_disp, ↓ML.ev_res, ↓ML.ev_resd, ↓ML.ev_fld, ↓ML.ev_con, ↓ML.ev_meth, ↓ML.ev_prop, ↓ML.ev_newf, ↓ML.ev_newr, ↓ML.ev_calln, ↓ML.ev_callnd, ↓ML.ev_sort, ↓ML.ev_join, ↓ML.ev_dc, ↓ML.sv_next, ↓ML.sv_brk, ↓ML.sv_cont, ↓ML.sv_ret, ↓ML.sv_exc, ↓ML.sv_seq, ↓ML.sv_nx, ↓ML.sv_bk, ↓ML.sv_ct, ↓ML.sv_evF, ↓ML.sv_evI, ↓ML.sv_store, ↓ML.sv_asg, ↓ML.sv_asgI, ↓ML.sv_own, ↓ML.sv_ownD, ↓ML.sv_asgN, ↓ML.sv_asgD, ↓ML.sv_asgNI, ↓ML.sv_exp, ↓ML.sv_sret, ↓ML.sv_sretI, ↓ML.sv_sretN, ↓ML.sv_sretD, ↓ML.sv_sretNI, ↓ML.sv_sretO, ↓ML.sv_sretOD, ↓ML.sv_retn, ↓ML.sv_move, ↓ML.sv_give, ↓ML.sv_isL, ↓ML.sv_isD, ↓ML.sv_kApp, ↓ML.sv_app, ↓ML.sv_appI, ↓ML.sv_kIns, ↓ML.sv_ins, ↓ML.sv_insI, ↓ML.sv_extN, ↓ML.sv_extI, ↓ML.sv_ext, ↓ML.sv_if, ↓ML.sv_ifF, ↓ML.sv_for, ↓ML.sv_forR1I, ↓ML.sv_aug, ↓ML.sv_par, ↓ML.sv_raise, ↓ML.sv_setOI, ↓ML.sv_tryAs, ↓ML.sv_tryAsE, ↓ML.sv_suIf, ↓ML.sv_frz, ↓ML.sv_pop, ↓ML.sv_kSetO, ↓ML.sv_setO, ↓ML.sv_kDPut, ↓ML.sv_dput, ↓ML.bif_t, ↓ML.bif_f, ↓ML.bif_nt, ↓ML.bif_nf, ↓ML.bif_sn, ↓ML.bif_ss, ↓ML.so_some, ↓ML.sop_some, ↓ML.ck_true, ↓ML.ck_tt, ↓ML.ck_eq, ↓ML.ck_len0, ↓ML.ck_len1, ↓ML.ck_len2, ↓ML.ck_len3, ↓ML.ck_len4, ↓ML.ck_len5, ↓ML.ck_len6, ↓ML.ck_len7, ↓ML.ck_len8, ↓ML.ck_len9, ↓ML.ck_len10, ↓ML.ck_len11, ↓ML.ck_len12, ↓ML.ck_len13, ↓ML.ck_len14, ↓ML.ck_len15, ↓ML.ck_len16, ↓ML.ck_lt0, ↓ML.ck_15_0, ↓ML.ck_lt1, ↓ML.ck_15_1, ↓ML.ck_lt2, ↓ML.ck_15_2, ↓ML.ck_lt3, ↓ML.ck_15_3, ↓ML.ck_lt4, ↓ML.ck_15_4, ↓ML.ck_lt5, ↓ML.ck_15_5, ↓ML.ck_lt6, ↓ML.ck_15_6, ↓ML.ck_lt7, ↓ML.ck_15_7, ↓ML.ck_lt8, ↓ML.ck_15_8, ↓ML.ck_lt9, ↓ML.ck_15_9, ↓ML.ck_lt10, ↓ML.ck_15_10, ↓ML.ck_lt11, ↓ML.ck_15_11, ↓ML.get_0, ↓ML.set_0, ↓ML.setn_0, ↓ML.get_1, ↓ML.set_1, ↓ML.setn_1, ↓ML.get_2, ↓ML.set_2, ↓ML.setn_2, ↓ML.get_3, ↓ML.set_3, ↓ML.setn_3, ↓ML.get_4, ↓ML.set_4, ↓ML.setn_4, ↓ML.get_5, ↓ML.set_5, ↓ML.setn_5, ↓ML.get_6, ↓ML.set_6, ↓ML.setn_6, ↓ML.get_7, ↓ML.set_7, ↓ML.setn_7, ↓ML.get_8, ↓ML.set_8, ↓ML.setn_8, ↓ML.get_9, ↓ML.set_9, ↓ML.setn_9, ↓ML.get_10, ↓ML.set_10, ↓ML.setn_10, ↓ML.get_11, ↓ML.set_11, ↓ML.setn_11, ↓ML.get_12, ↓ML.set_12, ↓ML.setn_12, ↓ML.get_13, ↓ML.set_13, ↓ML.setn_13, ↓ML.get_14, ↓ML.set_14, ↓ML.setn_14, ↓ML.get_15, ↓ML.set_15, ↓ML.setn_15, ↓ML.get_16, ↓ML.set_16, ↓ML.setn_16, ↓ML.get_17, ↓ML.set_17, ↓ML.setn_17, ↓ML.get_18, ↓ML.set_18, ↓ML.setn_18, ↓ML.get_19, ↓ML.set_19, ↓ML.setn_19, ↓ML.get_20, ↓ML.set_20, ↓ML.setn_20, ↓ML.get_21, ↓ML.set_21, ↓ML.setn_21, ↓ML.get_22, ↓ML.set_22, ↓ML.setn_22, ↓ML.get_23, ↓ML.set_23, ↓ML.setn_23, ↓ML.get_24, ↓ML.set_24, ↓ML.setn_24, ↓ML.get_25, ↓ML.set_25, ↓ML.setn_25, ↓ML.get_26, ↓ML.set_26, ↓ML.setn_26, ↓ML.get_27, ↓ML.set_27, ↓ML.setn_27, ↓ML.get_28, ↓ML.set_28, ↓ML.setn_28, ↓ML.get_29, ↓ML.set_29, ↓ML.setn_29, ↓ML.get_30, ↓ML.set_30, ↓ML.setn_30, ↓ML.get_31, ↓ML.set_31, ↓ML.setn_31, ↓ML.get_32, ↓ML.set_32, ↓ML.setn_32, ↓ML.get_33, ↓ML.set_33, ↓ML.setn_33, ↓ML.get_34, ↓ML.set_34, ↓ML.setn_34, ↓ML.get_35, ↓ML.set_35, ↓ML.setn_35, ↓ML.get_36, ↓ML.set_36, ↓ML.setn_36, ↓ML.get_37, ↓ML.set_37, ↓ML.setn_37, ↓ML.get_38, ↓ML.set_38, ↓ML.setn_38, ↓ML.get_39, ↓ML.set_39, ↓ML.setn_39, ↓ML.get_40, ↓ML.set_40, ↓ML.setn_40, ↓ML.get_41, ↓ML.set_41, ↓ML.setn_41, ↓ML.get_42, ↓ML.set_42, ↓ML.setn_42, ↓ML.get_43, ↓ML.set_43, ↓ML.setn_43, ↓ML.get_44, ↓ML.set_44, ↓ML.setn_44, ↓ML.get_45, ↓ML.set_45, ↓ML.setn_45, ↓ML.get_46, ↓ML.set_46, ↓ML.setn_46, ↓ML.get_47, ↓ML.set_47, ↓ML.setn_47, ↓ML.wp_nil, ↓ML.wp_cons, ↓ML.ver_self, ↓ML.tgt_nm, ↓ML.tgt_tup1, ↓ML.tgt_lst1, ↓ML.tgt_tup2, ↓ML.tgt_lst2, ↓ML.tgt_tup3, ↓ML.tgt_lst3, ↓ML.tgt_tup4, ↓ML.tgt_lst4, ↓ML.tgt_tup5, ↓ML.tgt_lst5, ↓ML.tgt_tup6, ↓ML.tgt_lst6, ↓ML.tgts_nil, ↓ML.tgts_cons, ↓ML.as_l, ↓ML.as_d, ↓ML.as_b, ↓ML.as_i, ↓ML.as_s, ↓ML.as_1, ↓ML.as_2, ↓ML.imm_int, ↓ML.imm_str, ↓ML.imm_bl, ↓ML.imm_non, ↓ML.imm_loc, ↓ML.imm_tup, ↓ML.imms_nil, ↓ML.imms_cons, ↓ML.so_add, ↓ML.so_sub, ↓ML.so_lt, ↓ML.so_le, ↓ML.so_gt, ↓ML.so_ge, ↓ML.so_if, ↓ML.so_mul, ↓ML.so_mod, ↓ML.so_div, ↓ML.so_addT, ↓ML.so_addL, ↓ML.so_addS, ↓ML.so_ixL, ↓ML.so_ixT, ↓ML.so_slL, ↓ML.so_slT, ↓ML.so_len1, ↓ML.so_len2, ↓ML.so_len3, ↓ML.so_len4, ↓ML.so_len5, ↓ML.so_abs, ↓ML.so_int, ↓ML.so_intb, ↓ML.so_list1, ↓ML.so_list2, ↓ML.so_tuple1, ↓ML.so_tuple2, ↓ML.so_max2, ↓ML.so_min2, ↓ML.so_str, ↓ML.so_isL, ↓ML.so_isT, ↓ML.so_isS, ↓ML.so_isST, ↓ML.so_isTS, ↓ML.so_isI, ↓ML.so_isIB, ↓ML.so_isN, ↓ML.so_isnN, ↓ML.so_isb, ↓ML.so_isnb, ↓ML.so_listn1, ↓ML.so_listn2, ↓ML.so_it1, ↓ML.so_it2, ↓ML.tr_b, ↓ML.tr_i, ↓ML.tr_l, ↓ML.tr_t, ↓ML.tr_n, ↓ML.keyof_s, ↓ML.keyof_i, ↓ML.fld_ins, ↓ML.ins_ins, ↓ML.soix_0, ↓ML.soix_1, ↓ML.soix_2, ↓ML.soix_3, ↓ML.soix_4, ↓ML.soix_5, ↓ML.soix_6, ↓ML.soix_7, ↓ML.as_loc, ↓ML.ev_appR, ↓ML.sv_setR, ↓ML.sv_kSetR, ↓ML.sv_dsetR, ↓ML.sv_kDSetR, ↓ML.so_ixR, ↓ML.so_ixs, ↓ML.at_0, ↓ML.at_1, ↓ML.at_2, ↓ML.at_3, ↓ML.grl_0, ↓ML.grd_0, ↓ML.lenl_0, ↓ML.lend_0, ↓ML.sro_0, ↓ML.grl_1, ↓ML.grd_1, ↓ML.lenl_1, ↓ML.lend_1, ↓ML.sro_1, ↓ML.grl_2, ↓ML.grd_2, ↓ML.lenl_2, ↓ML.lend_2, ↓ML.sro_2, ↓ML.grl_3, ↓ML.grd_3, ↓ML.lenl_3, ↓ML.lend_3, ↓ML.sro_3, ↓ML.sv_for0, ↓ML.sv_for1, ↓sv_setF, ↓sv_kSetF, ↓so_fldT, ↓so_lenT, ↓grd_T, ↓sro_T, ↓dget_T, k_MOST_ARGUMENTS, List.length_map]))
theorem lc_map {X : Type} {enc : X → D} {tg : Tg} {f : Ex} {ρ : En} {r : Rs} (g : X → D) {xs : List X} (h : ∀ x ∈ xs, Tgt tg (enc x) ρ (fun ρ1 => Ev (f ρ1 r) (fun d r2 => d = g x ∧ r2 = r) (fun _ _ _ => False) .mk) .mk) :
    lcGo tg xYes f ρ (xs.map enc) r = some (xs.map g, r) := by
  have := lc_pure (enc := enc) (tg := tg) (tt := xYes) (f := f) (ρ := ρ) (r := r) (fun _ => true) g (xs := xs) fun x m => tgt_mono (h x m) fun ρ1 q => ⟨rfl, rfl, fun _ => q⟩
  rw [this, List.filter_eq_self.mpr fun _ _ => rfl]
/-- a name with its arity -/
abbrev NA := Str × Int
def dP (p : NA) : D := .tup [.str p.1, .int p.2]
def kP (p : NA) : Key × D := (.inr p.1, .int p.2)
theorem imm_dP (p : NA) : (dP p).imm = true := rfl
theorem getK_kP {x : Str} : ∀ {ps : List NA}, x ∉ ps.map Prod.fst → getK (ps.map kP) (.inr x) = none
  | [], _ => rfl
  | p :: ps, h => by
    rw [List.map_cons, List.mem_cons, not_or] at h
    have ih := getK_kP (ps := ps) h.2
    unfold getK at ih ⊢
    rw [List.map_cons, List.find?_cons_of_neg]
    · exact ih
    · show ¬ decide ((Sum.inr p.1 : Key) = Sum.inr x) = true
      rw [decide_eq_true_eq]
      intro z
      exact h.1 (Sum.inr.inj z).symm
theorem setK_kP {p : NA} {ps : List NA} (h : p.1 ∉ ps.map Prod.fst) : setK (ps.map kP) (.inr p.1) (.int p.2) = (ps ++ [p]).map kP := by
  unfold setK
  rw [if_neg, List.map_append]
  · rfl
  · intro z
    rw [List.any_map, List.any_eq_true] at z
    obtain ⟨q, hq, e⟩ := z
    have e : decide ((Sum.inr q.1 : Key) = Sum.inr p.1) = true := e
    rw [decide_eq_true_eq] at e
    exact h (List.mem_map.mpr ⟨q, hq, Sum.inr.inj e⟩)
/-- a signature that is made without an error -/
structure SigOk (C : Nat → List D → Rs → Out D) (fns rels : List NA) : Prop where
  small : ∀ p ∈ fns, ∀ r, C 313 [.str p.1] r = .ok (.bl true) r
  cap : ∀ p ∈ rels, ∀ r, C 312 [.str p.1] r = .ok (.bl true) r
  ar : ∀ p ∈ fns ++ rels, 0 ≤ p.2 ∧ p.2 ≤ 3
  nd : ((fns ++ rels).map Prod.fst).Nodup
  len : (fns ++ rels).length ≤ 1000
theorem init_ev {fuel : Nat} {C : Nat → List D → Rs → Out D} {fns rels : List NA} {A B : D} (hA : items A = some (fns.map dP)) (hB : items B = some (rels.map dP)) (h : SigOk C fns rels) (R : Rs) {Q : D → Rs → Prop} {E : Nat → List (Str × Int) → Rs → Prop} {t : Tag2 Q E}
    (H : Q .non (R ++ [.obj 3 13 [.tup (fns.map dP), .tup (rels.map dP), .loc (R.length + 1)], .dic ((fns ++ rels).map kP)])) :
    Ev (runF 6 (b_books_Signature___init__ fuel C) [.loc R.length, A, B] (R ++ [.obj 0 13 []])) Q E t := by
  have hl := h.len
  rw [List.length_append] at hl
  have hlim : lim = 1000000 := rfl
  rw [ev_run]
  unfold b_books_Signature___init__
  show Sv (sSeq _ _ [some (.loc R.length), some A, some B, none, none, none] _) _ _ _
  trivial
  refine so_i hA ?_
  trivial
  refine sop_i (lc_map (enc := dP) dP (xs := fns) ?_) ?_
  · rintro ⟨x, a⟩ _
    unfold dP
    trivial
    exact ⟨trivial, trivial⟩
  trivial
  refine ck_i (by omega) ?_
  trivial
  refine so_i (a := [_]) rfl ?_
  trivial
  refine so_i hB ?_
  trivial
  refine sop_i (lc_map (enc := dP) dP (xs := rels) ?_) ?_
  · rintro ⟨x, a⟩ _
    unfold dP
    trivial
    exact ⟨trivial, trivial⟩
  trivial
  refine ck_i (by omega) ?_
  trivial
  refine so_i (a := [_, _]) rfl ?_
  trivial
  refine ck_i rfl ?_
  trivial
  rw [len1, app2]
  trivial
  refine so_i (a := [_, _, _]) rfl ?_
  trivial
  refine ck_i (by omega) ?_
  trivial
  rw [← List.map_append]
  refine sv_forX (enc := dP) (fns ++ rels) (fun done ρ r => ∃ y3 y4 y5, ρ = [some (.loc R.length), some A, some B, y3, y4, y5] ∧ r = R ++ [.obj 3 13 [.tup (fns.map dP), .tup (rels.map dP), .loc (R.length + 1)], .dic (done.map kP)]) ⟨_, _, _, rfl, rfl⟩ ?_ ?_
  · rintro done ⟨x, a⟩ rest e ρ r ⟨y3, y4, y5, rfl, rfl⟩
    have hm : (x, a) ∈ fns ++ rels := by rw [e]; simp
    have hx : x ∉ done.map Prod.fst := by
      have nd := h.nd
      rw [e, List.map_append, List.map_cons] at nd
      intro z
      exact (List.nodup_append.mp nd).2.2 _ z _ List.mem_cons_self rfl
    obtain ⟨a0, a3⟩ : 0 ≤ a ∧ a ≤ 3 := h.ar _ hm
    have hdl : done.length < 1000 := by
      have := congrArg List.length e
      simp at this
      omega
    have hc : C (if done.length < fns.length then 313 else 312) [.str x] (R ++ [.obj 3 13 [.tup (fns.map dP), .tup (rels.map dP), .loc (R.length + 1)], .dic (done.map kP)]) = .ok (.bl true) (R ++ [.obj 3 13 [.tup (fns.map dP), .tup (rels.map dP), .loc (R.length + 1)], .dic (done.map kP)]) := by
      have hg : (fns ++ rels)[done.length]? = some (x, a) := by rw [e]; simp
      by_cases c : done.length < fns.length
      · rw [if_pos c]
        rw [List.getElem?_append_left c] at hg
        exact h.small _ (List.mem_iff_getElem?.mpr ⟨_, hg⟩) _
      · rw [if_neg c]
        rw [List.getElem?_append_right (by omega)] at hg
        exact h.cap _ (List.mem_iff_getElem?.mpr ⟨_, hg⟩) _
    show Tgt _ (.tup [.str x, .int a]) _ _ _
    trivial
    rw [getK_kP hx]
    trivial
    trivial
    refine bif_d (fun c => ?_) (fun c => ?_)
    · rw [if_pos (by omega)] at hc
      trivial
      refine ev_i hc ?_
      trivial
      rw [decide_eq_true a0]
      trivial
      rw [decide_eq_true a3]
      trivial
      refine ck_i (by rw [Bool.and_eq_true, decide_eq_true_eq]; exact ⟨rfl, by omega⟩) ?_
      trivial
      refine ⟨_, _, _, rfl, ?_⟩
      rw [setK_kP (p := (x, a)) hx]
    · rw [if_neg (by omega)] at hc
      trivial
      refine ev_i hc ?_
      trivial
      rw [decide_eq_true a0]
      trivial
      rw [decide_eq_true a3]
      trivial
      refine ck_i (by rw [Bool.and_eq_true, decide_eq_true_eq]; exact ⟨rfl, by omega⟩) ?_
      trivial
      refine ⟨_, _, _, rfl, ?_⟩
      rw [setK_kP (p := (x, a)) hx]
  · rintro ρ r ⟨y3, y4, y5, rfl, rfl⟩
    exact H
/-- the things below -/
def Blw (R : Rs) : Prop := (R.all (·.blw R.length)) = true
theorem blws_dP (L : Nat) : ∀ ps : List NA, D.blws L (ps.map dP) = true
  | [] => rfl
  | p :: ps => by rw [List.map_cons, D.blws, blws_dP L ps]; rfl
theorem blwk_kP (L : Nat) : ∀ ps : List NA, D.blwk L (ps.map kP) = true
  | [] => rfl
  | p :: ps => by rw [List.map_cons]; show (D.blw L (.int p.2) && D.blwk L (ps.map kP)) = true; rw [blwk_kP L ps]; rfl
/-- a signature, as a value -/
def sigD (fns rels : List NA) : D := .ins 13 [.tup (fns.map dP), .tup (rels.map dP), .dic ((fns ++ rels).map kP)]
theorem newSig_ev {fuel : Nat} {LW : (Nat → List D → Rs → Out D) → Nat → List D → Rs → Out D} {n : Nat} {fns rels : List NA} {A B : D} (hA : items A = some (fns.map dP)) (hB : items B = some (rels.map dP)) (h : SigOk (prP fuel LW n) fns rels) {R : Rs} (hR : Blw R) {Q : D → Rs → Prop} {E : Nat → List (Str × Int) → Rs → Prop} {t : Tag2 Q E}
    (H : Q (sigD fns rels) R) : Ev (kNewF R.length (prP fuel LW (n + 1) 126 [.loc R.length, A, B] (R ++ [.obj 0 13 []]))) Q E t := by
  rw [e_books_Signature___init__]
  obtain ⟨d, r, e, hd, hr⟩ := ev_ex (init_ev (fuel := fuel) hA hB h R (Q := fun d r => d = .non ∧ r = R ++ [.obj 3 13 [.tup (fns.map dP), .tup (rels.map dP), .loc (R.length + 1)], .dic ((fns ++ rels).map kP)]) ⟨rfl, rfl⟩)
  rw [e]
  subst hd hr
  refine ev_i ?_ H
  have tk : (R ++ [RO.obj 3 13 [.tup (fns.map dP), .tup (rels.map dP), .loc (R.length + 1)], RO.dic ((fns ++ rels).map kP)]).take R.length = R := by simp
  show frzO _ _ = _
  unfold frzO popOk
  have hR' : (R.all fun x => x.blw R.length) = true := hR
  rw [tk, if_pos hR', get_top]
  simp only [frzs, frzD, D.blw, blws_dP, if_true, Option.bind_some, Option.map_some]
  rw [if_neg (by omega), get_top1]
  simp only [blwk_kP, if_true, Option.bind_some, Option.map_some]
  rfl
section
variable {fns rels : List NA} {r : Rs} {Q : D → Prop} {t : Tag2 Q Q}
theorem ins_sig {Q : Nat × List D → Prop} {t : Tag2 Q Q} : So (insOf r (sigD fns rels)) Q t = Q (13, [.tup (fns.map dP), .tup (rels.map dP), .dic ((fns ++ rels).map kP)]) := rfl
theorem fld_sig0 : So (fldD r 13 0 (sigD fns rels)) Q t = Q (.tup (fns.map dP)) := rfl
theorem fld_sig1 : So (fldD r 13 1 (sigD fns rels)) Q t = Q (.tup (rels.map dP)) := rfl
theorem fld_sig2 : So (fldD r 13 2 (sigD fns rels)) Q t = Q (.dic ((fns ++ rels).map kP)) := rfl
end
end MS

/-! MTerm: terms as data, and what the defs of terms.py answer. -/
local macro_rules | `(tactic| trivial) => `(tactic| (try simp -dsimp only [↓ML.ev_ok, ↓ML.ev_exc, ↓ML.ev_bind, ↓ML.ev_var, ↓ML.ev_c, ↓ML.ev_op, ↓ML.ev_ix, ↓ML.ev_nop, ↓ML.ev_part, ↓ML.ev_sl, ↓ML.ev_tr, ↓ML.ev_b, ↓ML.ev_ch, ↓ML.ev_v, ↓ML.ev_and, ↓ML.ev_or, ↓ML.ev_not, ↓ML.ev_if, ↓ML.ev_tif, ↓ML.ev_andv, ↓ML.ev_orv, ↓ML.ev_notv, ↓ML.ev_neg, ↓ML.ev_nil, ↓ML.ev_cons, ↓ML.ev_tup, ↓ML.ev_lst, ↓ML.ev_lst', ↓ML.ev_cb, ↓ML.ev_call, ↓ML.ev_calld, ↓ML.ev_l, ↓ML.ev_d, ↓ML.ev_listn, ↓ML.ev_items, ↓ML.ev_rng1, ↓ML.ev_rng2, ↓ML.ev_lc, ↓ML.ev_lc2, ↓ML.ev_dget, ↓ML.ev_dget1, ↓ML.ev_dget2, ↓ML.ev_din, ↓ML.ev_kd, ↓ML.ev_dnew, ↓ML.ev_yes, ↓ML.ev_dcopy, ↓ML.ev_ps0, ↓ML.ev_ps1, ↓ML.ev_disp, ↓ML.ev_res, ↓ML.ev_resd, ↓ML.ev_fld, ↓ML.ev_con, ↓ML.ev_meth, ↓ML.ev_prop, ↓ML.ev_newf, ↓ML.ev_newr, ↓ML.ev_calln, ↓ML.ev_callnd, ↓ML.ev_sort, ↓ML.ev_join, ↓ML.ev_dc, ↓ML.sv_next, ↓ML.sv_brk, ↓ML.sv_cont, ↓ML.sv_ret, ↓ML.sv_exc, ↓ML.sv_seq, ↓ML.sv_nx, ↓ML.sv_bk, ↓ML.sv_ct, ↓ML.sv_evF, ↓ML.sv_evI, ↓ML.sv_store, ↓ML.sv_asg, ↓ML.sv_asgI, ↓ML.sv_own, ↓ML.sv_ownD, ↓ML.sv_asgN, ↓ML.sv_asgD, ↓ML.sv_asgNI, ↓ML.sv_exp, ↓ML.sv_sret, ↓ML.sv_sretI, ↓ML.sv_sretN, ↓ML.sv_sretD, ↓ML.sv_sretNI, ↓ML.sv_sretO, ↓ML.sv_sretOD, ↓ML.sv_retn, ↓ML.sv_move, ↓ML.sv_give, ↓ML.sv_isL, ↓ML.sv_isD, ↓ML.sv_kApp, ↓ML.sv_app, ↓ML.sv_appI, ↓ML.sv_kIns, ↓ML.sv_ins, ↓ML.sv_insI, ↓ML.sv_extN, ↓ML.sv_extI, ↓ML.sv_ext, ↓ML.sv_if, ↓ML.sv_ifF, ↓ML.sv_for, ↓ML.sv_forR1I, ↓ML.sv_aug, ↓ML.sv_par, ↓ML.sv_raise, ↓ML.sv_setOI, ↓ML.sv_tryAs, ↓ML.sv_tryAsE, ↓ML.sv_suIf, ↓ML.sv_frz, ↓ML.sv_pop, ↓ML.sv_kSetO, ↓ML.sv_setO, ↓ML.sv_kDPut, ↓ML.sv_dput, ↓ML.bif_t, ↓ML.bif_f, ↓ML.bif_nt, ↓ML.bif_nf, ↓ML.bif_sn, ↓ML.bif_ss, ↓ML.so_some, ↓ML.sop_some, ↓ML.ck_true, ↓ML.ck_tt, ↓ML.ck_eq, ↓ML.ck_len0, ↓ML.ck_len1, ↓ML.ck_len2, ↓ML.ck_len3, ↓ML.ck_len4, ↓ML.ck_len5, ↓ML.ck_len6, ↓ML.ck_len7, ↓ML.ck_len8, ↓ML.ck_len9, ↓ML.ck_len10, ↓ML.ck_len11, ↓ML.ck_len12, ↓ML.ck_len13, ↓ML.ck_len14, ↓ML.ck_len15, ↓ML.ck_len16, ↓ML.ck_lt0, ↓ML.ck_15_0, ↓ML.ck_lt1, ↓ML.ck_15_1, ↓ML.ck_lt2, ↓ML.ck_15_2, ↓ML.ck_lt3, ↓ML.ck_15_3, ↓ML.ck_lt4, ↓ML.ck_15_4, ↓ML.ck_lt5, ↓ML.ck_15_5, ↓ML.ck_lt6, ↓ML.ck_15_6, ↓ML.ck_lt7, ↓ML.ck_15_7, ↓ML.ck_lt8, ↓ML.ck_15_8, ↓ML.ck_lt9, ↓ML.ck_15_9, ↓ML.ck_lt10, ↓ML.ck_15_10, ↓ML.ck_lt11, ↓ML.ck_15_11, ↓ML.get_0, ↓ML.set_0, ↓ML.setn_0, ↓ML.get_1, ↓ML.set_1, ↓ML.setn_1, ↓ML.get_2, ↓ML.set_2, ↓ML.setn_2, ↓ML.get_3, ↓ML.set_3, ↓ML.setn_3, ↓ML.get_4, ↓ML.set_4, ↓ML.setn_4, ↓ML.get_5, ↓ML.set_5, ↓ML.setn_5, ↓ML.get_6, ↓ML.set_6, ↓ML.setn_6, ↓ML.get_7, ↓ML.set_7, ↓ML.setn_7, ↓ML.get_8, ↓ML.set_8, ↓ML.setn_8, ↓ML.get_9, ↓ML.set_9, ↓ML.setn_9, ↓ML.get_10, ↓ML.set_10, ↓ML.setn_10, ↓ML.get_11, ↓ML.set_11, ↓ML.setn_11, ↓ML.get_12, ↓ML.set_12, ↓ML.setn_12, ↓ML.get_13, ↓ML.set_13, ↓ML.setn_13, ↓ML.get_14, ↓ML.set_14, ↓ML.setn_14, ↓ML.get_15, ↓ML.set_15, ↓ML.setn_15, ↓ML.get_16, ↓ML.set_16, ↓ML.setn_16, ↓ML.get_17, ↓ML.set_17, ↓ML.setn_17, ↓ML.get_18, ↓ML.set_18, ↓ML.setn_18, ↓ML.get_19, ↓ML.set_19, ↓ML.setn_19, ↓ML.get_20, ↓ML.set_20, ↓ML.setn_20, ↓ML.get_21, ↓ML.set_21, ↓ML.setn_21, ↓ML.get_22, ↓ML.set_22, ↓ML.setn_22, ↓ML.get_23, ↓ML.set_23, ↓ML.setn_23, ↓ML.get_24, ↓ML.set_24, ↓ML.setn_24, ↓ML.get_25, ↓ML.set_25, ↓ML.setn_25, ↓ML.get_26, ↓ML.set_26, ↓ML.setn_26, ↓ML.get_27, ↓ML.set_27, ↓ML.setn_27, ↓ML.get_28, ↓ML.set_28, ↓ML.setn_28, ↓ML.get_29, ↓ML.set_29, ↓ML.setn_29, ↓ML.get_30, ↓ML.set_30, ↓ML.setn_30, ↓ML.get_31, ↓ML.set_31, ↓ML.setn_31, ↓ML.get_32, ↓ML.set_32, ↓ML.setn_32, ↓ML.get_33, ↓ML.set_33, ↓ML.setn_33, ↓ML.get_34, ↓ML.set_34, ↓ML.setn_34, ↓ML.get_35, ↓ML.set_35, ↓ML.setn_35, ↓ML.get_36, ↓ML.set_36, ↓ML.setn_36, ↓ML.get_37, ↓ML.set_37, ↓ML.setn_37, ↓ML.get_38, ↓ML.set_38, ↓ML.setn_38, ↓ML.get_39, ↓ML.set_39, ↓ML.setn_39, ↓ML.get_40, ↓ML.set_40, ↓ML.setn_40, ↓ML.get_41, ↓ML.set_41, ↓ML.setn_41, ↓ML.get_42, ↓ML.set_42, ↓ML.setn_42, ↓ML.get_43, ↓ML.set_43, ↓ML.setn_43, ↓ML.get_44, ↓ML.set_44, ↓ML.setn_44, ↓ML.get_45, ↓ML.set_45, ↓ML.setn_45, ↓ML.get_46, ↓ML.set_46, ↓ML.setn_46, ↓ML.get_47, ↓ML.set_47, ↓ML.setn_47, ↓ML.wp_nil, ↓ML.wp_cons, ↓ML.ver_self, ↓ML.tgt_nm, ↓ML.tgt_tup1, ↓ML.tgt_lst1, ↓ML.tgt_tup2, ↓ML.tgt_lst2, ↓ML.tgt_tup3, ↓ML.tgt_lst3, ↓ML.tgt_tup4, ↓ML.tgt_lst4, ↓ML.tgt_tup5, ↓ML.tgt_lst5, ↓ML.tgt_tup6, ↓ML.tgt_lst6, ↓ML.tgts_nil, ↓ML.tgts_cons, ↓ML.as_l, ↓ML.as_d, ↓ML.as_b, ↓ML.as_i, ↓ML.as_s, ↓ML.as_1, ↓ML.as_2, ↓ML.imm_int, ↓ML.imm_str, ↓ML.imm_bl, ↓ML.imm_non, ↓ML.imm_loc, ↓ML.imm_tup, ↓ML.imms_nil, ↓ML.imms_cons, ↓ML.so_add, ↓ML.so_sub, ↓ML.so_lt, ↓ML.so_le, ↓ML.so_gt, ↓ML.so_ge, ↓ML.so_if, ↓ML.so_mul, ↓ML.so_mod, ↓ML.so_div, ↓ML.so_addT, ↓ML.so_addL, ↓ML.so_addS, ↓ML.so_ixL, ↓ML.so_ixT, ↓ML.so_slL, ↓ML.so_slT, ↓ML.so_len1, ↓ML.so_len2, ↓ML.so_len3, ↓ML.so_len4, ↓ML.so_len5, ↓ML.so_abs, ↓ML.so_int, ↓ML.so_intb, ↓ML.so_list1, ↓ML.so_list2, ↓ML.so_tuple1, ↓ML.so_tuple2, ↓ML.so_max2, ↓ML.so_min2, ↓ML.so_str, ↓ML.so_isL, ↓ML.so_isT, ↓ML.so_isS, ↓ML.so_isST, ↓ML.so_isTS, ↓ML.so_isI, ↓ML.so_isIB, ↓ML.so_isN, ↓ML.so_isnN, ↓ML.so_isb, ↓ML.so_isnb, ↓ML.so_listn1, ↓ML.so_listn2, ↓ML.so_it1, ↓ML.so_it2, ↓ML.tr_b, ↓ML.tr_i, ↓ML.tr_l, ↓ML.tr_t, ↓ML.tr_n, ↓ML.keyof_s, ↓ML.keyof_i, ↓ML.fld_ins, ↓ML.ins_ins, ↓ML.soix_0, ↓ML.soix_1, ↓ML.soix_2, ↓ML.soix_3, ↓ML.soix_4, ↓ML.soix_5, ↓ML.soix_6, ↓ML.soix_7, ↓ML.as_loc, ↓ML.ev_appR, ↓ML.sv_setR, ↓ML.sv_kSetR, ↓ML.sv_dsetR, ↓ML.sv_kDSetR, ↓ML.so_ixR, ↓ML.so_ixs, ↓ML.at_0, ↓ML.at_1, ↓ML.at_2, ↓ML.at_3, ↓ML.grl_0, ↓ML.grd_0, ↓ML.lenl_0, ↓ML.lend_0, ↓ML.sro_0, ↓ML.grl_1, ↓ML.grd_1, ↓ML.lenl_1, ↓ML.lend_1, ↓ML.sro_1, ↓ML.grl_2, ↓ML.grd_2, ↓ML.lenl_2, ↓ML.lend_2, ↓ML.sro_2, ↓ML.grl_3, ↓ML.grd_3, ↓ML.lenl_3, ↓ML.lend_3, ↓ML.sro_3, ↓ML.sv_for0, ↓ML.sv_for1]))
namespace MT
open PySem L2 DL ML Law MS
/-- a term, of depth at most n -/
inductive Tm : Nat → D → Prop
  | un {n : Nat} {x : Str} (h : PyData.strOk x = true) (l : x.length ≤ 100) : Tm n (.str x)
  | ap {n : Nat} {s : Str} {as : List D} (h : PyData.strOk s = true) (l : as.length ≤ 3) (q : ∀ a ∈ as, Tm n a) : Tm (n + 1) (.tup (.str s :: as))
theorem Tm.mono {n : Nat} {d : D} (h : Tm n d) : ∀ {m : Nat}, n ≤ m → Tm m d := by
  induction h with
  | un h l => exact fun _ => .un h l
  | ap h l q ih =>
    intro m hm
    cases m with
    | zero => omega
    | succ m => exact .ap h l fun a ha => ih a ha (by omega)
theorem Tm.plain {n : Nat} {d : D} (h : Tm n d) : pl n d = true := by
  induction h with
  | un h l => exact pl_str h
  | ap h l q ih =>
    exact pl_tup fun x hx => by
      rcases List.mem_cons.mp hx with e | e
      · subst e; exact pl_str h
      · exact ih x e
theorem Tm.imm {n : Nat} {d : D} (h : Tm n d) : d.imm = true := by
  induction h with
  | un h l => rfl
  | ap h l q ih =>
    rw [D.imm]
    exact imms_iff.mpr fun x hx => by
      rcases List.mem_cons.mp hx with e | e
      · subst e; rfl
      · exact ih x e
def nargs : D → List D
  | .tup (_ :: as) => as
  | _ => []
def isU : D → Bool
  | .str _ => true
  | _ => false
def rows (f : D → List (List Nat)) : Nat → List D → List (List Nat)
  | _, [] => []
  | i, a :: as => (f a).map (fun p => i :: p) ++ rows f (i + 1) as
def places : Nat → D → List (List Nat)
  | 0, _ => [[]]
  | n + 1, d => [] :: rows (places n) 0 (nargs d)
def part : D → List Nat → D
  | d, [] => d
  | d, i :: p => part ((nargs d).getD i .non) p
def put (q : D) : D → List Nat → D
  | _, [] => q
  | .tup (h :: as), i :: p => .tup (h :: as.set i (put q (as.getD i .non) p))
  | d, _ :: _ => d
def iD (i : Nat) : D := .int i
def plD (p : List Nat) : D := .tup (p.map iD)
/-- a place of the term -/
inductive Vd : D → List Nat → Prop
  | nil {d : D} : Vd d []
  | cons {s : Str} {as : List D} {i : Nat} {a : D} {p : List Nat} (h : as[i]? = some a) (v : Vd a p) : Vd (.tup (.str s :: as)) (i :: p)
theorem mem_rows {f : D → List (List Nat)} : ∀ {as : List D} {i : Nat} {p : List Nat}, p ∈ rows f i as → ∃ (j : Nat) (a : D) (q : List Nat), as[j]? = some a ∧ q ∈ f a ∧ p = (i + j) :: q
  | [], _, _, h => by cases h
  | a :: as, i, p, h => by
    rw [rows, List.mem_append] at h
    rcases h with h | h
    · obtain ⟨q, hq, rfl⟩ := List.mem_map.mp h
      exact ⟨0, a, q, rfl, hq, rfl⟩
    · obtain ⟨j, b, q, h1, h2, rfl⟩ := mem_rows h
      exact ⟨j + 1, b, q, h1, h2, by rw [show i + 1 + j = i + (j + 1) by omega]⟩
theorem rows_snoc {f : D → List (List Nat)} {a : D} : ∀ {as : List D} {i : Nat}, rows f i (as ++ [a]) = rows f i as ++ (f a).map (fun p => (i + as.length) :: p)
  | [], i => by simp [rows]
  | b :: as, i => by
    rw [List.cons_append, rows, rows_snoc, rows, List.append_assoc, List.length_cons, show i + 1 + as.length = i + (as.length + 1) by omega]
theorem rows_len {f : D → List (List Nat)} {B : Nat} : ∀ {as : List D} {i : Nat}, (∀ a ∈ as, (f a).length ≤ B) → (rows f i as).length ≤ as.length * B
  | [], _, _ => by simp [rows]
  | a :: as, i, h => by
    rw [rows, List.length_append, List.length_map, List.length_cons, Nat.succ_mul]
    have h1 := h a List.mem_cons_self
    have h2 := rows_len (as := as) (i := i + 1) fun b hb => h b (List.mem_cons_of_mem _ hb)
    omega
theorem places_str {x : Str} : ∀ n, places n (.str x) = [[]]
  | 0 => rfl
  | _ + 1 => rfl
theorem places_len : ∀ {n : Nat} {d : D}, Tm n d → (places n d).length ≤ 4 ^ n
  | 0, d, _ => by rw [places]; simp
  | n + 1, _, .un h l => by rw [places_str]; exact Nat.pow_pos (by decide)
  | n + 1, _, .ap (as := as) h l q => by
    have h1 : (rows (places n) 0 as).length ≤ as.length * 4 ^ n := rows_len fun a ha => places_len (q a ha)
    have h2 : as.length * 4 ^ n ≤ 3 * 4 ^ n := Nat.mul_le_mul_right _ l
    have h3 : 0 < 4 ^ n := Nat.pow_pos (by decide)
    rw [places, List.length_cons, Nat.pow_succ]
    show (rows (places n) 0 as).length + 1 ≤ _
    omega
theorem places_vd : ∀ {n : Nat} {d : D}, Tm n d → ∀ p ∈ places n d, Vd d p ∧ p.length ≤ n
  | 0, d, _, p, h => by rw [places, List.mem_singleton] at h; subst h; exact ⟨.nil, Nat.le_refl _⟩
  | n + 1, _, .un h l, p, hp => by rw [places_str, List.mem_singleton] at hp; subst hp; exact ⟨.nil, Nat.zero_le _⟩
  | n + 1, _, .ap (as := as) h l q, p, hp => by
    rw [places] at hp
    rcases List.mem_cons.mp hp with e | e
    · subst e; exact ⟨.nil, Nat.zero_le _⟩
    · obtain ⟨j, a, r, h1, h2, rfl⟩ := mem_rows e
      have ha : a ∈ as := List.mem_iff_getElem?.mpr ⟨j, h1⟩
      obtain ⟨h3, h4⟩ := places_vd (q a ha) r h2
      rw [Nat.zero_add]
      exact ⟨.cons h1 h3, by rw [List.length_cons]; omega⟩
theorem getD_of {as : List D} {i : Nat} {a x : D} (h : as[i]? = some a) : as.getD i x = a := by rw [List.getD_eq_getElem?_getD, h]; rfl
theorem part_cons {s : Str} {as : List D} {i : Nat} {a : D} {p : List Nat} (h : as[i]? = some a) : part (.tup (.str s :: as)) (i :: p) = part a p := by
  rw [part]; exact congrArg (fun z => part z p) (getD_of h)
theorem put_cons {q : D} {s : Str} {as : List D} {i : Nat} {a : D} {p : List Nat} (h : as[i]? = some a) : put q (.tup (.str s :: as)) (i :: p) = .tup (.str s :: as.set i (put q a p)) := by
  rw [put, getD_of h]
theorem part_tm {d : D} {p : List Nat} (v : Vd d p) : ∀ {n : Nat}, Tm n d → Tm n (part d p) := by
  induction v with
  | nil => intro n h; rw [part]; exact h
  | cons h v ih =>
    intro n t
    cases t with
    | ap h1 l q => rw [part_cons h]; exact (ih (q _ (List.mem_iff_getElem?.mpr ⟨_, h⟩))).mono (by omega)
theorem put_tm {d q : D} {p : List Nat} {m : Nat} (hq : Tm m q) (v : Vd d p) : ∀ {n : Nat}, Tm n d → Tm (n + m) (put q d p) := by
  induction v with
  | nil => intro n h; rw [put]; exact hq.mono (by omega)
  | cons h v ih =>
    intro n t
    cases t with
    | @ap n _ _ h1 l r =>
      rw [put_cons h, show n + 1 + m = n + m + 1 by omega]
      refine .ap h1 (by rw [List.length_set]; exact l) fun x hx => ?_
      rcases List.mem_or_eq_of_mem_set hx with e | e
      · exact (r x e).mono (by omega)
      · subst e; exact ih (r _ (List.mem_iff_getElem?.mpr ⟨_, h⟩))
theorem set_at {as : List D} {i : Nat} {a b : D} (h : as[i]? = some a) : (as.set i b)[i]? = some b := List.getElem?_set_self (List.getElem?_eq_some_iff.mp h).1
theorem put_vd {d q : D} {p : List Nat} (v : Vd d p) : Vd (put q d p) p := by
  induction v with
  | nil => exact .nil
  | cons h v ih => rw [put_cons h]; exact .cons (set_at h) ih
theorem put_part {d q : D} {p : List Nat} (v : Vd d p) : part (put q d p) p = q := by
  induction v with
  | nil => rw [put, part]
  | cons h v ih => rw [put_cons h, part_cons (set_at h), ih]
theorem put_put {d q : D} {p : List Nat} (v : Vd d p) : put (part d p) (put q d p) p = d := by
  induction v with
  | nil => rw [put, part]
  | cons h v ih =>
    rw [part_cons h, put_cons h, put_cons (set_at h), ih, List.set_set]
    congr 2
    obtain ⟨hl, e⟩ := List.getElem?_eq_some_iff.mp h
    rw [← e, List.set_getElem_self]
open Classical in
/-- without doubles, behind those of acc -/
noncomputable def ddS : List D → List D → List D
  | acc, [] => acc
  | acc, x :: xs => ddS (if x ∈ acc then acc else acc ++ [x]) xs
theorem ddS_app : ∀ {xs ys acc : List D}, ddS acc (xs ++ ys) = ddS (ddS acc xs) ys
  | [], _, _ => rfl
  | x :: xs, ys, acc => by rw [List.cons_append, ddS, ddS_app, ddS]
theorem ddS_in {x : D} {acc : List D} (h : x ∈ acc) : ddS acc [x] = acc := by rw [ddS, ddS, if_pos h]
theorem ddS_out {x : D} {acc : List D} (h : x ∉ acc) : ddS acc [x] = acc ++ [x] := by rw [ddS, ddS, if_neg h]
theorem ddS_mem {y : D} : ∀ {xs acc : List D}, y ∈ ddS acc xs → y ∈ acc ∨ y ∈ xs
  | [], _, h => .inl h
  | x :: xs, acc, h => by
    rw [ddS] at h
    rcases ddS_mem h with h | h
    · split at h
      · exact .inl h
      · rcases List.mem_append.mp h with h | h
        · exact .inl h
        · rw [List.mem_singleton] at h; exact .inr (by rw [h]; exact List.mem_cons_self)
    · exact .inr (List.mem_cons_of_mem _ h)
theorem ddS_sub {y : D} : ∀ {xs acc : List D}, y ∈ acc → y ∈ ddS acc xs
  | [], _, h => h
  | x :: xs, acc, h => by
    rw [ddS]
    refine ddS_sub ?_
    split
    · exact h
    · exact List.mem_append_left _ h
theorem ddS_has {x : D} : ∀ {b acc : List D}, x ∈ b → x ∈ ddS acc b
  | y :: b, acc, h => by
    rw [ddS]
    rcases List.mem_cons.mp h with e | e
    · subst e
      refine ddS_sub ?_
      split
      · assumption
      · exact List.mem_append_right _ List.mem_cons_self
    · exact ddS_has e
theorem ddS_len : ∀ {xs acc : List D}, (ddS acc xs).length ≤ acc.length + xs.length
  | [], acc => by rw [ddS]; simp
  | x :: xs, acc => by
    rw [ddS]
    rw [List.length_cons]
    refine Nat.le_trans ddS_len ?_
    split
    · omega
    · rw [List.length_append, List.length_singleton]; omega
theorem ddS_dd : ∀ {xs acc b : List D}, ddS acc (ddS b xs) = ddS (ddS acc b) xs
  | [], _, _ => by rw [ddS, ddS]
  | x :: xs, acc, b => by
    rw [ddS, ddS_dd, ddS]
    by_cases h : x ∈ b
    · have h2 : x ∈ ddS acc b := ddS_has h
      rw [if_pos h, if_pos h2]
    · rw [if_neg h, ddS_app]; rfl
/-- the unknowns, from left to right -/
def uns (n : Nat) (d : D) : List D := ((places n d).map (part d)).filter isU
noncomputable def unks (n : Nat) (d : D) : List D := ddS [] (uns n d)
theorem uns_str {n : Nat} {x : Str} : uns n (.str x) = [.str x] := by unfold uns; rw [places_str]; rfl
theorem uns_rows {n : Nat} {s : Str} {as : List D} : ∀ {xs : List D} {i : Nat}, as.drop i = xs → ((rows (places n) i xs).map (part (.tup (.str s :: as)))).filter isU = xs.flatMap (uns n)
  | [], _, _ => by rw [rows]; rfl
  | a :: xs, i, h => by
    have h1 : as[i]? = some a := by rw [← List.head?_drop, h]; rfl
    have h2 : as.drop (i + 1) = xs := by rw [← List.drop_drop, h]; rfl
    rw [rows, List.map_append, List.filter_append, uns_rows h2, List.flatMap_cons, List.map_map]
    congr 1
    unfold uns
    congr 1
    refine List.map_congr_left fun p _ => ?_
    exact part_cons h1
theorem uns_tup {n : Nat} {s : Str} {as : List D} : uns (n + 1) (.tup (.str s :: as)) = as.flatMap (uns n) := by
  show ((([] :: rows (places n) 0 as).map (part (.tup (.str s :: as)))).filter isU) = _
  rw [List.map_cons, List.filter_cons_of_neg (by rw [part]; simp [isU])]
  exact uns_rows (by rw [List.drop_zero])
theorem uns_mem {n : Nat} {d x : D} (t : Tm n d) (h : x ∈ uns n d) : ∃ s, x = .str s ∧ PyData.strOk s = true ∧ Tm n x := by
  unfold uns at h
  obtain ⟨h1, h2⟩ := List.mem_filter.mp h
  obtain ⟨p, hp, rfl⟩ := List.mem_map.mp h1
  have q := part_tm (places_vd t p hp).1 t
  generalize part d p = e at *
  cases q with
  | un h' l' => exact ⟨_, rfl, h', .un h' l'⟩
  | ap => cases h2
theorem uns_len {n : Nat} {d : D} (t : Tm n d) : (uns n d).length ≤ 4 ^ n := by
  unfold uns
  exact Nat.le_trans (List.length_filter_le _ _) (by rw [List.length_map]; exact places_len t)
theorem lc_mapD {tg : Tg} {f : Ex} {ρ : En} {r : Rs} (g : D → D) {ds : List D} (h : ∀ d ∈ ds, Tgt tg d ρ (fun ρ1 => Ev (f ρ1 r) (fun e r2 => e = g d ∧ r2 = r) (fun _ _ _ => False) .mk) .mk) : lcGo tg xYes f ρ ds r = some (ds.map g, r) := by
  have q := lc_map (enc := fun d : D => d) g (xs := ds) h
  rwa [List.map_id'] at q
theorem sv_forL {tg : Tg} {b : Sx} {N : En → Rs → Prop} {k : Ks} {t : Tag2 N k} (xs : List D) (I : List D → En → Rs → Prop) {ρ : En} {r : Rs} (h0 : I [] ρ r)
    (h1 : ∀ xs1 x xs2, xs = xs1 ++ x :: xs2 → ∀ ρ r, I xs1 ρ r → Tgt tg x ρ (fun ρ1 => Sv (b ρ1 r) (fun ρ2 r2 => I (xs1 ++ [x]) ρ2 r2) ⟨fun ρ2 r2 => I (xs1 ++ [x]) ρ2 r2, fun ρ2 r2 => N ρ2 r2, k.T, k.E⟩ .mk) .mk)
    (h2 : ∀ ρ r, I xs ρ r → N ρ r) : Sv (forGo tg b xs ρ r) N k t := by
  have q := sv_forX (enc := fun d : D => d) (tg := tg) (b := b) (N := N) (k := k) (t := t) xs I h0 h1 h2
  rwa [List.map_id'] at q
theorem ix_succ {h a : D} {as : List D} {i : Nat} (e : as[i]? = some a) : atI (h :: as) ((i : Int) + 1) = some a := by
  have := atI_nat (xs := h :: as) (j := i + 1) (v := a) (by rw [List.getElem?_cons_succ]; exact e)
  rw [← this]; rfl
theorem ix_one {h a : D} {as : List D} {i : Nat} (e : as[i]? = some a) : atI (h :: as) (1 + (i : Int)) = some a := by rw [Int.add_comm]; exact ix_succ e
theorem cut_from {α : Type} {xs : List α} {k : Nat} : cutA xs (some (k : Int)) none = xs.drop k := by
  unfold cutA
  rw [HT.sIx_none, HT.sIx_nat]
  by_cases h : k ≤ xs.length
  · rw [Nat.min_eq_left h, List.take_of_length_le (by simp)]
  · rw [Nat.min_eq_right (by omega), List.drop_of_length_le (Nat.le_refl _), List.drop_of_length_le (by omega)]; simp
theorem cut_from1 {α : Type} {x : α} {xs : List α} : cutA (x :: xs) (some 1) none = xs := cut_from (k := 1)
theorem intsOf_map {X : Type} {f : X → Int} : ∀ {xs : List X}, intsOf (xs.map fun x => .int (f x)) = some (xs.map f)
  | [] => rfl
  | x :: xs => by rw [List.map_cons, intsOf, intsOf_map, List.map_cons]; rfl
theorem rows_sum {f : D → List (List Nat)} : ∀ {as : List D} {i : Nat}, (as.map fun a => ((f a).length : Int)).sum = ((rows f i as).length : Int)
  | [], _ => rfl
  | a :: as, i => by
    rw [List.map_cons, List.sum_cons, rows_sum (i := i + 1), rows, List.length_append, List.length_map]; omega
section
variable {fuel : Nat} {LW : (Nat → List D → Rs → Out D) → Nat → List D → Rs → Out D} {R : Rs}
theorem isu_s {n : Nat} {x : Str} : prP fuel LW (n + 1) 426 [.str x] R = .ok (.bl true) R := by
  refine ev_eq ?_
  rw [e_terms_is_unknown, ev_run]
  unfold b_terms_is_unknown
  show Sv (sRet _ _ _ [some _] _) _ _ _
  trivial
  (first | exact ⟨rfl, rfl⟩ | exact ⟨True.intro, True.intro⟩ | exact ⟨rfl, True.intro⟩ | exact ⟨True.intro, rfl⟩ | simp)
theorem isu_t {n : Nat} {ds : List D} : prP fuel LW (n + 1) 426 [.tup ds] R = .ok (.bl false) R := by
  refine ev_eq ?_
  rw [e_terms_is_unknown, ev_run]
  unfold b_terms_is_unknown
  show Sv (sRet _ _ _ [some _] _) _ _ _
  trivial
  (first | exact ⟨rfl, rfl⟩ | exact ⟨True.intro, True.intro⟩ | exact ⟨rfl, True.intro⟩ | exact ⟨True.intro, rfl⟩ | simp)
/-- part_at's turn -/
def bPA (C : Nat → List D → Rs → Out D) : Sx := (sSeq (sIfF [] (xOr (xTr (xCall (C 426) (xCons (xVar 0) xNil))) (xNot (xCh dLe dLt (xC (.int 0)) (xVar 2) (xOp dSub (xCB cLen (xCons (xVar 0) xNil)) (xC (.int 1)))))) (sRaise 6) sNext)
    (sAsg [] (gNm 0) (xIx (xVar 0) (xOp dAdd (xVar 2) (xC (.int 1))))))
theorem bPA_go {n : Nat} {s : Str} {as : List D} {i : Nat} {a : D} {P : D} {y : Option D} {N : En → Rs → Prop} {k : Ks} {t : Tag2 N k} (h : as[i]? = some a) (H : N [some a, some P, some (.int i)] R) :
    Tgt (gNm 2) (iD i) [some (.tup (.str s :: as)), some P, y] (fun ρ1 => Sv (bPA (prP fuel LW (n + 1)) ρ1 R) N k t) .mk := by
  have hi : i < as.length := (List.getElem?_eq_some_iff.mp h).1
  unfold bPA iD
  trivial
  refine ev_i isu_t ?_
  trivial
  refine bif_d (fun _ => ?_) (fun c => absurd (Int.natCast_nonneg i) c)
  trivial
  refine bif_i (fun c => ?_) (fun c => ?_)
  · rw [Bool.not_eq_true', decide_eq_false_iff_not, List.length_cons] at c
    omega
  trivial
  refine so_i (ix_succ h) ?_
  trivial
  exact H
theorem bPA_no {n : Nat} {s : Str} {as : List D} {i : Nat} {P : D} {y : Option D} {N : En → Rs → Prop} {k : Ks} {t : Tag2 N k} (h : as.length ≤ i) (H : ∀ ρ, k.E 6 [] ρ R) :
    Tgt (gNm 2) (iD i) [some (.tup (.str s :: as)), some P, y] (fun ρ1 => Sv (bPA (prP fuel LW (n + 1)) ρ1 R) N k t) .mk := by
  unfold bPA iD
  trivial
  refine ev_i isu_t ?_
  trivial
  refine bif_d (fun _ => ?_) (fun c => absurd (Int.natCast_nonneg i) c)
  trivial
  refine bif_i (fun c => ?_) (fun c => ?_)
  · trivial
    exact H _
  · rw [Bool.not_eq_false', decide_eq_true_eq, List.length_cons] at c
    omega
theorem bPA_str {n : Nat} {x : Str} {i : Nat} {P : D} {y : Option D} {N : En → Rs → Prop} {k : Ks} {t : Tag2 N k} (H : ∀ ρ, k.E 6 [] ρ R) :
    Tgt (gNm 2) (iD i) [some (.str x), some P, y] (fun ρ1 => Sv (bPA (prP fuel LW (n + 1)) ρ1 R) N k t) .mk := by
  unfold bPA iD
  trivial
  refine ev_i isu_s ?_
  trivial
  exact H _
theorem pa_go {n : Nat} {P : D} {N : En → Rs → Prop} {k : Ks} {d : D} {p : List Nat} (v : Vd d p) : ∀ {y : Option D} {t : Tag2 N k}, (∀ y', N [some (part d p), some P, y'] R) → Sv (forGo (gNm 2) (bPA (prP fuel LW (n + 1))) (p.map iD) [some d, some P, y] R) N k t := by
  induction v with
  | nil => intro y t H; exact H y
  | cons h v ih =>
    intro y t H
    rw [part_cons h] at H
    rw [List.map_cons, sv_for1]
    exact bPA_go h (ih H)
/-- the first step that leads out of the term -/
def Out1 (d : D) (i : Nat) : Prop := (∃ x, d = .str x) ∨ ∃ s as, d = .tup (.str s :: as) ∧ as.length ≤ i
theorem pa_no {n : Nat} {P : D} {N : En → Rs → Prop} {k : Ks} {d : D} {p rest : List Nat} {i : Nat} (v : Vd d p) : ∀ {y : Option D} {t : Tag2 N k}, Out1 (part d p) i → (∀ ρ, k.E 6 [] ρ R) → Sv (forGo (gNm 2) (bPA (prP fuel LW (n + 1))) ((p ++ i :: rest).map iD) [some d, some P, y] R) N k t := by
  induction v with
  | nil =>
    intro y t o H
    rw [List.nil_append, List.map_cons, sv_for1]
    rw [part] at o
    rcases o with ⟨x, rfl⟩ | ⟨s, as, rfl, l⟩
    · exact bPA_str H
    · exact bPA_no l H
  | cons h v ih =>
    intro y t o H
    rw [part_cons h] at o
    rw [List.cons_append, List.map_cons, sv_for1]
    exact bPA_go h (ih o H)
theorem part_ev {n : Nat} {d : D} {p : List Nat} (v : Vd d p) : prP fuel LW (n + 2) 427 [d, plD p] R = .ok (part d p) R := by
  refine ev_eq ?_
  rw [e_terms_part_at, ev_run]
  unfold b_terms_part_at plD
  show Sv (sSeq _ _ [some _, some (.tup _), none] _) _ _ _
  trivial
  refine pa_go v fun y' => ?_
  trivial
  (first | exact ⟨rfl, rfl⟩ | exact ⟨True.intro, True.intro⟩ | exact ⟨rfl, True.intro⟩ | exact ⟨True.intro, rfl⟩ | simp)
theorem part_exc {n : Nat} {d : D} {p rest : List Nat} {i : Nat} (v : Vd d p) (o : Out1 (part d p) i) {Q : D → Rs → Prop} {E : Nat → List (Str × Int) → Rs → Prop} {t : Tag2 Q E} (H : E 6 [] R) : Ev (prP fuel LW (n + 2) 427 [d, plD (p ++ i :: rest)] R) Q E t := by
  rw [e_terms_part_at, ev_run]
  unfold b_terms_part_at plD
  show Sv (sSeq _ _ [some _, some (.tup _), none] _) _ _ _
  trivial
  exact pa_no v o fun ρ => H

theorem pow4_le {n m : Nat} (h : n ≤ m) : 4 ^ n ≤ 4 ^ m := Nat.pow_le_pow_right (by decide) h
theorem take_snoc {as : List D} {i : Nat} {a : D} (h : as[i]? = some a) : as.take (i + 1) = as.take i ++ [a] := by rw [List.take_add_one, h]; rfl
theorem rows_take {f : D → List (List Nat)} {as : List D} {i : Nat} {a : D} (h : as[i]? = some a) : rows f 0 (as.take (i + 1)) = rows f 0 (as.take i) ++ (f a).map (fun p => i :: p) := by
  have hi : i < as.length := (List.getElem?_eq_some_iff.mp h).1
  rw [take_snoc h, rows_snoc, List.length_take, Nat.min_eq_left (by omega), Nat.zero_add]
theorem rows_take_len {n : Nat} {as : List D} (l : as.length ≤ 3) (q : ∀ a ∈ as, Tm n a) (i : Nat) : (rows (places n) 0 (as.take i)).length ≤ 3 * 4 ^ n := by
  have h1 : (rows (places n) 0 (as.take i)).length ≤ (as.take i).length * 4 ^ n := rows_len fun a ha => places_len (q a (List.mem_of_mem_take ha))
  have h2 : (as.take i).length ≤ 3 := by rw [List.length_take]; omega
  exact Nat.le_trans h1 (Nat.mul_le_mul_right _ h2)
theorem pld_cons {i : Nat} {p : List Nat} : D.tup ([.int (1 + (i : Int) - 1)] ++ p.map iD) = plD (i :: p) := by
  rw [show 1 + (i : Int) - 1 = i by omega]; rfl
theorem places_ev : ∀ {n m : Nat} {d : D}, n ≤ 9 → Tm n d → prP fuel LW (n + m + 2) 429 [d] R = .ok (.lst ((places n d).map plD)) R := by
  have str : ∀ {n m : Nat} {x : Str}, prP fuel LW (n + m + 2) 429 [.str x] R = .ok (.lst ((places n (.str x)).map plD)) R := by
    intro n m x
    refine ev_eq ?_
    rw [e_terms_places_of, ev_run, places_str]
    unfold b_terms_places_of
    show Sv (sSeq _ _ [some _, none, none, none] _) _ _ _
    trivial
    refine ev_i isu_s ?_
    trivial
    exact ⟨(by first | rfl | exact True.intro), (by first | rfl | exact True.intro)⟩
  intro n
  induction n with
  | zero => intro m d _ t; cases t with | un h l => exact str
  | succ n ih =>
    intro m d hn t
    cases t with
    | un h l => exact str
    | @ap _ s as h l q =>
      have hp : 4 ^ n ≤ 4 ^ 8 := pow4_le (by omega)
      refine ev_eq ?_
      rw [show n + 1 + m + 2 = (n + m + 2) + 1 by omega, e_terms_places_of, ev_run]
      unfold b_terms_places_of
      show Sv (sSeq _ _ [some _, none, none, none] _) _ _ _
      trivial
      refine ev_i isu_t ?_
      trivial
      refine ck_i (by rw [List.length_cons]; unfold big; simp only [Bool.and_eq_true, decide_eq_true_eq]; omega) ?_
      refine sv_forN 1 _ (fun i ρ r => ∃ y2 y3, ρ = [some (.tup (.str s :: as)), some (.lst (([] :: rows (places n) 0 (as.take i)).map plD)), y2, y3] ∧ R = r) ⟨_, _, rfl, rfl⟩ ?_ ?_
      · rintro i hi ρ r ⟨y2, y3, rfl, rfl⟩
        have hi' : i < as.length := by rw [List.length_cons] at hi; omega
        have ha : as[i]? = some as[i] := List.getElem?_eq_getElem hi'
        generalize as[i] = a at ha
        have hm : a ∈ as := List.mem_iff_getElem?.mpr ⟨i, ha⟩
        have hr := rows_take_len l q i
        trivial
        refine so_i (ix_one ha) ?_
        trivial
        refine ev_i (ih (by omega) (q a hm)) ?_
        trivial
        refine sv_forX (enc := plD) (places n a) (fun done ρ r => ∃ y3, ρ = [some (.tup (.str s :: as)), some (.lst (([] :: rows (places n) 0 (as.take i) ++ done.map (fun p => i :: p)).map plD)), some (.int (1 + (i : Int))), y3] ∧ R = r) ⟨_, by rw [List.map_nil, List.append_nil], rfl⟩ ?_ ?_
        · rintro done p rest e ρ r ⟨y3, rfl, rfl⟩
          have hpm : p ∈ places n a := by rw [e]; simp
          have hpl := (places_vd (q a hm) p hpm).2
          have hdl : done.length ≤ 4 ^ n := by
            have h1 := places_len (q a hm)
            rw [e, List.length_append] at h1
            omega
          show Tgt _ (.tup (p.map iD)) _ _ _
          trivial
          refine ck_i (by rw [List.length_map]; show 1 + p.length ≤ 1000000; omega) ?_
          trivial
          refine ck_i (by rw [List.length_map, List.length_append, List.length_cons, List.length_map]; show _ < 1000000; omega) ?_
          trivial
          have e2 : (([] :: rows (places n) 0 (as.take i) ++ done.map (fun p => i :: p)).map plD) ++ [plD (i :: p)] = (([] :: rows (places n) 0 (as.take i) ++ (done ++ [p]).map (fun p => i :: p)).map plD) := by
            rw [show [plD (i :: p)] = [i :: p].map plD from rfl, ← List.map_append, List.append_assoc, List.map_append (l₁ := done)]
            rfl
          rw [pld_cons, e2]
          exact ⟨_, (by first | rfl | exact True.intro), (by first | rfl | exact True.intro)⟩
        · rintro ρ r ⟨y3, rfl, rfl⟩
          rw [show [] :: rows (places n) 0 (as.take i) ++ (places n a).map (fun p => i :: p) = [] :: rows (places n) 0 (as.take (i + 1)) by rw [rows_take ha]; rfl]
          exact ⟨_, _, (by first | rfl | exact True.intro), (by first | rfl | exact True.intro)⟩
      · rintro ρ r ⟨y2, y3, rfl, rfl⟩
        trivial
        rw [List.take_of_length_le (by rw [List.length_cons]; omega)]
        exact ⟨(by first | rfl | exact True.intro), (by first | rfl | exact True.intro)⟩
/-! replace_at -/
theorem cut_take1 {h : D} {as : List D} {i : Nat} : cutA (h :: as) none (some ((i : Int) + 1)) = h :: as.take i := by
  have q := cut_to (xs := h :: as) (k := i + 1)
  rw [show ((i + 1 : Nat) : Int) = (i : Int) + 1 by omega] at q
  rw [q]; rfl
theorem cut_drop2 {h : D} {as : List D} {i : Nat} : cutA (h :: as) (some ((i : Int) + 2)) none = as.drop (i + 1) := by
  have q := cut_from (xs := h :: as) (k := i + 2)
  rw [show ((i + 2 : Nat) : Int) = (i : Int) + 2 by omega] at q
  rw [q]; rfl
theorem set_parts {h a b : D} {as : List D} {i : Nat} (e : as[i]? = some a) : (h :: as.take i) ++ [b] ++ as.drop (i + 1) = h :: as.set i b := by
  have hi : i < as.length := (List.getElem?_eq_some_iff.mp e).1
  rw [List.set_eq_take_append_cons_drop, if_pos hi]; simp
theorem put_ev {q : D} {d : D} {p : List Nat} (v : Vd d p) : ∀ {n m : Nat}, Tm n d → prP fuel LW (p.length + m + 2) 430 [d, plD p, q] R = .ok (put q d p) R := by
  induction v with
  | nil =>
    intro n m t
    refine ev_eq ?_
    rw [e_terms_replace_at, ev_run]
    unfold b_terms_replace_at plD
    show Sv (sSeq _ _ [some _, some (.tup []), some _, none, none] _) _ _ _
    trivial
    refine bif_i (fun c => ?_) (fun c => by cases c)
    trivial
    exact ⟨by rw [put], (by first | rfl | exact True.intro)⟩
  | @cons s as i a p h v ih =>
    intro n m t
    cases t with
    | @ap n _ _ hs l tq =>
      have hi : i < as.length := (List.getElem?_eq_some_iff.mp h).1
      have hm : a ∈ as := List.mem_iff_getElem?.mpr ⟨i, h⟩
      refine ev_eq ?_
      rw [show (i :: p).length + m + 2 = (p.length + m + 2) + 1 by rw [List.length_cons]; omega, e_terms_replace_at, ev_run]
      unfold b_terms_replace_at plD
      show Sv (sSeq _ _ [some _, some (.tup (.int i :: p.map iD)), some _, none, none] _) _ _ _
      trivial
      refine bif_i (fun c => by cases c) (fun c => ?_)
      trivial
      refine ev_i isu_t ?_
      trivial
      refine bif_d (fun _ => ?_) (fun c => absurd (Int.natCast_nonneg i) c)
      trivial
      refine bif_i (fun c => ?_) (fun c => ?_)
      · rw [Bool.not_eq_true', decide_eq_false_iff_not, List.length_cons] at c
        omega
      trivial
      refine so_i (ix_succ h) ?_
      trivial
      rw [cut_from1]
      refine ev_i (ih (tq a hm)) ?_
      trivial
      rw [cut_take1]
      refine ck_i (by rw [List.length_cons, List.length_take]; show _ + 1 ≤ 1000000; omega) ?_
      trivial
      rw [cut_drop2]
      refine ck_i (by rw [List.length_append, List.length_cons, List.length_take, List.length_drop]; show min i as.length + 1 + 1 + _ ≤ 1000000; omega) ?_
      trivial
      rw [set_parts h, put_cons h]
      exact ⟨(by first | rfl | exact True.intro), (by first | rfl | exact True.intro)⟩
theorem put_exc {q : D} {d : D} {p rest : List Nat} {i : Nat} (v : Vd d p) : ∀ {n m : Nat}, Tm n d → Out1 (part d p) i → prP fuel LW (p.length + m + 2) 430 [d, plD (p ++ i :: rest), q] R = .exc 6 [] R := by
  have ee : ∀ {α : Type} {o : Out α} {R : Rs}, Ev o (fun _ _ => False) (fun c fs r => c = 6 ∧ fs = [] ∧ r = R) .mk → o = .exc 6 [] R := by
    intro α o R h
    cases o with
    | ok _ _ => exact h.elim
    | exc c fs r => obtain ⟨rfl, rfl, rfl⟩ := h; rfl
    | bad => exact h.elim
  induction v with
  | nil =>
    intro n m t o
    refine ee ?_
    rw [part] at o
    rw [e_terms_replace_at, ev_run]
    unfold b_terms_replace_at plD
    show Sv (sSeq _ _ [some _, some (.tup (.int i :: rest.map iD)), some _, none, none] _) _ _ _
    trivial
    refine bif_i (fun c => by cases c) (fun c => ?_)
    rcases o with ⟨x, rfl⟩ | ⟨s, as, rfl, l⟩
    · trivial
      refine ev_i isu_s ?_
      trivial
      exact ⟨(by first | rfl | exact True.intro), (by first | rfl | exact True.intro), (by first | rfl | exact True.intro)⟩
    · trivial
      refine ev_i isu_t ?_
      trivial
      refine bif_d (fun _ => ?_) (fun c => absurd (Int.natCast_nonneg i) c)
      trivial
      refine bif_i (fun c => ?_) (fun c => ?_)
      · trivial
        exact ⟨(by first | rfl | exact True.intro), (by first | rfl | exact True.intro), (by first | rfl | exact True.intro)⟩
      · rw [Bool.not_eq_false', decide_eq_true_eq, List.length_cons] at c
        omega
  | @cons s as j a p h v ih =>
    intro n m t o
    rw [part_cons h] at o
    cases t with
    | @ap n _ _ hs l tq =>
      have hj : j < as.length := (List.getElem?_eq_some_iff.mp h).1
      have hm : a ∈ as := List.mem_iff_getElem?.mpr ⟨j, h⟩
      refine ee ?_
      rw [show (j :: p).length + m + 2 = (p.length + m + 2) + 1 by rw [List.length_cons]; omega, e_terms_replace_at, ev_run]
      unfold b_terms_replace_at plD
      show Sv (sSeq _ _ [some _, some (.tup (.int j :: (p ++ i :: rest).map iD)), some _, none, none] _) _ _ _
      trivial
      refine bif_i (fun c => by cases c) (fun c => ?_)
      trivial
      refine ev_i isu_t ?_
      trivial
      refine bif_d (fun _ => ?_) (fun c => absurd (Int.natCast_nonneg j) c)
      trivial
      refine bif_i (fun c => ?_) (fun c => ?_)
      · rw [Bool.not_eq_true', decide_eq_false_iff_not, List.length_cons] at c
        omega
      trivial
      refine so_i (ix_succ h) ?_
      trivial
      rw [cut_from1]
      have z := ih (m := m) (tq a hm) o
      unfold plD at z
      rw [z]
      trivial
      exact ⟨(by first | rfl | exact True.intro), (by first | rfl | exact True.intro), (by first | rfl | exact True.intro)⟩

/-! term_size, parts_of, unknowns_of -/
theorem size_ev : ∀ {n m : Nat} {d : D}, Tm n d → prP fuel LW (n + m + 2) 431 [d] R = .ok (.int (places n d).length) R := by
  have str : ∀ {n m : Nat} {x : Str}, prP fuel LW (n + m + 2) 431 [.str x] R = .ok (.int (places n (.str x)).length) R := by
    intro n m x
    refine ev_eq ?_
    rw [e_terms_term_size, ev_run, places_str]
    unfold b_terms_term_size
    show Sv (sSeq _ _ [some _, none] _) _ _ _
    trivial
    refine ev_i isu_s ?_
    trivial
    exact ⟨rfl, (by first | rfl | exact True.intro)⟩
  intro n
  induction n with
  | zero => intro m d t; cases t with | un h l => exact str
  | succ n ih =>
    intro m d t
    cases t with
    | un h l => exact str
    | @ap _ s as h l q =>
      refine ev_eq ?_
      rw [show n + 1 + m + 2 = (n + m + 2) + 1 by omega, e_terms_term_size, ev_run]
      unfold b_terms_term_size
      show Sv (sSeq _ _ [some _, none] _) _ _ _
      trivial
      refine ev_i isu_t ?_
      trivial
      rw [cut_from1]
      refine sop_i (lc_mapD (fun a => .int (places n a).length) fun a ha => ?_) ?_
      · trivial
        refine ev_i (ih (q a ha)) ?_
        (first | exact ⟨rfl, rfl⟩ | exact ⟨True.intro, True.intro⟩ | exact ⟨rfl, True.intro⟩ | exact ⟨True.intro, rfl⟩ | simp)
      refine ck_i (by rw [List.length_map]; show _ ≤ 1000000; omega) ?_
      trivial
      refine so_i (a := .int ((rows (places n) 0 as).length : Int)) ?_ ?_
      · show (intsOf (as.map fun a => D.int ((places n a).length : Int))).map (fun ns => D.int ns.sum) = _
        rw [intsOf_map]
        show some (D.int (as.map fun a => ((places n a).length : Int)).sum) = _
        rw [rows_sum (i := 0)]
      trivial
      refine ⟨?_, (by first | rfl | exact True.intro)⟩
      show D.int (1 + ((rows (places n) 0 as).length : Int)) = .int ((([] :: rows (places n) 0 as).length : Nat) : Int)
      rw [List.length_cons]
      congr 1
      omega
theorem pls_of {n : Nat} {xs : List D} (h : ∀ x ∈ xs, pl n x = true) : pls n xs = true := pls_iff.mpr h
/-- one that is taken only where it is new -/
theorem new_ev {n : Nat} {x : D} {ds : List D} {Q : D → Prop} {t : Tag2 Q Q} (hn : n ≤ 50) (hx : pl n x = true) (hd : pls n ds = true) (h1 : x ∉ ds → Q (.bl true)) (h2 : x ∈ ds → Q (.bl false)) : So (dNotIn x (.lst ds)) Q t := by
  have := Classical.propDecidable (x ∈ ds)
  refine so_i (dNotIn_pl hx hd (by omega) (by omega)) ?_
  by_cases c : x ∈ ds
  · rw [decide_eq_true c]; exact h2 c
  · rw [decide_eq_false c]; exact h1 c
theorem ddS_pl {n : Nat} {xs acc : List D} (h : ∀ x ∈ xs, pl n x = true) (h2 : ∀ x ∈ acc, pl n x = true) : pls n (ddS acc xs) = true := pls_of fun x hx => by
  rcases ddS_mem hx with e | e
  · exact h2 x e
  · exact h x e
def parts (n : Nat) (d : D) : List D := (places n d).map (part d)
theorem parts_tm {n : Nat} {d x : D} (t : Tm n d) (h : x ∈ parts n d) : Tm n x := by
  obtain ⟨p, hp, rfl⟩ := List.mem_map.mp h
  exact part_tm (places_vd t p hp).1 t
theorem parts_ev {n m : Nat} {d : D} (hn : n ≤ 9) (t : Tm n d) : prP fuel LW (n + m + 3) 428 [d] R = .ok (.lst (ddS [] (parts n d))) R := by
  have hp : 4 ^ n ≤ 4 ^ 9 := pow4_le hn
  have hl := places_len t
  refine ev_eq ?_
  rw [e_terms_parts_of, ev_run]
  unfold b_terms_parts_of
  show Sv (sSeq _ _ [some _, none, none, none] _) _ _ _
  trivial
  refine ev_i (places_ev hn t) ?_
  trivial
  refine sv_forX (enc := plD) (places n d) (fun done ρ r => ∃ y2 y3, ρ = [some d, some (.lst (ddS [] (done.map (part d)))), y2, y3] ∧ R = r) ⟨_, _, (by first | rfl | exact True.intro), (by first | rfl | exact True.intro)⟩ ?_ ?_
  · rintro done p rest e ρ r ⟨y2, y3, rfl, rfl⟩
    have hpm : p ∈ places n d := by rw [e]; simp
    have hv := (places_vd t p hpm).1
    have hdl : done.length < 4 ^ 9 := by
      rw [e, List.length_append, List.length_cons] at hl
      omega
    have hdn : ∀ x ∈ done.map (part d), pl n x = true := fun x hx => (parts_tm t (by
      obtain ⟨y, hy, rfl⟩ := List.mem_map.mp hx
      exact List.mem_map.mpr ⟨y, by rw [e]; exact List.mem_append_left _ hy, rfl⟩)).plain
    have e2 : ddS [] ((done ++ [p]).map (part d)) = ddS (ddS [] (done.map (part d))) [part d p] := by rw [List.map_append, ddS_app]; rfl
    trivial
    refine ev_i (part_ev (n := n + m) hv) ?_
    trivial
    refine new_ev (n := n) (by omega) (part_tm hv t).plain (ddS_pl hdn fun x hx => nomatch hx) (fun c => ?_) (fun c => ?_)
    · trivial
      refine ck_i (by have := ddS_len (xs := done.map (part d)) (acc := []); rw [List.length_map] at this; show _ < 1000000; simp only [List.length_nil] at this; omega) ?_
      trivial
      rw [e2, ddS_out c]
      exact ⟨_, _, (by first | rfl | exact True.intro), (by first | rfl | exact True.intro)⟩
    · trivial
      rw [e2, ddS_in c]
      exact ⟨_, _, (by first | rfl | exact True.intro), (by first | rfl | exact True.intro)⟩
  · rintro ρ r ⟨y2, y3, rfl, rfl⟩
    trivial
    exact ⟨(by first | rfl | exact True.intro), (by first | rfl | exact True.intro)⟩
theorem uns_pl {n : Nat} {d x : D} (t : Tm n d) (h : x ∈ uns n d) : pl 0 x = true := by
  obtain ⟨s, rfl, h, _⟩ := uns_mem t h
  exact pl_str h
theorem flat_len {n : Nat} : ∀ {xs : List D}, (∀ a ∈ xs, Tm n a) → (xs.flatMap (uns n)).length ≤ xs.length * 4 ^ n
  | [], _ => by simp
  | x :: xs, h => by
    rw [List.flatMap_cons, List.length_append, List.length_cons, Nat.succ_mul]
    have h1 := uns_len (h x List.mem_cons_self)
    have h2 := flat_len (xs := xs) fun a ha => h a (List.mem_cons_of_mem _ ha)
    omega
theorem unks_ev : ∀ {n m : Nat} {d : D}, n ≤ 9 → Tm n d → prP fuel LW (n + m + 2) 433 [d] R = .ok (.lst (unks n d)) R := by
  have str : ∀ {n m : Nat} {x : Str}, prP fuel LW (n + m + 2) 433 [.str x] R = .ok (.lst (unks n (.str x))) R := by
    intro n m x
    refine ev_eq ?_
    unfold unks
    rw [e_terms_unknowns_of, ev_run, uns_str, ddS_out (by simp), List.nil_append]
    unfold b_terms_unknowns_of
    show Sv (sSeq _ _ [some _, none, none, none] _) _ _ _
    trivial
    refine ev_i isu_s ?_
    trivial
    exact ⟨(by first | rfl | exact True.intro), (by first | rfl | exact True.intro)⟩
  intro n
  induction n with
  | zero => intro m d _ t; cases t with | un h l => exact str
  | succ n ih =>
    intro m d hn t
    cases t with
    | un h l => exact str
    | @ap _ s as h l q =>
      have hp : 4 ^ n ≤ 4 ^ 8 := pow4_le (by omega)
      refine ev_eq ?_
      unfold unks
      rw [uns_tup, show n + 1 + m + 2 = (n + m + 2) + 1 by omega, e_terms_unknowns_of, ev_run]
      unfold b_terms_unknowns_of
      show Sv (sSeq _ _ [some _, none, none, none] _) _ _ _
      trivial
      refine ev_i isu_t ?_
      trivial
      rw [cut_from1]
      refine sv_forL as (fun done ρ r => ∃ y2 y3, ρ = [some (.tup (.str s :: as)), some (.lst (ddS [] (done.flatMap (uns n)))), y2, y3] ∧ R = r) ⟨_, _, (by first | rfl | exact True.intro), (by first | rfl | exact True.intro)⟩ ?_ ?_
      · rintro done a rest e ρ r ⟨y2, y3, rfl, rfl⟩
        have ha : a ∈ as := by rw [e]; simp
        have hd : ∀ b ∈ done, Tm n b := fun b hb => q b (by rw [e]; exact List.mem_append_left _ hb)
        have hdl := flat_len hd
        have hdn : done.length ≤ 3 := by rw [e, List.length_append] at l; omega
        have hdm : done.length * 4 ^ n ≤ 3 * 4 ^ n := Nat.mul_le_mul_right _ hdn
        have hal := uns_len (q a ha)
        trivial
        refine ev_i (ih (by omega) (q a ha)) ?_
        trivial
        refine sv_forL (unks n a) (fun dn ρ r => ∃ y3, ρ = [some (.tup (.str s :: as)), some (.lst (ddS (ddS [] (done.flatMap (uns n))) dn)), some a, y3] ∧ R = r) ⟨_, (by first | rfl | exact True.intro), (by first | rfl | exact True.intro)⟩ ?_ ?_
        · rintro dn x rst e2 ρ r ⟨y3, rfl, rfl⟩
          have um : ∀ y ∈ unks n a, pl 0 y = true := fun y hy => by
            rcases ddS_mem hy with z | z
            · cases z
            · exact uns_pl (q a ha) z
          have hx : pl 0 x = true := um x (by rw [e2]; simp)
          have hul : (unks n a).length ≤ 4 ^ n := Nat.le_trans (ddS_len (acc := [])) (by rw [List.length_nil, Nat.zero_add]; exact hal)
          have hdnl : dn.length < 4 ^ n := by rw [e2, List.length_append, List.length_cons] at hul; omega
          have hpl : pls 0 (ddS (ddS [] (done.flatMap (uns n))) dn) = true := ddS_pl (fun y hy => um y (by rw [e2]; exact List.mem_append_left _ hy)) fun y hy => by
            rcases ddS_mem hy with z | z
            · cases z
            · obtain ⟨b, hb, hy⟩ := List.mem_flatMap.mp z
              exact uns_pl (hd b hb) hy
          have hll : (ddS (ddS [] (done.flatMap (uns n))) dn).length ≤ (done.flatMap (uns n)).length + dn.length := by
            have h1 := ddS_len (xs := dn) (acc := ddS [] (done.flatMap (uns n)))
            have h2 := ddS_len (xs := done.flatMap (uns n)) (acc := [])
            rw [List.length_nil] at h2
            omega
          trivial
          refine new_ev (n := 0) (by omega) hx hpl (fun c => ?_) (fun c => ?_)
          · trivial
            refine ck_i (by show _ < 1000000; omega) ?_
            trivial
            rw [ddS_app, ddS_out c]
            exact ⟨_, (by first | rfl | exact True.intro), (by first | rfl | exact True.intro)⟩
          · trivial
            rw [ddS_app, ddS_in c]
            exact ⟨_, (by first | rfl | exact True.intro), (by first | rfl | exact True.intro)⟩
        · rintro ρ r ⟨y3, rfl, rfl⟩
          rw [show ddS (ddS [] (done.flatMap (uns n))) (unks n a) = ddS [] ((done ++ [a]).flatMap (uns n)) by
            unfold unks
            rw [ddS_dd, List.flatMap_append, ddS_app, List.flatMap_cons, List.flatMap_nil, List.append_nil]; rfl]
          exact ⟨_, _, (by first | rfl | exact True.intro), (by first | rfl | exact True.intro)⟩
      · rintro ρ r ⟨y2, y3, rfl, rfl⟩
        trivial
        exact ⟨(by first | rfl | exact True.intro), (by first | rfl | exact True.intro)⟩
end
end MT

namespace Law
open PySem L2 DL
/-- the classes of errors that stand in this text -/
def lexcs : List Nat := [6, 0]
def b__law_start (fuel : Nat) (C : Nat → List D → Rs → Out D) : Sx :=
    (sSeq (sAsg [] (gNm 1) (xRes (xLst' xNil)))
    (sSeq (sAsg [] (gNm 2) (xC (.int 17)))
    (sSeq (sFor [] (xRng1 (xCons (xCB cLen (xCons (xVar 0) xNil)) xNil)) (gNm 3) (sSeq (sAsg [] (gNm 4) (xCB cAbs (xCons (xIx (xVar 0) (xVar 3)) xNil)))
    (sSeq (sAsg [] (gNm 2) (xOp dMod (xCB cInt (xCons (xOp dAdd (xOp dAdd (xOp dMul (xVar 2) (xC (.int 31))) (xVar 4)) (xVar 3)) xNil)) (xC (.int 2147483647))))
    (sIfF [] (xB (xOp dGe (xVar 4) (xOp dPow (xC (.int 10)) (xC (.int 18))))) (sSeq (sAsg [] (gNm 4) (xOp dSub (xVar 4) (xOp dPow (xC (.int 10)) (xC (.int 18)))))
    (sFor [] (xRng1 (xCons (xC (.int 60)) xNil)) (gNm 5) (sIfF [] (xB (xOp dGt (xVar 4) (xC (.int 0)))) (sSeq (sExp [] (xAppR (xVar 1) (xCons (xOp dMod (xCB cInt (xCons (xVar 4) xNil)) (xC (.int 840))) xNil)))
    (sAsg [] (gNm 4) (xOp dDiv (xVar 4) (xC (.int 840))))) sNext))) (sSeq (sAsg [] (gNm 6) (xOp dMod (xCB cInt (xCons (xOp dAdd (xOp dMul (xOp dAdd (xVar 4) (xC (.int 1))) (xC (.int 48271))) (xOp dMul (xVar 3) (xC (.int 69621)))) xNil)) (xC (.int 2147483647))))
    (sSeq (sAsg [] (gNm 6) (xOp dMod (xCB cInt (xCons (xOp dAdd (xOp dMul (xVar 6) (xC (.int 40692))) (xC (.int 5))) xNil)) (xC (.int 2147483399))))
    (sExp [] (xAppR (xVar 1) (xCons (xOp dMod (xOp dDiv (xVar 6) (xC (.int 13))) (xC (.int 840))) xNil)))))))))
    (sRet false [] (xRes (xLst' (xCons (xVar 1) (xCons (xC (.int 0)) (xCons (xVar 2) xNil)))))))))
def b__law_take (fuel : Nat) (C : Nat → List D → Rs → Out D) : Sx :=
    (sSeq (sAsg [] (gNm 2) (xIx (xVar 0) (xC (.int 1))))
    (sSeq (sSetR [] (xVar 0) (xC (.int 1)) (xOp dAdd (xVar 2) (xC (.int 1))))
    (sSeq (sIfF [] (xB (xOp dLt (xVar 2) (xCB cLen (xCons (xIx (xVar 0) (xC (.int 0))) xNil)))) (sRet false [] (xOp dMod (xCB cInt (xCons (xIx (xIx (xVar 0) (xC (.int 0))) (xVar 2)) xNil)) (xVar 1))) sNext)
    (sSeq (sAsg [] (gNm 3) (xOp dMod (xCB cInt (xCons (xOp dMul (xOp dAdd (xIx (xVar 0) (xC (.int 2))) (xOp dMul (xVar 2) (xC (.int 40503)))) (xC (.int 48271))) xNil)) (xC (.int 2147483647))))
    (sSeq (sAsg [] (gNm 3) (xOp dMod (xCB cInt (xCons (xOp dAdd (xOp dMul (xVar 3) (xC (.int 69621))) (xOp dMul (xVar 2) (xVar 2))) xNil)) (xC (.int 2147483629))))
    (sRet false [] (xOp dMod (xOp dDiv (xVar 3) (xC (.int 11))) (xVar 1))))))))
def b__law_term (fuel : Nat) (C : Nat → List D → Rs → Out D) : Sx :=
    (sSeq (sAsg [] (gNm 2) (xCall (C 1) (xCons (xVar 0) (xCons (xC (.int 8)) xNil))))
    (sSeq (sIfF [] (xOr (xB (xOp dEq (xVar 1) (xC (.int 0)))) (xB (xOp dLt (xVar 2) (xC (.int 3))))) (sSeq (sAsg [] (gNm 3) (xLst (xCons (xC (.str "x")) (xCons (xC (.str "y")) (xCons (xC (.str "z9")) (xCons (xTup (xCons (xC (.str "a")) xNil)) (xCons (xTup (xCons (xC (.str "b")) xNil)) (xCons (xTup (xCons (xC (.str "longname12")) xNil)) xNil))))))))
    (sRet false [] (xIx (xVar 3) (xCall (C 1) (xCons (xVar 0) (xCons (xC (.int 6)) xNil)))))) sNext)
    (sSeq (sIfF [] (xB (xOp dLt (xVar 2) (xC (.int 5)))) (sRet false [] (xTup (xCons (xC (.str "f")) (xCons (xCall (C 2) (xCons (xVar 0) (xCons (xOp dSub (xVar 1) (xC (.int 1))) xNil))) xNil)))) sNext)
    (sSeq (sIfF [] (xB (xOp dLt (xVar 2) (xC (.int 7)))) (sRet false [] (xTup (xCons (xC (.str "g")) (xCons (xCall (C 2) (xCons (xVar 0) (xCons (xOp dSub (xVar 1) (xC (.int 1))) xNil))) (xCons (xCall (C 2) (xCons (xVar 0) (xCons (xOp dSub (xVar 1) (xC (.int 1))) xNil))) xNil))))) sNext)
    (sRet false [] (xTup (xCons (xC (.str "h2")) (xCons (xCall (C 2) (xCons (xVar 0) (xCons (xOp dSub (xVar 1) (xC (.int 1))) xNil))) (xCons (xCall (C 2) (xCons (xVar 0) (xCons (xOp dSub (xVar 1) (xC (.int 1))) xNil))) (xCons (xCall (C 2) (xCons (xVar 0) (xCons (xOp dSub (xVar 1) (xC (.int 1))) xNil))) xNil))))))))))
def b__law_places (fuel : Nat) (C : Nat → List D → Rs → Out D) : Sx :=
    (sSeq (sAsg [] (gNm 1) (xLst (xCons (xTup xNil) xNil)))
    (sSeq (sIfF [] (xNot (xTr (xCB cIsi (xCons (xVar 0) (xCons (xC (.ty "str")) xNil))))) (sFor [] (xRng2 (xCons (xC (.int 1)) (xCons (xCB cLen (xCons (xVar 0) xNil)) xNil))) (gNm 2) (sAsg [] (gNm 1) (xOp dAdd (xVar 1) (xL (xLc (xItems (xCall (C 3) (xCons (xIx (xVar 0) (xVar 2)) xNil))) (gNm 3) xYes (xOp dAdd (xTup (xCons (xOp dSub (xVar 2) (xC (.int 1))) xNil)) (xVar 3)) [3]))))) sNext)
    (sRet false [] (xVar 1))))
def b__law_part (fuel : Nat) (C : Nat → List D → Rs → Out D) : Sx :=
    (sSeq (sFor [] (xItems (xVar 1)) (gNm 2) (sAsg [] (gNm 0) (xIx (xVar 0) (xOp dAdd (xVar 2) (xC (.int 1))))))
    (sRet false [] (xVar 0)))
def b__law_put (fuel : Nat) (C : Nat → List D → Rs → Out D) : Sx :=
    (sSeq (sIfF [3] (xB (xOp dEq (xCB cLen (xCons (xVar 1) xNil)) (xC (.int 0)))) (sRet false [3] (xVar 2)) sNext)
    (sSeq (sAsgN [3] 3 (xListN (xCons (xVar 0) xNil)))
    (sSeq (isOwnL 3 (sSetOI 3 (xOp dAdd (xIx (xVar 1) (xC (.int 0))) (xC (.int 1))) (xCall (C 5) (xCons (xIx (xVar 3) (xOp dAdd (xIx (xVar 1) (xC (.int 0))) (xC (.int 1)))) (xCons (xSl (xVar 1) (xPart (xC (.int 1))) xNoP) (xCons (xVar 2) xNil))))))
    (sFrz 3
    (sRet false [] (xCB cTuple (xCons (xVar 3) xNil)))))))
def b__law_refused (fuel : Nat) (C : Nat → List D → Rs → Out D) : Sx :=
    (sSeq (sTryAsE lexcs 0 2 (sExp [] (xCall (C 427) (xCons (xVar 0) (xCons (xVar 1) xNil)))) (fun cc => (sSuIf (xNot (xTr (xC (.bl (subE cc 6))))) (sRet false [] (xC (.bl false))) sNext)) (sRet false [] (xC (.bl false))))
    (sSeq (sTryAs lexcs 0 2 (sExp [] (xCall (C 430) (xCons (xVar 0) (xCons (xVar 1) (xCons (xTup (xCons (xC (.str "a")) xNil)) xNil))))) (fun cc => (sRet false [] (xC (.bl (subE cc 6))))))
    (sRet false [] (xC (.bl false)))))
def b__law_listed (fuel : Nat) (C : Nat → List D → Rs → Out D) : Sx :=
    (sSeq (sAsg [3, 4] (gNm 1) (xL (xLc (xItems (xCall (C 3) (xCons (xVar 0) xNil))) (gNm 2) xYes (xCall (C 4) (xCons (xVar 0) (xCons (xVar 2) xNil))) [2])))
    (sSeq (sAsgN [3, 4] 3 (xLst' xNil))
    (sSeq (sAsgN [3, 4] 4 (xLst' xNil))
    (sSeq (sFor [3, 4] (xItems (xVar 1)) (gNm 5) (sSeq (sIf (xB (xOp dNotIn (xVar 5) (xVar 3))) (isOwnL 3 (sApp [3, 4] 3 (xCons (xVar 5) xNil))) sNext)
    (sIf (xAnd (xTr (xCB cIsi (xCons (xVar 5) (xCons (xC (.ty "str")) xNil)))) (xB (xOp dNotIn (xVar 5) (xVar 4)))) (isOwnL 4 (sApp [3, 4] 4 (xCons (xVar 5) xNil))) sNext)))
    (sSeq (sAsg [3, 4] (gNm 6) (xCall (C 431) (xCons (xVar 0) xNil)))
    (sSeq (sIfF [3, 4] (xOr (xNot (xTr (xCB cIsi (xCons (xVar 6) (xCons (xC (.ty "int")) xNil))))) (xOr (xTr (xCB cIsi (xCons (xVar 6) (xCons (xC (.ty "bool")) xNil)))) (xB (xOp dNe (xVar 6) (xCB cLen (xCons (xVar 1) xNil)))))) (sRet false [3, 4] (xC (.bl false))) sNext)
    (sFrz 3
    (sFrz 4
    (sRet false [] (xAndV (xOp dEq (xCall (C 429) (xCons (xVar 0) xNil)) (xCall (C 3) (xCons (xVar 0) xNil))) (xAndV (xOp dEq (xCall (C 428) (xCons (xVar 0) xNil)) (xVar 3)) (xOp dEq (xCall (C 433) (xCons (xVar 0) xNil)) (xVar 4)))))))))))))
def b_law (fuel : Nat) (C : Nat → List D → Rs → Out D) : Sx :=
    (sSeq (sAsg [] (gNm 1) (xCall (C 0) (xCons (xVar 0) xNil)))
    (sSeq (sAsg [] (gNm 2) (xCall (C 2) (xCons (xVar 1) (xCons (xC (.int 4)) xNil))))
    (sSeq (sAsg [] (gNm 3) (xCall (C 2) (xCons (xVar 1) (xCons (xC (.int 2)) xNil))))
    (sSeq (sAsg [] (gNm 4) (xCall (C 3) (xCons (xVar 2) xNil)))
    (sSeq (sAsg [] (gNm 5) (xIx (xVar 4) (xCall (C 1) (xCons (xVar 1) (xCons (xCB cLen (xCons (xVar 4) xNil)) xNil)))))
    (sSeq (sFor [] (xItems (xVar 4)) (gNm 6) (sIfF [] (xB (xOp dNe (xCall (C 427) (xCons (xVar 2) (xCons (xVar 6) xNil))) (xCall (C 4) (xCons (xVar 2) (xCons (xVar 6) xNil))))) (sRet false [] (xC (.bl false))) sNext))
    (sSeq (sAsg [] (gNm 7) (xCall (C 5) (xCons (xVar 2) (xCons (xVar 5) (xCons (xVar 3) xNil)))))
    (sSeq (sAsg [] (gNm 8) (xCall (C 430) (xCons (xVar 2) (xCons (xVar 5) (xCons (xVar 3) xNil)))))
    (sSeq (sIfF [] (xOr (xB (xOp dNe (xVar 8) (xVar 7))) (xB (xOp dNe (xCall (C 427) (xCons (xVar 8) (xCons (xVar 5) xNil))) (xVar 3)))) (sRet false [] (xC (.bl false))) sNext)
    (sSeq (sAsg [] (gNm 9) (xCall (C 4) (xCons (xVar 2) (xCons (xVar 5) xNil))))
    (sSeq (sIfF [] (xB (xOp dNe (xCall (C 430) (xCons (xVar 8) (xCons (xVar 5) (xCons (xVar 9) xNil)))) (xVar 2))) (sRet false [] (xC (.bl false))) sNext)
    (sSeq (sAsg [] (gNm 10) (xOp dAdd (xVar 5) (xTup (xCons (xOp dSub (xCB cLen (xCons (xVar 9) xNil)) (xC (.int 1))) xNil))))
    (sSeq (sIfF [] (xTr (xCB cIsi (xCons (xVar 9) (xCons (xC (.ty "str")) xNil)))) (sAsg [] (gNm 10) (xOp dAdd (xVar 5) (xTup (xCons (xCall (C 1) (xCons (xVar 1) (xCons (xC (.int 3)) xNil))) xNil)))) sNext)
    (sSeq (sIfF [] (xOr (xNot (xTr (xCall (C 6) (xCons (xVar 2) (xCons (xVar 10) xNil))))) (xNot (xTr (xCall (C 6) (xCons (xVar 2) (xCons (xOp dAdd (xVar 10) (xTup (xCons (xC (.int 0)) xNil))) xNil)))))) (sRet false [] (xC (.bl false))) sNext)
    (sRet false [] (xAndV (xCall (C 7) (xCons (xVar 2) xNil)) (xAndV (xCall (C 7) (xCons (xVar 3) xNil)) (xCall (C 7) (xCons (xVar 7) xNil)))))))))))))))))))
def lw (fuel : Nat) (C : Nat → List D → Rs → Out D) : Nat → List D → Rs → Out D
  | 0 => runF 7 (b__law_start fuel C)
  | 1 => runF 4 (b__law_take fuel C)
  | 2 => runF 4 (b__law_term fuel C)
  | 3 => runF 4 (b__law_places fuel C)
  | 4 => runF 3 (b__law_part fuel C)
  | 5 => runF 4 (b__law_put fuel C)
  | 6 => runF 3 (b__law_refused fuel C)
  | 7 => runF 7 (b__law_listed fuel C)
  | 8 => runF 11 (b_law fuel C)
  | _ => fun _ _ => .bad
abbrev pr (fuel : Nat) := prP fuel (lw fuel)
theorem e__law_start {fuel n} : pr fuel (n + 1) 0 = runF 7 (b__law_start fuel (pr fuel n)) := rfl
theorem e__law_take {fuel n} : pr fuel (n + 1) 1 = runF 4 (b__law_take fuel (pr fuel n)) := rfl
theorem e__law_term {fuel n} : pr fuel (n + 1) 2 = runF 4 (b__law_term fuel (pr fuel n)) := rfl
theorem e__law_places {fuel n} : pr fuel (n + 1) 3 = runF 4 (b__law_places fuel (pr fuel n)) := rfl
theorem e__law_part {fuel n} : pr fuel (n + 1) 4 = runF 3 (b__law_part fuel (pr fuel n)) := rfl
theorem e__law_put {fuel n} : pr fuel (n + 1) 5 = runF 4 (b__law_put fuel (pr fuel n)) := rfl
theorem e__law_refused {fuel n} : pr fuel (n + 1) 6 = runF 3 (b__law_refused fuel (pr fuel n)) := rfl
theorem e__law_listed {fuel n} : pr fuel (n + 1) 7 = runF 7 (b__law_listed fuel (pr fuel n)) := rfl
theorem e_law {fuel n} : pr fuel (n + 1) 8 = runF 11 (b_law fuel (pr fuel n)) := rfl
end Law

local macro_rules | `(tactic| trivial) => `(tactic| (try simp -dsimp only [↓ML.ev_ok, ↓ML.ev_exc, ↓ML.ev_bind, ↓ML.ev_var, ↓ML.ev_c, ↓ML.ev_op, ↓ML.ev_ix, ↓ML.ev_nop, ↓ML.ev_part, ↓ML.ev_sl, ↓ML.ev_tr, ↓ML.ev_b, ↓ML.ev_ch, ↓ML.ev_v, ↓ML.ev_and, ↓ML.ev_or, ↓ML.ev_not, ↓ML.ev_if, ↓ML.ev_tif, ↓ML.ev_andv, ↓ML.ev_orv, ↓ML.ev_notv, ↓ML.ev_neg, ↓ML.ev_nil, ↓ML.ev_cons, ↓ML.ev_tup, ↓ML.ev_lst, ↓ML.ev_lst', ↓ML.ev_cb, ↓ML.ev_call, ↓ML.ev_calld, ↓ML.ev_l, ↓ML.ev_d, ↓ML.ev_listn, ↓ML.ev_items, ↓ML.ev_rng1, ↓ML.ev_rng2, ↓ML.ev_lc, ↓ML.ev_lc2, ↓ML.ev_dget, ↓ML.ev_dget1, ↓ML.ev_dget2, ↓ML.ev_din, ↓ML.ev_kd, ↓ML.ev_dnew, ↓ML.ev_yes, ↓ML.ev_dcopy, ↓ML.ev_ps0, ↓ML.ev_ps1, ↓ML.ev_disp, ↓ML.ev_res, ↓ML.ev_resd, ↓ML.ev_fld, ↓ML.ev_con, ↓ML.ev_meth, ↓ML.ev_prop, ↓ML.ev_newf, ↓ML.ev_newr, ↓ML.ev_calln, ↓ML.ev_callnd, ↓ML.ev_sort, ↓ML.ev_join, ↓ML.ev_dc, ↓ML.sv_next, ↓ML.sv_brk, ↓ML.sv_cont, ↓ML.sv_ret, ↓ML.sv_exc, ↓ML.sv_seq, ↓ML.sv_nx, ↓ML.sv_bk, ↓ML.sv_ct, ↓ML.sv_evF, ↓ML.sv_evI, ↓ML.sv_store, ↓ML.sv_asg, ↓ML.sv_asgI, ↓ML.sv_own, ↓ML.sv_ownD, ↓ML.sv_asgN, ↓ML.sv_asgD, ↓ML.sv_asgNI, ↓ML.sv_exp, ↓ML.sv_sret, ↓ML.sv_sretI, ↓ML.sv_sretN, ↓ML.sv_sretD, ↓ML.sv_sretNI, ↓ML.sv_sretO, ↓ML.sv_sretOD, ↓ML.sv_retn, ↓ML.sv_move, ↓ML.sv_give, ↓ML.sv_isL, ↓ML.sv_isD, ↓ML.sv_kApp, ↓ML.sv_app, ↓ML.sv_appI, ↓ML.sv_kIns, ↓ML.sv_ins, ↓ML.sv_insI, ↓ML.sv_extN, ↓ML.sv_extI, ↓ML.sv_ext, ↓ML.sv_if, ↓ML.sv_ifF, ↓ML.sv_for, ↓ML.sv_forR1I, ↓ML.sv_aug, ↓ML.sv_par, ↓ML.sv_raise, ↓ML.sv_setOI, ↓ML.sv_tryAs, ↓ML.sv_tryAsE, ↓ML.sv_suIf, ↓ML.sv_frz, ↓ML.sv_pop, ↓ML.sv_kSetO, ↓ML.sv_setO, ↓ML.sv_kDPut, ↓ML.sv_dput, ↓ML.bif_t, ↓ML.bif_f, ↓ML.bif_nt, ↓ML.bif_nf, ↓ML.bif_sn, ↓ML.bif_ss, ↓ML.so_some, ↓ML.sop_some, ↓ML.ck_true, ↓ML.ck_tt, ↓ML.ck_eq, ↓ML.ck_len0, ↓ML.ck_len1, ↓ML.ck_len2, ↓ML.ck_len3, ↓ML.ck_len4, ↓ML.ck_len5, ↓ML.ck_len6, ↓ML.ck_len7, ↓ML.ck_len8, ↓ML.ck_len9, ↓ML.ck_len10, ↓ML.ck_len11, ↓ML.ck_len12, ↓ML.ck_len13, ↓ML.ck_len14, ↓ML.ck_len15, ↓ML.ck_len16, ↓ML.ck_lt0, ↓ML.ck_15_0, ↓ML.ck_lt1, ↓ML.ck_15_1, ↓ML.ck_lt2, ↓ML.ck_15_2, ↓ML.ck_lt3, ↓ML.ck_15_3, ↓ML.ck_lt4, ↓ML.ck_15_4, ↓ML.ck_lt5, ↓ML.ck_15_5, ↓ML.ck_lt6, ↓ML.ck_15_6, ↓ML.ck_lt7, ↓ML.ck_15_7, ↓ML.ck_lt8, ↓ML.ck_15_8, ↓ML.ck_lt9, ↓ML.ck_15_9, ↓ML.ck_lt10, ↓ML.ck_15_10, ↓ML.ck_lt11, ↓ML.ck_15_11, ↓ML.get_0, ↓ML.set_0, ↓ML.setn_0, ↓ML.get_1, ↓ML.set_1, ↓ML.setn_1, ↓ML.get_2, ↓ML.set_2, ↓ML.setn_2, ↓ML.get_3, ↓ML.set_3, ↓ML.setn_3, ↓ML.get_4, ↓ML.set_4, ↓ML.setn_4, ↓ML.get_5, ↓ML.set_5, ↓ML.setn_5, ↓ML.get_6, ↓ML.set_6, ↓ML.setn_6, ↓ML.get_7, ↓ML.set_7, ↓ML.setn_7, ↓ML.get_8, ↓ML.set_8, ↓ML.setn_8, ↓ML.get_9, ↓ML.set_9, ↓ML.setn_9, ↓ML.get_10, ↓ML.set_10, ↓ML.setn_10, ↓ML.get_11, ↓ML.set_11, ↓ML.setn_11, ↓ML.get_12, ↓ML.set_12, ↓ML.setn_12, ↓ML.get_13, ↓ML.set_13, ↓ML.setn_13, ↓ML.get_14, ↓ML.set_14, ↓ML.setn_14, ↓ML.get_15, ↓ML.set_15, ↓ML.setn_15, ↓ML.get_16, ↓ML.set_16, ↓ML.setn_16, ↓ML.get_17, ↓ML.set_17, ↓ML.setn_17, ↓ML.get_18, ↓ML.set_18, ↓ML.setn_18, ↓ML.get_19, ↓ML.set_19, ↓ML.setn_19, ↓ML.get_20, ↓ML.set_20, ↓ML.setn_20, ↓ML.get_21, ↓ML.set_21, ↓ML.setn_21, ↓ML.get_22, ↓ML.set_22, ↓ML.setn_22, ↓ML.get_23, ↓ML.set_23, ↓ML.setn_23, ↓ML.get_24, ↓ML.set_24, ↓ML.setn_24, ↓ML.get_25, ↓ML.set_25, ↓ML.setn_25, ↓ML.get_26, ↓ML.set_26, ↓ML.setn_26, ↓ML.get_27, ↓ML.set_27, ↓ML.setn_27, ↓ML.get_28, ↓ML.set_28, ↓ML.setn_28, ↓ML.get_29, ↓ML.set_29, ↓ML.setn_29, ↓ML.get_30, ↓ML.set_30, ↓ML.setn_30, ↓ML.get_31, ↓ML.set_31, ↓ML.setn_31, ↓ML.get_32, ↓ML.set_32, ↓ML.setn_32, ↓ML.get_33, ↓ML.set_33, ↓ML.setn_33, ↓ML.get_34, ↓ML.set_34, ↓ML.setn_34, ↓ML.get_35, ↓ML.set_35, ↓ML.setn_35, ↓ML.get_36, ↓ML.set_36, ↓ML.setn_36, ↓ML.get_37, ↓ML.set_37, ↓ML.setn_37, ↓ML.get_38, ↓ML.set_38, ↓ML.setn_38, ↓ML.get_39, ↓ML.set_39, ↓ML.setn_39, ↓ML.get_40, ↓ML.set_40, ↓ML.setn_40, ↓ML.get_41, ↓ML.set_41, ↓ML.setn_41, ↓ML.get_42, ↓ML.set_42, ↓ML.setn_42, ↓ML.get_43, ↓ML.set_43, ↓ML.setn_43, ↓ML.get_44, ↓ML.set_44, ↓ML.setn_44, ↓ML.get_45, ↓ML.set_45, ↓ML.setn_45, ↓ML.get_46, ↓ML.set_46, ↓ML.setn_46, ↓ML.get_47, ↓ML.set_47, ↓ML.setn_47, ↓ML.wp_nil, ↓ML.wp_cons, ↓ML.ver_self, ↓ML.tgt_nm, ↓ML.tgt_tup1, ↓ML.tgt_lst1, ↓ML.tgt_tup2, ↓ML.tgt_lst2, ↓ML.tgt_tup3, ↓ML.tgt_lst3, ↓ML.tgt_tup4, ↓ML.tgt_lst4, ↓ML.tgt_tup5, ↓ML.tgt_lst5, ↓ML.tgt_tup6, ↓ML.tgt_lst6, ↓ML.tgts_nil, ↓ML.tgts_cons, ↓ML.as_l, ↓ML.as_d, ↓ML.as_b, ↓ML.as_i, ↓ML.as_s, ↓ML.as_1, ↓ML.as_2, ↓ML.imm_int, ↓ML.imm_str, ↓ML.imm_bl, ↓ML.imm_non, ↓ML.imm_loc, ↓ML.imm_tup, ↓ML.imms_nil, ↓ML.imms_cons, ↓ML.so_add, ↓ML.so_sub, ↓ML.so_lt, ↓ML.so_le, ↓ML.so_gt, ↓ML.so_ge, ↓ML.so_if, ↓ML.so_mul, ↓ML.so_mod, ↓ML.so_div, ↓ML.so_addT, ↓ML.so_addL, ↓ML.so_addS, ↓ML.so_ixL, ↓ML.so_ixT, ↓ML.so_slL, ↓ML.so_slT, ↓ML.so_len1, ↓ML.so_len2, ↓ML.so_len3, ↓ML.so_len4, ↓ML.so_len5, ↓ML.so_abs, ↓ML.so_int, ↓ML.so_intb, ↓ML.so_list1, ↓ML.so_list2, ↓ML.so_tuple1, ↓ML.so_tuple2, ↓ML.so_max2, ↓ML.so_min2, ↓ML.so_str, ↓ML.so_isL, ↓ML.so_isT, ↓ML.so_isS, ↓ML.so_isST, ↓ML.so_isTS, ↓ML.so_isI, ↓ML.so_isIB, ↓ML.so_isN, ↓ML.so_isnN, ↓ML.so_isb, ↓ML.so_isnb, ↓ML.so_listn1, ↓ML.so_listn2, ↓ML.so_it1, ↓ML.so_it2, ↓ML.tr_b, ↓ML.tr_i, ↓ML.tr_l, ↓ML.tr_t, ↓ML.tr_n, ↓ML.keyof_s, ↓ML.keyof_i, ↓ML.fld_ins, ↓ML.ins_ins, ↓ML.soix_0, ↓ML.soix_1, ↓ML.soix_2, ↓ML.soix_3, ↓ML.soix_4, ↓ML.soix_5, ↓ML.soix_6, ↓ML.soix_7, ↓ML.as_loc, ↓ML.ev_appR, ↓ML.sv_setR, ↓ML.sv_kSetR, ↓ML.sv_dsetR, ↓ML.sv_kDSetR, ↓ML.so_ixR, ↓ML.so_ixs, ↓ML.at_0, ↓ML.at_1, ↓ML.at_2, ↓ML.at_3, ↓ML.grl_0, ↓ML.grd_0, ↓ML.lenl_0, ↓ML.lend_0, ↓ML.sro_0, ↓ML.grl_1, ↓ML.grd_1, ↓ML.lenl_1, ↓ML.lend_1, ↓ML.sro_1, ↓ML.grl_2, ↓ML.grd_2, ↓ML.lenl_2, ↓ML.lend_2, ↓ML.sro_2, ↓ML.grl_3, ↓ML.grd_3, ↓ML.lenl_3, ↓ML.lend_3, ↓ML.sro_3, ↓ML.sv_for0, ↓ML.sv_for1]))
namespace K86
open PySem L2 DL ML Law MS MT
local macro_rules | `(tactic| trivial) => `(tactic| (try simp -dsimp only [↓ML.ev_ok, ↓ML.ev_exc, ↓ML.ev_bind, ↓ML.ev_var, ↓ML.ev_c, ↓ML.ev_op, ↓ML.ev_ix, ↓ML.ev_nop, ↓ML.ev_part, ↓ML.ev_sl, ↓ML.ev_tr, ↓ML.ev_b, ↓ML.ev_ch, ↓ML.ev_v, ↓ML.ev_and, ↓ML.ev_or, ↓ML.ev_not, ↓ML.ev_if, ↓ML.ev_tif, ↓ML.ev_andv, ↓ML.ev_orv, ↓ML.ev_notv, ↓ML.ev_neg, ↓ML.ev_nil, ↓ML.ev_cons, ↓ML.ev_tup, ↓ML.ev_lst, ↓ML.ev_lst', ↓ML.ev_cb, ↓ML.ev_call, ↓ML.ev_calld, ↓ML.ev_l, ↓ML.ev_d, ↓ML.ev_listn, ↓ML.ev_items, ↓ML.ev_rng1, ↓ML.ev_rng2, ↓ML.ev_lc, ↓ML.ev_lc2, ↓ML.ev_dget, ↓ML.ev_dget1, ↓ML.ev_dget2, ↓ML.ev_din, ↓ML.ev_kd, ↓ML.ev_dnew, ↓ML.ev_yes, ↓ML.ev_dcopy, ↓ML.ev_ps0, ↓ML.ev_ps1, ↓ML.ev_disp, ↓ML.ev_res, ↓ML.ev_resd, ↓ML.ev_fld, ↓ML.ev_con, ↓ML.ev_meth, ↓ML.ev_prop, ↓ML.ev_newf, ↓ML.ev_newr, ↓ML.ev_calln, ↓ML.ev_callnd, ↓ML.ev_sort, ↓ML.ev_join, ↓ML.ev_dc, ↓ML.sv_next, ↓ML.sv_brk, ↓ML.sv_cont, ↓ML.sv_ret, ↓ML.sv_exc, ↓ML.sv_seq, ↓ML.sv_nx, ↓ML.sv_bk, ↓ML.sv_ct, ↓ML.sv_evF, ↓ML.sv_evI, ↓ML.sv_store, ↓ML.sv_asg, ↓ML.sv_asgI, ↓ML.sv_own, ↓ML.sv_ownD, ↓ML.sv_asgN, ↓ML.sv_asgD, ↓ML.sv_asgNI, ↓ML.sv_exp, ↓ML.sv_sret, ↓ML.sv_sretI, ↓ML.sv_sretN, ↓ML.sv_sretD, ↓ML.sv_sretNI, ↓ML.sv_sretO, ↓ML.sv_sretOD, ↓ML.sv_retn, ↓ML.sv_move, ↓ML.sv_give, ↓ML.sv_isL, ↓ML.sv_isD, ↓ML.sv_kApp, ↓ML.sv_app, ↓ML.sv_appI, ↓ML.sv_kIns, ↓ML.sv_ins, ↓ML.sv_insI, ↓ML.sv_extN, ↓ML.sv_extI, ↓ML.sv_ext, ↓ML.sv_if, ↓ML.sv_ifF, ↓ML.sv_for, ↓ML.sv_forR1I, ↓ML.sv_aug, ↓ML.sv_par, ↓ML.sv_raise, ↓ML.sv_setOI, ↓ML.sv_tryAs, ↓ML.sv_tryAsE, ↓ML.sv_suIf, ↓ML.sv_frz, ↓ML.sv_pop, ↓ML.sv_kSetO, ↓ML.sv_setO, ↓ML.sv_kDPut, ↓ML.sv_dput, ↓ML.bif_t, ↓ML.bif_f, ↓ML.bif_nt, ↓ML.bif_nf, ↓ML.bif_sn, ↓ML.bif_ss, ↓ML.so_some, ↓ML.sop_some, ↓ML.ck_true, ↓ML.ck_tt, ↓ML.ck_eq, ↓ML.ck_len0, ↓ML.ck_len1, ↓ML.ck_len2, ↓ML.ck_len3, ↓ML.ck_len4, ↓ML.ck_len5, ↓ML.ck_len6, ↓ML.ck_len7, ↓ML.ck_len8, ↓ML.ck_len9, ↓ML.ck_len10, ↓ML.ck_len11, ↓ML.ck_len12, ↓ML.ck_len13, ↓ML.ck_len14, ↓ML.ck_len15, ↓ML.ck_len16, ↓ML.ck_lt0, ↓ML.ck_15_0, ↓ML.ck_lt1, ↓ML.ck_15_1, ↓ML.ck_lt2, ↓ML.ck_15_2, ↓ML.ck_lt3, ↓ML.ck_15_3, ↓ML.ck_lt4, ↓ML.ck_15_4, ↓ML.ck_lt5, ↓ML.ck_15_5, ↓ML.ck_lt6, ↓ML.ck_15_6, ↓ML.ck_lt7, ↓ML.ck_15_7, ↓ML.ck_lt8, ↓ML.ck_15_8, ↓ML.ck_lt9, ↓ML.ck_15_9, ↓ML.ck_lt10, ↓ML.ck_15_10, ↓ML.ck_lt11, ↓ML.ck_15_11, ↓ML.get_0, ↓ML.set_0, ↓ML.setn_0, ↓ML.get_1, ↓ML.set_1, ↓ML.setn_1, ↓ML.get_2, ↓ML.set_2, ↓ML.setn_2, ↓ML.get_3, ↓ML.set_3, ↓ML.setn_3, ↓ML.get_4, ↓ML.set_4, ↓ML.setn_4, ↓ML.get_5, ↓ML.set_5, ↓ML.setn_5, ↓ML.get_6, ↓ML.set_6, ↓ML.setn_6, ↓ML.get_7, ↓ML.set_7, ↓ML.setn_7, ↓ML.get_8, ↓ML.set_8, ↓ML.setn_8, ↓ML.get_9, ↓ML.set_9, ↓ML.setn_9, ↓ML.get_10, ↓ML.set_10, ↓ML.setn_10, ↓ML.get_11, ↓ML.set_11, ↓ML.setn_11, ↓ML.get_12, ↓ML.set_12, ↓ML.setn_12, ↓ML.get_13, ↓ML.set_13, ↓ML.setn_13, ↓ML.get_14, ↓ML.set_14, ↓ML.setn_14, ↓ML.get_15, ↓ML.set_15, ↓ML.setn_15, ↓ML.get_16, ↓ML.set_16, ↓ML.setn_16, ↓ML.get_17, ↓ML.set_17, ↓ML.setn_17, ↓ML.get_18, ↓ML.set_18, ↓ML.setn_18, ↓ML.get_19, ↓ML.set_19, ↓ML.setn_19, ↓ML.get_20, ↓ML.set_20, ↓ML.setn_20, ↓ML.get_21, ↓ML.set_21, ↓ML.setn_21, ↓ML.get_22, ↓ML.set_22, ↓ML.setn_22, ↓ML.get_23, ↓ML.set_23, ↓ML.setn_23, ↓ML.get_24, ↓ML.set_24, ↓ML.setn_24, ↓ML.get_25, ↓ML.set_25, ↓ML.setn_25, ↓ML.get_26, ↓ML.set_26, ↓ML.setn_26, ↓ML.get_27, ↓ML.set_27, ↓ML.setn_27, ↓ML.get_28, ↓ML.set_28, ↓ML.setn_28, ↓ML.get_29, ↓ML.set_29, ↓ML.setn_29, ↓ML.get_30, ↓ML.set_30, ↓ML.setn_30, ↓ML.get_31, ↓ML.set_31, ↓ML.setn_31, ↓ML.get_32, ↓ML.set_32, ↓ML.setn_32, ↓ML.get_33, ↓ML.set_33, ↓ML.setn_33, ↓ML.get_34, ↓ML.set_34, ↓ML.setn_34, ↓ML.get_35, ↓ML.set_35, ↓ML.setn_35, ↓ML.get_36, ↓ML.set_36, ↓ML.setn_36, ↓ML.get_37, ↓ML.set_37, ↓ML.setn_37, ↓ML.get_38, ↓ML.set_38, ↓ML.setn_38, ↓ML.get_39, ↓ML.set_39, ↓ML.setn_39, ↓ML.get_40, ↓ML.set_40, ↓ML.setn_40, ↓ML.get_41, ↓ML.set_41, ↓ML.setn_41, ↓ML.get_42, ↓ML.set_42, ↓ML.setn_42, ↓ML.get_43, ↓ML.set_43, ↓ML.setn_43, ↓ML.get_44, ↓ML.set_44, ↓ML.setn_44, ↓ML.get_45, ↓ML.set_45, ↓ML.setn_45, ↓ML.get_46, ↓ML.set_46, ↓ML.setn_46, ↓ML.get_47, ↓ML.set_47, ↓ML.setn_47, ↓ML.wp_nil, ↓ML.wp_cons, ↓ML.ver_self, ↓ML.tgt_nm, ↓ML.tgt_tup1, ↓ML.tgt_lst1, ↓ML.tgt_tup2, ↓ML.tgt_lst2, ↓ML.tgt_tup3, ↓ML.tgt_lst3, ↓ML.tgt_tup4, ↓ML.tgt_lst4, ↓ML.tgt_tup5, ↓ML.tgt_lst5, ↓ML.tgt_tup6, ↓ML.tgt_lst6, ↓ML.tgts_nil, ↓ML.tgts_cons, ↓ML.as_l, ↓ML.as_d, ↓ML.as_b, ↓ML.as_i, ↓ML.as_s, ↓ML.as_1, ↓ML.as_2, ↓ML.imm_int, ↓ML.imm_str, ↓ML.imm_bl, ↓ML.imm_non, ↓ML.imm_loc, ↓ML.imm_tup, ↓ML.imms_nil, ↓ML.imms_cons, ↓ML.so_add, ↓ML.so_sub, ↓ML.so_lt, ↓ML.so_le, ↓ML.so_gt, ↓ML.so_ge, ↓ML.so_if, ↓ML.so_mul, ↓ML.so_mod, ↓ML.so_div, ↓ML.so_addT, ↓ML.so_addL, ↓ML.so_addS, ↓ML.so_ixL, ↓ML.so_ixT, ↓ML.so_slL, ↓ML.so_slT, ↓ML.so_len1, ↓ML.so_len2, ↓ML.so_len3, ↓ML.so_len4, ↓ML.so_len5, ↓ML.so_abs, ↓ML.so_int, ↓ML.so_intb, ↓ML.so_list1, ↓ML.so_list2, ↓ML.so_tuple1, ↓ML.so_tuple2, ↓ML.so_max2, ↓ML.so_min2, ↓ML.so_str, ↓ML.so_isL, ↓ML.so_isT, ↓ML.so_isS, ↓ML.so_isST, ↓ML.so_isTS, ↓ML.so_isI, ↓ML.so_isIB, ↓ML.so_isN, ↓ML.so_isnN, ↓ML.so_isb, ↓ML.so_isnb, ↓ML.so_listn1, ↓ML.so_listn2, ↓ML.so_it1, ↓ML.so_it2, ↓ML.tr_b, ↓ML.tr_i, ↓ML.tr_l, ↓ML.tr_t, ↓ML.tr_n, ↓ML.keyof_s, ↓ML.keyof_i, ↓ML.fld_ins, ↓ML.ins_ins, ↓ML.soix_0, ↓ML.soix_1, ↓ML.soix_2, ↓ML.soix_3, ↓ML.soix_4, ↓ML.soix_5, ↓ML.soix_6, ↓ML.soix_7, ↓ML.as_loc, ↓ML.ev_appR, ↓ML.sv_setR, ↓ML.sv_kSetR, ↓ML.sv_dsetR, ↓ML.sv_kDSetR, ↓ML.so_ixR, ↓ML.so_ixs, ↓ML.at_0, ↓ML.at_1, ↓ML.at_2, ↓ML.at_3, ↓ML.grl_0, ↓ML.grd_0, ↓ML.lenl_0, ↓ML.lend_0, ↓ML.sro_0, ↓ML.grl_1, ↓ML.grd_1, ↓ML.lenl_1, ↓ML.lend_1, ↓ML.sro_1, ↓ML.grl_2, ↓ML.grd_2, ↓ML.lenl_2, ↓ML.lend_2, ↓ML.sro_2, ↓ML.grl_3, ↓ML.grd_3, ↓ML.lenl_3, ↓ML.lend_3, ↓ML.sro_3, ↓ML.sv_for0, ↓ML.sv_for1, ↓so_eqi, ↓so_nei]))
theorem ltake_ev {fuel n k : Nat} {m : Int} {R : Rs} {Q : D → Rs → Prop} {E : Nat → List (Str × Int) → Rs → Prop} {t : Tag2 Q E} (h : Dr (k + 1) R) (hm : 0 < m) (H : ∀ (v : Nat) R', (v : Int) < m → Dr k R' → Q (.int v) R') : Ev (pr fuel (n + 1) 1 [.loc 1, .int m] R) Q E t := by
  rw [e__law_take]
  exact take_ev h hm fun v R' h0 h1 hd => by obtain ⟨j, rfl⟩ := nat_of h0; exact H j R' h1 hd
theorem lstart_ev {fuel n : Nat} {ns : List Int} {Q : D → Rs → Prop} {E : Nat → List (Str × Int) → Rs → Prop} {t : Tag2 Q E} (hn : ns.length ≤ 63) (H : ∀ R, Dr 1000000000 R → Q (.loc 1) R) : Ev (pr fuel (n + 1) 0 [.scr ns] []) Q E t := by
  rw [e__law_start]
  exact start_ev hn H
theorem ev_x {α : Type} {o : Out α} {c : Nat} {fs : List (Str × Int)} {r : Rs} {Q : α → Rs → Prop} {E : Nat → List (Str × Int) → Rs → Prop} {t : Tag2 Q E} (h : o = .exc c fs r) (q : E c fs r) : Ev o Q E t := by rw [h]; exact q
def bud : Nat → Nat
  | 0 => 2
  | d + 1 => 3 * bud d + 1
theorem bud_2 : ∀ d, 2 ≤ bud d
  | 0 => Nat.le_refl _
  | d + 1 => by rw [bud]; have := bud_2 d; omega
theorem un_tm {n : Nat} {x : Str} (h : PyData.strOk x = true := by decide +kernel) (l : x.length ≤ 100 := by decide +kernel) : Tm n (.str x) := .un h l
theorem co_tm {n : Nat} {x : Str} (h : PyData.strOk x = true := by decide +kernel) : Tm (n + 1) (.tup [.str x]) := .ap h (by simp) fun a ha => nomatch ha
theorem leaf_at {n w : Nat} (h : (w : Int) < 6) : ∃ d, atI [D.str "x", .str "y", .str "z9", .tup [.str "a"], .tup [.str "b"], .tup [.str "longname12"]] (w : Int) = some d ∧ Tm (n + 1) d := by
  have : w = 0 ∨ w = 1 ∨ w = 2 ∨ w = 3 ∨ w = 4 ∨ w = 5 := by omega
  rcases this with rfl | rfl | rfl | rfl | rfl | rfl
  · exact ⟨_, rfl, un_tm⟩
  · exact ⟨_, rfl, un_tm⟩
  · exact ⟨_, rfl, un_tm⟩
  · exact ⟨_, rfl, co_tm⟩
  · exact ⟨_, rfl, co_tm⟩
  · exact ⟨_, rfl, co_tm⟩
theorem fn_tm {n : Nat} {s : Str} {as : List D} (q : ∀ a ∈ as, Tm n a) (l : as.length ≤ 3) (h : PyData.strOk s = true := by decide +kernel) : Tm (n + 1) (.tup (.str s :: as)) := .ap h l q
theorem lterm_ev {fuel : Nat} : ∀ {dd m k : Nat} {z : Int} {R : Rs} {Q : D → Rs → Prop} {E : Nat → List (Str × Int) → Rs → Prop} {t : Tag2 Q E}, z = dd → Dr (k + bud dd) R → (∀ d R', Tm (dd + 1) d → Dr k R' → Q d R') → Ev (pr fuel (dd + m + 2) 2 [.loc 1, .int z] R) Q E t := by
  intro dd
  induction dd with
  | zero =>
    intro m k z R Q E t hz hR H
    subst hz
    rw [e__law_term, ev_run]
    unfold b__law_term
    show Sv (sSeq _ _ [some _, some _, none, none] _) _ _ _
    trivial
    refine ltake_ev (k := k + 1) hR (by decide) fun v R1 hv hR1 => ?_
    trivial
    refine bif_d (fun _ => ?_) (fun c => absurd rfl c)
    trivial
    refine ltake_ev (k := k) hR1 (by decide) fun w R2 hw hR2 => ?_
    trivial
    obtain ⟨d, e, q⟩ := leaf_at (n := 0) hw
    refine so_i e ?_
    trivial
    exact H d R2 q hR2
  | succ dd ih =>
    intro m k z R Q E t hz hR H
    subst hz
    have hb := bud_2 dd
    rw [show dd + 1 + m + 2 = (dd + m + 2) + 1 by omega, e__law_term, ev_run]
    unfold b__law_term
    show Sv (sSeq _ _ [some _, some _, none, none] _) _ _ _
    trivial
    refine ltake_ev (k := k + 3 * bud dd) hR (by decide) fun v R1 hv hR1 => ?_
    trivial
    refine bif_d (fun c => absurd c (by omega)) (fun _ => ?_)
    trivial
    refine bif_d (fun c => ?_) (fun c => ?_)
    · trivial
      refine ltake_ev (k := k) (hR1.le (by omega)) (by decide) fun w R2 hw hR2 => ?_
      trivial
      obtain ⟨d, e, q⟩ := leaf_at (n := dd + 1) hw
      refine so_i e ?_
      trivial
      exact H d R2 q hR2
    trivial
    refine bif_d (fun c => ?_) (fun c => ?_)
    · trivial
      refine ih (k := k) (by omega) (hR1.le (by omega)) fun a Ra ta hRa => ?_
      trivial
      exact H _ _ (fn_tm (fun x hx => by rw [List.mem_singleton] at hx; subst hx; exact ta) (by simp)) hRa
    trivial
    refine bif_d (fun c => ?_) (fun c => ?_)
    · trivial
      refine ih (k := k + bud dd) (by omega) (hR1.le (by omega)) fun a Ra ta hRa => ?_
      trivial
      refine ih (k := k) (by omega) hRa fun b Rb tb hRb => ?_
      trivial
      exact H _ _ (fn_tm (fun x hx => by
        rcases List.mem_cons.mp hx with e | e
        · subst e; exact ta
        · rw [List.mem_singleton] at e; subst e; exact tb) (by simp)) hRb
    trivial
    refine ih (k := k + bud dd + bud dd) (by omega) (hR1.le (by omega)) fun a Ra ta hRa => ?_
    trivial
    refine ih (k := k + bud dd) (by omega) hRa fun b Rb tb hRb => ?_
    trivial
    refine ih (k := k) (by omega) hRb fun c Rc tc hRc => ?_
    trivial
    exact H _ _ (fn_tm (fun x hx => by
      rcases List.mem_cons.mp hx with e | e
      · subst e; exact ta
      · rcases List.mem_cons.mp e with e | e
        · subst e; exact tb
        · rw [List.mem_singleton] at e; subst e; exact tc) (by simp)) hRc
section
variable {fuel : Nat} {R : Rs}
theorem lplaces_ev : ∀ {n m : Nat} {d : D}, n ≤ 9 → Tm n d → pr fuel (n + m + 2) 3 [d] R = .ok (.lst ((places n d).map plD)) R := by
  have str : ∀ {n m : Nat} {x : Str}, pr fuel (n + m + 2) 3 [.str x] R = .ok (.lst ((places n (.str x)).map plD)) R := by
    intro n m x
    refine ev_eq ?_
    rw [e__law_places, ev_run, places_str]
    unfold b__law_places
    show Sv (sSeq _ _ [some _, none, none, none] _) _ _ _
    trivial
    exact ⟨(by first | rfl | exact True.intro), (by first | rfl | exact True.intro)⟩
  intro n
  induction n with
  | zero => intro m d _ t; cases t with | un h l => exact str
  | succ n ih =>
    intro m d hn t
    cases t with
    | un h l => exact str
    | @ap _ s as h l q =>
      have hp : 4 ^ n ≤ 4 ^ 8 := pow4_le (by omega)
      refine ev_eq ?_
      rw [show n + 1 + m + 2 = (n + m + 2) + 1 by omega, e__law_places, ev_run]
      unfold b__law_places
      show Sv (sSeq _ _ [some _, none, none, none] _) _ _ _
      trivial
      refine ck_i (by rw [List.length_cons]; unfold big; simp only [Bool.and_eq_true, decide_eq_true_eq]; omega) ?_
      refine sv_forN 1 _ (fun i ρ r => ∃ y2 y3, ρ = [some (.tup (.str s :: as)), some (.lst (([] :: rows (places n) 0 (as.take i)).map plD)), y2, y3] ∧ R = r) ⟨_, _, (by first | rfl | exact True.intro), (by first | rfl | exact True.intro)⟩ ?_ ?_
      · rintro i hi ρ r ⟨y2, y3, rfl, rfl⟩
        have hi' : i < as.length := by rw [List.length_cons] at hi; omega
        have ha : as[i]? = some as[i] := List.getElem?_eq_getElem hi'
        generalize as[i] = a at ha
        have hm : a ∈ as := List.mem_iff_getElem?.mpr ⟨i, ha⟩
        have hr := rows_take_len l q i
        have hal := places_len (q a hm)
        trivial
        refine so_i (ix_one ha) ?_
        trivial
        refine ev_i (ih (by omega) (q a hm)) ?_
        trivial
        refine sop_i (lc_map (enc := plD) (fun p => plD (i :: p)) (xs := places n a) ?_) ?_
        · intro p hp
          have hpl := (places_vd (q a hm) p hp).2
          show Tgt _ (.tup (p.map iD)) _ _ _
          trivial
          refine ck_i (by rw [List.length_map]; show 1 + p.length ≤ 1000000; omega) ?_
          trivial
          rw [pld_cons]
          exact ⟨(by first | rfl | exact True.intro), (by first | rfl | exact True.intro)⟩
        trivial
        refine ck_i (by rw [List.length_map]; show _ ≤ 1000000; omega) ?_
        trivial
        refine ck_i (by rw [List.length_map, List.length_map, List.length_cons]; show _ ≤ 1000000; omega) ?_
        trivial
        rw [show ([] :: rows (places n) 0 (as.take i)).map plD ++ (places n a).map (fun p => plD (i :: p)) = ([] :: rows (places n) 0 (as.take (i + 1))).map plD by rw [rows_take ha, ← List.cons_append, List.map_append, List.map_map]; rfl]
        exact ⟨_, _, (by first | rfl | exact True.intro), (by first | rfl | exact True.intro)⟩
      · rintro ρ r ⟨y2, y3, rfl, rfl⟩
        trivial
        rw [List.take_of_length_le (by rw [List.length_cons]; omega)]
        exact ⟨(by first | rfl | exact True.intro), (by first | rfl | exact True.intro)⟩
theorem lpart_go {P : D} {N : En → Rs → Prop} {k : Ks} {d : D} {p : List Nat} (v : Vd d p) : ∀ {y : Option D} {t : Tag2 N k}, (∀ y', N [some (part d p), some P, y'] R) →
    Sv (forGo (gNm 2) (sAsg [] (gNm 0) (xIx (xVar 0) (xOp dAdd (xVar 2) (xC (.int 1))))) (p.map iD) [some d, some P, y] R) N k t := by
  induction v with
  | nil => intro y t H; exact H y
  | @cons s as i a p h v ih =>
    intro y t H
    rw [part_cons h] at H
    rw [List.map_cons, sv_for1]
    unfold iD
    trivial
    refine so_i (ix_succ h) ?_
    trivial
    exact ih H
theorem lpart_ev {n : Nat} {d : D} {p : List Nat} (v : Vd d p) : pr fuel (n + 1) 4 [d, plD p] R = .ok (part d p) R := by
  refine ev_eq ?_
  rw [e__law_part, ev_run]
  unfold b__law_part plD
  show Sv (sSeq _ _ [some _, some (.tup _), none] _) _ _ _
  trivial
  refine lpart_go v fun y' => ?_
  trivial
  exact ⟨(by first | rfl | exact True.intro), (by first | rfl | exact True.intro)⟩
theorem ix_set {h a : D} {as : List D} {i : Nat} (e : as[i]? = some a) : ixN (h :: as).length ((i : Int) + 1) = some (i + 1) := by
  have hi : i < as.length := (List.getElem?_eq_some_iff.mp e).1
  unfold ixN
  rw [if_pos (by omega), if_pos (by rw [List.length_cons]; omega)]
  congr 1
theorem lput_ev {q : D} {mq : Nat} (hq : Tm mq q) {d : D} {p : List Nat} (v : Vd d p) : ∀ {n m : Nat}, Tm n d → pr fuel (p.length + m + 2) 5 [d, plD p, q] R = .ok (put q d p) R := by
  induction v with
  | nil =>
    intro n m t
    refine ev_eq ?_
    rw [e__law_put, ev_run]
    unfold b__law_put plD
    show Sv (sSeq _ _ [some _, some (.tup []), some _, none] _) _ _ _
    trivial
    refine bif_d (fun _ => ?_) (fun c => absurd rfl c)
    trivial
    exact ⟨by rw [put], (by first | rfl | exact True.intro)⟩
  | @cons s as i a p h v ih =>
    intro n m t
    cases t with
    | @ap n _ _ hs l tq =>
      have hm : a ∈ as := List.mem_iff_getElem?.mpr ⟨i, h⟩
      have tp := put_tm hq v (tq a hm)
      refine ev_eq ?_
      rw [show (i :: p).length + m + 2 = (p.length + m + 2) + 1 by rw [List.length_cons]; omega, e__law_put, ev_run]
      unfold b__law_put plD
      show Sv (sSeq _ _ [some _, some (.tup (.int i :: p.map iD)), some _, none] _) _ _ _
      trivial
      refine bif_d (fun c => ?_) (fun _ => ?_)
      · rw [List.length_cons] at c; omega
      trivial
      refine so_i (ix_succ h) ?_
      trivial
      rw [cut_from1]
      refine ev_i (ih (tq a hm)) ?_
      trivial
      refine imm_i tp.imm ?_
      trivial
      refine so_i (ix_set h) ?_
      trivial
      rw [put_cons h]
      exact ⟨(by first | rfl | exact True.intro), (by first | rfl | exact True.intro)⟩

theorem refused_ev {d : D} {p rest : List Nat} {i : Nat} (v : Vd d p) (o : Out1 (part d p) i) {n m : Nat} (t : Tm n d) : pr fuel (p.length + m + 3) 6 [d, plD (p ++ i :: rest)] R = .ok (.bl true) R := by
  refine ev_eq ?_
  rw [e__law_refused, ev_run]
  unfold b__law_refused
  show Sv (sSeq _ _ [some _, some _, none] _) _ _ _
  trivial
  refine part_exc (n := p.length + m) v o ?_
  dsimp only
  refine ck_i rfl ?_
  trivial
  refine bif_i (fun c => absurd c (by decide)) (fun _ => ?_)
  trivial
  refine ev_x (put_exc v t o) ?_
  dsimp only
  refine ck_i rfl ?_
  refine bif_i (fun _ => ?_) (fun c => absurd c (by decide))
  trivial
  exact ⟨rfl, (by first | rfl | exact True.intro)⟩
theorem listed_ev {n m : Nat} {d : D} (hn : n ≤ 9) (t : Tm n d) : pr fuel (n + m + 4) 7 [d] R = .ok (.bl true) R := by
  have hp : 4 ^ n ≤ 4 ^ 9 := pow4_le hn
  have hl := places_len t
  have hpl : (parts n d).length = (places n d).length := List.length_map _
  have ptm : ∀ x ∈ parts n d, Tm n x := fun x hx => parts_tm t hx
  refine ev_eq ?_
  rw [e__law_listed, ev_run]
  unfold b__law_listed
  show Sv (sSeq _ _ [some _, none, none, none, none, none, none] _) _ _ _
  trivial
  refine ev_i (lplaces_ev (m := m + 1) hn t) ?_
  trivial
  refine sop_i (lc_map (enc := plD) (part d) (xs := places n d) ?_) ?_
  · intro p hp
    trivial
    refine ev_i (lpart_ev (places_vd t p hp).1) ?_
    (first | exact ⟨rfl, rfl⟩ | exact ⟨True.intro, True.intro⟩ | exact ⟨rfl, True.intro⟩ | exact ⟨True.intro, rfl⟩ | simp)
  trivial
  refine ck_i (by rw [List.length_map]; show _ ≤ 1000000; omega) ?_
  trivial
  refine sv_forL (parts n d) (fun done ρ r => ∃ y5, ρ = [some d, some (.lst (parts n d)), none, some (.lst (ddS [] done)), some (.lst (ddS [] (done.filter isU))), y5, none] ∧ R = r) ⟨_, (by first | rfl | exact True.intro), (by first | rfl | exact True.intro)⟩ ?_ ?_
  · rintro done x rest e ρ r ⟨y5, rfl, rfl⟩
    have hx : x ∈ parts n d := by rw [e]; simp
    have hdn : ∀ y ∈ done, pl n y = true := fun y hy => (ptm y (by rw [e]; exact List.mem_append_left _ hy)).plain
    have hdl : done.length < 4 ^ 9 := by
      rw [← hpl, e, List.length_append, List.length_cons] at hl
      omega
    have hl1 := ddS_len (xs := done) (acc := [])
    have hl2 := ddS_len (xs := done.filter isU) (acc := [])
    have hl3 := List.length_filter_le isU done
    rw [List.length_nil] at hl1 hl2
    refine tgt_mono (Q := fun ρ' => ρ' = [some d, some (.lst (parts n d)), none, some (.lst (ddS [] done)), some (.lst (ddS [] (done.filter isU))), some x, none]) (t := .mk) (by trivial; try rfl) fun ρ' e' => ?_
    subst e'
    refine seq_cut (fun ρ r => ρ = [some d, some (.lst (parts n d)), none, some (.lst (ddS [] (done ++ [x]))), some (.lst (ddS [] (done.filter isU))), some x, none] ∧ R = r) ?_ ?_
    · trivial
      refine new_ev (n := n) (by omega) (ptm x hx).plain (ddS_pl hdn fun x hx => nomatch hx) (fun c => ?_) (fun c => ?_)
      · trivial
        refine ck_i (by show _ < 1000000; omega) ?_
        trivial
        rw [ddS_app, ddS_out c]
        exact ⟨(by first | rfl | exact True.intro), (by first | rfl | exact True.intro)⟩
      · trivial
        rw [ddS_app, ddS_in c]
        exact ⟨(by first | rfl | exact True.intro), (by first | rfl | exact True.intro)⟩
    rintro ρ r ⟨rfl, rfl⟩
    have tx := ptm x hx
    cases tx with
    | un h l =>
      trivial
      refine new_ev (n := n) (by omega) (pl_str h) (ddS_pl (fun y hy => hdn y (List.mem_filter.mp hy).1) fun x hx => nomatch hx) (fun c => ?_) (fun c => ?_)
      · trivial
        refine ck_i (by show _ < 1000000; omega) ?_
        trivial
        rw [List.filter_append, List.filter_cons_of_pos rfl, List.filter_nil, ddS_app (xs := done.filter isU), ddS_out c]
        exact ⟨_, (by first | rfl | exact True.intro), (by first | rfl | exact True.intro)⟩
      · trivial
        rw [List.filter_append, List.filter_cons_of_pos rfl, List.filter_nil, ddS_app (xs := done.filter isU), ddS_in c]
        exact ⟨_, (by first | rfl | exact True.intro), (by first | rfl | exact True.intro)⟩
    | ap h l q =>
      trivial
      rw [List.filter_append, List.filter_cons_of_neg (by simp [isU]), List.filter_nil, List.append_nil]
      exact ⟨_, (by first | rfl | exact True.intro), (by first | rfl | exact True.intro)⟩
  rintro ρ r ⟨y5, rfl, rfl⟩
  trivial
  refine ev_i (size_ev (m := m + 1) t) ?_
  trivial
  refine bif_d (fun c => absurd (by rw [hpl]) c) (fun _ => ?_)
  trivial
  refine ev_i (places_ev (m := m + 1) hn t) ?_
  trivial
  refine ev_i (lplaces_ev (m := m + 1) hn t) ?_
  trivial
  have p2 : pl 2 (.lst ((places n d).map plD)) = true := pl_lst fun x hx => by
    obtain ⟨p, hp, rfl⟩ := List.mem_map.mp hx
    exact pl_tup fun y hy => by
      obtain ⟨j, hj, rfl⟩ := List.mem_map.mp hy
      exact pl_int
  refine so_i (dEq_same p2) ?_
  trivial
  refine ev_i (parts_ev (m := m) hn t) ?_
  trivial
  have p3 : pl (n + 1) (.lst (ddS [] (parts n d))) = true := by
    rw [pl]; exact ddS_pl (fun x hx => (ptm x hx).plain) fun x hx => nomatch hx
  refine so_i (dEq_same p3 (by omega)) ?_
  trivial
  refine ev_i (unks_ev (m := m + 1) hn t) ?_
  trivial
  have p4 : pl 1 (.lst (unks n d)) = true := by
    rw [pl]; exact ddS_pl (fun x hx => uns_pl t hx) fun x hx => nomatch hx
  show So (dEq (.lst (unks n d)) (.lst (unks n d))) _ _
  refine so_i (dEq_same p4) ?_
  exact ⟨(by first | rfl | exact True.intro), (by first | rfl | exact True.intro)⟩
end
theorem add_pl {p : List Nat} {es : List D} {Q : D → Prop} {t : Tag2 Q Q} (h : p.length + es.length ≤ 1000) (q : Q (.tup (p.map iD ++ es))) : So (dAdd (plD p) (.tup es)) Q t := by
  unfold plD
  rw [so_addT]
  exact ck_i (by rw [List.length_map]; show _ ≤ 1000000; omega) q
theorem pl_snoc {p : List Nat} {i : Nat} : D.tup (p.map iD ++ [.int (i : Int)]) = plD (p ++ [i]) := by unfold plD; rw [List.map_append]; rfl
theorem pl_snoc0 {p : List Nat} {i : Nat} : D.tup ((p ++ [i]).map iD ++ [.int 0]) = plD (p ++ i :: [0]) := by unfold plD; rw [List.map_append, List.map_append, List.append_assoc]; rfl
theorem law_ok {ns : List Int} (hn : ns.length ≤ 63) : Ev (pr 1000 60 8 [.scr ns] []) (fun d _ => d = .bl true) (fun _ _ _ => False) .mk := by
  rw [e_law, ev_run]
  unfold b_law
  show Sv (sSeq _ _ [some _, none, none, none, none, none, none, none, none, none, none] _) _ _ _
  trivial
  refine lstart_ev hn fun R0 hR0 => ?_
  trivial
  refine lterm_ev (dd := 4) (m := 53) (k := 900000000) rfl (hR0.le (by decide)) fun d R1 td hR1 => ?_
  trivial
  refine lterm_ev (dd := 2) (m := 55) (k := 800000000) rfl (hR1.le (by decide)) fun e R2 te hR2 => ?_
  trivial
  refine ev_i (lplaces_ev (n := 5) (m := 52) (by decide) td) ?_
  trivial
  have hpos : 0 < (places 5 d).length := by rw [places]; simp
  rw [List.length_map]
  refine ltake_ev (k := 700000000) (hR2.le (by decide)) (by omega) fun v R3 hv hR3 => ?_
  clear hR0 hR1 hR2
  have hv' : v < (places 5 d).length := by omega
  obtain ⟨p, hp⟩ : ∃ p, (places 5 d)[v]? = some p := ⟨_, List.getElem?_eq_getElem hv'⟩
  have hpm : p ∈ places 5 d := List.mem_iff_getElem?.mpr ⟨v, hp⟩
  obtain ⟨vp, hpl⟩ := places_vd td p hpm
  refine so_i (atI_nat (xs := (places 5 d).map plD) (j := v) (v := plD p) (by rw [List.getElem?_map, hp]; rfl)) ?_
  trivial
  refine sv_forX (enc := plD) (places 5 d) (fun done ρ r => ∃ y6, ρ = [some (.scr ns), some (.loc 1), some d, some e, some (.lst ((places 5 d).map plD)), some (plD p), y6, none, none, none, none] ∧ R3 = r) ⟨_, (by first | rfl | exact True.intro), (by first | rfl | exact True.intro)⟩ ?_ ?_
  · rintro done q rest eq ρ r ⟨y6, rfl, rfl⟩
    have vq := (places_vd td q (by rw [eq]; simp)).1
    trivial
    refine ev_i (part_ev vq) ?_
    trivial
    refine ev_i (lpart_ev vq) ?_
    trivial
    refine so_i (dNe_same (part_tm vq td).plain) ?_
    trivial
    exact ⟨_, (by first | rfl | exact True.intro), (by first | rfl | exact True.intro)⟩
  rintro ρ r ⟨y6, rfl, rfl⟩
  have tput : Tm (5 + 3) (put e d p) := put_tm te vp td
  have vput : Vd (put e d p) p := put_vd vp
  obtain ⟨mm, hmm⟩ : ∃ mm, 59 = p.length + mm + 2 := ⟨57 - p.length, by omega⟩
  obtain ⟨m3, hm3⟩ : ∃ m3, 59 = p.length + m3 + 3 := ⟨56 - p.length, by omega⟩
  have c1 := lput_ev (fuel := 1000) (R := R3) (m := mm) te vp td
  rw [← hmm] at c1
  have c2 := put_ev (fuel := 1000) (LW := lw 1000) (R := R3) (q := e) (m := mm) vp td
  rw [← hmm] at c2
  have c3 := put_ev (fuel := 1000) (LW := lw 1000) (R := R3) (q := part d p) (m := mm) vput tput
  rw [← hmm, put_put vp] at c3
  have c4 : ∀ {i : Nat} {rest : List Nat} {R : Rs}, Out1 (part d p) i → pr 1000 59 6 [d, plD (p ++ i :: rest)] R = .ok (.bl true) R := fun {i rest R} o => by
    have q := refused_ev (fuel := 1000) (m := m3) (rest := rest) (R := R) vp o td
    rw [← hm3] at q
    exact q
  trivial
  refine ev_i c1 ?_
  trivial
  refine ev_i c2 ?_
  trivial
  refine so_i (dNe_same tput.plain) ?_
  trivial
  refine ev_i (part_ev (n := 57) vput) ?_
  rw [put_part vp]
  trivial
  refine so_i (dNe_same te.plain) ?_
  trivial
  refine ev_i (lpart_ev (n := 58) vp) ?_
  trivial
  refine ev_i c3 ?_
  trivial
  refine so_i (dNe_same td.plain) ?_
  have tpart := part_tm vp td
  generalize part d p = o at *
  cases tpart with
  | un h l =>
    trivial
    refine ck_i (by show _ ≤ 1000000; omega) ?_
    trivial
    refine add_pl (by rw [List.length_singleton]; omega) ?_
    trivial
    refine ltake_ev (k := 600000000) (hR3.le (by decide)) (by decide) fun w R4 hw hR4 => ?_
    trivial
    refine add_pl (by rw [List.length_singleton]; omega) ?_
    rw [pl_snoc]
    trivial
    refine ev_i (c4 (rest := []) (.inl ⟨_, rfl⟩)) ?_
    trivial
    refine add_pl (by rw [List.length_append, List.length_singleton, List.length_singleton]; omega) ?_
    rw [pl_snoc0]
    trivial
    refine ev_i (c4 (rest := [0]) (.inl ⟨_, rfl⟩)) ?_
    trivial
    refine ev_i (listed_ev (n := 5) (m := 50) (by decide) td) ?_
    trivial
    refine ev_i (listed_ev (n := 3) (m := 52) (by decide) te) ?_
    trivial
    refine ev_i (listed_ev (n := 8) (m := 47) (by decide) tput) ?_
    exact (by first | rfl | exact True.intro)
  | @ap _ s as h l q =>
    trivial
    refine add_pl (by rw [List.length_singleton]; omega) ?_
    rw [show ((D.str s :: as).length : Int) - 1 = (as.length : Int) by rw [List.length_cons]; omega, pl_snoc]
    trivial
    refine ev_i (c4 (rest := []) (.inr ⟨_, _, rfl, Nat.le_refl _⟩)) ?_
    trivial
    refine add_pl (by rw [List.length_append, List.length_singleton, List.length_singleton]; omega) ?_
    rw [pl_snoc0]
    trivial
    refine ev_i (c4 (rest := [0]) (.inr ⟨_, _, rfl, Nat.le_refl _⟩)) ?_
    trivial
    refine ev_i (listed_ev (n := 5) (m := 50) (by decide) td) ?_
    trivial
    refine ev_i (listed_ev (n := 3) (m := 52) (by decide) te) ?_
    trivial
    refine ev_i (listed_ev (n := 8) (m := 47) (by decide) tput) ?_
    exact (by first | rfl | exact True.intro)
end K86
namespace Law
open PySem L2 DL
theorem main_86 : ∀ ns : List Int, ns.length ≤ 63 → ∃ r, pr 1000 60 8 [.scr ns] [] = .ok (.bl true) r := fun ns h => by
  obtain ⟨d, r, e, rfl⟩ := ML.ev_ex (K86.law_ok h)
  exact ⟨r, e⟩
end Law

namespace Law
open PySem L2 DL
theorem excs_mem {cc : Nat} (h : lexcs.contains cc = true) : cc = 6 ∨ cc = 0 := by
  have : cc ∈ lexcs := List.contains_iff_mem.mp h
  simpa [lexcs] using this
def topS (i : Nat) : Stmt := PySem.Challenge.pw_worldorpaper_k86_parts_and_places.main.body.getD i (.Pass ⟨0, 0, 0, 0⟩)
def inC (s : Stmt) (j : Nat) : Stmt := match s with
  | .ClassDef _ _ _ b _ _ _ _ _ _ _ => b.getD j (.Pass ⟨0, 0, 0, 0⟩)
  | _ => .Pass ⟨0, 0, 0, 0⟩
abbrev s_terms_is_unknown : Stmt := topS 4
abbrev N_terms_is_unknown : List Str := ["term"]
abbrev P_terms_is_unknown : List Str := ["term"]
theorem sc_terms_is_unknown : FnScope N_terms_is_unknown P_terms_is_unknown (defScope s_terms_is_unknown) := ⟨rfl, rfl, rfl, by decide +kernel, rfl, by decide +kernel, by decide +kernel⟩
abbrev s_terms_term_size : Stmt := topS 5
abbrev N_terms_term_size : List Str := ["term", "argument"]
abbrev P_terms_term_size : List Str := ["term"]
theorem sc_terms_term_size : FnScope N_terms_term_size P_terms_term_size (defScope s_terms_term_size) := ⟨rfl, rfl, rfl, by decide +kernel, rfl, by decide +kernel, by decide +kernel⟩
abbrev s_terms_places_of : Stmt := topS 6
abbrev N_terms_places_of : List Str := ["term", "found", "index", "place"]
abbrev P_terms_places_of : List Str := ["term"]
theorem sc_terms_places_of : FnScope N_terms_places_of P_terms_places_of (defScope s_terms_places_of) := ⟨rfl, rfl, rfl, by decide +kernel, rfl, by decide +kernel, by decide +kernel⟩
abbrev s_terms_part_at : Stmt := topS 7
abbrev N_terms_part_at : List Str := ["term", "place", "index"]
abbrev P_terms_part_at : List Str := ["term", "place"]
theorem sc_terms_part_at : FnScope N_terms_part_at P_terms_part_at (defScope s_terms_part_at) := ⟨rfl, rfl, rfl, by decide +kernel, rfl, by decide +kernel, by decide +kernel⟩
abbrev s_terms_replace_at : Stmt := topS 8
abbrev N_terms_replace_at : List Str := ["term", "place", "part", "index", "changed"]
abbrev P_terms_replace_at : List Str := ["term", "place", "part"]
theorem sc_terms_replace_at : FnScope N_terms_replace_at P_terms_replace_at (defScope s_terms_replace_at) := ⟨rfl, rfl, rfl, by decide +kernel, rfl, by decide +kernel, by decide +kernel⟩
abbrev s_terms_parts_of : Stmt := topS 9
abbrev N_terms_parts_of : List Str := ["term", "found", "place", "part"]
abbrev P_terms_parts_of : List Str := ["term"]
theorem sc_terms_parts_of : FnScope N_terms_parts_of P_terms_parts_of (defScope s_terms_parts_of) := ⟨rfl, rfl, rfl, by decide +kernel, rfl, by decide +kernel, by decide +kernel⟩
abbrev s_terms_unknowns_of : Stmt := topS 10
abbrev N_terms_unknowns_of : List Str := ["term", "found", "argument", "name"]
abbrev P_terms_unknowns_of : List Str := ["term"]
theorem sc_terms_unknowns_of : FnScope N_terms_unknowns_of P_terms_unknowns_of (defScope s_terms_unknowns_of) := ⟨rfl, rfl, rfl, by decide +kernel, rfl, by decide +kernel, by decide +kernel⟩
abbrev s__law_start : Stmt := topS 12
abbrev N__law_start : List Str := ["_law_script", "_law_row", "_law_seed", "_law_k", "_law_cell", "_law_j", "_law_mixed"]
abbrev P__law_start : List Str := ["_law_script"]
theorem sc__law_start : FnScope N__law_start P__law_start (defScope s__law_start) := ⟨rfl, rfl, rfl, by decide +kernel, rfl, by decide +kernel, by decide +kernel⟩
abbrev s__law_take : Stmt := topS 13
abbrev N__law_take : List Str := ["_law_state", "_law_many", "_law_at", "_law_mixed"]
abbrev P__law_take : List Str := ["_law_state", "_law_many"]
theorem sc__law_take : FnScope N__law_take P__law_take (defScope s__law_take) := ⟨rfl, rfl, rfl, by decide +kernel, rfl, by decide +kernel, by decide +kernel⟩
abbrev s__law_term : Stmt := topS 14
abbrev N__law_term : List Str := ["_law_state", "_law_depth", "_law_kind", "_law_leaves"]
abbrev P__law_term : List Str := ["_law_state", "_law_depth"]
theorem sc__law_term : FnScope N__law_term P__law_term (defScope s__law_term) := ⟨rfl, rfl, rfl, by decide +kernel, rfl, by decide +kernel, by decide +kernel⟩
abbrev s__law_places : Stmt := topS 15
abbrev N__law_places : List Str := ["_law_term_here", "_law_places_here", "_law_k", "_law_place"]
abbrev P__law_places : List Str := ["_law_term_here"]
theorem sc__law_places : FnScope N__law_places P__law_places (defScope s__law_places) := ⟨rfl, rfl, rfl, by decide +kernel, rfl, by decide +kernel, by decide +kernel⟩
abbrev s__law_part : Stmt := topS 16
abbrev N__law_part : List Str := ["_law_term_here", "_law_place", "_law_k"]
abbrev P__law_part : List Str := ["_law_term_here", "_law_place"]
theorem sc__law_part : FnScope N__law_part P__law_part (defScope s__law_part) := ⟨rfl, rfl, rfl, by decide +kernel, rfl, by decide +kernel, by decide +kernel⟩
abbrev s__law_put : Stmt := topS 17
abbrev N__law_put : List Str := ["_law_term_here", "_law_place", "_law_part_here", "_law_row"]
abbrev P__law_put : List Str := ["_law_term_here", "_law_place", "_law_part_here"]
theorem sc__law_put : FnScope N__law_put P__law_put (defScope s__law_put) := ⟨rfl, rfl, rfl, by decide +kernel, rfl, by decide +kernel, by decide +kernel⟩
abbrev s__law_refused : Stmt := topS 18
abbrev N__law_refused : List Str := ["_law_term_here", "_law_place", "error"]
abbrev P__law_refused : List Str := ["_law_term_here", "_law_place"]
theorem sc__law_refused : FnScope N__law_refused P__law_refused (defScope s__law_refused) := ⟨rfl, rfl, rfl, by decide +kernel, rfl, by decide +kernel, by decide +kernel⟩
abbrev s__law_listed : Stmt := topS 19
abbrev N__law_listed : List Str := ["_law_term_here", "_law_parts", "_law_place", "_law_found", "_law_names", "_law_part_here", "_law_size"]
abbrev P__law_listed : List Str := ["_law_term_here"]
theorem sc__law_listed : FnScope N__law_listed P__law_listed (defScope s__law_listed) := ⟨rfl, rfl, rfl, by decide +kernel, rfl, by decide +kernel, by decide +kernel⟩
abbrev s_law : Stmt := topS 20
abbrev N_law : List Str := ["_law_script", "_law_state", "_law_term_here", "_law_part_here", "_law_places_here", "_law_place", "_law_here", "_law_due", "_law_actual", "_law_old", "_law_beyond"]
abbrev P_law : List Str := ["_law_script"]
theorem sc_law : FnScope N_law P_law (defScope s_law) := ⟨rfl, rfl, rfl, by decide +kernel, rfl, by decide +kernel, by decide +kernel⟩
structure Txt (K : PySem.W.Frag) (w : World) (mg : Str → Option Value) (ad : Nat → Addr) (fd : Nat → FuncData) (ca : String → Addr) : Prop where
  F426 : Fun K "is_unknown" "is_unknown" s_terms_is_unknown (ad 426) (fd 426)
  b426 : Binds K (fd 426) P_terms_is_unknown []
  m426 : mg "is_unknown" = some (.ref (ad 426))
  F431 : Fun K "term_size" "term_size" s_terms_term_size (ad 431) (fd 431)
  b431 : Binds K (fd 431) P_terms_term_size []
  m431 : mg "term_size" = some (.ref (ad 431))
  F429 : Fun K "places_of" "places_of" s_terms_places_of (ad 429) (fd 429)
  b429 : Binds K (fd 429) P_terms_places_of []
  m429 : mg "places_of" = some (.ref (ad 429))
  F427 : Fun K "part_at" "part_at" s_terms_part_at (ad 427) (fd 427)
  b427 : Binds K (fd 427) P_terms_part_at []
  m427 : mg "part_at" = some (.ref (ad 427))
  F430 : Fun K "replace_at" "replace_at" s_terms_replace_at (ad 430) (fd 430)
  b430 : Binds K (fd 430) P_terms_replace_at []
  m430 : mg "replace_at" = some (.ref (ad 430))
  F428 : Fun K "parts_of" "parts_of" s_terms_parts_of (ad 428) (fd 428)
  b428 : Binds K (fd 428) P_terms_parts_of []
  m428 : mg "parts_of" = some (.ref (ad 428))
  F433 : Fun K "unknowns_of" "unknowns_of" s_terms_unknowns_of (ad 433) (fd 433)
  b433 : Binds K (fd 433) P_terms_unknowns_of []
  m433 : mg "unknowns_of" = some (.ref (ad 433))
  F0 : Fun K "_law_start" "_law_start" s__law_start (ad 0) (fd 0)
  b0 : Binds K (fd 0) P__law_start []
  m0 : mg "_law_start" = some (.ref (ad 0))
  F1 : Fun K "_law_take" "_law_take" s__law_take (ad 1) (fd 1)
  b1 : Binds K (fd 1) P__law_take []
  m1 : mg "_law_take" = some (.ref (ad 1))
  F2 : Fun K "_law_term" "_law_term" s__law_term (ad 2) (fd 2)
  b2 : Binds K (fd 2) P__law_term []
  m2 : mg "_law_term" = some (.ref (ad 2))
  F3 : Fun K "_law_places" "_law_places" s__law_places (ad 3) (fd 3)
  b3 : Binds K (fd 3) P__law_places []
  m3 : mg "_law_places" = some (.ref (ad 3))
  F4 : Fun K "_law_part" "_law_part" s__law_part (ad 4) (fd 4)
  b4 : Binds K (fd 4) P__law_part []
  m4 : mg "_law_part" = some (.ref (ad 4))
  F5 : Fun K "_law_put" "_law_put" s__law_put (ad 5) (fd 5)
  b5 : Binds K (fd 5) P__law_put []
  m5 : mg "_law_put" = some (.ref (ad 5))
  F6 : Fun K "_law_refused" "_law_refused" s__law_refused (ad 6) (fd 6)
  b6 : Binds K (fd 6) P__law_refused []
  m6 : mg "_law_refused" = some (.ref (ad 6))
  F7 : Fun K "_law_listed" "_law_listed" s__law_listed (ad 7) (fd 7)
  b7 : Binds K (fd 7) P__law_listed []
  m7 : mg "_law_listed" = some (.ref (ad 7))
  F8 : Fun K "law" "law" s_law (ad 8) (fd 8)
  b8 : Binds K (fd 8) P_law []
  m8 : mg "law" = some (.ref (ad 8))
  mg_BadPlace : mg "BadPlace" = some (.ref (clsA K 6))
  mg_WorldOrPaperError : mg "WorldOrPaperError" = some (.ref (clsA K 0))
  x_BadPlace : PySem.W.excIn K (clsA K 6) [.type "ValueError", .type "Exception", .type "BaseException", .type "object"] "ValueError.__new__" = true
  k_BadPlace : PySem.W.keepIn K (.ref (clsA K 6)) = true
  eb_BadPlace : PySem.W.subIn K (.ref (clsA K 6)) (.type "BaseException") = some true
  et_BadPlace : PySem.W.typeIn K (.ref (clsA K 6)) = some (.type "type")
  x_WorldOrPaperError : PySem.W.excIn K (clsA K 0) [.type "ValueError", .type "Exception", .type "BaseException", .type "object"] "ValueError.__new__" = true
  k_WorldOrPaperError : PySem.W.keepIn K (.ref (clsA K 0)) = true
  eb_WorldOrPaperError : PySem.W.subIn K (.ref (clsA K 0)) (.type "BaseException") = some true
  et_WorldOrPaperError : PySem.W.typeIn K (.ref (clsA K 0)) = some (.type "type")
  ec : ∀ cc, lexcs.contains cc = true → ExcC K (clsA K cc)
  z_abs : mg "abs" = none
  z_bool : mg "bool" = none
  z_int : mg "int" = none
  z_isinstance : mg "isinstance" = none
  z_len : mg "len" = none
  z_list : mg "list" = none
  z_range : mg "range" = none
  z_str : mg "str" = none
  z_sum : mg "sum" = none
  z_tuple : mg "tuple" = none
  ki_BadPlace : ∀ cc, lexcs.contains cc = true → PySem.W.kitOne K (.ref (clsA K cc)) (.ref (clsA K 6)) = some (subE cc 6)
  em_WorldOrPaperError : ∀ cc, lexcs.contains cc = true → PySem.W.exmOne K (.ref (clsA K cc)) (.ref (clsA K 0)) = some (subE cc 0)
structure Lv (fuel : Nat) (P : Program) (w : World) (K : PySem.W.Frag) (mg : Str → Option Value) (base : Heap) (ad : Nat → Addr) (fd : Nat → FuncData) (n : Nat) : Prop where
  g426 : FnOk P w K mg base (L2.CX P w) (2 * n) (ad 426) (fd 426) P_terms_is_unknown (spF K (List.length P_terms_is_unknown) false (pr fuel n 426))
  g431 : FnOk P w K mg base (L2.CX P w) (2 * n) (ad 431) (fd 431) P_terms_term_size (spF K (List.length P_terms_term_size) false (pr fuel n 431))
  g429 : FnOk P w K mg base (L2.CX P w) (2 * n) (ad 429) (fd 429) P_terms_places_of (spF K (List.length P_terms_places_of) false (pr fuel n 429))
  g427 : FnOk P w K mg base (L2.CX P w) (2 * n) (ad 427) (fd 427) P_terms_part_at (spF K (List.length P_terms_part_at) false (pr fuel n 427))
  g430 : FnOk P w K mg base (L2.CX P w) (2 * n) (ad 430) (fd 430) P_terms_replace_at (spF K (List.length P_terms_replace_at) false (pr fuel n 430))
  g428 : FnOk P w K mg base (L2.CX P w) (2 * n) (ad 428) (fd 428) P_terms_parts_of (spF K (List.length P_terms_parts_of) false (pr fuel n 428))
  g433 : FnOk P w K mg base (L2.CX P w) (2 * n) (ad 433) (fd 433) P_terms_unknowns_of (spF K (List.length P_terms_unknowns_of) false (pr fuel n 433))
  g0 : FnOk P w K mg base (L2.CX P w) (2 * n) (ad 0) (fd 0) P__law_start (spF K (List.length P__law_start) false (pr fuel n 0))
  g1 : FnOk P w K mg base (L2.CX P w) (2 * n) (ad 1) (fd 1) P__law_take (spF K (List.length P__law_take) false (pr fuel n 1))
  g2 : FnOk P w K mg base (L2.CX P w) (2 * n) (ad 2) (fd 2) P__law_term (spF K (List.length P__law_term) false (pr fuel n 2))
  g3 : FnOk P w K mg base (L2.CX P w) (2 * n) (ad 3) (fd 3) P__law_places (spF K (List.length P__law_places) false (pr fuel n 3))
  g4 : FnOk P w K mg base (L2.CX P w) (2 * n) (ad 4) (fd 4) P__law_part (spF K (List.length P__law_part) false (pr fuel n 4))
  g5 : FnOk P w K mg base (L2.CX P w) (2 * n) (ad 5) (fd 5) P__law_put (spF K (List.length P__law_put) false (pr fuel n 5))
  g6 : FnOk P w K mg base (L2.CX P w) (2 * n) (ad 6) (fd 6) P__law_refused (spF K (List.length P__law_refused) false (pr fuel n 6))
  g7 : FnOk P w K mg base (L2.CX P w) (2 * n) (ad 7) (fd 7) P__law_listed (spF K (List.length P__law_listed) false (pr fuel n 7))
  g8 : FnOk P w K mg base (L2.CX P w) (2 * n) (ad 8) (fd 8) P_law (spF K (List.length P_law) false (pr fuel n 8))
section
variable {fuel : Nat} {P : Program} {w : World} {K : PySem.W.Frag} {mg : Str → Option Value} {base : Heap} {ad : Nat → Addr} {fd : Nat → FuncData} {ca : String → Addr} {n : Nat}
theorem ok_terms_is_unknown (T : Txt K w mg ad fd ca) (L : Lv fuel P w K mg base ad fd n) : FnOk P w K mg base (L2.CX P w) (2 * (n + 1)) (ad 426) (fd 426) P_terms_is_unknown (spF K (List.length P_terms_is_unknown) false (runF (List.length N_terms_is_unknown) (b_terms_is_unknown fuel (pr fuel n)))) := by
  exact ok_fn (k := 2 * n + 1) (N := N_terms_is_unknown) (ps := P_terms_is_unknown) (fr := false) (g := b_terms_is_unknown fuel (pr fuel n)) [] T.F426 sc_terms_is_unknown (by decide) fun cdv A outer s H E En hr => have hq := hr.mono (j := 2 * n) (by omega);
    (dss_one (ds_ret (ps_ret (de_callB cd_isi rfl T.z_isinstance (by decide +kernel) (da_cons (de_var 0) (da_cons (de_ty rfl T.z_str (by decide +kernel)) da_nil))))))
theorem ok_terms_term_size (T : Txt K w mg ad fd ca) (L : Lv fuel P w K mg base ad fd n) : FnOk P w K mg base (L2.CX P w) (2 * (n + 1)) (ad 431) (fd 431) P_terms_term_size (spF K (List.length P_terms_term_size) false (runF (List.length N_terms_term_size) (b_terms_term_size fuel (pr fuel n)))) := by
  exact ok_fn (k := 2 * n + 1) (N := N_terms_term_size) (ps := P_terms_term_size) (fr := false) (g := b_terms_term_size fuel (pr fuel n)) [] T.F431 sc_terms_term_size (by decide) fun cdv A outer s H E En hr => have hq := hr.mono (j := 2 * n) (by omega);
    (dss_cons (ds_ifF (dt_tr (de_call (FnOk.d L.g426) hq rfl T.m426 T.F426.kp T.b426 (takes_of rfl rfl rfl rfl) (da_cons (de_var 0) da_nil) (cons_len len0))) (dss_one (ds_ret (ps_ret de_int))) dss_nil)
    (dss_one (ds_ret (ps_ret (de_op od_add de_int (de_callB (cd_sum rfl) rfl T.z_sum (by decide +kernel) (da_cons (de_n (dn_lc (own := [("argument", 1)]) rfl sc_terms_term_size.nd (di_seq (de_sl (de_var 0) (do_some de_int) do_none)) (blkOk_by (own := [("argument", 1)]) (N := N_terms_term_size) (sc := defScope s_terms_term_size) (by decide +kernel)) (tg_name _ 1) (by decide) (fun _ _ _ _ _ => (pg_name (i := 1) sc_terms_term_size.nd rfl (by first | exact Or.inl rfl | exact Or.inr rfl))) (fun _ _ _ _ _ => dts_nil) (fun _ _ _ _ _ => (de_call (FnOk.d L.g431) hq rfl T.m431 T.F431.kp T.b431 takes0 (da_cons (de_var 1) da_nil) (cons_len len0))))) da_nil)))))))
theorem ok_terms_places_of (T : Txt K w mg ad fd ca) (L : Lv fuel P w K mg base ad fd n) : FnOk P w K mg base (L2.CX P w) (2 * (n + 1)) (ad 429) (fd 429) P_terms_places_of (spF K (List.length P_terms_places_of) false (runF (List.length N_terms_places_of) (b_terms_places_of fuel (pr fuel n)))) := by
  exact ok_fn (k := 2 * n + 1) (N := N_terms_places_of) (ps := P_terms_places_of) (fr := false) (g := b_terms_places_of fuel (pr fuel n)) [1] T.F429 sc_terms_places_of (by decide) fun cdv A outer s H E En hr => have hq := hr.mono (j := 2 * n) (by omega);
    (dss_cons (ds_asgN (ps_set (i := 1) sc_terms_places_of.nd rfl (by first | exact Or.inl rfl | exact Or.inr rfl) (dn_lst (da_cons (de_tup da_nil) da_nil))) (by dsimp only; decide))
    (dss_cons (ds_ifF (dt_not (dt_tr (de_call (FnOk.d L.g426) hq rfl T.m426 T.F426.kp T.b426 (takes_of rfl rfl rfl rfl) (da_cons (de_var 0) da_nil) (cons_len len0)))) (dss_one (ds_for (passes_of rfl) rfl (di_rng2 rfl T.z_range (da_cons de_int (da_cons (de_callB cd_len rfl T.z_len (by decide +kernel) (da_cons (de_var 0) da_nil)) da_nil))) (pg_name (i := 2) sc_terms_places_of.nd rfl (by first | exact Or.inl rfl | exact Or.inr rfl)) (tg_name _ 2) (by dsimp only; decide) (dss_one (ds_for (passes_of rfl) rfl (di_seq (de_call (FnOk.d L.g429) hq rfl T.m429 T.F429.kp T.b429 (takes_of rfl rfl rfl rfl) (da_cons (de_ix (de_var 0) (de_var 2)) da_nil) (cons_len len0))) (pg_name (i := 3) sc_terms_places_of.nd rfl (by first | exact Or.inl rfl | exact Or.inr rfl)) (tg_name _ 3) (by dsimp only; decide) (dss_one (ds_app (ps_expr (pe_bm PySem.F.plainAttrs_list PySem.F.slot_list_append PySem.F.type_list_append mt_append (pv 1) (da_cons (de_op od_add (de_tup (da_cons (de_op od_sub (de_var 2) de_int) da_nil)) (de_var 3)) da_nil))) (by dsimp only; decide))))))) dss_nil)
    (dss_frz 1 []
    (dss_one (ds_ret (ps_ret (de_var 1)))))))
theorem ok_terms_part_at (T : Txt K w mg ad fd ca) (L : Lv fuel P w K mg base ad fd n) : FnOk P w K mg base (L2.CX P w) (2 * (n + 1)) (ad 427) (fd 427) P_terms_part_at (spF K (List.length P_terms_part_at) false (runF (List.length N_terms_part_at) (b_terms_part_at fuel (pr fuel n)))) := by
  exact ok_fn (k := 2 * n + 1) (N := N_terms_part_at) (ps := P_terms_part_at) (fr := false) (g := b_terms_part_at fuel (pr fuel n)) [] T.F427 sc_terms_part_at (by decide) fun cdv A outer s H E En hr => have hq := hr.mono (j := 2 * n) (by omega);
    (dss_cons (ds_for (passes_of rfl) rfl (di_seq (de_var 1)) (pg_name (i := 2) sc_terms_part_at.nd rfl (by first | exact Or.inl rfl | exact Or.inr rfl)) (tg_name _ 2) (by dsimp only; decide) (dss_cons (ds_ifF (PW.pt (dw_or (dt_tr (de_call (FnOk.d L.g426) hq rfl T.m426 T.F426.kp T.b426 (takes_of rfl rfl rfl rfl) (da_cons (de_var 0) da_nil) (cons_len len0))) (dw_or1 (dt_not (dt_ch od_le od_lt de_int (de_var 2) (de_op od_sub (de_callB cd_len rfl T.z_len (by decide +kernel) (da_cons (de_var 0) da_nil)) de_int)))))) (dss_one (ds_raise rfl (takes_of rfl rfl rfl rfl) (pmk_own PySem.F.excBase_ValueError T.x_BadPlace T.mg_BadPlace T.k_BadPlace (raises_own T.eb_BadPlace T.et_BadPlace) rfl))) dss_nil)
    (dss_one (ds_asg (ps_set (i := 0) sc_terms_part_at.nd rfl (by first | exact Or.inl rfl | exact Or.inr rfl) (de_ix (de_var 0) (de_op od_add (de_var 2) de_int))) (tg_name _ 0) (by dsimp only; decide)))))
    (dss_one (ds_ret (ps_ret (de_var 0)))))
theorem ok_terms_replace_at (T : Txt K w mg ad fd ca) (L : Lv fuel P w K mg base ad fd n) : FnOk P w K mg base (L2.CX P w) (2 * (n + 1)) (ad 430) (fd 430) P_terms_replace_at (spF K (List.length P_terms_replace_at) false (runF (List.length N_terms_replace_at) (b_terms_replace_at fuel (pr fuel n)))) := by
  exact ok_fn (k := 2 * n + 1) (N := N_terms_replace_at) (ps := P_terms_replace_at) (fr := false) (g := b_terms_replace_at fuel (pr fuel n)) [] T.F430 sc_terms_replace_at (by decide) fun cdv A outer s H E En hr => have hq := hr.mono (j := 2 * n) (by omega);
    (dss_cons (ds_ifF (dt_not (dt_tr (de_var 1))) (dss_one (ds_ret (ps_ret (de_var 2)))) dss_nil)
    (dss_cons (ds_asg (ps_set (i := 3) sc_terms_replace_at.nd rfl (by first | exact Or.inl rfl | exact Or.inr rfl) (de_ix (de_var 1) de_int)) (tg_name _ 3) (by dsimp only; decide))
    (dss_cons (ds_ifF (PW.pt (dw_or (dt_tr (de_call (FnOk.d L.g426) hq rfl T.m426 T.F426.kp T.b426 (takes_of rfl rfl rfl rfl) (da_cons (de_var 0) da_nil) (cons_len len0))) (dw_or1 (dt_not (dt_ch od_le od_lt de_int (de_var 3) (de_op od_sub (de_callB cd_len rfl T.z_len (by decide +kernel) (da_cons (de_var 0) da_nil)) de_int)))))) (dss_one (ds_raise rfl (takes_of rfl rfl rfl rfl) (pmk_own PySem.F.excBase_ValueError T.x_BadPlace T.mg_BadPlace T.k_BadPlace (raises_own T.eb_BadPlace T.et_BadPlace) rfl))) dss_nil)
    (dss_cons (ds_asg (ps_set (i := 4) sc_terms_replace_at.nd rfl (by first | exact Or.inl rfl | exact Or.inr rfl) (de_call (FnOk.d L.g430) hq rfl T.m430 T.F430.kp T.b430 (takes_of rfl rfl rfl rfl) (da_cons (de_ix (de_var 0) (de_op od_add (de_var 3) de_int)) (da_cons (de_sl (de_var 1) (do_some de_int) do_none) (da_cons (de_var 2) da_nil))) (cons_len (cons_len (cons_len len0))))) (tg_name _ 4) (by dsimp only; decide))
    (dss_one (ds_ret (ps_ret (de_op od_add (de_op od_add (de_sl (de_var 0) do_none (do_some (de_op od_add (de_var 3) de_int))) (de_tup (da_cons (de_var 4) da_nil))) (de_sl (de_var 0) (do_some (de_op od_add (de_var 3) de_int)) do_none)))))))))
theorem ok_terms_parts_of (T : Txt K w mg ad fd ca) (L : Lv fuel P w K mg base ad fd n) : FnOk P w K mg base (L2.CX P w) (2 * (n + 1)) (ad 428) (fd 428) P_terms_parts_of (spF K (List.length P_terms_parts_of) false (runF (List.length N_terms_parts_of) (b_terms_parts_of fuel (pr fuel n)))) := by
  exact ok_fn (k := 2 * n + 1) (N := N_terms_parts_of) (ps := P_terms_parts_of) (fr := false) (g := b_terms_parts_of fuel (pr fuel n)) [1] T.F428 sc_terms_parts_of (by decide) fun cdv A outer s H E En hr => have hq := hr.mono (j := 2 * n) (by omega);
    (dss_cons (ds_asgN (ps_set (i := 1) sc_terms_parts_of.nd rfl (by first | exact Or.inl rfl | exact Or.inr rfl) (dn_lst da_nil)) (by dsimp only; decide))
    (dss_cons (ds_for (passes_of rfl) rfl (di_seq (de_call (FnOk.d L.g429) hq rfl T.m429 T.F429.kp T.b429 (takes_of rfl rfl rfl rfl) (da_cons (de_var 0) da_nil) (cons_len len0))) (pg_name (i := 2) sc_terms_parts_of.nd rfl (by first | exact Or.inl rfl | exact Or.inr rfl)) (tg_name _ 2) (by dsimp only; decide) (dss_cons (ds_asg (ps_set (i := 3) sc_terms_parts_of.nd rfl (by first | exact Or.inl rfl | exact Or.inr rfl) (de_call (FnOk.d L.g427) hq rfl T.m427 T.F427.kp T.b427 (takes_of rfl rfl rfl rfl) (da_cons (de_var 0) (da_cons (de_var 2) da_nil)) (cons_len (cons_len len0)))) (tg_name _ 3) (by dsimp only; decide))
    (dss_one (ds_if (dt_cmp (od_notIn (r65 hr)) (de_var 3) (de_var 1)) (dss_one (ds_app (ps_expr (pe_bm PySem.F.plainAttrs_list PySem.F.slot_list_append PySem.F.type_list_append mt_append (pv 1) (da_cons (de_var 3) da_nil))) (by dsimp only; decide))) dss_nil))))
    (dss_frz 1 []
    (dss_one (ds_ret (ps_ret (de_var 1)))))))
theorem ok_terms_unknowns_of (T : Txt K w mg ad fd ca) (L : Lv fuel P w K mg base ad fd n) : FnOk P w K mg base (L2.CX P w) (2 * (n + 1)) (ad 433) (fd 433) P_terms_unknowns_of (spF K (List.length P_terms_unknowns_of) false (runF (List.length N_terms_unknowns_of) (b_terms_unknowns_of fuel (pr fuel n)))) := by
  exact ok_fn (k := 2 * n + 1) (N := N_terms_unknowns_of) (ps := P_terms_unknowns_of) (fr := false) (g := b_terms_unknowns_of fuel (pr fuel n)) [1] T.F433 sc_terms_unknowns_of (by decide) fun cdv A outer s H E En hr => have hq := hr.mono (j := 2 * n) (by omega);
    (dss_cons (ds_ifF (dt_tr (de_call (FnOk.d L.g426) hq rfl T.m426 T.F426.kp T.b426 (takes_of rfl rfl rfl rfl) (da_cons (de_var 0) da_nil) (cons_len len0))) (dss_one (ds_retN (ps_ret (dn_lst (da_cons (de_var 0) da_nil))))) dss_nil)
    (dss_cons (ds_asgN (ps_set (i := 1) sc_terms_unknowns_of.nd rfl (by first | exact Or.inl rfl | exact Or.inr rfl) (dn_lst da_nil)) (by dsimp only; decide))
    (dss_cons (ds_for (passes_of rfl) rfl (di_seq (de_sl (de_var 0) (do_some de_int) do_none)) (pg_name (i := 2) sc_terms_unknowns_of.nd rfl (by first | exact Or.inl rfl | exact Or.inr rfl)) (tg_name _ 2) (by dsimp only; decide) (dss_one (ds_for (passes_of rfl) rfl (di_seq (de_call (FnOk.d L.g433) hq rfl T.m433 T.F433.kp T.b433 (takes_of rfl rfl rfl rfl) (da_cons (de_var 2) da_nil) (cons_len len0))) (pg_name (i := 3) sc_terms_unknowns_of.nd rfl (by first | exact Or.inl rfl | exact Or.inr rfl)) (tg_name _ 3) (by dsimp only; decide) (dss_one (ds_if (dt_cmp (od_notIn (r65 hr)) (de_var 3) (de_var 1)) (dss_one (ds_app (ps_expr (pe_bm PySem.F.plainAttrs_list PySem.F.slot_list_append PySem.F.type_list_append mt_append (pv 1) (da_cons (de_var 3) da_nil))) (by dsimp only; decide))) dss_nil)))))
    (dss_frz 1 []
    (dss_one (ds_ret (ps_ret (de_var 1))))))))
theorem ok__law_start (T : Txt K w mg ad fd ca) (L : Lv fuel P w K mg base ad fd n) : FnOk P w K mg base (L2.CX P w) (2 * (n + 1)) (ad 0) (fd 0) P__law_start (spF K (List.length P__law_start) false (runF (List.length N__law_start) (b__law_start fuel (pr fuel n)))) := by
  exact ok_fn (k := 2 * n + 1) (N := N__law_start) (ps := P__law_start) (fr := false) (g := b__law_start fuel (pr fuel n)) [] T.F0 sc__law_start (by decide) fun cdv A outer s H E En hr => have hq := hr.mono (j := 2 * n) (by omega);
    (dss_cons (ds_asg (ps_set (i := 1) sc__law_start.nd rfl (by first | exact Or.inl rfl | exact Or.inr rfl) (de_res (dn_lst da_nil))) (tg_name _ 1) (by dsimp only; decide))
    (dss_cons (ds_asg (ps_set (i := 2) sc__law_start.nd rfl (by first | exact Or.inl rfl | exact Or.inr rfl) de_int) (tg_name _ 2) (by dsimp only; decide))
    (dss_cons (ds_for (passes_of rfl) rfl (di_rng1 rfl T.z_range (da_cons (de_callB cd_len rfl T.z_len (by decide +kernel) (da_cons (de_var 0) da_nil)) da_nil)) (pg_name (i := 3) sc__law_start.nd rfl (by first | exact Or.inl rfl | exact Or.inr rfl)) (tg_name _ 3) (by dsimp only; decide) (dss_cons (ds_asg (ps_set (i := 4) sc__law_start.nd rfl (by first | exact Or.inl rfl | exact Or.inr rfl) (de_callB cd_abs rfl T.z_abs (by decide +kernel) (da_cons (de_ix (de_var 0) (de_var 3)) da_nil))) (tg_name _ 4) (by dsimp only; decide))
    (dss_cons (ds_asg (ps_set (i := 2) sc__law_start.nd rfl (by first | exact Or.inl rfl | exact Or.inr rfl) (de_op od_mod (de_callTy cd_int rfl T.z_int (by decide +kernel) (da_cons (de_op od_add (de_op od_add (de_op od_mul (de_var 2) de_int) (de_var 4)) (de_var 3)) da_nil)) de_int)) (tg_name _ 2) (by dsimp only; decide))
    (dss_one (ds_ifF (dt_cmp od_ge (de_var 4) (de_op od_pow de_int de_int)) (dss_cons (ds_asg (ps_set (i := 4) sc__law_start.nd rfl (by first | exact Or.inl rfl | exact Or.inr rfl) (de_op od_sub (de_var 4) (de_op od_pow de_int de_int))) (tg_name _ 4) (by dsimp only; decide))
    (dss_one (ds_for (passes_of rfl) rfl (di_rng1 rfl T.z_range (da_cons de_int da_nil)) (pg_name (i := 5) sc__law_start.nd rfl (by first | exact Or.inl rfl | exact Or.inr rfl)) (tg_name _ 5) (by dsimp only; decide) (dss_one (ds_ifF (dt_cmp od_gt (de_var 4) de_int) (dss_cons (ds_exp (ps_expr (de_appR (pe_bm PySem.F.plainAttrs_list PySem.F.slot_list_append PySem.F.type_list_append mt_append (de_var 1) (da_cons (de_op od_mod (de_callTy cd_int rfl T.z_int (by decide +kernel) (da_cons (de_var 4) da_nil)) de_int) da_nil)))))
    (dss_one (ds_asg (ps_set (i := 4) sc__law_start.nd rfl (by first | exact Or.inl rfl | exact Or.inr rfl) (de_op od_div (de_var 4) de_int)) (tg_name _ 4) (by dsimp only; decide)))) dss_nil))))) (dss_cons (ds_asg (ps_set (i := 6) sc__law_start.nd rfl (by first | exact Or.inl rfl | exact Or.inr rfl) (de_op od_mod (de_callTy cd_int rfl T.z_int (by decide +kernel) (da_cons (de_op od_add (de_op od_mul (de_op od_add (de_var 4) de_int) de_int) (de_op od_mul (de_var 3) de_int)) da_nil)) de_int)) (tg_name _ 6) (by dsimp only; decide))
    (dss_cons (ds_asg (ps_set (i := 6) sc__law_start.nd rfl (by first | exact Or.inl rfl | exact Or.inr rfl) (de_op od_mod (de_callTy cd_int rfl T.z_int (by decide +kernel) (da_cons (de_op od_add (de_op od_mul (de_var 6) de_int) de_int) da_nil)) de_int)) (tg_name _ 6) (by dsimp only; decide))
    (dss_one (ds_exp (ps_expr (de_appR (pe_bm PySem.F.plainAttrs_list PySem.F.slot_list_append PySem.F.type_list_append mt_append (de_var 1) (da_cons (de_op od_mod (de_op od_div (de_var 6) de_int) de_int) da_nil)))))))))))))
    (dss_one (ds_ret (ps_ret (de_res (dn_lst (da_cons (de_var 1) (da_cons de_int (da_cons (de_var 2) da_nil)))))))))))
theorem ok__law_take (T : Txt K w mg ad fd ca) (L : Lv fuel P w K mg base ad fd n) : FnOk P w K mg base (L2.CX P w) (2 * (n + 1)) (ad 1) (fd 1) P__law_take (spF K (List.length P__law_take) false (runF (List.length N__law_take) (b__law_take fuel (pr fuel n)))) := by
  exact ok_fn (k := 2 * n + 1) (N := N__law_take) (ps := P__law_take) (fr := false) (g := b__law_take fuel (pr fuel n)) [] T.F1 sc__law_take (by decide) fun cdv A outer s H E En hr => have hq := hr.mono (j := 2 * n) (by omega);
    (dss_cons (ds_asg (ps_set (i := 2) sc__law_take.nd rfl (by first | exact Or.inl rfl | exact Or.inr rfl) (de_ix (de_var 0) de_int)) (tg_name _ 2) (by dsimp only; decide))
    (dss_cons (ds_setR (ps_asg (de_op od_add (de_var 2) de_int) (pg_sub (de_var 0) de_int set_list)))
    (dss_cons (ds_ifF (dt_cmp od_lt (de_var 2) (de_callB cd_len rfl T.z_len (by decide +kernel) (da_cons (de_ix (de_var 0) de_int) da_nil))) (dss_one (ds_ret (ps_ret (de_op od_mod (de_callTy cd_int rfl T.z_int (by decide +kernel) (da_cons (de_ix (de_ix (de_var 0) de_int) (de_var 2)) da_nil)) (de_var 1))))) dss_nil)
    (dss_cons (ds_asg (ps_set (i := 3) sc__law_take.nd rfl (by first | exact Or.inl rfl | exact Or.inr rfl) (de_op od_mod (de_callTy cd_int rfl T.z_int (by decide +kernel) (da_cons (de_op od_mul (de_op od_add (de_ix (de_var 0) de_int) (de_op od_mul (de_var 2) de_int)) de_int) da_nil)) de_int)) (tg_name _ 3) (by dsimp only; decide))
    (dss_cons (ds_asg (ps_set (i := 3) sc__law_take.nd rfl (by first | exact Or.inl rfl | exact Or.inr rfl) (de_op od_mod (de_callTy cd_int rfl T.z_int (by decide +kernel) (da_cons (de_op od_add (de_op od_mul (de_var 3) de_int) (de_op od_mul (de_var 2) (de_var 2))) da_nil)) de_int)) (tg_name _ 3) (by dsimp only; decide))
    (dss_one (ds_ret (ps_ret (de_op od_mod (de_op od_div (de_var 3) de_int) (de_var 1))))))))))
theorem ok__law_term (T : Txt K w mg ad fd ca) (L : Lv fuel P w K mg base ad fd n) : FnOk P w K mg base (L2.CX P w) (2 * (n + 1)) (ad 2) (fd 2) P__law_term (spF K (List.length P__law_term) false (runF (List.length N__law_term) (b__law_term fuel (pr fuel n)))) := by
  exact ok_fn (k := 2 * n + 1) (N := N__law_term) (ps := P__law_term) (fr := false) (g := b__law_term fuel (pr fuel n)) [] T.F2 sc__law_term (by decide) fun cdv A outer s H E En hr => have hq := hr.mono (j := 2 * n) (by omega);
    (dss_cons (ds_asg (ps_set (i := 2) sc__law_term.nd rfl (by first | exact Or.inl rfl | exact Or.inr rfl) (de_call (FnOk.d L.g1) hq rfl T.m1 T.F1.kp T.b1 (takes_of rfl rfl rfl rfl) (da_cons (de_var 0) (da_cons de_int da_nil)) (cons_len (cons_len len0)))) (tg_name _ 2) (by dsimp only; decide))
    (dss_cons (ds_ifF (PW.pt (dw_or (dt_cmp (od_eq hr.units) (de_var 1) de_int) (dw_or1 (dt_cmp od_lt (de_var 2) de_int)))) (dss_cons (ds_asg (ps_set (i := 3) sc__law_term.nd rfl (by first | exact Or.inl rfl | exact Or.inr rfl) (de_lst (da_cons de_str (da_cons de_str (da_cons de_str (da_cons (de_tup (da_cons de_str da_nil)) (da_cons (de_tup (da_cons de_str da_nil)) (da_cons (de_tup (da_cons de_str da_nil)) da_nil)))))))) (tg_name _ 3) (by dsimp only; decide))
    (dss_one (ds_ret (ps_ret (de_ix (de_var 3) (de_call (FnOk.d L.g1) hq rfl T.m1 T.F1.kp T.b1 (takes_of rfl rfl rfl rfl) (da_cons (de_var 0) (da_cons de_int da_nil)) (cons_len (cons_len len0)))))))) dss_nil)
    (dss_cons (ds_ifF (dt_cmp od_lt (de_var 2) de_int) (dss_one (ds_ret (ps_ret (de_tup (da_cons de_str (da_cons (de_call (FnOk.d L.g2) hq rfl T.m2 T.F2.kp T.b2 (takes_of rfl rfl rfl rfl) (da_cons (de_var 0) (da_cons (de_op od_sub (de_var 1) de_int) da_nil)) (cons_len (cons_len len0))) da_nil)))))) dss_nil)
    (dss_cons (ds_ifF (dt_cmp od_lt (de_var 2) de_int) (dss_one (ds_ret (ps_ret (de_tup (da_cons de_str (da_cons (de_call (FnOk.d L.g2) hq rfl T.m2 T.F2.kp T.b2 (takes_of rfl rfl rfl rfl) (da_cons (de_var 0) (da_cons (de_op od_sub (de_var 1) de_int) da_nil)) (cons_len (cons_len len0))) (da_cons (de_call (FnOk.d L.g2) hq rfl T.m2 T.F2.kp T.b2 (takes_of rfl rfl rfl rfl) (da_cons (de_var 0) (da_cons (de_op od_sub (de_var 1) de_int) da_nil)) (cons_len (cons_len len0))) da_nil))))))) dss_nil)
    (dss_one (ds_ret (ps_ret (de_tup (da_cons de_str (da_cons (de_call (FnOk.d L.g2) hq rfl T.m2 T.F2.kp T.b2 (takes_of rfl rfl rfl rfl) (da_cons (de_var 0) (da_cons (de_op od_sub (de_var 1) de_int) da_nil)) (cons_len (cons_len len0))) (da_cons (de_call (FnOk.d L.g2) hq rfl T.m2 T.F2.kp T.b2 (takes_of rfl rfl rfl rfl) (da_cons (de_var 0) (da_cons (de_op od_sub (de_var 1) de_int) da_nil)) (cons_len (cons_len len0))) (da_cons (de_call (FnOk.d L.g2) hq rfl T.m2 T.F2.kp T.b2 (takes_of rfl rfl rfl rfl) (da_cons (de_var 0) (da_cons (de_op od_sub (de_var 1) de_int) da_nil)) (cons_len (cons_len len0))) da_nil))))))))))))
theorem ok__law_places (T : Txt K w mg ad fd ca) (L : Lv fuel P w K mg base ad fd n) : FnOk P w K mg base (L2.CX P w) (2 * (n + 1)) (ad 3) (fd 3) P__law_places (spF K (List.length P__law_places) false (runF (List.length N__law_places) (b__law_places fuel (pr fuel n)))) := by
  exact ok_fn (k := 2 * n + 1) (N := N__law_places) (ps := P__law_places) (fr := false) (g := b__law_places fuel (pr fuel n)) [] T.F3 sc__law_places (by decide) fun cdv A outer s H E En hr => have hq := hr.mono (j := 2 * n) (by omega);
    (dss_cons (ds_asg (ps_set (i := 1) sc__law_places.nd rfl (by first | exact Or.inl rfl | exact Or.inr rfl) (de_lst (da_cons (de_tup da_nil) da_nil))) (tg_name _ 1) (by dsimp only; decide))
    (dss_cons (ds_ifF (dt_not (dt_tr (de_callB cd_isi rfl T.z_isinstance (by decide +kernel) (da_cons (de_var 0) (da_cons (de_ty rfl T.z_str (by decide +kernel)) da_nil))))) (dss_one (ds_for (passes_of rfl) rfl (di_rng2 rfl T.z_range (da_cons de_int (da_cons (de_callB cd_len rfl T.z_len (by decide +kernel) (da_cons (de_var 0) da_nil)) da_nil))) (pg_name (i := 2) sc__law_places.nd rfl (by first | exact Or.inl rfl | exact Or.inr rfl)) (tg_name _ 2) (by dsimp only; decide) (dss_one (ds_asg (ps_set (i := 1) sc__law_places.nd rfl (by first | exact Or.inl rfl | exact Or.inr rfl) (de_op od_add (de_var 1) (de_n (dn_lc (own := [("_law_place", 3)]) rfl sc__law_places.nd (di_seq (de_call (FnOk.d L.g3) hq rfl T.m3 T.F3.kp T.b3 (takes_of rfl rfl rfl rfl) (da_cons (de_ix (de_var 0) (de_var 2)) da_nil) (cons_len len0))) (blkOk_by (own := [("_law_place", 3)]) (N := N__law_places) (sc := defScope s__law_places) (by decide +kernel)) (tg_name _ 3) (by decide) (fun _ _ _ _ _ => (pg_name (i := 3) sc__law_places.nd rfl (by first | exact Or.inl rfl | exact Or.inr rfl))) (fun _ _ _ _ _ => dts_nil) (fun _ _ _ _ _ => (de_op od_add (de_tup (da_cons (de_op od_sub (de_var 2) de_int) da_nil)) (de_var 3))))))) (tg_name _ 1) (by dsimp only; decide))))) dss_nil)
    (dss_one (ds_ret (ps_ret (de_var 1))))))
theorem ok__law_part (T : Txt K w mg ad fd ca) (L : Lv fuel P w K mg base ad fd n) : FnOk P w K mg base (L2.CX P w) (2 * (n + 1)) (ad 4) (fd 4) P__law_part (spF K (List.length P__law_part) false (runF (List.length N__law_part) (b__law_part fuel (pr fuel n)))) := by
  exact ok_fn (k := 2 * n + 1) (N := N__law_part) (ps := P__law_part) (fr := false) (g := b__law_part fuel (pr fuel n)) [] T.F4 sc__law_part (by decide) fun cdv A outer s H E En hr => have hq := hr.mono (j := 2 * n) (by omega);
    (dss_cons (ds_for (passes_of rfl) rfl (di_seq (de_var 1)) (pg_name (i := 2) sc__law_part.nd rfl (by first | exact Or.inl rfl | exact Or.inr rfl)) (tg_name _ 2) (by dsimp only; decide) (dss_one (ds_asg (ps_set (i := 0) sc__law_part.nd rfl (by first | exact Or.inl rfl | exact Or.inr rfl) (de_ix (de_var 0) (de_op od_add (de_var 2) de_int))) (tg_name _ 0) (by dsimp only; decide))))
    (dss_one (ds_ret (ps_ret (de_var 0)))))
theorem ok__law_put (T : Txt K w mg ad fd ca) (L : Lv fuel P w K mg base ad fd n) : FnOk P w K mg base (L2.CX P w) (2 * (n + 1)) (ad 5) (fd 5) P__law_put (spF K (List.length P__law_put) false (runF (List.length N__law_put) (b__law_put fuel (pr fuel n)))) := by
  exact ok_fn (k := 2 * n + 1) (N := N__law_put) (ps := P__law_put) (fr := false) (g := b__law_put fuel (pr fuel n)) [3] T.F5 sc__law_put (by decide) fun cdv A outer s H E En hr => have hq := hr.mono (j := 2 * n) (by omega);
    (dss_cons (ds_ifF (dt_cmp (od_eq hr.units) (de_callB cd_len rfl T.z_len (by decide +kernel) (da_cons (de_var 1) da_nil)) de_int) (dss_one (ds_ret (ps_ret (de_var 2)))) dss_nil)
    (dss_cons (ds_asgN (ps_set (i := 3) sc__law_put.nd rfl (by first | exact Or.inl rfl | exact Or.inr rfl) (dn_list rfl rfl T.z_list (by decide +kernel) (da_cons (de_var 0) da_nil))) (by dsimp only; decide))
    (dss_cons (ds_setOI (ps_asg (de_call (FnOk.d L.g5) hq rfl T.m5 T.F5.kp T.b5 (takes_of rfl rfl rfl rfl) (da_cons (de_ix (de_var 3) (de_op od_add (de_ix (de_var 1) de_int) de_int)) (da_cons (de_sl (de_var 1) (do_some de_int) do_none) (da_cons (de_var 2) da_nil))) (cons_len (cons_len (cons_len len0)))) (pg_sub (pv 3) (de_op od_add (de_ix (de_var 1) de_int) de_int) set_list)) (by dsimp only; decide))
    (dss_frz 3 []
    (dss_one (ds_ret (ps_ret (de_callTy (cd_tuple rfl) rfl T.z_tuple (by decide +kernel) (da_cons (de_var 3) da_nil)))))))))
theorem ok__law_refused (T : Txt K w mg ad fd ca) (L : Lv fuel P w K mg base ad fd n) : FnOk P w K mg base (L2.CX P w) (2 * (n + 1)) (ad 6) (fd 6) P__law_refused (spF K (List.length P__law_refused) false (runF (List.length N__law_refused) (b__law_refused fuel (pr fuel n)))) := by
  exact ok_fn (k := 2 * n + 1) (N := N__law_refused) (ps := P__law_refused) (fr := false) (g := b__law_refused fuel (pr fuel n)) [] T.F6 sc__law_refused (by decide) fun cdv A outer s H E En hr => have hq := hr.mono (j := 2 * n) (by omega);
    (dss_cons (ds_try_asE rfl rfl rfl sc__law_refused.nd rfl rfl ⟨rfl, by decide, .inl T.mg_WorldOrPaperError⟩ (by dsimp only; decide) T.em_WorldOrPaperError (fun W pn xe tk hp => (dss_one (ds_exp (ps_expr (de_call (FnOk.d L.g427) hq rfl T.m427 T.F427.kp T.b427 tk (da_cons (de_var 0) (da_cons (de_var 1) da_nil)) (cons_len (cons_len len0))))))) (fun cc hcc a oe pn hz hd => (su_if (tp_not (tp_tr (ep_isE (i := 2) (T.ec cc hcc) hz hd rfl T.z_isinstance (pv 2) (pe_glob (v := .ref (clsA K 6)) rfl T.mg_BadPlace rfl) (fun _ z => z) (T.ki_BadPlace cc hcc)))) (dss_one (ds_ret (ps_ret de_bl))) (su_any dss_nil))) (dss_one (ds_ret (ps_ret de_bl))))
    (dss_cons (ds_try_as rfl rfl rfl sc__law_refused.nd rfl rfl ⟨rfl, by decide, .inl T.mg_WorldOrPaperError⟩ (takes_of rfl rfl rfl rfl) (by dsimp only; decide) T.em_WorldOrPaperError (fun W pn xe tk hp => (dss_one (ds_exp (ps_expr (de_call (FnOk.d L.g430) hq rfl T.m430 T.F430.kp T.b430 tk (da_cons (de_var 0) (da_cons (de_var 1) (da_cons (de_tup (da_cons de_str da_nil)) da_nil))) (cons_len (cons_len (cons_len len0)))))))) (fun cc hcc a oe pn hz hd => (su_one (su_ret (ps_ret (ep_isE (i := 2) (T.ec cc hcc) hz hd rfl T.z_isinstance (pv 2) (pe_glob (v := .ref (clsA K 6)) rfl T.mg_BadPlace rfl) (fun _ z => z) (T.ki_BadPlace cc hcc)))))))
    (dss_one (ds_ret (ps_ret de_bl)))))
theorem ok__law_listed (T : Txt K w mg ad fd ca) (L : Lv fuel P w K mg base ad fd n) : FnOk P w K mg base (L2.CX P w) (2 * (n + 1)) (ad 7) (fd 7) P__law_listed (spF K (List.length P__law_listed) false (runF (List.length N__law_listed) (b__law_listed fuel (pr fuel n)))) := by
  exact ok_fn (k := 2 * n + 1) (N := N__law_listed) (ps := P__law_listed) (fr := false) (g := b__law_listed fuel (pr fuel n)) [3, 4] T.F7 sc__law_listed (by decide) fun cdv A outer s H E En hr => have hq := hr.mono (j := 2 * n) (by omega);
    (dss_cons (ds_asg (asg_n (dn_setLc (own := [("_law_place", 2)]) (i := 1) rfl sc__law_listed.nd rfl rfl (sw_true rfl rfl rfl (by decide +kernel)) (di_seq (de_call (FnOk.d L.g3) hq rfl T.m3 T.F3.kp T.b3 (takes_of rfl rfl rfl rfl) (da_cons (de_var 0) da_nil) (cons_len len0))) (blkOk_by (own := [("_law_place", 2)]) (N := N__law_listed) (sc := defScope s__law_listed) (by decide +kernel)) (tg_name _ 2) (by decide) (fun _ _ _ _ _ => (pg_name (i := 2) sc__law_listed.nd rfl (by first | exact Or.inl rfl | exact Or.inr rfl))) (fun _ _ _ _ _ => dts_nil) (fun _ _ _ _ _ => (de_call (FnOk.d L.g4) hq rfl T.m4 T.F4.kp T.b4 takes0 (da_cons (de_var 0) (da_cons (de_var 2) da_nil)) (cons_len (cons_len len0)))))) (tg_name _ 1) (by dsimp only; decide))
    (dss_cons (ds_asgN (ps_set (i := 3) sc__law_listed.nd rfl (by first | exact Or.inl rfl | exact Or.inr rfl) (dn_lst da_nil)) (by dsimp only; decide))
    (dss_cons (ds_asgN (ps_set (i := 4) sc__law_listed.nd rfl (by first | exact Or.inl rfl | exact Or.inr rfl) (dn_lst da_nil)) (by dsimp only; decide))
    (dss_cons (ds_for (passes_of rfl) rfl (di_seq (de_var 1)) (pg_name (i := 5) sc__law_listed.nd rfl (by first | exact Or.inl rfl | exact Or.inr rfl)) (tg_name _ 5) (by dsimp only; decide) (dss_cons (ds_if (dt_cmp (od_notIn (r65 hr)) (de_var 5) (de_var 3)) (dss_one (ds_app (ps_expr (pe_bm PySem.F.plainAttrs_list PySem.F.slot_list_append PySem.F.type_list_append mt_append (pv 3) (da_cons (de_var 5) da_nil))) (by dsimp only; decide))) dss_nil)
    (dss_one (ds_if (PW.pt (dw_and (dt_tr (de_callB cd_isi rfl T.z_isinstance (by decide +kernel) (da_cons (de_var 5) (da_cons (de_ty rfl T.z_str (by decide +kernel)) da_nil)))) (dw_and1 (dt_cmp (od_notIn (r65 hr)) (de_var 5) (de_var 4))))) (dss_one (ds_app (ps_expr (pe_bm PySem.F.plainAttrs_list PySem.F.slot_list_append PySem.F.type_list_append mt_append (pv 4) (da_cons (de_var 5) da_nil))) (by dsimp only; decide))) dss_nil))))
    (dss_cons (ds_asg (ps_set (i := 6) sc__law_listed.nd rfl (by first | exact Or.inl rfl | exact Or.inr rfl) (de_call (FnOk.d L.g431) hq rfl T.m431 T.F431.kp T.b431 (takes_of rfl rfl rfl rfl) (da_cons (de_var 0) da_nil) (cons_len len0))) (tg_name _ 6) (by dsimp only; decide))
    (dss_cons (ds_ifF (PW.pt (dw_or (dt_not (dt_tr (de_callB cd_isi rfl T.z_isinstance (by decide +kernel) (da_cons (de_var 6) (da_cons (de_ty rfl T.z_int (by decide +kernel)) da_nil))))) (dw_or (dt_tr (de_callB cd_isi rfl T.z_isinstance (by decide +kernel) (da_cons (de_var 6) (da_cons (de_ty rfl T.z_bool (by decide +kernel)) da_nil)))) (dw_or1 (dt_cmp (od_ne hr.units) (de_var 6) (de_callB cd_len rfl T.z_len (by decide +kernel) (da_cons (de_var 1) da_nil))))))) (dss_one (ds_ret (ps_ret de_bl))) dss_nil)
    (dss_frz 3 [4]
    (dss_frz 4 []
    (dss_one (ds_ret (ps_ret (de_and (de_cmp (od_eq hr.units) (de_call (FnOk.d L.g429) hq rfl T.m429 T.F429.kp T.b429 (takes_of rfl rfl rfl rfl) (da_cons (de_var 0) da_nil) (cons_len len0)) (de_call (FnOk.d L.g3) hq rfl T.m3 T.F3.kp T.b3 (takes_of rfl rfl rfl rfl) (da_cons (de_var 0) da_nil) (cons_len len0))) (de_and (de_cmp (od_eq hr.units) (de_call (FnOk.d L.g428) hq rfl T.m428 T.F428.kp T.b428 (takes_of rfl rfl rfl rfl) (da_cons (de_var 0) da_nil) (cons_len len0)) (de_var 3)) (de_one (de_cmp (od_eq hr.units) (de_call (FnOk.d L.g433) hq rfl T.m433 T.F433.kp T.b433 (takes_of rfl rfl rfl rfl) (da_cons (de_var 0) da_nil) (cons_len len0)) (de_var 4))))))))))))))))
theorem ok_law (T : Txt K w mg ad fd ca) (L : Lv fuel P w K mg base ad fd n) : FnOk P w K mg base (L2.CX P w) (2 * (n + 1)) (ad 8) (fd 8) P_law (spF K (List.length P_law) false (runF (List.length N_law) (b_law fuel (pr fuel n)))) := by
  exact ok_fn (k := 2 * n + 1) (N := N_law) (ps := P_law) (fr := false) (g := b_law fuel (pr fuel n)) [] T.F8 sc_law (by decide) fun cdv A outer s H E En hr => have hq := hr.mono (j := 2 * n) (by omega);
    (dss_cons (ds_asg (ps_set (i := 1) sc_law.nd rfl (by first | exact Or.inl rfl | exact Or.inr rfl) (de_call (FnOk.d L.g0) hq rfl T.m0 T.F0.kp T.b0 (takes_of rfl rfl rfl rfl) (da_cons (de_var 0) da_nil) (cons_len len0))) (tg_name _ 1) (by dsimp only; decide))
    (dss_cons (ds_asg (ps_set (i := 2) sc_law.nd rfl (by first | exact Or.inl rfl | exact Or.inr rfl) (de_call (FnOk.d L.g2) hq rfl T.m2 T.F2.kp T.b2 (takes_of rfl rfl rfl rfl) (da_cons (de_var 1) (da_cons de_int da_nil)) (cons_len (cons_len len0)))) (tg_name _ 2) (by dsimp only; decide))
    (dss_cons (ds_asg (ps_set (i := 3) sc_law.nd rfl (by first | exact Or.inl rfl | exact Or.inr rfl) (de_call (FnOk.d L.g2) hq rfl T.m2 T.F2.kp T.b2 (takes_of rfl rfl rfl rfl) (da_cons (de_var 1) (da_cons de_int da_nil)) (cons_len (cons_len len0)))) (tg_name _ 3) (by dsimp only; decide))
    (dss_cons (ds_asg (ps_set (i := 4) sc_law.nd rfl (by first | exact Or.inl rfl | exact Or.inr rfl) (de_call (FnOk.d L.g3) hq rfl T.m3 T.F3.kp T.b3 (takes_of rfl rfl rfl rfl) (da_cons (de_var 2) da_nil) (cons_len len0))) (tg_name _ 4) (by dsimp only; decide))
    (dss_cons (ds_asg (ps_set (i := 5) sc_law.nd rfl (by first | exact Or.inl rfl | exact Or.inr rfl) (de_ix (de_var 4) (de_call (FnOk.d L.g1) hq rfl T.m1 T.F1.kp T.b1 (takes_of rfl rfl rfl rfl) (da_cons (de_var 1) (da_cons (de_callB cd_len rfl T.z_len (by decide +kernel) (da_cons (de_var 4) da_nil)) da_nil)) (cons_len (cons_len len0))))) (tg_name _ 5) (by dsimp only; decide))
    (dss_cons (ds_for (passes_of rfl) rfl (di_seq (de_var 4)) (pg_name (i := 6) sc_law.nd rfl (by first | exact Or.inl rfl | exact Or.inr rfl)) (tg_name _ 6) (by dsimp only; decide) (dss_one (ds_ifF (dt_cmp (od_ne hr.units) (de_call (FnOk.d L.g427) hq rfl T.m427 T.F427.kp T.b427 (takes_of rfl rfl rfl rfl) (da_cons (de_var 2) (da_cons (de_var 6) da_nil)) (cons_len (cons_len len0))) (de_call (FnOk.d L.g4) hq rfl T.m4 T.F4.kp T.b4 (takes_of rfl rfl rfl rfl) (da_cons (de_var 2) (da_cons (de_var 6) da_nil)) (cons_len (cons_len len0)))) (dss_one (ds_ret (ps_ret de_bl))) dss_nil)))
    (dss_cons (ds_asg (ps_set (i := 7) sc_law.nd rfl (by first | exact Or.inl rfl | exact Or.inr rfl) (de_call (FnOk.d L.g5) hq rfl T.m5 T.F5.kp T.b5 (takes_of rfl rfl rfl rfl) (da_cons (de_var 2) (da_cons (de_var 5) (da_cons (de_var 3) da_nil))) (cons_len (cons_len (cons_len len0))))) (tg_name _ 7) (by dsimp only; decide))
    (dss_cons (ds_asg (ps_set (i := 8) sc_law.nd rfl (by first | exact Or.inl rfl | exact Or.inr rfl) (de_call (FnOk.d L.g430) hq rfl T.m430 T.F430.kp T.b430 (takes_of rfl rfl rfl rfl) (da_cons (de_var 2) (da_cons (de_var 5) (da_cons (de_var 3) da_nil))) (cons_len (cons_len (cons_len len0))))) (tg_name _ 8) (by dsimp only; decide))
    (dss_cons (ds_ifF (PW.pt (dw_or (dt_cmp (od_ne hr.units) (de_var 8) (de_var 7)) (dw_or1 (dt_cmp (od_ne hr.units) (de_call (FnOk.d L.g427) hq rfl T.m427 T.F427.kp T.b427 (takes_of rfl rfl rfl rfl) (da_cons (de_var 8) (da_cons (de_var 5) da_nil)) (cons_len (cons_len len0))) (de_var 3))))) (dss_one (ds_ret (ps_ret de_bl))) dss_nil)
    (dss_cons (ds_asg (ps_set (i := 9) sc_law.nd rfl (by first | exact Or.inl rfl | exact Or.inr rfl) (de_call (FnOk.d L.g4) hq rfl T.m4 T.F4.kp T.b4 (takes_of rfl rfl rfl rfl) (da_cons (de_var 2) (da_cons (de_var 5) da_nil)) (cons_len (cons_len len0)))) (tg_name _ 9) (by dsimp only; decide))
    (dss_cons (ds_ifF (dt_cmp (od_ne hr.units) (de_call (FnOk.d L.g430) hq rfl T.m430 T.F430.kp T.b430 (takes_of rfl rfl rfl rfl) (da_cons (de_var 8) (da_cons (de_var 5) (da_cons (de_var 9) da_nil))) (cons_len (cons_len (cons_len len0)))) (de_var 2)) (dss_one (ds_ret (ps_ret de_bl))) dss_nil)
    (dss_cons (ds_asg (ps_set (i := 10) sc_law.nd rfl (by first | exact Or.inl rfl | exact Or.inr rfl) (de_op od_add (de_var 5) (de_tup (da_cons (de_op od_sub (de_callB cd_len rfl T.z_len (by decide +kernel) (da_cons (de_var 9) da_nil)) de_int) da_nil)))) (tg_name _ 10) (by dsimp only; decide))
    (dss_cons (ds_ifF (dt_tr (de_callB cd_isi rfl T.z_isinstance (by decide +kernel) (da_cons (de_var 9) (da_cons (de_ty rfl T.z_str (by decide +kernel)) da_nil)))) (dss_one (ds_asg (ps_set (i := 10) sc_law.nd rfl (by first | exact Or.inl rfl | exact Or.inr rfl) (de_op od_add (de_var 5) (de_tup (da_cons (de_call (FnOk.d L.g1) hq rfl T.m1 T.F1.kp T.b1 (takes_of rfl rfl rfl rfl) (da_cons (de_var 1) (da_cons de_int da_nil)) (cons_len (cons_len len0))) da_nil)))) (tg_name _ 10) (by dsimp only; decide))) dss_nil)
    (dss_cons (ds_ifF (PW.pt (dw_or (dt_not (dt_tr (de_call (FnOk.d L.g6) hq rfl T.m6 T.F6.kp T.b6 (takes_of rfl rfl rfl rfl) (da_cons (de_var 2) (da_cons (de_var 10) da_nil)) (cons_len (cons_len len0))))) (dw_or1 (dt_not (dt_tr (de_call (FnOk.d L.g6) hq rfl T.m6 T.F6.kp T.b6 (takes_of rfl rfl rfl rfl) (da_cons (de_var 2) (da_cons (de_op od_add (de_var 10) (de_tup (da_cons de_int da_nil))) da_nil)) (cons_len (cons_len len0)))))))) (dss_one (ds_ret (ps_ret de_bl))) dss_nil)
    (dss_one (ds_ret (ps_ret (de_and (de_call (FnOk.d L.g7) hq rfl T.m7 T.F7.kp T.b7 (takes_of rfl rfl rfl rfl) (da_cons (de_var 2) da_nil) (cons_len len0)) (de_and (de_call (FnOk.d L.g7) hq rfl T.m7 T.F7.kp T.b7 (takes_of rfl rfl rfl rfl) (da_cons (de_var 3) da_nil) (cons_len len0)) (de_one (de_call (FnOk.d L.g7) hq rfl T.m7 T.F7.kp T.b7 (takes_of rfl rfl rfl rfl) (da_cons (de_var 7) da_nil) (cons_len len0))))))))))))))))))))))
theorem lv_zero : Lv fuel P w K mg base ad fd 0 := ⟨fnOk0, fnOk0, fnOk0, fnOk0, fnOk0, fnOk0, fnOk0, fnOk0, fnOk0, fnOk0, fnOk0, fnOk0, fnOk0, fnOk0, fnOk0, fnOk0⟩
theorem lv_succ (T : Txt K w mg ad fd ca) (L : Lv fuel P w K mg base ad fd n) : Lv fuel P w K mg base ad fd (n + 1) := ⟨ok_terms_is_unknown T L, ok_terms_term_size T L, ok_terms_places_of T L, ok_terms_part_at T L, ok_terms_replace_at T L, ok_terms_parts_of T L, ok_terms_unknowns_of T L, ok__law_start T L, ok__law_take T L, ok__law_term T L, ok__law_places T L, ok__law_part T L, ok__law_put T L, ok__law_refused T L, ok__law_listed T L, ok_law T L⟩
theorem lv_all (T : Txt K w mg ad fd ca) : ∀ n, Lv fuel P w K mg base ad fd n
  | 0 => lv_zero
  | n + 1 => lv_succ T (lv_all T n)
end
theorem law_ok {fuel : Nat} {P : Program} {w : World} {K : PySem.W.Frag} {mg : Str → Option Value} {base : Heap} {ad : Nat → Addr} {fd : Nat → FuncData} {ca : String → Addr} (T : Txt K w mg ad fd ca)
    (h : ∀ ns : List Int, ns.length ≤ 63 → ∃ r, pr fuel 60 8 [.scr ns] [] = .ok (.bl true) r) : FnOk P w K mg base (L2.CX P w) 120 (ad 8) (fd 8) P_law (spLaw K) :=
  FnOk.law (lv_all T 60).g8 h
theorem main : ∀ ns : List Int, ns.length ≤ 63 → ∃ r, pr 1000 60 8 [.scr ns] [] = .ok (.bl true) r := main_86
theorem all_mk {fuel : Nat} {l : PySem.W.OpenLaw} {w : World} {K : PySem.W.Frag} {h : Heap} {mg : Str → Option Value} {fa : Addr} (X : K.In h) (G : h.Ns mainGlobals mg) (hfa : mg "law" = some (.ref fa))
    {f426 : Addr} {oc426 kV426 dc426 pm426 cd426 ct426 : Value} {od426 an426 : Option Addr} {sl426 : Array (Option Value)}
    {f431 : Addr} {oc431 kV431 dc431 pm431 cd431 ct431 : Value} {od431 an431 : Option Addr} {sl431 : Array (Option Value)}
    {f429 : Addr} {oc429 kV429 dc429 pm429 cd429 ct429 : Value} {od429 an429 : Option Addr} {sl429 : Array (Option Value)}
    {f427 : Addr} {oc427 kV427 dc427 pm427 cd427 ct427 : Value} {od427 an427 : Option Addr} {sl427 : Array (Option Value)}
    {f430 : Addr} {oc430 kV430 dc430 pm430 cd430 ct430 : Value} {od430 an430 : Option Addr} {sl430 : Array (Option Value)}
    {f428 : Addr} {oc428 kV428 dc428 pm428 cd428 ct428 : Value} {od428 an428 : Option Addr} {sl428 : Array (Option Value)}
    {f433 : Addr} {oc433 kV433 dc433 pm433 cd433 ct433 : Value} {od433 an433 : Option Addr} {sl433 : Array (Option Value)}
    {f0 : Addr} {oc0 kV0 dc0 pm0 cd0 ct0 : Value} {od0 an0 : Option Addr} {sl0 : Array (Option Value)}
    {f1 : Addr} {oc1 kV1 dc1 pm1 cd1 ct1 : Value} {od1 an1 : Option Addr} {sl1 : Array (Option Value)}
    {f2 : Addr} {oc2 kV2 dc2 pm2 cd2 ct2 : Value} {od2 an2 : Option Addr} {sl2 : Array (Option Value)}
    {f3 : Addr} {oc3 kV3 dc3 pm3 cd3 ct3 : Value} {od3 an3 : Option Addr} {sl3 : Array (Option Value)}
    {f4 : Addr} {oc4 kV4 dc4 pm4 cd4 ct4 : Value} {od4 an4 : Option Addr} {sl4 : Array (Option Value)}
    {f5 : Addr} {oc5 kV5 dc5 pm5 cd5 ct5 : Value} {od5 an5 : Option Addr} {sl5 : Array (Option Value)}
    {f6 : Addr} {oc6 kV6 dc6 pm6 cd6 ct6 : Value} {od6 an6 : Option Addr} {sl6 : Array (Option Value)}
    {f7 : Addr} {oc7 kV7 dc7 pm7 cd7 ct7 : Value} {od7 an7 : Option Addr} {sl7 : Array (Option Value)}
    {f8 : Addr} {oc8 kV8 dc8 pm8 cd8 ct8 : Value} {od8 an8 : Option Addr} {sl8 : Array (Option Value)}
    {C_BadPlace : Addr}
    {C_WorldOrPaperError : Addr}
    (l426 : K.lookup f426 = some ⟨oc426, od426, .func (PySem.W.fnOf "is_unknown" "is_unknown" (defArgs s_terms_is_unknown) (defBody s_terms_is_unknown) (defScope s_terms_is_unknown) .none kV426 dc426 pm426 an426 cd426 ct426), sl426⟩)
    (c426 : PySem.W.codeIn K cd426 "is_unknown" = true)
    (k426 : PySem.W.keepIn K (.ref f426) = true)
    (a426 : PySem.W.nsIn K mainGlobals "is_unknown" = some (some (.ref f426)))
    (l431 : K.lookup f431 = some ⟨oc431, od431, .func (PySem.W.fnOf "term_size" "term_size" (defArgs s_terms_term_size) (defBody s_terms_term_size) (defScope s_terms_term_size) .none kV431 dc431 pm431 an431 cd431 ct431), sl431⟩)
    (c431 : PySem.W.codeIn K cd431 "term_size" = true)
    (k431 : PySem.W.keepIn K (.ref f431) = true)
    (a431 : PySem.W.nsIn K mainGlobals "term_size" = some (some (.ref f431)))
    (l429 : K.lookup f429 = some ⟨oc429, od429, .func (PySem.W.fnOf "places_of" "places_of" (defArgs s_terms_places_of) (defBody s_terms_places_of) (defScope s_terms_places_of) .none kV429 dc429 pm429 an429 cd429 ct429), sl429⟩)
    (c429 : PySem.W.codeIn K cd429 "places_of" = true)
    (k429 : PySem.W.keepIn K (.ref f429) = true)
    (a429 : PySem.W.nsIn K mainGlobals "places_of" = some (some (.ref f429)))
    (l427 : K.lookup f427 = some ⟨oc427, od427, .func (PySem.W.fnOf "part_at" "part_at" (defArgs s_terms_part_at) (defBody s_terms_part_at) (defScope s_terms_part_at) .none kV427 dc427 pm427 an427 cd427 ct427), sl427⟩)
    (c427 : PySem.W.codeIn K cd427 "part_at" = true)
    (k427 : PySem.W.keepIn K (.ref f427) = true)
    (a427 : PySem.W.nsIn K mainGlobals "part_at" = some (some (.ref f427)))
    (l430 : K.lookup f430 = some ⟨oc430, od430, .func (PySem.W.fnOf "replace_at" "replace_at" (defArgs s_terms_replace_at) (defBody s_terms_replace_at) (defScope s_terms_replace_at) .none kV430 dc430 pm430 an430 cd430 ct430), sl430⟩)
    (c430 : PySem.W.codeIn K cd430 "replace_at" = true)
    (k430 : PySem.W.keepIn K (.ref f430) = true)
    (a430 : PySem.W.nsIn K mainGlobals "replace_at" = some (some (.ref f430)))
    (l428 : K.lookup f428 = some ⟨oc428, od428, .func (PySem.W.fnOf "parts_of" "parts_of" (defArgs s_terms_parts_of) (defBody s_terms_parts_of) (defScope s_terms_parts_of) .none kV428 dc428 pm428 an428 cd428 ct428), sl428⟩)
    (c428 : PySem.W.codeIn K cd428 "parts_of" = true)
    (k428 : PySem.W.keepIn K (.ref f428) = true)
    (a428 : PySem.W.nsIn K mainGlobals "parts_of" = some (some (.ref f428)))
    (l433 : K.lookup f433 = some ⟨oc433, od433, .func (PySem.W.fnOf "unknowns_of" "unknowns_of" (defArgs s_terms_unknowns_of) (defBody s_terms_unknowns_of) (defScope s_terms_unknowns_of) .none kV433 dc433 pm433 an433 cd433 ct433), sl433⟩)
    (c433 : PySem.W.codeIn K cd433 "unknowns_of" = true)
    (k433 : PySem.W.keepIn K (.ref f433) = true)
    (a433 : PySem.W.nsIn K mainGlobals "unknowns_of" = some (some (.ref f433)))
    (l0 : K.lookup f0 = some ⟨oc0, od0, .func (PySem.W.fnOf "_law_start" "_law_start" (defArgs s__law_start) (defBody s__law_start) (defScope s__law_start) .none kV0 dc0 pm0 an0 cd0 ct0), sl0⟩)
    (c0 : PySem.W.codeIn K cd0 "_law_start" = true)
    (k0 : PySem.W.keepIn K (.ref f0) = true)
    (a0 : PySem.W.nsIn K mainGlobals "_law_start" = some (some (.ref f0)))
    (l1 : K.lookup f1 = some ⟨oc1, od1, .func (PySem.W.fnOf "_law_take" "_law_take" (defArgs s__law_take) (defBody s__law_take) (defScope s__law_take) .none kV1 dc1 pm1 an1 cd1 ct1), sl1⟩)
    (c1 : PySem.W.codeIn K cd1 "_law_take" = true)
    (k1 : PySem.W.keepIn K (.ref f1) = true)
    (a1 : PySem.W.nsIn K mainGlobals "_law_take" = some (some (.ref f1)))
    (l2 : K.lookup f2 = some ⟨oc2, od2, .func (PySem.W.fnOf "_law_term" "_law_term" (defArgs s__law_term) (defBody s__law_term) (defScope s__law_term) .none kV2 dc2 pm2 an2 cd2 ct2), sl2⟩)
    (c2 : PySem.W.codeIn K cd2 "_law_term" = true)
    (k2 : PySem.W.keepIn K (.ref f2) = true)
    (a2 : PySem.W.nsIn K mainGlobals "_law_term" = some (some (.ref f2)))
    (l3 : K.lookup f3 = some ⟨oc3, od3, .func (PySem.W.fnOf "_law_places" "_law_places" (defArgs s__law_places) (defBody s__law_places) (defScope s__law_places) .none kV3 dc3 pm3 an3 cd3 ct3), sl3⟩)
    (c3 : PySem.W.codeIn K cd3 "_law_places" = true)
    (k3 : PySem.W.keepIn K (.ref f3) = true)
    (a3 : PySem.W.nsIn K mainGlobals "_law_places" = some (some (.ref f3)))
    (l4 : K.lookup f4 = some ⟨oc4, od4, .func (PySem.W.fnOf "_law_part" "_law_part" (defArgs s__law_part) (defBody s__law_part) (defScope s__law_part) .none kV4 dc4 pm4 an4 cd4 ct4), sl4⟩)
    (c4 : PySem.W.codeIn K cd4 "_law_part" = true)
    (k4 : PySem.W.keepIn K (.ref f4) = true)
    (a4 : PySem.W.nsIn K mainGlobals "_law_part" = some (some (.ref f4)))
    (l5 : K.lookup f5 = some ⟨oc5, od5, .func (PySem.W.fnOf "_law_put" "_law_put" (defArgs s__law_put) (defBody s__law_put) (defScope s__law_put) .none kV5 dc5 pm5 an5 cd5 ct5), sl5⟩)
    (c5 : PySem.W.codeIn K cd5 "_law_put" = true)
    (k5 : PySem.W.keepIn K (.ref f5) = true)
    (a5 : PySem.W.nsIn K mainGlobals "_law_put" = some (some (.ref f5)))
    (l6 : K.lookup f6 = some ⟨oc6, od6, .func (PySem.W.fnOf "_law_refused" "_law_refused" (defArgs s__law_refused) (defBody s__law_refused) (defScope s__law_refused) .none kV6 dc6 pm6 an6 cd6 ct6), sl6⟩)
    (c6 : PySem.W.codeIn K cd6 "_law_refused" = true)
    (k6 : PySem.W.keepIn K (.ref f6) = true)
    (a6 : PySem.W.nsIn K mainGlobals "_law_refused" = some (some (.ref f6)))
    (l7 : K.lookup f7 = some ⟨oc7, od7, .func (PySem.W.fnOf "_law_listed" "_law_listed" (defArgs s__law_listed) (defBody s__law_listed) (defScope s__law_listed) .none kV7 dc7 pm7 an7 cd7 ct7), sl7⟩)
    (c7 : PySem.W.codeIn K cd7 "_law_listed" = true)
    (k7 : PySem.W.keepIn K (.ref f7) = true)
    (a7 : PySem.W.nsIn K mainGlobals "_law_listed" = some (some (.ref f7)))
    (l8 : K.lookup f8 = some ⟨oc8, od8, .func (PySem.W.fnOf "law" "law" (defArgs s_law) (defBody s_law) (defScope s_law) .none kV8 dc8 pm8 an8 cd8 ct8), sl8⟩)
    (c8 : PySem.W.codeIn K cd8 "law" = true)
    (k8 : PySem.W.keepIn K (.ref f8) = true)
    (a8 : PySem.W.nsIn K mainGlobals "law" = some (some (.ref f8)))
    (aC_BadPlace : PySem.W.nsIn K mainGlobals "BadPlace" = some (some (.ref C_BadPlace)))
    (aC_WorldOrPaperError : PySem.W.nsIn K mainGlobals "WorldOrPaperError" = some (some (.ref C_WorldOrPaperError)))
    (x_BadPlace : PySem.W.excIn K C_BadPlace [.type "ValueError", .type "Exception", .type "BaseException", .type "object"] "ValueError.__new__" = true)
    (k_BadPlace : PySem.W.keepIn K (.ref C_BadPlace) = true)
    (eb_BadPlace : PySem.W.subIn K (.ref C_BadPlace) (.type "BaseException") = some true)
    (et_BadPlace : PySem.W.typeIn K (.ref C_BadPlace) = some (.type "type"))
    (x_WorldOrPaperError : PySem.W.excIn K C_WorldOrPaperError [.type "ValueError", .type "Exception", .type "BaseException", .type "object"] "ValueError.__new__" = true)
    (k_WorldOrPaperError : PySem.W.keepIn K (.ref C_WorldOrPaperError) = true)
    (eb_WorldOrPaperError : PySem.W.subIn K (.ref C_WorldOrPaperError) (.type "BaseException") = some true)
    (et_WorldOrPaperError : PySem.W.typeIn K (.ref C_WorldOrPaperError) = some (.type "type"))
    (z_abs : PySem.W.nsIn K mainGlobals "abs" = some none)
    (z_bool : PySem.W.nsIn K mainGlobals "bool" = some none)
    (z_int : PySem.W.nsIn K mainGlobals "int" = some none)
    (z_isinstance : PySem.W.nsIn K mainGlobals "isinstance" = some none)
    (z_len : PySem.W.nsIn K mainGlobals "len" = some none)
    (z_list : PySem.W.nsIn K mainGlobals "list" = some none)
    (z_range : PySem.W.nsIn K mainGlobals "range" = some none)
    (z_str : PySem.W.nsIn K mainGlobals "str" = some none)
    (z_sum : PySem.W.nsIn K mainGlobals "sum" = some none)
    (z_tuple : PySem.W.nsIn K mainGlobals "tuple" = some none)
    (ga_BadPlace : PySem.W.findIn K (.ref C_BadPlace) "__getattribute__" = some (some (.builtin "BaseException.__getattribute__")))
    (gg_BadPlace : PySem.W.findIn K (.ref C_BadPlace) "__getattr__" = some none)
    (ed_BadPlace : PySem.W.hasDictIn K C_BadPlace = true)
    (ea_BadPlace : PySem.W.findIn K (.ref C_BadPlace) "__class__" = some (some (.builtin "object.__class__")))
    (em_BadPlace : PySem.W.mroIn K C_BadPlace (.type "object") = some true)
    (ga_WorldOrPaperError : PySem.W.findIn K (.ref C_WorldOrPaperError) "__getattribute__" = some (some (.builtin "BaseException.__getattribute__")))
    (gg_WorldOrPaperError : PySem.W.findIn K (.ref C_WorldOrPaperError) "__getattr__" = some none)
    (ed_WorldOrPaperError : PySem.W.hasDictIn K C_WorldOrPaperError = true)
    (ea_WorldOrPaperError : PySem.W.findIn K (.ref C_WorldOrPaperError) "__class__" = some (some (.builtin "object.__class__")))
    (em_WorldOrPaperError : PySem.W.mroIn K C_WorldOrPaperError (.type "object") = some true)
    (en0 : PySem.W.specialIn K (.builtin "object.__class__") "__get__" = some (some (.builtin "getset_descriptor.__get__")))
    (et0 : PySem.W.takesIn K (.builtin "object.__class__") = some true)
    (su_BadPlace_BadPlace : PySem.W.subIn K (.ref C_BadPlace) (.ref C_BadPlace) = some true)
    (su_WorldOrPaperError_BadPlace : PySem.W.subIn K (.ref C_WorldOrPaperError) (.ref C_BadPlace) = some false)
    (su_BadPlace_WorldOrPaperError : PySem.W.subIn K (.ref C_BadPlace) (.ref C_WorldOrPaperError) = some true)
    (su_WorldOrPaperError_WorldOrPaperError : PySem.W.subIn K (.ref C_WorldOrPaperError) (.ref C_WorldOrPaperError) = some true)
    (main : ∀ ns : List Int, ns.length ≤ 63 → ∃ r, pr fuel 60 8 [.scr ns] [] = .ok (.bl true) r) :
    ∃ fd : FuncData, (∀ (s : Shared) (v : Value), BindsTo s fd ⟨[v], []⟩ [("_law_script", v)]) ∧ ∀ base : Heap, K.In base → base.Ns mainGlobals mg → FnOk l.prog w K mg base (L2.CX l.prog w) 120 fa fd ["_law_script"] (spLaw K) := by
  have e : f8 = fa := by
    have e := hfa.symm.trans (PySem.W.mg_of X G a8)
    cases e
    rfl
  subst e
  have e_BadPlace : clsA K 6 = C_BadPlace := clsA_eq (x := "BadPlace") rfl aC_BadPlace
  have e_WorldOrPaperError : clsA K 0 = C_WorldOrPaperError := clsA_eq (x := "WorldOrPaperError") rfl aC_WorldOrPaperError
  let fdl : List FuncData := [PySem.W.fnOf "is_unknown" "is_unknown" (defArgs s_terms_is_unknown) (defBody s_terms_is_unknown) (defScope s_terms_is_unknown) .none kV426 dc426 pm426 an426 cd426 ct426, PySem.W.fnOf "term_size" "term_size" (defArgs s_terms_term_size) (defBody s_terms_term_size) (defScope s_terms_term_size) .none kV431 dc431 pm431 an431 cd431 ct431, PySem.W.fnOf "places_of" "places_of" (defArgs s_terms_places_of) (defBody s_terms_places_of) (defScope s_terms_places_of) .none kV429 dc429 pm429 an429 cd429 ct429, PySem.W.fnOf "part_at" "part_at" (defArgs s_terms_part_at) (defBody s_terms_part_at) (defScope s_terms_part_at) .none kV427 dc427 pm427 an427 cd427 ct427, PySem.W.fnOf "replace_at" "replace_at" (defArgs s_terms_replace_at) (defBody s_terms_replace_at) (defScope s_terms_replace_at) .none kV430 dc430 pm430 an430 cd430 ct430, PySem.W.fnOf "parts_of" "parts_of" (defArgs s_terms_parts_of) (defBody s_terms_parts_of) (defScope s_terms_parts_of) .none kV428 dc428 pm428 an428 cd428 ct428, PySem.W.fnOf "unknowns_of" "unknowns_of" (defArgs s_terms_unknowns_of) (defBody s_terms_unknowns_of) (defScope s_terms_unknowns_of) .none kV433 dc433 pm433 an433 cd433 ct433, PySem.W.fnOf "_law_start" "_law_start" (defArgs s__law_start) (defBody s__law_start) (defScope s__law_start) .none kV0 dc0 pm0 an0 cd0 ct0, PySem.W.fnOf "_law_take" "_law_take" (defArgs s__law_take) (defBody s__law_take) (defScope s__law_take) .none kV1 dc1 pm1 an1 cd1 ct1, PySem.W.fnOf "_law_term" "_law_term" (defArgs s__law_term) (defBody s__law_term) (defScope s__law_term) .none kV2 dc2 pm2 an2 cd2 ct2, PySem.W.fnOf "_law_places" "_law_places" (defArgs s__law_places) (defBody s__law_places) (defScope s__law_places) .none kV3 dc3 pm3 an3 cd3 ct3, PySem.W.fnOf "_law_part" "_law_part" (defArgs s__law_part) (defBody s__law_part) (defScope s__law_part) .none kV4 dc4 pm4 an4 cd4 ct4, PySem.W.fnOf "_law_put" "_law_put" (defArgs s__law_put) (defBody s__law_put) (defScope s__law_put) .none kV5 dc5 pm5 an5 cd5 ct5, PySem.W.fnOf "_law_refused" "_law_refused" (defArgs s__law_refused) (defBody s__law_refused) (defScope s__law_refused) .none kV6 dc6 pm6 an6 cd6 ct6, PySem.W.fnOf "_law_listed" "_law_listed" (defArgs s__law_listed) (defBody s__law_listed) (defScope s__law_listed) .none kV7 dc7 pm7 an7 cd7 ct7, PySem.W.fnOf "law" "law" (defArgs s_law) (defBody s_law) (defScope s_law) .none kV8 dc8 pm8 an8 cd8 ct8]
  have T : Txt K w mg (fun k => ([f426, f431, f429, f427, f430, f428, f433, f0, f1, f2, f3, f4, f5, f6, f7, f8] : List Addr).getD (match k with | 0 => 7 | 1 => 8 | 2 => 9 | 3 => 10 | 4 => 11 | 5 => 12 | 6 => 13 | 7 => 14 | 8 => 15 | 426 => 0 | 427 => 3 | 428 => 5 | 429 => 2 | 430 => 4 | 431 => 1 | 433 => 6 | _ => 0) 0) (fun k => fdl.getD (match k with | 0 => 7 | 1 => 8 | 2 => 9 | 3 => 10 | 4 => 11 | 5 => 12 | 6 => 13 | 7 => 14 | 8 => 15 | 426 => 0 | 427 => 3 | 428 => 5 | 429 => 2 | 430 => 4 | 431 => 1 | 433 => 6 | _ => 0) (fdl.head (by simp [fdl]))) (fun x => match x with  | _ => 0) := {
    F426 := fun_mk (st := s_terms_is_unknown) l426 c426 k426
    b426 := (fun_mk (st := s_terms_is_unknown) l426 c426 k426).binds (ps := P_terms_is_unknown) fun _ _ _ _ _ _ us hl => match us, hl with | [_], _ => rfl
    m426 := PySem.W.mg_of X G a426
    F431 := fun_mk (st := s_terms_term_size) l431 c431 k431
    b431 := (fun_mk (st := s_terms_term_size) l431 c431 k431).binds (ps := P_terms_term_size) fun _ _ _ _ _ _ us hl => match us, hl with | [_], _ => rfl
    m431 := PySem.W.mg_of X G a431
    F429 := fun_mk (st := s_terms_places_of) l429 c429 k429
    b429 := (fun_mk (st := s_terms_places_of) l429 c429 k429).binds (ps := P_terms_places_of) fun _ _ _ _ _ _ us hl => match us, hl with | [_], _ => rfl
    m429 := PySem.W.mg_of X G a429
    F427 := fun_mk (st := s_terms_part_at) l427 c427 k427
    b427 := (fun_mk (st := s_terms_part_at) l427 c427 k427).binds (ps := P_terms_part_at) fun _ _ _ _ _ _ us hl => match us, hl with | [_, _], _ => rfl
    m427 := PySem.W.mg_of X G a427
    F430 := fun_mk (st := s_terms_replace_at) l430 c430 k430
    b430 := (fun_mk (st := s_terms_replace_at) l430 c430 k430).binds (ps := P_terms_replace_at) fun _ _ _ _ _ _ us hl => match us, hl with | [_, _, _], _ => rfl
    m430 := PySem.W.mg_of X G a430
    F428 := fun_mk (st := s_terms_parts_of) l428 c428 k428
    b428 := (fun_mk (st := s_terms_parts_of) l428 c428 k428).binds (ps := P_terms_parts_of) fun _ _ _ _ _ _ us hl => match us, hl with | [_], _ => rfl
    m428 := PySem.W.mg_of X G a428
    F433 := fun_mk (st := s_terms_unknowns_of) l433 c433 k433
    b433 := (fun_mk (st := s_terms_unknowns_of) l433 c433 k433).binds (ps := P_terms_unknowns_of) fun _ _ _ _ _ _ us hl => match us, hl with | [_], _ => rfl
    m433 := PySem.W.mg_of X G a433
    F0 := fun_mk (st := s__law_start) l0 c0 k0
    b0 := (fun_mk (st := s__law_start) l0 c0 k0).binds (ps := P__law_start) fun _ _ _ _ _ _ us hl => match us, hl with | [_], _ => rfl
    m0 := PySem.W.mg_of X G a0
    F1 := fun_mk (st := s__law_take) l1 c1 k1
    b1 := (fun_mk (st := s__law_take) l1 c1 k1).binds (ps := P__law_take) fun _ _ _ _ _ _ us hl => match us, hl with | [_, _], _ => rfl
    m1 := PySem.W.mg_of X G a1
    F2 := fun_mk (st := s__law_term) l2 c2 k2
    b2 := (fun_mk (st := s__law_term) l2 c2 k2).binds (ps := P__law_term) fun _ _ _ _ _ _ us hl => match us, hl with | [_, _], _ => rfl
    m2 := PySem.W.mg_of X G a2
    F3 := fun_mk (st := s__law_places) l3 c3 k3
    b3 := (fun_mk (st := s__law_places) l3 c3 k3).binds (ps := P__law_places) fun _ _ _ _ _ _ us hl => match us, hl with | [_], _ => rfl
    m3 := PySem.W.mg_of X G a3
    F4 := fun_mk (st := s__law_part) l4 c4 k4
    b4 := (fun_mk (st := s__law_part) l4 c4 k4).binds (ps := P__law_part) fun _ _ _ _ _ _ us hl => match us, hl with | [_, _], _ => rfl
    m4 := PySem.W.mg_of X G a4
    F5 := fun_mk (st := s__law_put) l5 c5 k5
    b5 := (fun_mk (st := s__law_put) l5 c5 k5).binds (ps := P__law_put) fun _ _ _ _ _ _ us hl => match us, hl with | [_, _, _], _ => rfl
    m5 := PySem.W.mg_of X G a5
    F6 := fun_mk (st := s__law_refused) l6 c6 k6
    b6 := (fun_mk (st := s__law_refused) l6 c6 k6).binds (ps := P__law_refused) fun _ _ _ _ _ _ us hl => match us, hl with | [_, _], _ => rfl
    m6 := PySem.W.mg_of X G a6
    F7 := fun_mk (st := s__law_listed) l7 c7 k7
    b7 := (fun_mk (st := s__law_listed) l7 c7 k7).binds (ps := P__law_listed) fun _ _ _ _ _ _ us hl => match us, hl with | [_], _ => rfl
    m7 := PySem.W.mg_of X G a7
    F8 := fun_mk (st := s_law) l8 c8 k8
    b8 := (fun_mk (st := s_law) l8 c8 k8).binds (ps := P_law) fun _ _ _ _ _ _ us hl => match us, hl with | [_], _ => rfl
    m8 := PySem.W.mg_of X G a8
    mg_BadPlace := by rw [e_BadPlace]; exact PySem.W.mg_of X G aC_BadPlace
    mg_WorldOrPaperError := by rw [e_WorldOrPaperError]; exact PySem.W.mg_of X G aC_WorldOrPaperError
    x_BadPlace := by rw [e_BadPlace]; exact x_BadPlace
    k_BadPlace := by rw [e_BadPlace]; exact k_BadPlace
    eb_BadPlace := by rw [e_BadPlace]; exact eb_BadPlace
    et_BadPlace := by rw [e_BadPlace]; exact et_BadPlace
    x_WorldOrPaperError := by rw [e_WorldOrPaperError]; exact x_WorldOrPaperError
    k_WorldOrPaperError := by rw [e_WorldOrPaperError]; exact k_WorldOrPaperError
    eb_WorldOrPaperError := by rw [e_WorldOrPaperError]; exact eb_WorldOrPaperError
    et_WorldOrPaperError := by rw [e_WorldOrPaperError]; exact et_WorldOrPaperError
    z_abs := PySem.W.mg_none_of X G z_abs
    z_bool := PySem.W.mg_none_of X G z_bool
    z_int := PySem.W.mg_none_of X G z_int
    z_isinstance := PySem.W.mg_none_of X G z_isinstance
    z_len := PySem.W.mg_none_of X G z_len
    z_list := PySem.W.mg_none_of X G z_list
    z_range := PySem.W.mg_none_of X G z_range
    z_str := PySem.W.mg_none_of X G z_str
    z_sum := PySem.W.mg_none_of X G z_sum
    z_tuple := PySem.W.mg_none_of X G z_tuple
    ec := fun cc hcc => by
      rcases excs_mem hcc with rfl | rfl
      · rw [e_BadPlace]; exact ⟨ga_BadPlace, gg_BadPlace, eb_BadPlace, ed_BadPlace, ea_BadPlace, en0, et0, em_BadPlace⟩
      · rw [e_WorldOrPaperError]; exact ⟨ga_WorldOrPaperError, gg_WorldOrPaperError, eb_WorldOrPaperError, ed_WorldOrPaperError, ea_WorldOrPaperError, en0, et0, em_WorldOrPaperError⟩
    ki_BadPlace := fun cc hcc => by
      rcases excs_mem hcc with rfl | rfl
      · rw [e_BadPlace]; exact kit_of ed_BadPlace et_BadPlace su_BadPlace_BadPlace su_BadPlace_BadPlace
      · rw [e_WorldOrPaperError, e_BadPlace]; exact kit_of ed_BadPlace et_BadPlace su_WorldOrPaperError_BadPlace su_BadPlace_BadPlace
    em_WorldOrPaperError := fun cc hcc => by
      rcases excs_mem hcc with rfl | rfl
      · rw [e_BadPlace, e_WorldOrPaperError]; exact PySem.W.exm_ref eb_WorldOrPaperError ed_WorldOrPaperError et_WorldOrPaperError su_BadPlace_WorldOrPaperError
      · rw [e_WorldOrPaperError]; exact PySem.W.exm_ref eb_WorldOrPaperError ed_WorldOrPaperError et_WorldOrPaperError su_WorldOrPaperError_WorldOrPaperError
  }
  exact ⟨_, fun s v => .of_eq rfl, fun base _ _ => law_ok T main⟩
end Law
open PySem PySem.W PyProof.Rows
theorem PySem.Challenge.cw_worldorpaper_k86_parts_and_places_holds : PySem.Challenge.rw_worldorpaper_k86_parts_and_places.Holds := by
  w_on; o_law; k_head; (case hw => w_witness2)
  k_fill
  refine DL.walk (l := PySem.Challenge.rw_worldorpaper_k86_parts_and_places) (k := 120) (x := "_law_script") rfl rfl ⟨rfl, by decide, by decide⟩ (fun w h Y => PySem.W.kIn_of Y) ?F
  case F =>
    intro w mg fa h KX G hmg
    refine' Law.all_mk KX G hmg ?l426 ?c426 ?k426 ?a426 ?l431 ?c431 ?k431 ?a431 ?l429 ?c429 ?k429 ?a429 ?l427 ?c427 ?k427 ?a427 ?l430 ?c430 ?k430 ?a430 ?l428 ?c428 ?k428 ?a428 ?l433 ?c433 ?k433 ?a433 ?l0 ?c0 ?k0 ?a0 ?l1 ?c1 ?k1 ?a1 ?l2 ?c2 ?k2 ?a2 ?l3 ?c3 ?k3 ?a3 ?l4 ?c4 ?k4 ?a4 ?l5 ?c5 ?k5 ?a5 ?l6 ?c6 ?k6 ?a6 ?l7 ?c7 ?k7 ?a7 ?l8 ?c8 ?k8 ?a8 ?aC_BadPlace ?aC_WorldOrPaperError ?x_BadPlace ?k_BadPlace ?eb_BadPlace ?et_BadPlace ?x_WorldOrPaperError ?k_WorldOrPaperError ?eb_WorldOrPaperError ?et_WorldOrPaperError ?z_abs ?z_bool ?z_int ?z_isinstance ?z_len ?z_list ?z_range ?z_str ?z_sum ?z_tuple ?ga_BadPlace ?gg_BadPlace ?ed_BadPlace ?ea_BadPlace ?em_BadPlace ?ga_WorldOrPaperError ?gg_WorldOrPaperError ?ed_WorldOrPaperError ?ea_WorldOrPaperError ?em_WorldOrPaperError ?en0 ?et0 ?su_BadPlace_BadPlace ?su_WorldOrPaperError_BadPlace ?su_BadPlace_WorldOrPaperError ?su_WorldOrPaperError_WorldOrPaperError Law.main
    (case a426 => k_is)
    (case a431 => k_is)
    (case a429 => k_is)
    (case a427 => k_is)
    (case a430 => k_is)
    (case a428 => k_is)
    (case a433 => k_is)
    (case a0 => k_is)
    (case a1 => k_is)
    (case a2 => k_is)
    (case a3 => k_is)
    (case a4 => k_is)
    (case a5 => k_is)
    (case a6 => k_is)
    (case a7 => k_is)
    (case a8 => k_is)
    (case aC_BadPlace => k_is)
    (case aC_WorldOrPaperError => k_is)
    (case l426 => k_is)
    (case c426 => k_is)
    (case k426 => k_is)
    (case l431 => k_is)
    (case c431 => k_is)
    (case k431 => k_is)
    (case l429 => k_is)
    (case c429 => k_is)
    (case k429 => k_is)
    (case l427 => k_is)
    (case c427 => k_is)
    (case k427 => k_is)
    (case l430 => k_is)
    (case c430 => k_is)
    (case k430 => k_is)
    (case l428 => k_is)
    (case c428 => k_is)
    (case k428 => k_is)
    (case l433 => k_is)
    (case c433 => k_is)
    (case k433 => k_is)
    (case l0 => k_is)
    (case c0 => k_is)
    (case k0 => k_is)
    (case l1 => k_is)
    (case c1 => k_is)
    (case k1 => k_is)
    (case l2 => k_is)
    (case c2 => k_is)
    (case k2 => k_is)
    (case l3 => k_is)
    (case c3 => k_is)
    (case k3 => k_is)
    (case l4 => k_is)
    (case c4 => k_is)
    (case k4 => k_is)
    (case l5 => k_is)
    (case c5 => k_is)
    (case k5 => k_is)
    (case l6 => k_is)
    (case c6 => k_is)
    (case k6 => k_is)
    (case l7 => k_is)
    (case c7 => k_is)
    (case k7 => k_is)
    (case l8 => k_is)
    (case c8 => k_is)
    (case k8 => k_is)
    (case x_BadPlace => k_exc)
    (case k_BadPlace => k_is)
    (case eb_BadPlace => k_is)
    (case et_BadPlace => k_is)
    (case x_WorldOrPaperError => k_exc)
    (case k_WorldOrPaperError => k_is)
    (case eb_WorldOrPaperError => k_is)
    (case et_WorldOrPaperError => k_is)
    (case z_abs => k_is)
    (case z_bool => k_is)
    (case z_int => k_is)
    (case z_isinstance => k_is)
    (case z_len => k_is)
    (case z_list => k_is)
    (case z_range => k_is)
    (case z_str => k_is)
    (case z_sum => k_is)
    (case z_tuple => k_is)
    (case ga_BadPlace => k_is)
    (case gg_BadPlace => k_is)
    (case ed_BadPlace => k_is)
    (case ea_BadPlace => k_is)
    (case em_BadPlace => k_is)
    (case ga_WorldOrPaperError => k_is)
    (case gg_WorldOrPaperError => k_is)
    (case ed_WorldOrPaperError => k_is)
    (case ea_WorldOrPaperError => k_is)
    (case em_WorldOrPaperError => k_is)
    (case en0 => k_is)
    (case et0 => k_is)
    (case su_BadPlace_BadPlace => first | rfl | k_is)
    (case su_WorldOrPaperError_BadPlace => first | rfl | k_is)
    (case su_BadPlace_WorldOrPaperError => first | rfl | k_is)
    (case su_WorldOrPaperError_WorldOrPaperError => first | rfl | k_is)

