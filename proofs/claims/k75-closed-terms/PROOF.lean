import PyProof.Rows.All
import Wide.All
import OpenK.AllK
import Wide.FinOn
import HandS.ForMost
import HandS.Exc
import HandS.ExcOwn
import HandS.TryOnly
import HandS.WordsExc
import HandS.CallSlots
import HandS.IsInst
import HandS.TupAny
import HandS.Deep
import HandS.Flow
import HandS.TupLe
import HandS.WordsDict
import HandS.More
import HandS.Text
import HandS.ExcIs
import HandS.DictComp
import HandS.Property
import HandS.Defaults
import PySem.Challenge.RW_worldorpaper_k75_closed_terms_by_depth
set_option Elab.async false
set_option linter.all false
set_option maxRecDepth 100000
set_option maxHeartbeats 2000000
/-! DL: a data level over HandS. Values are plain data (D); objects that change by reference are resources (D.loc n). -/
namespace DL
open PySem L2

/-- data: what a program's value says, without addresses -/
inductive D where
  | non | bl (b : Bool) | int (i : Int) | str (x : Str)
  | tup (xs : List D) | lst (xs : List D) | dic (kvs : List (Key × D))
  | loc (n : Nat) | scr (ns : List Int) | ty (n : String) | gl (a : Addr)
  | ins (c : Nat) (fs : List D)

/-- a resource: an object that is changed by reference; a list's or dict's items hold no list and no dict of their own; an instance's fields may hold anything, ver counts its writes -/
inductive RO where
  | lst (xs : List D) | dic (kvs : List (Key × D)) | obj (ver c : Nat) (fs : List D)

/-- the classes by number -/
def clsNames : List Str := ["WorldOrPaperError", "BadName", "BadArity", "UnknownName", "BadTerm", "BadSentence", "BadPlace", "BadStep", "BadWorld", "BadOrder", "NotOfKind", "BadDeed", "BadText",
  "Signature", "Book", "World", "Order", "Words", "Reader", "Form", "Partial", "Branch", "Grower", "Heart", "Fillings", "Outline", "Decider", "Answer", "Bench", "Desk", "TreeReader", "LineWriter"]
/-- the fields, in the order in which they are stored -/
def fldTab : List (List Str) := [[], [], [], [], [], [], [], [], [], [], [], [], [],
  ["functions", "relations", "table"], ["signature", "sentences"], ["signature", "size", "_tables"], ["signature", "weights", "ranking", "ranks"], ["words", "at"], ["words", "at", "signature", "known"],
  ["book", "signature", "steps", "chosen", "matrices", "clauses", "origins"], ["signature", "size", "cells"], ["partial", "waiting", "cell", "entries", "below", "ends_beyond"],
  ["limit", "opened", "world", "tree", "beyond", "_clauses", "_unknowns", "_picks", "_elder_every", "_start", "_branches", "_beyond_below"],
  ["signature", "order", "picks", "given", "rows", "waiting", "kept", "steps", "refuted", "_clauses", "_heads", "_texts"]]
def fldsOf (c : Nat) : List Str := fldTab.getD c []
theorem flds_nd (c : Nat) : (fldsOf c).Nodup := by
  have h : ∀ l ∈ fldTab, l.Nodup := by decide +kernel
  unfold fldsOf
  by_cases hc : c < fldTab.length
  · rw [List.getD_eq_getElem?_getD, List.getElem?_eq_getElem hc]
    exact h _ (List.getElem_mem hc)
  · rw [List.getD_eq_getElem?_getD, List.getElem?_eq_none (by omega)]
    exact List.nodup_nil
def clsA (K : PySem.W.Frag) (c : Nat) : Addr := match PySem.W.nsIn K mainGlobals (clsNames.getD c "") with
  | some (some (.ref a)) => a
  | _ => 0
/-- the classes of errors over one -/
def subE (c d : Nat) : Bool := c == d || d == 0 && c ≤ 12

abbrev Rs := List RO
abbrev En := List (Option D)

mutual
def D.imm : D → Bool
  | .tup xs => D.imms xs
  | .lst _ => false
  | .dic _ => false
  | .scr _ => false
  | .ins _ _ => false
  | _ => true
def D.imms : List D → Bool
  | [] => true
  | x :: xs => D.imm x && D.imms xs
end
def D.immk : List (Key × D) → Bool
  | [] => true
  | p :: r => D.imm p.2 && D.immk r

section
variable (K : PySem.W.Frag) (m : List Addr) (H : Hp)
mutual
inductive Rp : D → V → Prop
  | non : Rp .non .non
  | bl (b : Bool) : Rp (.bl b) (.bl b)
  | int (i : Int) : Rp (.int i) (.int i)
  | str (x : Str) : Rp (.str x) (.str x)
  | tup {a : Addr} {xs : List V} {ds : List D} : SqT K H a xs → Rps ds xs → Rp (.tup ds) (.ref a)
  | lst {a : Addr} {xs : List V} {ds : List D} : H a = some (.lst xs) → Rps ds xs → Rp (.lst ds) (.ref a)
  | dic {a : Addr} {kvs : List (Key × V)} {kds : List (Key × D)} : H a = some (.dK kvs) → Rpk kds kvs → Rp (.dic kds) (.ref a)
  | loc {n : Nat} {a : Addr} : m[n]? = some a → Rp (.loc n) (.ref a)
  | scr {a : Addr} {ns : List Int} : SqL K H a (ns.map V.int) → Rp (.scr ns) (.ref a)
  | ty (n : String) : Rp (.ty n) (.ty n)
  | gl (a : Addr) : Rp (.gl a) (.ref a)
  | ins {c : Nat} {a dx : Addr} {fs : List D} {vs : List V} : H a = some (.ins (clsA K c) dx ((fldsOf c).zip vs)) → vs.length ≤ (fldsOf c).length → Rps fs vs → Rp (.ins c fs) (.ref a)
inductive Rps : List D → List V → Prop
  | nil : Rps [] []
  | cons {d : D} {ds : List D} {v : V} {vs : List V} : Rp d v → Rps ds vs → Rps (d :: ds) (v :: vs)
inductive Rpk : List (Key × D) → List (Key × V) → Prop
  | nil : Rpk [] []
  | cons {k : Key} {d : D} {ds : List (Key × D)} {v : V} {vs : List (Key × V)} : Rp d v → Rpk ds vs → Rpk ((k, d) :: ds) ((k, v) :: vs)
end
end

/-- all of H stands in H' -/
def Sub (H H' : Hp) : Prop := ∀ a o, H a = some o → H' a = some o
theorem Sub.refl (H : Hp) : Sub H H := fun _ _ h => h
theorem Sub.trans {A B C : Hp} (a : Sub A B) (b : Sub B C) : Sub A C := fun x o h => b x o (a x o h)
theorem Sub.rd {H H' : Hp} (s : Sub H H') {a : Addr} {u : HO} (h : Rd H a u) : Rd H' a u := by
  rcases h with h | ⟨o, h⟩
  · exact .inl (s a _ h)
  · exact .inr ⟨o, s a _ h⟩
theorem Sub.sqL {K : PySem.W.Frag} {H H' : Hp} (s : Sub H H') {a : Addr} {xs : List V} (h : SqL K H a xs) : SqL K H' a xs := by
  rcases h with h | h
  · exact .inl (s.rd h)
  · exact .inr h
theorem Sub.sqT {K : PySem.W.Frag} {H H' : Hp} (s : Sub H H') {a : Addr} {xs : List V} (h : SqT K H a xs) : SqT K H' a xs := by
  rcases h with h | h
  · exact .inl (s.rd h)
  · exact .inr h

def Pre (m m' : List Addr) : Prop := ∀ (n : Nat) (a : Addr), m[n]? = some a → m'[n]? = some a
theorem Pre.refl (m : List Addr) : Pre m m := fun _ _ h => h
theorem Pre.trans {a b c : List Addr} (x : Pre a b) (y : Pre b c) : Pre a c := fun n q h => y n q (x n q h)
theorem Pre.lt {m m' : List Addr} (p : Pre m m') {n : Nat} (h : n < m.length) : n < m'.length :=
  (List.getElem?_eq_some_iff.mp (p n m[n] (List.getElem?_eq_getElem h))).1
theorem Pre.mem {m m' : List Addr} (p : Pre m m') {a : Addr} (h : a ∈ m) : a ∈ m' := by
  obtain ⟨n, hn⟩ := List.mem_iff_getElem?.mp h
  exact List.mem_iff_getElem?.mpr ⟨n, p n a hn⟩

section
variable {K : PySem.W.Frag} {m m' : List Addr} {H H' : Hp}
mutual
theorem Rp.mono (s : Sub H H') (p : Pre m m') : ∀ {d : D} {v : V}, Rp K m H d v → Rp K m' H' d v
  | _, _, .non => .non
  | _, _, .bl b => .bl b
  | _, _, .int i => .int i
  | _, _, .str x => .str x
  | _, _, .tup h r => .tup (s.sqT h) (Rps.mono s p r)
  | _, _, .lst h r => .lst (s _ _ h) (Rps.mono s p r)
  | _, _, .dic h r => .dic (s _ _ h) (Rpk.mono s p r)
  | _, _, .loc h => .loc (p _ _ h)
  | _, _, .scr h => .scr (s.sqL h)
  | _, _, .ty n => .ty n
  | _, _, .gl a => .gl a
  | _, _, .ins h l r => .ins (s _ _ h) l (Rps.mono s p r)
theorem Rps.mono (s : Sub H H') (p : Pre m m') : ∀ {d : List D} {v : List V}, Rps K m H d v → Rps K m' H' d v
  | _, _, .nil => .nil
  | _, _, .cons h r => .cons (Rp.mono s p h) (Rps.mono s p r)
theorem Rpk.mono (s : Sub H H') (p : Pre m m') : ∀ {d : List (Key × D)} {v : List (Key × V)}, Rpk K m H d v → Rpk K m' H' d v
  | _, _, .nil => .nil
  | _, _, .cons h r => .cons (Rp.mono s p h) (Rpk.mono s p r)
end

/-- the tuples of H stand in H' -/
def SubT (H H' : Hp) : Prop := ∀ a xs, Rd H a (.tup xs) → Rd H' a (.tup xs)
theorem SubT.sqT (s : SubT H H') {a : Addr} {xs : List V} (h : SqT K H a xs) : SqT K H' a xs := by
  rcases h with h | h
  · exact .inl (s _ _ h)
  · exact .inr h
mutual
theorem Rp.immM (s : SubT H H') (p : Pre m m') : ∀ {d : D} {v : V}, d.imm = true → Rp K m H d v → Rp K m' H' d v
  | _, _, _, .non => .non
  | _, _, _, .bl b => .bl b
  | _, _, _, .int i => .int i
  | _, _, _, .str x => .str x
  | .tup ds, _, e, .tup h r => .tup (s.sqT h) (Rps.immM s p (by rw [D.imm] at e; exact e) r)
  | .lst ds, _, e, .lst h r => by rw [D.imm] at e; cases e
  | .dic ds, _, e, .dic h r => by rw [D.imm] at e; cases e
  | _, _, _, .loc h => .loc (p _ _ h)
  | .scr ns, _, e, .scr h => by rw [D.imm] at e; cases e
  | _, _, _, .ty n => .ty n
  | _, _, _, .gl a => .gl a
  | .ins _ _, _, e, .ins h l r => by rw [D.imm] at e; cases e
theorem Rps.immM (s : SubT H H') (p : Pre m m') : ∀ {d : List D} {v : List V}, D.imms d = true → Rps K m H d v → Rps K m' H' d v
  | _, _, _, .nil => .nil
  | _ :: _, _, e, .cons h r => by
    rw [D.imms, Bool.and_eq_true] at e
    exact .cons (Rp.immM s p e.1 h) (Rps.immM s p e.2 r)
end
theorem Rpk.immM (s : SubT H H') (p : Pre m m') : ∀ {d : List (Key × D)} {v : List (Key × V)}, D.immk d = true → Rpk K m H d v → Rpk K m' H' d v
  | _, _, _, .nil => .nil
  | _ :: _, _, e, .cons h r => by
    rw [D.immk, Bool.and_eq_true] at e
    exact .cons (Rp.immM s p e.1 h) (Rpk.immM s p e.2 r)
theorem Sub.subT (s : Sub H H') : SubT H H' := fun _ _ h => s.rd h
theorem SubT.trans {A B C : Hp} (a : SubT A B) (b : SubT B C) : SubT A C := fun x o h => b x o (a x o h)
end

theorem Rps.length {K : PySem.W.Frag} {m : List Addr} {H : Hp} : ∀ {ds : List D} {vs : List V}, Rps K m H ds vs → ds.length = vs.length
  | _, _, .nil => rfl
  | _, _, .cons _ r => congrArg (· + 1) r.length
theorem Rps.get {K : PySem.W.Frag} {m : List Addr} {H : Hp} : ∀ {ds : List D} {vs : List V} {i : Nat} {d : D}, Rps K m H ds vs → ds[i]? = some d → ∃ v, vs[i]? = some v ∧ Rp K m H d v
  | _, _, _, _, .nil, h => by simp at h
  | _, _, 0, _, .cons r _, h => by
    simp only [List.getElem?_cons_zero, Option.some.injEq] at h
    subst h
    exact ⟨_, rfl, r⟩
  | _, _, i + 1, _, .cons _ r, h => by
    simp only [List.getElem?_cons_succ] at h
    obtain ⟨v, e, q⟩ := Rps.get r h
    exact ⟨v, by simpa using e, q⟩
theorem Rps.append {K : PySem.W.Frag} {m : List Addr} {H : Hp} : ∀ {ds es : List D} {vs ws : List V}, Rps K m H ds vs → Rps K m H es ws → Rps K m H (ds ++ es) (vs ++ ws)
  | _, _, _, _, .nil, s => s
  | _, _, _, _, .cons r t, s => .cons r (Rps.append t s)
theorem Rps.take {K : PySem.W.Frag} {m : List Addr} {H : Hp} : ∀ {ds : List D} {vs : List V} (n : Nat), Rps K m H ds vs → Rps K m H (ds.take n) (vs.take n)
  | _, _, 0, _ => by simpa using Rps.nil
  | _, _, _ + 1, .nil => by simpa using Rps.nil
  | _, _, n + 1, .cons r t => by simpa using Rps.cons r (Rps.take n t)
theorem Rps.drop {K : PySem.W.Frag} {m : List Addr} {H : Hp} : ∀ {ds : List D} {vs : List V} (n : Nat), Rps K m H ds vs → Rps K m H (ds.drop n) (vs.drop n)
  | _, _, 0, r => r
  | _, _, _ + 1, .nil => by simpa using Rps.nil
  | _, _, n + 1, .cons _ t => by simpa using Rps.drop n t
theorem Rps.set {K : PySem.W.Frag} {m : List Addr} {H : Hp} {d : D} {v : V} (h : Rp K m H d v) : ∀ {ds : List D} {vs : List V} (n : Nat), Rps K m H ds vs → Rps K m H (ds.set n d) (vs.set n v)
  | _, _, _, .nil => .nil
  | _, _, 0, .cons _ t => .cons h t
  | _, _, n + 1, .cons r t => .cons r (Rps.set h n t)
theorem Rps.one {K : PySem.W.Frag} {m : List Addr} {H : Hp} {d : D} {v : V} (h : Rp K m H d v) : Rps K m H [d] [v] := .cons h .nil

/-- where the resources stand, what of the heap is seen -/
structure Wd where
  m : List Addr
  v : Hp
  /-- how often the resources were written -/
  g : Nat → Nat

def RoAt (K : PySem.W.Frag) (m : List Addr) (v H : Hp) (a : Addr) : RO → Prop
  | .lst ds => D.imms ds = true ∧ ∃ xs, H a = some (.lst xs) ∧ Rps K m v ds xs
  | .dic ds => D.immk ds = true ∧ ∃ xs, H a = some (.dK xs) ∧ Rpk K m v ds xs
  | .obj _ c fs => ∃ dx vs, H a = some (.ins (clsA K c) dx ((fldsOf c).zip vs)) ∧ vs.length ≤ (fldsOf c).length ∧ Rps K m v fs vs

/-- the state: the seen part stands in the heap, no resource is in it, each resource holds what is told -/
structure Good (K : PySem.W.Frag) (w : Wd) (r : Rs) (H : Hp) : Prop where
  sub : Sub w.v H
  dis : ∀ a, a ∈ w.m → w.v a = none
  len : w.m.length = r.length
  nd : w.m.Nodup
  at_ : ∀ (n : Nat) (o : RO), r[n]? = some o → ∃ a, w.m[n]? = some a ∧ RoAt K w.m w.v H a o
  gv : ∀ (n i c : Nat) (fs : List D), r[n]? = some (.obj i c fs) → w.g n = i

/-- what a piece of code may do to the heap -/
structure Tr (w : Wd) (H : Hp) (w' : Wd) (H' : Hp) : Prop where
  sub : Sub w.v w'.v
  pre : Pre w.m w'.m
  keep : ∀ b o, H b = some o → b ∉ w.m → H' b = some o
  live : ∀ b, H b ≠ none → H' b ≠ none
  newv : ∀ b, w'.v b ≠ none → w.v b ≠ none ∨ H b = none
  newm : ∀ b, b ∈ w'.m → b ∈ w.m ∨ H b = none
  tups : ∀ b xs, Rd H b (.tup xs) → Rd H' b (.tup xs)
  gm : ∀ n, n < w.m.length → w.g n ≤ w'.g n
  same : ∀ (n : Nat) (a C dx : Addr) (fs : List (Str × V)), w.m[n]? = some a → H a = some (.ins C dx fs) → w'.g n = w.g n → H' a = H a
theorem Tr.refl (w : Wd) (H : Hp) : Tr w H w H := ⟨.refl _, .refl _, fun _ _ h _ => h, fun _ h => h, fun _ h => .inl h, fun _ h => .inl h, fun _ _ h => h, fun _ _ => Nat.le_refl _, fun _ _ _ _ _ _ _ _ => rfl⟩
theorem Tr.trans {a b c : Wd} {A B C : Hp} (x : Tr a A b B) (y : Tr b B c C) : Tr a A c C where
  sub := x.sub.trans y.sub
  pre := x.pre.trans y.pre
  keep := fun p o h n => by
    refine y.keep p o (x.keep p o h n) fun hm => ?_
    rcases x.newm p hm with q | q
    · exact n q
    · rw [h] at q; cases q
  live := fun p h => y.live p (x.live p h)
  newv := fun p h => by
    rcases y.newv p h with q | q
    · exact x.newv p q
    · refine .inr ?_
      cases e : A p with
      | none => rfl
      | some o => exact absurd q (x.live p (by rw [e]; intro z; cases z))
  newm := fun p h => by
    rcases y.newm p h with q | q
    · exact x.newm p q
    · refine .inr ?_
      cases e : A p with
      | none => rfl
      | some o => exact absurd q (x.live p (by rw [e]; intro z; cases z))
  tups := fun p xs h => y.tups p xs (x.tups p xs h)
  gm := fun n hn => Nat.le_trans (x.gm n hn) (y.gm n (x.pre.lt hn))
  same := fun n p C dx fs hm hp e => by
    have hn : n < a.m.length := (List.getElem?_eq_some_iff.mp hm).1
    have h1 := x.gm n hn
    have h2 := y.gm n (x.pre.lt hn)
    have e1 := x.same n p C dx fs hm hp (by omega)
    exact (y.same n p C dx fs (x.pre n p hm) (e1.trans hp) (by omega)).trans e1
theorem Tr.fresh {w w' : Wd} {H H' : Hp} (t : Tr w H w' H') {p : Addr} (h : H' p = none) : H p = none := by
  cases e : H p with
  | none => rfl
  | some o => exact absurd h (t.live p (by rw [e]; intro z; cases z))
theorem Tr.rp {K : PySem.W.Frag} {w w' : Wd} {H H' : Hp} (t : Tr w H w' H') {d : D} {v : V} (h : Rp K w.m w.v d v) : Rp K w'.m w'.v d v := h.mono t.sub t.pre
theorem Tr.rps {K : PySem.W.Frag} {w w' : Wd} {H H' : Hp} (t : Tr w H w' H') {d : List D} {v : List V} (h : Rps K w.m w.v d v) : Rps K w'.m w'.v d v := h.mono t.sub t.pre
/-- a new object that is seen -/
def Wd.see (w : Wd) (p : Addr) (o : HO) : Wd := ⟨w.m, upd w.v p o, w.g⟩
theorem Good.none_of {K : PySem.W.Frag} {w : Wd} {r : Rs} {H : Hp} (g : Good K w r H) {p : Addr} (h : H p = none) : w.v p = none := by
  cases e : w.v p with
  | none => rfl
  | some o => rw [g.sub p o e] at h; cases h
theorem Good.live {K : PySem.W.Frag} {w : Wd} {r : Rs} {H : Hp} (g : Good K w r H) {a : Addr} (h : a ∈ w.m) : H a ≠ none := by
  obtain ⟨n, hn⟩ := List.mem_iff_getElem?.mp h
  obtain ⟨hlt, _⟩ := List.getElem?_eq_some_iff.mp hn
  have hr : n < r.length := by rw [← g.len]; exact hlt
  obtain ⟨b, hb, x⟩ := g.at_ n r[n] (List.getElem?_eq_getElem hr)
  rw [hn] at hb
  cases hb
  cases hro : r[n] with
  | lst ds => rw [hro] at x; obtain ⟨_, xs, e, _⟩ := x; rw [e]; intro z; cases z
  | dic ds => rw [hro] at x; obtain ⟨_, xs, e, _⟩ := x; rw [e]; intro z; cases z
  | obj i c fs => rw [hro] at x; obtain ⟨dx, vs, e, _⟩ := x; rw [e]; intro z; cases z
theorem tr_new {K : PySem.W.Frag} {w : Wd} {r : Rs} {H : Hp} (g : Good K w r H) {p : Addr} {o : HO} (h : H p = none) : Tr w H (w.see p o) (upd H p o) where
  sub := fun a u e => by
    have hne : a ≠ p := by rintro rfl; rw [g.none_of h] at e; cases e
    show upd w.v p o a = some u
    rw [upd_ne hne]; exact e
  pre := .refl _
  keep := fun b u e _ => by rw [upd_ne (ne_of_none e h)]; exact e
  live := fun b e => by
    by_cases hb : b = p
    · subst hb; rw [upd_same]; intro z; cases z
    · rw [upd_ne hb]; exact e
  newv := fun b e => by
    by_cases hb : b = p
    · subst hb; exact .inr h
    · have e' : upd w.v p o b ≠ none := e
      rw [upd_ne hb] at e'; exact .inl e'
  newm := fun b e => .inl e
  tups := fun b xs e => by
    rcases e with e | ⟨u, e⟩
    · exact .inl (by rw [upd_ne (ne_of_none e h)]; exact e)
    · exact .inr ⟨u, by rw [upd_ne (ne_of_none e h)]; exact e⟩
  gm := fun _ _ => Nat.le_refl _
  same := fun n a C dx fs hm ha _ => upd_ne (ne_of_none ha h)
theorem roAt_mono {K : PySem.W.Frag} {m m' : List Addr} {v v' H H' : Hp} {a : Addr} {o : RO} (s : Sub v v') (p : Pre m m') (e : H' a = H a) (h : RoAt K m v H a o) : RoAt K m' v' H' a o := by
  cases o with
  | lst ds => obtain ⟨i, xs, h1, h2⟩ := h; exact ⟨i, xs, e.trans h1, h2.mono s p⟩
  | dic ds => obtain ⟨i, xs, h1, h2⟩ := h; exact ⟨i, xs, e.trans h1, h2.mono s p⟩
  | obj i c fs => obtain ⟨dx, vs, h1, hl, h2⟩ := h; exact ⟨dx, vs, e.trans h1, hl, h2.mono s p⟩
def RO.isObj : RO → Bool
  | .obj _ _ _ => true
  | _ => false
theorem roAt_monoI {K : PySem.W.Frag} {m m' : List Addr} {v v' H H' : Hp} {a : Addr} {o : RO} (n : o.isObj = false) (s : SubT v v') (p : Pre m m') (e : H' a = H a) (h : RoAt K m v H a o) : RoAt K m' v' H' a o := by
  cases o with
  | lst ds => obtain ⟨i, xs, h1, h2⟩ := h; exact ⟨i, xs, e.trans h1, h2.immM s p i⟩
  | dic ds => obtain ⟨i, xs, h1, h2⟩ := h; exact ⟨i, xs, e.trans h1, h2.immM s p i⟩
  | obj i c fs => cases n
theorem good_new {K : PySem.W.Frag} {w : Wd} {r : Rs} {H : Hp} (g : Good K w r H) {p : Addr} {o : HO} (h : H p = none) : Good K (w.see p o) r (upd H p o) where
  sub := fun a u e => by
    have e' : upd w.v p o a = some u := e
    by_cases ha : a = p
    · subst ha; rw [upd_same] at e' ⊢; exact e'
    · rw [upd_ne ha] at e' ⊢; exact g.sub a u e'
  dis := fun a ha => by
    have hne : a ≠ p := by rintro rfl; exact g.live ha h
    show upd w.v p o a = none
    rw [upd_ne hne]; exact g.dis a ha
  len := g.len
  nd := g.nd
  at_ := fun n u e => by
    obtain ⟨a, ha, x⟩ := g.at_ n u e
    refine ⟨a, ha, roAt_mono (tr_new g h).sub (.refl _) ?_ x⟩
    have hne : a ≠ p := by rintro rfl; exact g.live (List.mem_iff_getElem?.mpr ⟨n, ha⟩) h
    exact upd_ne hne
  gv := g.gv
theorem see_at {w : Wd} {p : Addr} {o : HO} : (w.see p o).v p = some o := upd_same

/-! ### outcomes -/
inductive Out (α : Type) where
  | ok (a : α) (r : Rs)
  | exc (c : Nat) (fs : List (Str × Int)) (r : Rs)
  | bad
abbrev Ex := En → Rs → Out D
abbrev Tx := En → Rs → Out Bool
abbrev Ax := En → Rs → Out (List D)

def Out.bind {α β : Type} (o : Out α) (f : α → Rs → Out β) : Out β := match o with
  | .ok a r => f a r
  | .exc c fs r => .exc c fs r
  | .bad => .bad

/-- the slots hold what the environment tells -/
structure Slots (K : PySem.W.Frag) (w : Wd) (ρ : En) (σ : St) : Prop where
  len : ρ.length = σ.length
  at_ : ∀ (i : Nat) (d : D), ρ[i]? = some (some d) → ∃ v, σ[i]? = some (some v) ∧ Rp K w.m w.v d v
theorem Slots.mono {K : PySem.W.Frag} {w w' : Wd} {H H' : Hp} {ρ : En} {σ : St} (s : Slots K w ρ σ) (t : Tr w H w' H') : Slots K w' ρ σ := ⟨s.len, fun i d e => by
  obtain ⟨v, h, r⟩ := s.at_ i d e
  exact ⟨v, h, t.rp r⟩⟩

/-- what an exception bears: cls its class's address, its own dict -/
def ExcAt (K : PySem.W.Frag) (c : Nat) (fs : List (Str × Int)) (cls : Value) (dd : Option Addr) (H : Hp) : Prop := cls = .ref (clsA K c) ∧ (fs.isEmpty = true → dd = none) ∧ (fs.isEmpty = false → ∃ d, dd = some d ∧ H d = some (.xd (fs.map fun p => (p.1, .int p.2))))

/-- behind an outcome -/
def After (K : PySem.W.Frag) (W : WX) (w : Wd) (H : Hp) (σ : St) {α : Type} (o : Out α) (Q : α → Wd → Rs → Hp → Prop) : Prop := match o with
  | .ok a r => ∀ w' H', Tr w H w' H' → Good K w' r H' → Q a w' r H'
  | .exc c fs r => ∀ w' H' cls dd, Tr w H w' H' → Good K w' r H' → ExcAt K c fs cls dd H' → W cls dd σ H'
  | .bad => False

def tE (K : PySem.W.Frag) (W : WX) (f : Ex) : TE := fun σ H Q => ∃ ρ r w, Good K w r H ∧ Slots K w ρ σ ∧
  After K W w H σ (f ρ r) fun d w' _ H' => ∀ v, Rp K w'.m w'.v d v → Q v H'
def tT (K : PySem.W.Frag) (W : WX) (f : Tx) : TT := fun σ H Q => ∃ ρ r w, Good K w r H ∧ Slots K w ρ σ ∧
  After K W w H σ (f ρ r) fun b _ _ H' => Q b H'
def tA (K : PySem.W.Frag) (W : WX) (f : Ax) : TA := fun σ H Q => ∃ ρ r w, Good K w r H ∧ Slots K w ρ σ ∧
  After K W w H σ (f ρ r) fun ds w' _ H' => ∀ vs, Rps K w'.m w'.v ds vs → Q vs H'

theorem _root_.L2.PE.imp {X : Cx} {e : Expr} {t t' : TE} (h : PE X e t) (i : ∀ σ H Q, t' σ H Q → t σ H Q) : PE X e t' := ⟨fun pins s σ H Q I q => h.run pins s σ H Q I (i σ H Q q)⟩
theorem _root_.L2.PT.imp {X : Cx} {e : Expr} {t t' : TT} (h : PT X e t) (i : ∀ σ H Q, t' σ H Q → t σ H Q) : PT X e t' := ⟨fun pins s σ H Q I q => h.run pins s σ H Q I (i σ H Q q)⟩
theorem _root_.L2.PA.imp {X : Cx} {e : List Expr} {t t' : TA} (h : PA X e t) (i : ∀ σ H Q, t' σ H Q → t σ H Q) : PA X e t' := ⟨fun pos pins s σ H Q I q => h.run pos pins s σ H Q I (i σ H Q q)⟩
theorem _root_.L2.PS.imp {X : Cx} {e : Stmt} {t t' : TS} (h : PS X e t) (i : ∀ D σ H, t' D σ H → t D σ H) : PS X e t' := ⟨fun pins s σ H D I q => h.run pins s σ H D I (i D σ H q)⟩
theorem _root_.L2.PSs.imp {X : Cx} {e : List Stmt} {t t' : TS} (h : PSs X e t) (i : ∀ D σ H, t' D σ H → t D σ H) : PSs X e t' := ⟨fun pins s σ H D I q => h.run pins s σ H D I (i D σ H q)⟩

/-- two in a row -/
theorem After.bind {K : PySem.W.Frag} {W : WX} {w : Wd} {H : Hp} {σ : St} {α β : Type} {o : Out α} {f : α → Rs → Out β} {Q : β → Wd → Rs → Hp → Prop} {Q1 : α → Wd → Rs → Hp → Prop}
    (h : After K W w H σ (o.bind f) Q) (k : ∀ a w1 r1 H1, Tr w H w1 H1 → Good K w1 r1 H1 → After K W w1 H1 σ (f a r1) Q → Q1 a w1 r1 H1) : After K W w H σ o Q1 := by
  cases o with
  | ok a r =>
    intro w1 H1 t1 g1
    refine k a w1 r H1 t1 g1 ?_
    have h' : After K W w H σ (f a r) Q := h
    revert h'
    generalize f a r = o2
    intro h'
    cases o2 with
    | ok b r2 => exact fun w2 H2 t2 g2 => h' w2 H2 (t1.trans t2) g2
    | exc c fs r2 => exact fun w2 H2 cls dd t2 g2 x => h' w2 H2 cls dd (t1.trans t2) g2 x
    | bad => exact h'
  | exc c fs r => exact h
  | bad => exact h
theorem After.mono {K : PySem.W.Frag} {W : WX} {w : Wd} {H : Hp} {σ : St} {α : Type} {o : Out α} {Q Q1 : α → Wd → Rs → Hp → Prop}
    (h : After K W w H σ o Q) (k : ∀ a w1 r1 H1, Tr w H w1 H1 → Good K w1 r1 H1 → Q a w1 r1 H1 → Q1 a w1 r1 H1) : After K W w H σ o Q1 := by
  cases o with
  | ok a r => exact fun w1 H1 t1 g1 => k a w1 r H1 t1 g1 (h w1 H1 t1 g1)
  | exc c fs r => exact h
  | bad => exact h
theorem After.ok {K : PySem.W.Frag} {W : WX} {w : Wd} {r : Rs} {H : Hp} {σ : St} {α : Type} {a : α} {Q : α → Wd → Rs → Hp → Prop} (g : Good K w r H) (h : After K W w H σ (Out.ok a r) Q) : Q a w r H := h w H (.refl _ _) g
end DL

/-! DL2: expressions. -/
namespace DL
open PySem L2

section
variable {X : Cx} {W : WX}

/-! ### names, constants -/
def xVar (i : Nat) : Ex := fun ρ r => match ρ[i]? with
  | some (some d) => .ok d r
  | _ => .bad
def xC (d : D) : Ex := fun _ r => .ok d r
theorem de_var (i : Nat) {x : Str} {pos : Pos} (hN : X.N[i]? = some x := by rfl) (hv : Vis X.env.scope x := by first | exact Or.inl rfl | exact Or.inr (Or.inl rfl) | exact Or.inr (Or.inr rfl)) (hd : (x == ("__debug__" : Str)) = false := by decide)
    (hcd : (x == ("__classdict__" : Str)) = false := by decide) : PE X (.Name x pos) (tE X.K W (xVar i)) :=
  (pe_var hN hv hd hcd).imp fun σ H Q ⟨ρ, r, w, g, s, h⟩ => by
    unfold xVar at h
    split at h
    · rename_i d e
      obtain ⟨v, hv, rp⟩ := s.at_ i d e
      exact ⟨v, hv, h.ok g v rp⟩
    · exact h.elim
theorem de_const {e : Expr} {v : V} {d : D} (h : PE X e (tC v)) (hd : ∀ (m : List Addr) (H : Hp), Rp X.K m H d v) : PE X e (tE X.K W (xC d)) :=
  h.imp fun σ H Q ⟨ρ, r, w, g, s, h⟩ => h.ok g v (hd _ _)
theorem de_int {i j pos} : PE X (.Constant (.int i) j pos) (tE X.K W (xC (.int i))) := de_const pe_int fun _ _ => .int i
theorem de_bl {b j pos} : PE X (.Constant (.bool b) j pos) (tE X.K W (xC (.bl b))) := de_const pe_bl fun _ _ => .bl b
theorem de_non {j pos} : PE X (.Constant .none j pos) (tE X.K W (xC .non)) := de_const pe_non fun _ _ => .non
theorem de_str {x j pos} : PE X (.Constant (.str x) j pos) (tE X.K W (xC (.str x))) := de_const pe_str fun _ _ => .str x

/-! ### two operands -/
def xOp (F : D → D → Option D) (f g : Ex) : Ex := fun ρ r => (f ρ r).bind fun a r1 => (g ρ r1).bind fun b r2 => match F a b with
  | some d => .ok d r2
  | none => .bad
/-- what follows a value -/
abbrev KD (K : PySem.W.Frag) (w : Wd) (r : Rs) (H : Hp) (d : D) (Q : VK) : Prop := ∀ w' H', Tr w H w' H' → Good K w' r H' → ∀ z, Rp K w'.m w'.v d z → Q z H'
theorem KD.now {K : PySem.W.Frag} {w : Wd} {r : Rs} {H : Hp} {d : D} {Q : VK} (k : KD K w r H d Q) (g : Good K w r H) {z : V} (h : Rp K w.m w.v d z) : Q z H := k w H (.refl _ _) g z h
theorem KD.new {K : PySem.W.Frag} {w : Wd} {r : Rs} {H : Hp} {d : D} {Q : VK} (k : KD K w r H d Q) (g : Good K w r H) {p : Addr} {o : HO} (hp : H p = none) (h : Rp K w.m (upd w.v p o) d (.ref p)) : Q (.ref p) (upd H p o) :=
  k (w.see p o) _ (tr_new g hp) (good_new g hp) _ h
def OpD (X : Cx) (fn : Value → Value → Sem Value) (F : D → D → Option D) : Prop := ∃ rr : R2, OpR X fn rr ∧
  ∀ (w : Wd) (r : Rs) (H : Hp) (x y : D) (v u : V) (d : D) (Q : VK), Good X.K w r H → Rp X.K w.m w.v x v → Rp X.K w.m w.v y u → F x y = some d → KD X.K w r H d Q → rr v u H Q
theorem OpD.or {fn : Value → Value → Sem Value} {F G : D → D → Option D} (h : OpD X fn F) (h' : OpD X fn G) : OpD X fn (fun x y => (F x y).orElse fun _ => G x y) := by
  obtain ⟨r1, o1, k1⟩ := h
  obtain ⟨r2, o2, k2⟩ := h'
  refine ⟨_, o1.or o2, fun w r H x y v u d Q g rx ry e k => ?_⟩
  dsimp only at e
  cases e1 : F x y with
  | some z =>
    rw [e1] at e
    cases e
    exact .inl (k1 w r H x y v u _ Q g rx ry e1 k)
  | none =>
    rw [e1] at e
    exact .inr (k2 w r H x y v u d Q g rx ry e k)
/-- the two operands evaluated -/
theorem tE_op {K : PySem.W.Frag} {f g : Ex} {F : D → D → Option D} {rr : R2} {σ : St} {H : Hp} {Q : VK}
    (k : ∀ (w : Wd) (r : Rs) (H : Hp) (x y : D) (v u : V) (d : D) (Q : VK), Good K w r H → Rp K w.m w.v x v → Rp K w.m w.v y u → F x y = some d → KD K w r H d Q → rr v u H Q)
    (h : tE K W (xOp F f g) σ H Q) : tOp rr (tE K W f) (tE K W g) σ H Q := by
  obtain ⟨ρ, r, w, gd, s, h⟩ := h
  refine ⟨ρ, r, w, gd, s, h.bind fun a w1 r1 H1 t1 g1 h1 v rv => ?_⟩
  refine ⟨ρ, r1, w1, g1, s.mono t1, h1.bind fun b w2 r2 H2 t2 g2 h2 u ru => ?_⟩
  split at h2
  · rename_i d e
    exact k w2 r2 H2 a b v u d Q g2 (t2.rp rv) ru e fun w' H' t g z rz => h2 w' H' t g z rz
  · exact h2.elim
theorem de_op {a b : Expr} {op : Operator} {pos : Pos} {F : D → D → Option D} {f g : Ex} (ho : OpD X (binaryOp op) F) (ha : PE X a (tE X.K W f)) (hb : PE X b (tE X.K W g)) : PE X (.BinOp a op b pos) (tE X.K W (xOp F f g)) := by
  obtain ⟨rr, o, k⟩ := ho
  exact (pe_op o ha hb).imp fun σ H Q h => tE_op k h
theorem de_cmp {a b : Expr} {op : CmpOp} {pos : Pos} {F : D → D → Option D} {f g : Ex} (ho : OpD X (compareOp op) F) (ha : PE X a (tE X.K W f)) (hb : PE X b (tE X.K W g)) (hm : behindInMarks op b = false := by first | exact nomark _ | rfl) : PE X (.Compare a [op] [b] pos) (tE X.K W (xOp F f g)) := by
  obtain ⟨rr, o, k⟩ := ho
  exact (pe_cmpR o ha hb hm).imp fun σ H Q h => tE_op k h

def lim : Nat := 1000000
theorem lim_le {n : Nat} (h : n ≤ lim) : n ≤ sizeLine := Nat.le_trans h (by decide)
theorem lim_lt {n : Nat} (h : n < lim) : n < sizeLine := Nat.lt_of_lt_of_le h (by decide)

/-! ### + -/
def dAddI : D → D → Option D
  | .int i, .int j => some (.int (i + j))
  | _, _ => none
def dAddS : D → D → Option D
  | .str a, .str b => if a.length + b.length ≤ lim then some (.str (a ++ b)) else none
  | _, _ => none
def dAddT : D → D → Option D
  | .tup a, .tup b => if a.length + b.length ≤ lim then some (.tup (a ++ b)) else none
  | _, _ => none
def dAddL : D → D → Option D
  | .lst a, .lst b => if a.length + b.length ≤ lim then some (.lst (a ++ b)) else none
  | _, _ => none
theorem od_addI : OpD X (binaryOp .Add) dAddI := ⟨_, op_add, fun w r H x y v u d Q g rx ry e k => by
  cases rx <;> cases ry <;> simp only [dAddI] at e <;> cases e
  exact ⟨_, _, rfl, rfl, k.now g (.int _)⟩⟩
theorem od_addS : OpD X (binaryOp .Add) dAddS := ⟨_, op_add_str, fun w r H x y v u d Q g rx ry e k => by
  cases rx <;> cases ry <;> simp only [dAddS] at e <;> try cases e
  split at e
  · rename_i h
    cases e
    exact ⟨_, _, rfl, rfl, lim_le h, k.now g (.str _)⟩
  · cases e⟩
theorem od_addT : OpD X (binaryOp .Add) dAddT := ⟨_, op_catA, fun w r H x y v u d Q g rx ry e k => by
  cases rx <;> cases ry <;> simp only [dAddT] at e <;> try cases e
  rename_i a xs ds hx rx b ys es hy ry
  split at e
  · rename_i h
    cases e
    refine ⟨a, b, xs, ys, rfl, rfl, g.sub.sqT hx, g.sub.sqT hy, by rw [← rx.length, ← ry.length]; exact lim_le h, fun e1 => ?_, fun e1 e2 => ?_, fun e1 e2 p hp => ?_⟩
    · subst e1
      cases rx
      exact k.now g (.tup hy ry)
    · subst e2
      cases ry
      rw [List.append_nil] at k
      exact k.now g (.tup hx rx)
    · refine k.new g hp (.tup (SqT.of upd_same) ?_)
      have t := (tr_new (o := .tup (xs ++ ys)) g hp)
      exact (t.rps rx).append (t.rps ry)
  · cases e⟩
theorem od_addL : OpD X (binaryOp .Add) dAddL := ⟨_, op_cat, fun w r H x y v u d Q g rx ry e k => by
  cases rx <;> cases ry <;> simp only [dAddL] at e <;> try cases e
  rename_i a xs ds hx rx b ys es hy ry
  split at e
  · rename_i h
    cases e
    refine ⟨a, b, xs, ys, rfl, rfl, g.sub _ _ hx, g.sub _ _ hy, by rw [← rx.length, ← ry.length]; exact lim_le h, fun p hp => ?_⟩
    refine k.new g hp (.lst upd_same ?_)
    have t := (tr_new (o := .lst (xs ++ ys)) g hp)
    exact (t.rps rx).append (t.rps ry)
  · cases e⟩
def dAdd : D → D → Option D
  | .int i, .int j => some (.int (i + j))
  | .str a, .str b => if a.length + b.length ≤ lim then some (.str (a ++ b)) else none
  | .tup a, .tup b => if a.length + b.length ≤ lim then some (.tup (a ++ b)) else none
  | .lst a, .lst b => if a.length + b.length ≤ lim then some (.lst (a ++ b)) else none
  | _, _ => none
theorem OpD.of {fn : Value → Value → Sem Value} {F G : D → D → Option D} (h : OpD X fn F) (e : ∀ x y d, G x y = some d → F x y = some d) : OpD X fn G := by
  obtain ⟨r1, o1, k1⟩ := h
  exact ⟨_, o1, fun w r H x y v u d Q g rx ry q k => k1 w r H x y v u d Q g rx ry (e x y d q) k⟩
theorem od_add : OpD X (binaryOp .Add) dAdd := ((od_addI.or (od_addS.or (od_addT.or od_addL)))).of fun x y d h => by
  cases x <;> cases y <;> simp only [dAdd] at h <;> (try cases h) <;> simp only [dAddI, dAddS, dAddT, dAddL, Option.orElse] <;> (try (split at h <;> (try cases h))) <;> simp_all
/-! ### other arithmetic -/
def dSub : D → D → Option D
  | .int i, .int j => some (.int (i - j))
  | _, _ => none
def small (i : Int) : Bool := decide (i.natAbs < 2 ^ 64)
theorem small_of {i : Int} (h : small i = true) : -(2 ^ 64) < i ∧ i < 2 ^ 64 := by
  unfold small at h
  rw [decide_eq_true_eq] at h
  omega
def dMul : D → D → Option D
  | .int i, .int j => if small i || small j then some (.int (i * j)) else none
  | _, _ => none
def dMod : D → D → Option D
  | .int i, .int j => if 0 < j then some (.int (i % j)) else none
  | _, _ => none
def dDiv : D → D → Option D
  | .int i, .int j => if 0 < j ∧ j < 1073741824 then some (.int (i / j)) else none
  | _, _ => none
def dPow : D → D → Option D
  | .int i, .int j => if 0 ≤ j ∧ j ≤ 1000000 ∧ i.natAbs < 2 ^ 64 then some (.int (i ^ j.toNat)) else none
  | _, _ => none
theorem od_sub : OpD X (binaryOp .Sub) dSub := ⟨_, op_sub, fun w r H x y v u d Q g rx ry e k => by
  cases rx <;> cases ry <;> simp only [dSub] at e <;> cases e
  exact ⟨_, _, rfl, rfl, k.now g (.int _)⟩⟩
theorem od_mul : OpD X (binaryOp .Mult) dMul := ⟨_, op_mul, fun w r H x y v u d Q g rx ry e k => by
  cases rx <;> cases ry <;> simp only [dMul] at e <;> try cases e
  split at e
  · rename_i h
    cases e
    rw [Bool.or_eq_true] at h
    exact ⟨_, _, rfl, rfl, h.imp small_of small_of, k.now g (.int _)⟩
  · cases e⟩
theorem od_mod : OpD X (binaryOp .Mod) dMod := ⟨_, op_mod, fun w r H x y v u d Q g rx ry e k => by
  cases rx <;> cases ry <;> simp only [dMod] at e <;> try cases e
  split at e
  · rename_i h
    cases e
    exact ⟨_, _, rfl, rfl, h, k.now g (.int _)⟩
  · cases e⟩
theorem od_div : OpD X (binaryOp .FloorDiv) dDiv := ⟨_, op_fdiv, fun w r H x y v u d Q g rx ry e k => by
  cases rx <;> cases ry <;> simp only [dDiv] at e <;> try cases e
  split at e
  · rename_i h
    cases e
    exact ⟨_, _, rfl, rfl, h, k.now g (.int _)⟩
  · cases e⟩
theorem od_pow : OpD X (binaryOp .Pow) dPow := ⟨_, op_pow, fun w r H x y v u d Q g rx ry e k => by
  cases rx <;> cases ry <;> simp only [dPow] at e <;> try cases e
  split at e
  · rename_i h
    cases e
    exact ⟨_, _, rfl, rfl, h, k.now g (.int _)⟩
  · cases e⟩
/-! ### order of ints and texts -/
def dLt : D → D → Option D
  | .int i, .int j => some (.bl (decide (i < j)))
  | .str i, .str j => some (.bl (decide (i.cps.toList < j.cps.toList)))
  | _, _ => none
def dLe : D → D → Option D
  | .int i, .int j => some (.bl (decide (i ≤ j)))
  | .str i, .str j => some (.bl (!decide (j.cps.toList < i.cps.toList)))
  | _, _ => none
def dGt : D → D → Option D
  | .int i, .int j => some (.bl (decide (j < i)))
  | .str i, .str j => some (.bl (decide (j.cps.toList < i.cps.toList)))
  | _, _ => none
def dGe : D → D → Option D
  | .int i, .int j => some (.bl (decide (j ≤ i)))
  | .str i, .str j => some (.bl (!decide (i.cps.toList < j.cps.toList)))
  | _, _ => none
theorem od_lt : OpD X (compareOp .Lt) dLt := ⟨_, op_lt.or op_lt_str, fun w r H x y v u d Q g rx ry e k => by
  cases rx <;> cases ry <;> simp only [dLt] at e <;> cases e
  · exact .inl ⟨_, _, rfl, rfl, k.now g (.bl _)⟩
  · exact .inr ⟨_, _, rfl, rfl, k.now g (.bl _)⟩⟩

theorem od_le : OpD X (compareOp .LtE) dLe := ⟨_, op_le.or op_le_str, fun w r H x y v u d Q g rx ry e k => by
  cases rx <;> cases ry <;> simp only [dLe] at e <;> cases e
  · exact .inl ⟨_, _, rfl, rfl, k.now g (.bl _)⟩
  · exact .inr ⟨_, _, rfl, rfl, k.now g (.bl _)⟩⟩
theorem od_gt : OpD X (compareOp .Gt) dGt := ⟨_, op_gt.or op_gt_str, fun w r H x y v u d Q g rx ry e k => by
  cases rx <;> cases ry <;> simp only [dGt] at e <;> cases e
  · exact .inl ⟨_, _, rfl, rfl, k.now g (.bl _)⟩
  · exact .inr ⟨_, _, rfl, rfl, k.now g (.bl _)⟩⟩
theorem od_ge : OpD X (compareOp .GtE) dGe := ⟨_, op_ge.or op_ge_str, fun w r H x y v u d Q g rx ry e k => by
  cases rx <;> cases ry <;> simp only [dGe] at e <;> cases e
  · exact .inl ⟨_, _, rfl, rfl, k.now g (.bl _)⟩
  · exact .inr ⟨_, _, rfl, rfl, k.now g (.bl _)⟩⟩
/-! ### == and in, over data at any depth -/
mutual
def D.py : D → PyData
  | .non => .none
  | .bl b => .bool b
  | .int i => .int i
  | .str x => .str x
  | .tup xs => .tuple (D.pys xs)
  | .lst xs => .list (D.pys xs)
  | _ => .dict []
def D.pys : List D → List PyData
  | [] => []
  | x :: xs => D.py x :: D.pys xs
end
def D.shaped (d : D) : Bool := SeqAt.shaped d.py
theorem lay_dict : PyData.canLay0 (.dict []) = false := by simp [PyData.canLay0]
mutual
theorem Rp.dp {K : PySem.W.Frag} {m : List Addr} {H : Hp} : ∀ {d : D} {v : V}, Rp K m H d v → d.py.canLay0 = true → Dp K H v d.py
  | _, _, .non, _ => by rw [D.py]; exact .non
  | _, _, .bl b, _ => by rw [D.py]; exact .bl b
  | _, _, .int i, _ => by rw [D.py]; exact .int i
  | _, _, .str x, _ => by rw [D.py]; exact .str x
  | .tup ds, _, .tup h r, e => by
    rw [D.py] at e ⊢
    exact .tup h (Rps.dp r (by simpa [PyData.canLay0] using e))
  | .lst ds, _, .lst h r, e => by
    rw [D.py] at e ⊢
    exact .lst (.inl (.inl h)) (Rps.dp r (by simpa [PyData.canLay0] using e))
  | .dic _, _, .dic _ _, e => by rw [D.py, lay_dict] at e; cases e; all_goals simp
  | .loc _, _, .loc _, e => by rw [D.py, lay_dict] at e; cases e; all_goals simp
  | .scr _, _, .scr _, e => by rw [D.py, lay_dict] at e; cases e; all_goals simp
  | .ty _, _, .ty _, e => by rw [D.py, lay_dict] at e; cases e; all_goals simp
  | .gl _, _, .gl _, e => by rw [D.py, lay_dict] at e; cases e; all_goals simp
theorem Rps.dp {K : PySem.W.Frag} {m : List Addr} {H : Hp} : ∀ {d : List D} {v : List V}, Rps K m H d v → PyData.canLayAll0 (D.pys d) = true → DpAll K H v (D.pys d)
  | _, _, .nil, _ => by rw [D.pys]; exact .nil
  | _ :: _, _, .cons h r, e => by
    rw [D.pys] at e ⊢
    rw [PyData.canLayAll0, Bool.and_eq_true] at e
    exact .cons (Rp.dp h e.1) (Rps.dp r e.2)
end
theorem Rp.dpS {K : PySem.W.Frag} {m : List Addr} {H : Hp} {d : D} {v : V} (h : Rp K m H d v) (e : d.shaped = true) : Dp K H v d.py := h.dp (SeqAt.canLay_of_shaped e)
def dEq (x y : D) : Option D := if x.shaped && y.shaped then some (.bl (PyData.eqv x.py y.py)) else none
def dNe (x y : D) : Option D := if x.shaped && y.shaped then some (.bl (!PyData.eqv x.py y.py)) else none
theorem dp_sub {K : PySem.W.Frag} {H H' : Hp} (s : Sub H H') : ∀ {v : V} {d : PyData}, Dp K H v d → Dp K H' v d := by
  intro v d h
  refine Dp.rec (K := K) (H := H) (motive_1 := fun v d _ => Dp K H' v d) (motive_2 := fun v d _ => DpAll K H' v d) .non .bl .int .str (fun h _ ih => .lst (s.sqL h) ih) (fun h _ ih => .tup (s.sqT h) ih) .nil (fun _ _ a b => .cons a b) h
theorem od_eq (hu : X.A.units + 64 < cLine) : OpD X (compareOp .Eq) dEq := ⟨_, op_eqD hu, fun w r H x y v u d Q g rx ry e k => by
  unfold dEq at e
  split at e
  · rename_i h
    cases e
    rw [Bool.and_eq_true] at h
    exact ⟨_, _, dp_sub g.sub (rx.dpS h.1), dp_sub g.sub (ry.dpS h.2), h.1, h.2, k.now g (.bl _)⟩
  · cases e⟩
theorem od_ne (hu : X.A.units + 64 < cLine) : OpD X (compareOp .NotEq) dNe := ⟨_, op_neD hu, fun w r H x y v u d Q g rx ry e k => by
  unfold dNe at e
  split at e
  · rename_i h
    cases e
    rw [Bool.and_eq_true] at h
    exact ⟨_, _, dp_sub g.sub (rx.dpS h.1), dp_sub g.sub (ry.dpS h.2), h.1, h.2, k.now g (.bl _)⟩
  · cases e⟩
end
end DL

/-! DL3: in, is, places, slices, tests, displays, calls. -/
namespace DL
open PySem L2
section
variable {X : Cx} {W : WX}

/-! ### in -/
def D.flat : D → Bool
  | .non => true
  | .bl _ => true
  | .int _ => true
  | .str _ => true
  | _ => false
def D.toV : D → V
  | .bl b => .bl b
  | .int i => .int i
  | .str x => .str x
  | _ => .non
theorem Rp.flat {K : PySem.W.Frag} {m : List Addr} {H : Hp} {d : D} {v : V} (h : Rp K m H d v) (f : d.flat = true) : v = d.toV := by
  cases h <;> first | rfl | (cases f)
theorem toV_flat {d : D} (f : d.flat = true) : flatV d.toV = true := by
  cases d <;> first | rfl | (cases f)
theorem Rps.flat {K : PySem.W.Frag} {m : List Addr} {H : Hp} : ∀ {ds : List D} {vs : List V}, Rps K m H ds vs → ds.all D.flat = true → vs = ds.map D.toV ∧ vs.all flatV = true
  | _, _, .nil, _ => ⟨rfl, rfl⟩
  | _, _, .cons r t, f => by
    rw [List.all_cons, Bool.and_eq_true] at f
    obtain ⟨e1, e2⟩ := Rps.flat t f.2
    have e := r.flat f.1
    refine ⟨by rw [List.map_cons, ← e1, ← e], ?_⟩
    rw [List.all_cons, e2, e, toV_flat f.1]
    rfl
theorem eqV_py {d e : D} (f : d.flat = true) (g : e.flat = true) : eqV d.toV e.toV = PyData.eqv d.py e.py := by
  cases d <;> (try cases f) <;> cases e <;> (try cases g) <;> simp only [D.toV, D.py, eqV, PyData.eqv]
theorem any_py {x : D} (g : x.flat = true) : ∀ {ds : List D}, ds.all D.flat = true → inV x.toV (ds.map D.toV) = ds.any fun z => PyData.eqv z.py x.py
  | [], _ => rfl
  | d :: ds, f => by
    rw [List.all_cons, Bool.and_eq_true] at f
    have q := any_py g f.2
    unfold inV at q ⊢
    rw [List.map_cons, List.any_cons, List.any_cons, q, eqV_py f.1 g]
theorem pys_any {x : PyData} : ∀ (ds : List D), ((D.pys ds).any fun z => PyData.eqv z x) = ds.any fun z => PyData.eqv z.py x
  | [] => by rw [D.pys]; rfl
  | d :: ds => by rw [D.pys, List.any_cons, List.any_cons, pys_any ds]
/-- x in y, as a Bool -/
def inD : D → D → Option Bool
  | x, .lst ds => if x.shaped && D.shaped (.lst ds) then some (ds.any fun z => PyData.eqv z.py x.py) else none
  | x, .tup ds => if x.flat && ds.all D.flat then some (ds.any fun z => PyData.eqv z.py x.py) else none
  | .str s, .str t => match s.cps.toList with
    | [c] => some (decide (c ∈ t.cps.toList))
    | _ => none
  | _, _ => none
def dIn (x y : D) : Option D := (inD x y).map D.bl
def dNotIn (x y : D) : Option D := (inD x y).map fun b => .bl (!b)
def inL (neg : Bool) : D → D → Option D
  | x, .lst ds => if x.shaped && D.shaped (.lst ds) then some (.bl (neg.xor (ds.any fun z => PyData.eqv z.py x.py))) else none
  | _, _ => none
def inT (neg : Bool) : D → D → Option D
  | x, .tup ds => if x.flat && ds.all D.flat then some (.bl (neg.xor (ds.any fun z => PyData.eqv z.py x.py))) else none
  | _, _ => none
def inS (neg : Bool) : D → D → Option D
  | .str s, .str t => match s.cps.toList with
    | [c] => some (.bl (neg.xor (decide (c ∈ t.cps.toList))))
    | _ => none
  | _, _ => none
theorem od_inL (hu : X.A.units + 65 < cLine) : OpD X (compareOp .In) (inL false) := ⟨_, op_inD hu, fun w r H x y v u d Q g rx ry e k => by
  cases ry <;> simp only [inL] at e <;> try cases e
  rename_i a xs ds hy ry
  split at e
  · rename_i h
    rw [Bool.and_eq_true] at h
    cases e
    refine ⟨_, D.pys ds, dp_sub g.sub (rx.dpS h.1), ?_, h.1, ?_, ?_⟩
    · have := dp_sub g.sub ((Rp.lst hy ry).dpS h.2)
      rwa [D.py] at this
    · have := h.2
      unfold D.shaped at this
      rwa [D.py] at this
    · rw [pys_any]
      rw [Bool.false_xor] at k
      exact k.now g (.bl _)
  · cases e⟩
theorem od_notInL (hu : X.A.units + 65 < cLine) : OpD X (compareOp .NotIn) (inL true) := ⟨_, op_notInD hu, fun w r H x y v u d Q g rx ry e k => by
  cases ry <;> simp only [inL] at e <;> try cases e
  rename_i a xs ds hy ry
  split at e
  · rename_i h
    rw [Bool.and_eq_true] at h
    cases e
    refine ⟨_, D.pys ds, dp_sub g.sub (rx.dpS h.1), ?_, h.1, ?_, ?_⟩
    · have := dp_sub g.sub ((Rp.lst hy ry).dpS h.2)
      rwa [D.py] at this
    · have := h.2
      unfold D.shaped at this
      rwa [D.py] at this
    · rw [pys_any]
      rw [Bool.true_xor] at k
      exact k.now g (.bl _)
  · cases e⟩
theorem od_inT : OpD X (compareOp .In) (inT false) := ⟨_, op_in_seq, fun w r H x y v u d Q g rx ry e k => by
  cases ry <;> simp only [inT] at e <;> try cases e
  rename_i a xs ds hy ry
  split at e
  · rename_i h
    rw [Bool.and_eq_true] at h
    cases e
    obtain ⟨e1, e2⟩ := ry.flat h.2
    have e3 := rx.flat h.1
    refine ⟨a, xs, rfl, .inr (g.sub.sqT hy), by rw [e3]; exact toV_flat h.1, e2, ?_⟩
    rw [e1, e3, any_py h.1 h.2]
    rw [Bool.false_xor] at k
    exact k.now g (.bl _)
  · cases e⟩
theorem od_notInT : OpD X (compareOp .NotIn) (inT true) := ⟨_, op_notIn_seq, fun w r H x y v u d Q g rx ry e k => by
  cases ry <;> simp only [inT] at e <;> try cases e
  rename_i a xs ds hy ry
  split at e
  · rename_i h
    rw [Bool.and_eq_true] at h
    cases e
    obtain ⟨e1, e2⟩ := ry.flat h.2
    have e3 := rx.flat h.1
    refine ⟨a, xs, rfl, .inr (g.sub.sqT hy), by rw [e3]; exact toV_flat h.1, e2, ?_⟩
    rw [e1, e3, any_py h.1 h.2]
    rw [Bool.true_xor] at k
    exact k.now g (.bl _)
  · cases e⟩
theorem str_of_list {s : Str} {c : Nat} (e : s.cps.toList = [c]) : s = ⟨#[c]⟩ := by
  obtain ⟨⟨l⟩⟩ := s
  have q : l = [c] := e
  rw [q]
theorem od_inS : OpD X (compareOp .In) (inS false) := ⟨_, op_in_sign, fun w r H x y v u d Q g rx ry e k => by
  cases rx <;> cases ry <;> simp only [inS] at e <;> try cases e
  split at e
  · rename_i c h
    cases e
    rw [str_of_list h]
    rw [Bool.false_xor] at k
    exact ⟨c, _, rfl, rfl, k.now g (.bl _)⟩
  · cases e⟩
theorem od_notInS : OpD X (compareOp .NotIn) (inS true) := ⟨_, op_notIn_sign, fun w r H x y v u d Q g rx ry e k => by
  cases rx <;> cases ry <;> simp only [inS] at e <;> try cases e
  split at e
  · rename_i c h
    cases e
    rw [str_of_list h]
    rw [Bool.true_xor] at k
    exact ⟨c, _, rfl, rfl, k.now g (.bl _)⟩
  · cases e⟩
theorem in_or (neg : Bool) (x y d : D) (h : (inD x y).map (fun b => D.bl (neg.xor b)) = some d) : ((inL neg x y).orElse fun _ => (inT neg x y).orElse fun _ => inS neg x y) = some d := by
  cases y with
  | lst ds =>
    have e1 : inD x (.lst ds) = if x.shaped && D.shaped (.lst ds) then some (ds.any fun z => PyData.eqv z.py x.py) else none := by cases x <;> rfl
    have e2 : inL neg x (.lst ds) = if x.shaped && D.shaped (.lst ds) then some (.bl (neg.xor (ds.any fun z => PyData.eqv z.py x.py))) else none := by cases x <;> rfl
    rw [e1] at h
    rw [e2]
    split at h
    · rename_i c
      rw [if_pos c]
      exact h
    · cases h
  | tup ds =>
    have e1 : inD x (.tup ds) = if x.flat && ds.all D.flat then some (ds.any fun z => PyData.eqv z.py x.py) else none := by cases x <;> rfl
    have e2 : inT neg x (.tup ds) = if x.flat && ds.all D.flat then some (.bl (neg.xor (ds.any fun z => PyData.eqv z.py x.py))) else none := by cases x <;> rfl
    have e3 : inL neg x (.tup ds) = none := by cases x <;> rfl
    rw [e1] at h
    rw [e2, e3]
    split at h
    · rename_i c
      rw [if_pos c]
      exact h
    · cases h
  | str t =>
    cases x with
    | str s =>
      have e1 : inS neg (.str s) (.str t) = (match s.cps.toList with | [c] => some (.bl (neg.xor (decide (c ∈ t.cps.toList)))) | _ => none) := rfl
      have e2 : inD (.str s) (.str t) = (match s.cps.toList with | [c] => some (decide (c ∈ t.cps.toList)) | _ => none) := rfl
      show inS neg (.str s) (.str t) = some d
      rw [e1]
      rw [e2] at h
      generalize s.cps.toList = l at h ⊢
      match l, h with
      | [c], h => exact h
      | [], h => cases h
      | _ :: _ :: _, h => cases h
    | _ => simp only [inD] at h; cases h
  | _ => cases x <;> simp only [inD] at h <;> cases h
theorem od_in (hu : X.A.units + 65 < cLine) : OpD X (compareOp .In) dIn := ((od_inL hu).or (od_inT.or od_inS)).of fun x y d h => in_or false x y d (by
  rw [← h]; unfold dIn; congr 1; funext b; rw [Bool.false_xor])
theorem od_notIn (hu : X.A.units + 65 < cLine) : OpD X (compareOp .NotIn) dNotIn := ((od_notInL hu).or (od_notInT.or od_notInS)).of fun x y d h => in_or true x y d (by
  rw [← h]; unfold dNotIn; congr 1; funext b; rw [Bool.true_xor])
/-! ### is -/
def D.isN : D → Bool
  | .non => true
  | _ => false
def dIs : D → D → Option D
  | x, .non => some (.bl x.isN)
  | .bl a, .bl b => some (.bl (decide (a = b)))
  | _, _ => none
def dIsNot : D → D → Option D
  | x, .non => some (.bl (!x.isN))
  | .bl a, .bl b => some (.bl (!decide (a = b)))
  | _, _ => none
theorem Rp.isN {K : PySem.W.Frag} {m : List Addr} {H : Hp} {d : D} {v : V} (h : Rp K m H d v) : decide (v = .non) = d.isN := by
  cases h <;> rfl
theorem od_is : OpD X (compareOp .Is) dIs := ⟨_, op_isN.or op_is_bl, fun w r H x y v u d Q g rx ry e k => by
  cases ry
  case non => 
    have e' : some (D.bl x.isN) = some d := by cases x <;> exact e
    cases e'
    exact .inl ⟨rfl, by rw [rx.isN]; exact k.now g (.bl _)⟩
  case bl => 
    cases rx <;> simp only [dIs] at e <;> cases e
    exact .inr ⟨_, _, rfl, rfl, k.now g (.bl _)⟩
  all_goals (cases x <;> simp only [dIs] at e <;> cases e)⟩
theorem od_isNot : OpD X (compareOp .IsNot) dIsNot := ⟨_, op_notN.or op_isnot_bl, fun w r H x y v u d Q g rx ry e k => by
  cases ry
  case non => 
    have e' : some (D.bl (!x.isN)) = some d := by cases x <;> exact e
    cases e'
    exact .inl ⟨rfl, by rw [rx.isN]; exact k.now g (.bl _)⟩
  case bl => 
    cases rx <;> simp only [dIsNot] at e <;> cases e
    exact .inr ⟨_, _, rfl, rfl, k.now g (.bl _)⟩
  all_goals (cases x <;> simp only [dIsNot] at e <;> cases e)⟩
end
end DL

/-! DL4: places, slices, tests, displays, calls. -/
namespace DL
open PySem L2
section
variable {X : Cx} {W : WX}

/-! ### places -/
def dIx (r : Rs) : D → D → Option D
  | .lst ds, .int i => atI ds i
  | .tup ds, .int i => atI ds i
  | .str s, .int i => if s.length ≤ lim then (atI s.cps.toList i).map (fun c => .str ⟨#[c]⟩) else none
  | .scr ns, .int i => (atI ns i).map .int
  | .loc n, .int i => match r[n]? with
    | some (.lst ds) => atI ds i
    | _ => none
  | _, _ => none
def xIx (f g : Ex) : Ex := fun ρ r => (f ρ r).bind fun a r1 => (g ρ r1).bind fun b r2 => match dIx r2 a b with
  | some d => .ok d r2
  | none => .bad
theorem atI_rps {K : PySem.W.Frag} {m : List Addr} {H : Hp} {ds : List D} {vs : List V} {i : Int} {d : D} (h : Rps K m H ds vs) (e : atI ds i = some d) : ∃ v, atI vs i = some v ∧ Rp K m H d v := by
  unfold atI at e ⊢
  rw [← h.length]
  cases q : ixN ds.length i with
  | none => rw [q] at e; cases e
  | some j =>
    rw [q] at e
    exact h.get e
theorem atI_map {α β : Type} {f : α → β} {xs : List α} {i : Int} {x : α} (h : atI xs i = some x) : atI (xs.map f) i = some (f x) := by
  unfold atI at h ⊢
  rw [List.length_map]
  cases q : ixN xs.length i with
  | none => rw [q] at h; cases h
  | some j =>
    rw [q] at h
    show (xs.map f)[j]? = some (f x)
    have h' : xs[j]? = some x := h
    rw [List.getElem?_map, h']
    rfl
theorem good_loc {K : PySem.W.Frag} {w : Wd} {r : Rs} {H : Hp} (g : Good K w r H) {n : Nat} {a : Addr} (h : w.m[n]? = some a) {ds : List D} (e : r[n]? = some (.lst ds)) : D.imms ds = true ∧ ∃ xs, H a = some (.lst xs) ∧ Rps K w.m w.v ds xs := by
  obtain ⟨b, hb, x⟩ := g.at_ n _ e
  rw [h] at hb
  cases hb
  exact x
theorem ix_dl {w : Wd} {r : Rs} {H : Hp} {x y : D} {v u : V} {d : D} {Q : VK} (g : Good X.K w r H) (rx : Rp X.K w.m w.v x v) (ry : Rp X.K w.m w.v y u) (e : dIx r x y = some d) (k : KD X.K w r H d Q) : rIx X.K v u H Q := by
  cases ry <;> (try (cases rx <;> simp only [dIx] at e <;> cases e; done))
  rename_i i
  cases rx <;> simp only [dIx] at e <;> try cases e
  case str x =>
    split at e
    · rename_i hl
      cases q : atI x.cps.toList i with
      | none => rw [q] at e; cases e
      | some c =>
        rw [q] at e
        cases e
        exact .inr (.inr ⟨_, _, c, rfl, rfl, lim_le hl, q, k.now g (.str _)⟩)
    · cases e
  case tup a xs ds hx rx =>
    obtain ⟨v, q, rv⟩ := atI_rps rx e
    exact .inr (.inl ⟨_, _, _, v, rfl, rfl, g.sub.sqT hx, q, k.now g rv⟩)
  case lst a xs ds hx rx =>
    obtain ⟨v, q, rv⟩ := atI_rps rx e
    exact .inl ⟨_, _, _, v, rfl, rfl, SqL.of (g.sub _ _ hx), q, k.now g rv⟩
  case loc n a hn =>
    split at e
    · rename_i ds hr
      obtain ⟨_, xs, h1, h2⟩ := good_loc g hn hr
      obtain ⟨v, q, rv⟩ := atI_rps h2 e
      exact .inl ⟨_, _, _, v, rfl, rfl, SqL.of h1, q, k.now g rv⟩
    · cases e
  case scr a ns hs =>
    cases q : atI ns i with
    | none => rw [q] at e; cases e
    | some j =>
      rw [q] at e
      cases e
      exact .inl ⟨_, _, _, .int j, rfl, rfl, g.sub.sqL hs, atI_map q, k.now g (.int _)⟩
theorem de_ix {a b : Expr} {pos : Pos} {f g : Ex} (ha : PE X a (tE X.K W f)) (hb : PE X b (tE X.K W g)) (hs : PlainIx b := by exact fun _ _ => rfl) : PE X (.Subscript a b pos) (tE X.K W (xIx f g)) :=
  (pe_ix ix_seq ha hb hs).imp fun σ H Q h => by
    obtain ⟨ρ, r, w, gd, s, h⟩ := h
    refine ⟨ρ, r, w, gd, s, h.bind fun a w1 r1 H1 t1 g1 h1 v rv => ?_⟩
    refine ⟨ρ, r1, w1, g1, s.mono t1, h1.bind fun b w2 r2 H2 t2 g2 h2 u ru => ?_⟩
    split at h2
    · rename_i d e
      exact ix_dl g2 (t2.rp rv) ru e fun w' H' t g z rz => h2 w' H' t g z rz
    · exact h2.elim

/-! ### slices -/
abbrev Ox := En → Rs → Out (Option Int)
def tO (K : PySem.W.Frag) (W : WX) (f : Ox) : TO := fun σ H Q => ∃ ρ r w, Good K w r H ∧ Slots K w ρ σ ∧
  After K W w H σ (f ρ r) fun d w' _ H' => Q d H'
def xNoP : Ox := fun _ r => .ok none r
def xPart (f : Ex) : Ox := fun ρ r => (f ρ r).bind fun d r1 => match d with
  | .int i => .ok (some i) r1
  | _ => .bad
theorem _root_.L2.PO.imp {X : Cx} {e : Option Expr} {t t' : TO} (h : PO X e t) (i : ∀ σ H Q, t' σ H Q → t σ H Q) : PO X e t' := ⟨fun pins s σ H Q I q => h.run pins s σ H Q I (i σ H Q q)⟩
theorem do_none : PO X none (tO X.K W xNoP) := po_none.imp fun σ H Q ⟨ρ, r, w, g, s, h⟩ => h.ok g
theorem do_some {e : Expr} {f : Ex} (h : PE X e (tE X.K W f)) : PO X (some e) (tO X.K W (xPart f)) := (po_some h).imp fun σ H Q ⟨ρ, r, w, g, s, h⟩ =>
  ⟨ρ, r, w, g, s, h.bind fun d w1 r1 H1 t1 g1 h1 v rv => by
    split at h1
    · cases rv
      exact ⟨_, rfl, h1.ok g1⟩
    · exact h1.elim⟩
def cutA {α : Type} (xs : List α) (lo hi : Option Int) : List α := (xs.drop (HT.sIx xs.length 0 lo)).take (HT.sIx xs.length xs.length hi - HT.sIx xs.length 0 lo)
def dSl : D → Option Int → Option Int → Option D
  | .lst ds, lo, hi => some (.lst (cutA ds lo hi))
  | .tup ds, lo, hi => some (.tup (cutA ds lo hi))
  | .str s, lo, hi => if s.length ≤ lim then some (.str ⟨(cutA s.cps.toList lo hi).toArray⟩) else none
  | _, _, _ => none
def xSl (f : Ex) (lo hi : Ox) : Ex := fun ρ r => (f ρ r).bind fun a r1 => (lo ρ r1).bind fun l r2 => (hi ρ r2).bind fun u r3 => match dSl a l u with
  | some d => .ok d r3
  | none => .bad
theorem cut_rps {K : PySem.W.Frag} {m : List Addr} {H : Hp} {ds : List D} {vs : List V} (h : Rps K m H ds vs) (lo hi : Option Int) : Rps K m H (cutA ds lo hi) (cutV vs lo hi) := by
  unfold cutA cutV
  rw [h.length]
  exact (h.drop _).take _
theorem cutA_all {α : Type} {xs : List α} {lo hi : Option Int} (h : HT.sIx xs.length 0 lo = 0 ∧ HT.sIx xs.length xs.length hi = xs.length) : cutA xs lo hi = xs := by
  unfold cutA
  rw [h.1, h.2, List.drop_zero, Nat.sub_zero, List.take_length]
theorem cutS_is (s : Str) (lo hi : Option Int) : cutS s lo hi = ⟨(cutA s.cps.toList lo hi).toArray⟩ := by
  unfold cutS cutA
  have e : s.length = s.cps.toList.length := by simp [Str.length]
  rw [e]
theorem sl_dl {w : Wd} {r : Rs} {H : Hp} {x : D} {v : V} {lo hi : Option Int} {d : D} {Q : VK} (g : Good X.K w r H) (rx : Rp X.K w.m w.v x v) (e : dSl x lo hi = some d) (k : KD X.K w r H d Q) :
    rSlL X.K v lo hi H Q ∨ rSlA X.K v lo hi H Q ∨ rSlS v lo hi H Q := by
  cases rx <;> simp only [dSl] at e <;> try cases e
  case str x =>
    split at e
    · rename_i hl
      cases e
      exact .inr (.inr ⟨_, rfl, lim_le hl, by rw [cutS_is]; exact k.now g (.str _)⟩)
    · cases e
  case tup a xs ds hx rx =>
    refine .inr (.inl ⟨a, xs, rfl, g.sub.sqT hx, fun hw => ?_, fun _ p hp => ?_⟩)
    · rw [← rx.length] at hw
      rw [cutA_all hw] at k
      exact k.now g (.tup hx rx)
    · exact k.new g hp (.tup (SqT.of upd_same) (cut_rps ((tr_new (o := .tup (cutV xs lo hi)) g hp).rps rx) lo hi))
  case lst a xs ds hx rx =>
    refine .inl ⟨a, xs, rfl, SqL.of (g.sub _ _ hx), fun p hp => ?_⟩
    exact k.new g hp (.lst upd_same (cut_rps ((tr_new (o := .lst (cutV xs lo hi)) g hp).rps rx) lo hi))
theorem de_sl {e : Expr} {lo hi : Option Expr} {p2 pos : Pos} {f : Ex} {fl fh : Ox} (he : PE X e (tE X.K W f)) (hl : PO X lo (tO X.K W fl)) (hh : PO X hi (tO X.K W fh)) : PE X (.Subscript e (.Slice lo hi none p2) pos) (tE X.K W (xSl f fl fh)) :=
  (pe_slice (sl_list.or (sl_tupA.or sl_str)) he hl hh).imp fun σ H Q h => by
    obtain ⟨ρ, r, w, gd, s, h⟩ := h
    refine ⟨ρ, r, w, gd, s, h.bind fun a w1 r1 H1 t1 g1 h1 v rv => ?_⟩
    refine ⟨ρ, r1, w1, g1, s.mono t1, h1.bind fun b w2 r2 H2 t2 g2 h2 => ?_⟩
    refine ⟨ρ, r2, w2, g2, s.mono (t1.trans t2), h2.bind fun c w3 r3 H3 t3 g3 h3 => ?_⟩
    split at h3
    · rename_i d e
      exact sl_dl g3 ((t2.trans t3).rp rv) e fun w' H' t g z rz => h3 w' H' t g z rz
    · exact h3.elim

/-! ### tests -/
def truth (r : Rs) : D → Option Bool
  | .non => some false
  | .bl b => some b
  | .int i => some (i != 0)
  | .str s => if s.length ≤ lim then some ((s.length : Int) != 0) else none
  | .lst ds => some (!ds.isEmpty)
  | .tup ds => some (!ds.isEmpty)
  | .dic ds => some (!ds.isEmpty)
  | .scr ns => some (!ns.isEmpty)
  | .loc n => match r[n]? with
    | some (.lst ds) => some (!ds.isEmpty)
    | some (.dic ds) => some (!ds.isEmpty)
    | _ => none
  | _ => none
theorem Rps.isEmpty {K : PySem.W.Frag} {m : List Addr} {H : Hp} {ds : List D} {vs : List V} (h : Rps K m H ds vs) : ds.isEmpty = vs.isEmpty := by cases h <;> rfl
theorem Rpk.isEmpty {K : PySem.W.Frag} {m : List Addr} {H : Hp} {ds : List (Key × D)} {vs : List (Key × V)} (h : Rpk K m H ds vs) : ds.isEmpty = vs.isEmpty := by cases h <;> rfl
theorem truth_v {w : Wd} {r : Rs} {H : Hp} {x : D} {v : V} {b : Bool} (g : Good X.K w r H) (rx : Rp X.K w.m w.v x v) (e : truth r x = some b) : TruV X.K v H b := by
  cases rx <;> simp only [truth] at e <;> try cases e
  case non => exact rfl
  case bl => exact rfl
  case int => exact rfl
  case str x =>
    split at e
    · rename_i h
      cases e
      exact ⟨lim_le h, rfl⟩
    · cases e
  case tup a xs ds hx rx => exact .inr (.inl ⟨xs, g.sub.sqT hx, by rw [rx.isEmpty]⟩)
  case lst a xs ds hx rx => exact .inl ⟨xs, SqL.of (g.sub _ _ hx), by rw [rx.isEmpty]⟩
  case dic a xs ds hx rx => exact .inr (.inr ⟨xs, g.sub _ _ hx, by rw [rx.isEmpty]⟩)
  case loc n a hn =>
    split at e
    · rename_i ds hr
      cases e
      obtain ⟨_, xs, h1, h2⟩ := good_loc g hn hr
      exact .inl ⟨xs, SqL.of h1, by rw [h2.isEmpty]⟩
    · rename_i ds hr
      cases e
      obtain ⟨a', ha', _, xs, h1, h2⟩ := g.at_ n _ hr
      rw [hn] at ha'
      cases ha'
      exact .inr (.inr ⟨xs, h1, by rw [h2.isEmpty]⟩)
    · cases e
  case scr a ns hs => exact .inl ⟨_, g.sub.sqL hs, by cases ns <;> rfl⟩
def xTr (f : Ex) : Tx := fun ρ r => (f ρ r).bind fun d r1 => match truth r1 d with
  | some b => .ok b r1
  | none => .bad
def xB (f : Ex) : Tx := fun ρ r => (f ρ r).bind fun d r1 => match d with
  | .bl b => .ok b r1
  | _ => .bad
theorem dt_tr {e : Expr} {f : Ex} (h : PE X e (tE X.K W f)) (he : ∀ whole, isTrue e X.env whole = (do let v ← whole; standAt e.pos; holding [v] (truthy v)) := by intro _; rfl) : PT X e (tT X.K W (xTr f)) :=
  (pt_truth h he).imp fun σ H Q ⟨ρ, r, w, g, s, h⟩ => ⟨ρ, r, w, g, s, h.bind fun d w1 r1 H1 t1 g1 h1 v rv => by
    split at h1
    · rename_i b e
      exact ⟨b, truth_v g1 rv e, h1.ok g1⟩
    · exact h1.elim⟩
theorem dt_cmp {a b : Expr} {op : CmpOp} {pos : Pos} {F : D → D → Option D} {f g : Ex} (ho : OpD X (compareOp op) F) (ha : PE X a (tE X.K W f)) (hb : PE X b (tE X.K W g)) (hm : behindInMarks op b = false := by first | exact nomark _ | rfl) : PT X (.Compare a [op] [b] pos) (tT X.K W (xB (xOp F f g))) := by
  obtain ⟨rr, o, k⟩ := ho
  refine (pt_cmpR o ha hb hm).imp fun σ H Q h => ?_
  refine tE_op k ?_
  obtain ⟨ρ, r, w, g, s, h⟩ := h
  refine ⟨ρ, r, w, g, s, h.bind fun d w1 r1 H1 t1 g1 h1 v rv => ?_⟩
  split at h1
  · cases rv
    exact ⟨_, rfl, h1.ok g1⟩
  · exact h1.elim
/-- a < b < c -/
def xCh (F G : D → D → Option D) (f g h : Ex) : Tx := fun ρ r => (f ρ r).bind fun a r1 => (g ρ r1).bind fun b r2 => match F a b with
  | some (.bl true) => (h ρ r2).bind fun c r3 => match G b c with
    | some (.bl k) => .ok k r3
    | _ => .bad
  | some (.bl false) => .ok false r2
  | _ => .bad
theorem ch_dl {K : PySem.W.Frag} {F G : D → D → Option D} {f g h : Ex} {rr rr' : R2} {σ : L2.St} {H : Hp} {Q : Bool → Hp → Prop} {Q' : VK}
    (k : ∀ (w : Wd) (r : Rs) (H : Hp) (x y : D) (v u : V) (d : D) (Q : VK), Good K w r H → Rp K w.m w.v x v → Rp K w.m w.v y u → F x y = some d → KD K w r H d Q → rr v u H Q)
    (k' : ∀ (w : Wd) (r : Rs) (H : Hp) (x y : D) (v u : V) (d : D) (Q : VK), Good K w r H → Rp K w.m w.v x v → Rp K w.m w.v y u → G x y = some d → KD K w r H d Q → rr' v u H Q)
    (hQ : ∀ b H, Q b H → Q' (.bl b) H) (q : tT K W (xCh F G f g h) σ H Q) : tChain rr rr' (tE K W f) (tE K W g) (tE K W h) σ H Q' := by
  obtain ⟨ρ, r, w, gd, s, q⟩ := q
  refine ⟨ρ, r, w, gd, s, q.bind fun a w1 r1 H1 t1 g1 h1 v rv => ?_⟩
  refine ⟨ρ, r1, w1, g1, s.mono t1, h1.bind fun b w2 r2 H2 t2 g2 h2 u ru => ?_⟩
  split at h2
  · rename_i e
    refine k w2 r2 H2 a b v u _ _ g2 (t2.rp rv) ru e fun w3 H3 t3 g3 z rz => ?_
    cases rz
    refine ⟨true, rfl, ?_⟩
    rw [if_pos rfl]
    refine ⟨ρ, r2, w3, g3, s.mono ((t1.trans t2).trans t3), ?_⟩
    have h3 : After K W w3 H3 σ ((h ρ r2).bind fun c r3 => match G b c with
      | some (.bl k) => .ok k r3
      | _ => .bad) (fun b _ _ H' => Q b H') := by
      revert h2
      generalize ((h ρ r2).bind fun c r3 => match G b c with
        | some (.bl k) => Out.ok k r3
        | _ => .bad) = o
      intro h2
      cases o with
      | ok b r => exact fun w' H' t' g' => h2 w' H' (t3.trans t') g'
      | exc c fs r => exact fun w' H' cls dd t' g' x => h2 w' H' cls dd (t3.trans t') g' x
      | bad => exact h2
    refine h3.bind fun c w4 r4 H4 t4 g4 h4 x rx => ?_
    split at h4
    · rename_i e4
      refine k' w4 r4 H4 b c u x _ _ g4 ((t3.trans t4).rp ru) rx e4 fun w5 H5 t5 g5 z rz => ?_
      cases rz
      exact hQ _ _ (h4 w5 H5 t5 g5)
    · exact h4.elim
  · rename_i e
    refine k w2 r2 H2 a b v u _ _ g2 (t2.rp rv) ru e fun w3 H3 t3 g3 z rz => ?_
    cases rz
    refine ⟨false, rfl, ?_⟩
    rw [if_neg Bool.false_ne_true]
    exact hQ _ _ (h2 w3 H3 t3 g3)
  · exact h2.elim
theorem dt_ch {a b c : Expr} {op op' : CmpOp} {pos : Pos} {F G : D → D → Option D} {f g h : Ex} (ho : OpD X (compareOp op) F) (ho' : OpD X (compareOp op') G) (ha : PE X a (tE X.K W f)) (hb : PE X b (tE X.K W g)) (hc : PE X c (tE X.K W h))
    (hm : lastMarks [op, op'] [b, c] = false := by with_unfolding_all rfl) : PT X (.Compare a [op, op'] [b, c] pos) (tT X.K W (xCh F G f g h)) := by
  obtain ⟨rr, o, k⟩ := ho
  obtain ⟨rr', o', k'⟩ := ho'
  exact (pt_chain o o' ha hb hc hm).imp fun σ H Q q => ch_dl k k' (fun b H h => ⟨b, rfl, h⟩) q
def xV (t : Tx) : Ex := fun ρ r => (t ρ r).bind fun b r1 => .ok (.bl b) r1
theorem tT_V {K : PySem.W.Frag} {t : Tx} {σ : L2.St} {H : Hp} {Q : VK} (h : tE K W (xV t) σ H Q) : tT K W t σ H (fun b H' => Q (.bl b) H') := by
  obtain ⟨ρ, r, w, g, s, h⟩ := h
  exact ⟨ρ, r, w, g, s, h.bind fun b w1 r1 H1 t1 g1 h1 => h1.ok g1 _ (.bl b)⟩
theorem de_ch {a b c : Expr} {op op' : CmpOp} {pos : Pos} {F G : D → D → Option D} {f g h : Ex} (ho : OpD X (compareOp op) F) (ho' : OpD X (compareOp op') G) (ha : PE X a (tE X.K W f)) (hb : PE X b (tE X.K W g)) (hc : PE X c (tE X.K W h))
    (hm : lastMarks [op, op'] [b, c] = false := by with_unfolding_all rfl) : PE X (.Compare a [op, op'] [b, c] pos) (tE X.K W (xV (xCh F G f g h))) := by
  obtain ⟨rr, o, k⟩ := ho
  obtain ⟨rr', o', k'⟩ := ho'
  exact (pe_chain o o' ha hb hc hm).imp fun σ H Q q => ch_dl k k' (fun b H h => h) (tT_V q)
def xAnd (f g : Tx) : Tx := fun ρ r => (f ρ r).bind fun b r1 => if b = true then g ρ r1 else .ok false r1
def xOr (f g : Tx) : Tx := fun ρ r => (f ρ r).bind fun b r1 => if b = true then .ok true r1 else g ρ r1
def xNot (f : Tx) : Tx := fun ρ r => (f ρ r).bind fun b r1 => .ok (!b) r1
theorem tT_and {K : PySem.W.Frag} {f g : Tx} {σ : L2.St} {H : Hp} {Q : Bool → Hp → Prop} (h : tT K W (xAnd f g) σ H Q) : tAnd (tT K W f) (tT K W g) σ H Q := by
  obtain ⟨ρ, r, w, gd, s, h⟩ := h
  refine ⟨ρ, r, w, gd, s, h.bind fun b w1 r1 H1 t1 g1 h1 => ?_⟩
  cases b with
  | true => exact iteT ⟨ρ, r1, w1, g1, s.mono t1, h1⟩
  | false => exact iteF (h1.ok g1)
theorem tT_or {K : PySem.W.Frag} {f g : Tx} {σ : L2.St} {H : Hp} {Q : Bool → Hp → Prop} (h : tT K W (xOr f g) σ H Q) : tOr (tT K W f) (tT K W g) σ H Q := by
  obtain ⟨ρ, r, w, gd, s, h⟩ := h
  refine ⟨ρ, r, w, gd, s, h.bind fun b w1 r1 H1 t1 g1 h1 => ?_⟩
  cases b with
  | true => exact iteT (h1.ok g1)
  | false => exact iteF ⟨ρ, r1, w1, g1, s.mono t1, h1⟩
theorem _root_.L2.PW.imp {X : Cx} {e : Expr} {t t' : TT} (h : PW X e t) (i : ∀ σ H Q, t' σ H Q → t σ H Q) : PW X e t' := ⟨fun wh pins s σ H Q I q => h.run wh pins s σ H Q I (i σ H Q q)⟩
section
variable {a b : Expr} {rest : List Expr} {pos : Pos} {f g : Tx}
theorem dw_and1 (ha : PT X a (tT X.K W f)) : PW X (.BoolOp .And [a] pos) (tT X.K W f) := pw_and1 ha
theorem dw_or1 (ha : PT X a (tT X.K W f)) : PW X (.BoolOp .Or [a] pos) (tT X.K W f) := pw_or1 ha
theorem dw_and (ha : PT X a (tT X.K W f)) (hb : PW X (.BoolOp .And (b :: rest) pos) (tT X.K W g)) : PW X (.BoolOp .And (a :: b :: rest) pos) (tT X.K W (xAnd f g)) := (pw_and ha hb).imp fun _ _ _ h => tT_and h
theorem dw_or (ha : PT X a (tT X.K W f)) (hb : PW X (.BoolOp .Or (b :: rest) pos) (tT X.K W g)) : PW X (.BoolOp .Or (a :: b :: rest) pos) (tT X.K W (xOr f g)) := (pw_or ha hb).imp fun _ _ _ h => tT_or h
theorem dt_not (ha : PT X a (tT X.K W f)) : PT X (.UnaryOp .Not a pos) (tT X.K W (xNot f)) := (pt_not ha).imp fun σ H Q ⟨ρ, r, w, gd, s, h⟩ =>
  ⟨ρ, r, w, gd, s, h.bind fun b w1 r1 H1 t1 g1 h1 => h1.ok g1⟩
end
/-- a if t else b -/
def xIf (t : Tx) (f g : Ex) : Ex := fun ρ r => (t ρ r).bind fun b r1 => if b = true then f ρ r1 else g ρ r1
theorem de_if {c a b : Expr} {pos : Pos} {t : Tx} {f g : Ex} (hc : PT X c (tT X.K W t)) (ha : PE X a (tE X.K W f)) (hb : PE X b (tE X.K W g)) : PE X (.IfExp c a b pos) (tE X.K W (xIf t f g)) :=
  (pe_ifExp hc ha hb).imp fun σ H Q ⟨ρ, r, w, gd, s, h⟩ => ⟨ρ, r, w, gd, s, h.bind fun b w1 r1 H1 t1 g1 h1 => by
    cases b with
    | true => exact iteT ⟨ρ, r1, w1, g1, s.mono t1, h1⟩
    | false => exact iteF ⟨ρ, r1, w1, g1, s.mono t1, h1⟩⟩
/-- and, or, not as values -/
def xAndV (f g : Ex) : Ex := fun ρ r => (f ρ r).bind fun d r1 => match truth r1 d with
  | some true => g ρ r1
  | some false => .ok d r1
  | none => .bad
def xOrV (f g : Ex) : Ex := fun ρ r => (f ρ r).bind fun d r1 => match truth r1 d with
  | some true => .ok d r1
  | some false => g ρ r1
  | none => .bad
def xNotV (f : Ex) : Ex := fun ρ r => (f ρ r).bind fun d r1 => match truth r1 d with
  | some b => .ok (.bl (!b)) r1
  | none => .bad
section
variable {a b : Expr} {rest : List Expr} {pos : Pos} {f g : Ex}
theorem de_one {op} (h : PE X a (tE X.K W f)) : PE X (.BoolOp op [a] pos) (tE X.K W f) := pe_one h
theorem de_and (ha : PE X a (tE X.K W f)) (hb : PE X (.BoolOp .And (b :: rest) pos) (tE X.K W g)) : PE X (.BoolOp .And (a :: b :: rest) pos) (tE X.K W (xAndV f g)) :=
  (pe_andT ha hb).imp fun σ H Q ⟨ρ, r, w, gd, s, h⟩ => ⟨ρ, r, w, gd, s, h.bind fun d w1 r1 H1 t1 g1 h1 v rv => by
    split at h1
    · rename_i e
      exact ⟨true, truth_v g1 rv e, iteT ⟨ρ, r1, w1, g1, s.mono t1, h1⟩⟩
    · rename_i e
      exact ⟨false, truth_v g1 rv e, iteF (h1.ok g1 v rv)⟩
    · exact h1.elim⟩
theorem de_or (ha : PE X a (tE X.K W f)) (hb : PE X (.BoolOp .Or (b :: rest) pos) (tE X.K W g)) : PE X (.BoolOp .Or (a :: b :: rest) pos) (tE X.K W (xOrV f g)) :=
  (pe_orT ha hb).imp fun σ H Q ⟨ρ, r, w, gd, s, h⟩ => ⟨ρ, r, w, gd, s, h.bind fun d w1 r1 H1 t1 g1 h1 v rv => by
    split at h1
    · rename_i e
      exact ⟨true, truth_v g1 rv e, iteT (h1.ok g1 v rv)⟩
    · rename_i e
      exact ⟨false, truth_v g1 rv e, iteF ⟨ρ, r1, w1, g1, s.mono t1, h1⟩⟩
    · exact h1.elim⟩
theorem de_not (ha : PE X a (tE X.K W f)) : PE X (.UnaryOp .Not a pos) (tE X.K W (xNotV f)) :=
  (pe_notT ha).imp fun σ H Q ⟨ρ, r, w, gd, s, h⟩ => ⟨ρ, r, w, gd, s, h.bind fun d w1 r1 H1 t1 g1 h1 v rv => by
    split at h1
    · rename_i b e
      exact ⟨b, truth_v g1 rv e, h1.ok g1 _ (.bl _)⟩
    · exact h1.elim⟩
def xNeg (f : Ex) : Ex := fun ρ r => (f ρ r).bind fun d r1 => match d with
  | .int i => .ok (.int (-i)) r1
  | _ => .bad
theorem de_neg (ha : PE X a (tE X.K W f)) : PE X (.UnaryOp .USub a pos) (tE X.K W (xNeg f)) :=
  (pe_un un_neg ha).imp fun σ H Q ⟨ρ, r, w, gd, s, h⟩ => ⟨ρ, r, w, gd, s, h.bind fun d w1 r1 H1 t1 g1 h1 v rv => by
    split at h1
    · cases rv
      exact ⟨_, rfl, h1.ok g1 _ (.int _)⟩
    · exact h1.elim⟩
end
/-! ### argument lists, displays -/
def xNil : Ax := fun _ r => .ok [] r
def xCons (f : Ex) (g : Ax) : Ax := fun ρ r => (f ρ r).bind fun d r1 => (g ρ r1).bind fun ds r2 => .ok (d :: ds) r2
theorem da_nil : PA X [] (tA X.K W xNil) := pa_nil.imp fun σ H Q ⟨ρ, r, w, gd, s, h⟩ => h.ok gd [] .nil
theorem da_cons {e : Expr} {es : List Expr} {f : Ex} {g : Ax} (ha : PE X e (tE X.K W f)) (hr : PA X es (tA X.K W g)) (hs : starEach (e :: es) X.env = (false, eval e X.env) :: starEach es X.env := by rfl) : PA X (e :: es) (tA X.K W (xCons f g)) :=
  (pa_cons ha hr hs).imp fun σ H Q ⟨ρ, r, w, gd, s, h⟩ => ⟨ρ, r, w, gd, s, h.bind fun d w1 r1 H1 t1 g1 h1 v rv => ⟨ρ, r1, w1, g1, s.mono t1, h1.bind fun ds w2 r2 H2 t2 g2 h2 vs rvs => h2.ok g2 _ (.cons (t2.rp rv) rvs)⟩⟩
def xTup (f : Ax) : Ex := fun ρ r => (f ρ r).bind fun ds r1 => if ds.length ≤ lim then .ok (.tup ds) r1 else .bad
def xLst (f : Ax) : Ex := fun ρ r => (f ρ r).bind fun ds r1 => if ds.length ≤ lim then .ok (.lst ds) r1 else .bad
section
variable {es : List Expr} {pos : Pos} {f : Ax}
theorem de_tup {x1} (h : PA X es (tA X.K W f)) : PE X (.Tuple es x1 pos) (tE X.K W (xTup f)) :=
  (pe_tup h).imp fun σ H Q ⟨ρ, r, w, gd, s, h⟩ => ⟨ρ, r, w, gd, s, h.bind fun ds w1 r1 H1 t1 g1 h1 vs rvs => by
    split at h1
    · rename_i hl
      refine ⟨by rw [← rvs.length]; exact lim_le hl, fun p hp => ?_⟩
      exact h1 (w1.see p (.tup vs)) _ (tr_new g1 hp) (good_new g1 hp) _ (.tup (SqT.of see_at) ((tr_new (o := .tup vs) g1 hp).rps rvs))
    · exact h1.elim⟩
theorem de_lst (h : PA X es (tA X.K W f)) : PE X (.List es pos) (tE X.K W (xLst f)) :=
  (pe_lst h).imp fun σ H Q ⟨ρ, r, w, gd, s, h⟩ => ⟨ρ, r, w, gd, s, h.bind fun ds w1 r1 H1 t1 g1 h1 vs rvs => by
    split at h1
    · rename_i hl
      refine ⟨by rw [← rvs.length]; exact lim_le hl, fun p hp => ?_⟩
      exact h1 (w1.see p (.lst vs)) _ (tr_new g1 hp) (good_new g1 hp) _ (.lst see_at ((tr_new (o := .lst vs) g1 hp).rps rvs))
    · exact h1.elim⟩
end
end
end DL

/-! DL5: calls of built-ins, of defs; comprehensions. -/
namespace DL
open PySem L2
section
variable {X : Cx} {W : WX}

/-! ### built-ins -/
def CalD (X : Cx) (fn : Value) (F : Rs → List D → Option D) : Prop := ∃ rr : List V → Hp → VK → Prop, CallR X fn rr ∧
  ∀ (w : Wd) (r : Rs) (H : Hp) (ds : List D) (vs : List V) (d : D) (Q : VK), Good X.K w r H → Rps X.K w.m w.v ds vs → F r ds = some d → KD X.K w r H d Q → rr vs H Q
def xCB (F : Rs → List D → Option D) (f : Ax) : Ex := fun ρ r => (f ρ r).bind fun ds r1 => match F r1 ds with
  | some d => .ok d r1
  | none => .bad
theorem cb_dl {K : PySem.W.Frag} {F : Rs → List D → Option D} {f : Ax} {rr : List V → Hp → VK → Prop} {σ : L2.St} {H : Hp} {Q : VK}
    (k : ∀ (w : Wd) (r : Rs) (H : Hp) (ds : List D) (vs : List V) (d : D) (Q : VK), Good K w r H → Rps K w.m w.v ds vs → F r ds = some d → KD K w r H d Q → rr vs H Q)
    (h : tE K W (xCB F f) σ H Q) : tCB rr (tA K W f) σ H Q := by
  obtain ⟨ρ, r, w, gd, s, h⟩ := h
  refine ⟨ρ, r, w, gd, s, h.bind fun ds w1 r1 H1 t1 g1 h1 vs rvs => ?_⟩
  split at h1
  · rename_i d e
    exact k w1 r1 H1 ds vs d Q g1 rvs e h1
  · exact h1.elim
section
variable {x : Str} {p pos : Pos} {e : Expr} {es : List Expr} {f : Ax} {id T : String} {F : Rs → List D → Option D}
theorem de_callB (hc : CalD X (.builtin id) F) (hg : Gl X x) (hm : X.mg x = none) (hv : bootBuiltins x = some (.builtin id)) (ha : PA X (e :: es) (tA X.K W f)) (hn : x ≠ "__name__" := by decide) (hdb : (x == ("__debug__" : Str)) = false := by decide)
    (he : starEach (e :: es) X.env = (false, eval e X.env) :: starEach es X.env := by rfl) (hpl : (backTo pos (starEach es X.env)).any (·.1) = false := by rfl) : PE X (.Call (.Name x p) (e :: es) [] pos) (tE X.K W (xCB F f)) := by
  obtain ⟨rr, o, k⟩ := hc
  exact (pe_callB o hg hm hv ha hn hdb he hpl).imp fun σ H Q h => cb_dl k h
theorem de_callTy (hc : CalD X (.type T) F) (hg : Gl X x) (hm : X.mg x = none) (hv : bootBuiltins x = some (.type T)) (ha : PA X (e :: es) (tA X.K W f)) (hn : x ≠ "__name__" := by decide) (hdb : (x == ("__debug__" : Str)) = false := by decide)
    (he : starEach (e :: es) X.env = (false, eval e X.env) :: starEach es X.env := by rfl) (hpl : (backTo pos (starEach es X.env)).any (·.1) = false := by rfl) : PE X (.Call (.Name x p) (e :: es) [] pos) (tE X.K W (xCB F f)) := by
  obtain ⟨rr, o, k⟩ := hc
  exact (pe_callTy o hg hm hv ha hn hdb he hpl).imp fun σ H Q h => cb_dl k h
/-- a built-in class as a value -/
theorem de_ty (hg : Gl X x) (hm : X.mg x = none) (hv : bootBuiltins x = some (.type T)) (hn : x ≠ "__name__" := by decide) (hdb : (x == ("__debug__" : Str)) = false := by decide) : PE X (.Name x pos) (tE X.K W (xC (.ty T))) :=
  de_const (pe_bltn (v := .ty T) hg hm hv rfl hn hdb) fun _ _ => .ty T
/-- a def's or class's name as a value -/
theorem de_gl {a : Addr} (hg : Gl X x) (hm : X.mg x = some (.ref a)) (hdb : (x == ("__debug__" : Str)) = false := by decide) : PE X (.Name x pos) (tE X.K W (xC (.gl a))) :=
  de_const (pe_glob (v := .ref a) hg hm rfl hdb) fun _ _ => .gl a
end
def cLen (r : Rs) : List D → Option D
  | [.lst ds] => some (.int ds.length)
  | [.tup ds] => some (.int ds.length)
  | [.str s] => if s.length ≤ lim then some (.int s.length) else none
  | [.scr ns] => some (.int ns.length)
  | [.loc n] => match r[n]? with
    | some (.lst ds) => some (.int ds.length)
    | some (.dic ds) => some (.int ds.length)
    | _ => none
  | [.dic ds] => some (.int ds.length)
  | _ => none
theorem rpk_len {K : PySem.W.Frag} {m : List Addr} {H : Hp} : ∀ {ds : List (Key × D)} {vs : List (Key × V)}, Rpk K m H ds vs → ds.length = vs.length
  | _, _, .nil => rfl
  | _, _, .cons _ t => by rw [List.length_cons, List.length_cons, rpk_len t]
theorem cd_len : CalD X (.builtin "len") cLen := ⟨_, L2.CallR.or call_len call_lenD, fun w r H ds vs d Q g rvs e k => by
  cases rvs with
  | nil => cases e
  | cons rv rt =>
    cases rt with
    | cons _ _ => cases rv <;> cases e
    | nil =>
      cases rv <;> simp only [cLen] at e <;> first | (cases e; done) | skip
      case str x =>
        split at e
        · rename_i h
          cases e
          exact .inl ⟨_, _, rfl, ⟨lim_le h, rfl⟩, k.now g (.int _)⟩
        · cases e
      case tup a xs ds hx rx => cases e; exact .inl ⟨_, ds.length, rfl, .inr ⟨xs, g.sub.sqT hx, rx.length⟩, k.now g (.int _)⟩
      case lst a xs ds hx rx => cases e; exact .inl ⟨_, ds.length, rfl, .inl ⟨xs, SqL.of (g.sub _ _ hx), rx.length⟩, k.now g (.int _)⟩
      case loc n a hn =>
        split at e
        · rename_i ds hr
          cases e
          obtain ⟨_, xs, h1, h2⟩ := good_loc g hn hr
          exact .inl ⟨_, ds.length, rfl, .inl ⟨xs, SqL.of h1, h2.length⟩, k.now g (.int _)⟩
        · rename_i ds hr
          cases e
          obtain ⟨a', ha', _, xs, h1, h2⟩ := g.at_ n _ hr
          rw [hn] at ha'
          cases ha'
          exact .inr ⟨_, xs, rfl, h1, by rw [← rpk_len h2]; exact k.now g (.int _)⟩
        · cases e
      case dic a xs ds hx rx => cases e; exact .inr ⟨_, xs, rfl, g.sub _ _ hx, by rw [← rpk_len rx]; exact k.now g (.int _)⟩
      case scr a ns hs => cases e; exact .inl ⟨_, ns.length, rfl, .inl ⟨_, g.sub.sqL hs, by rw [List.length_map]⟩, k.now g (.int _)⟩⟩
def cAbs (_ : Rs) : List D → Option D
  | [.int i] => some (.int (if i < 0 then -i else i))
  | _ => none
theorem cd_abs : CalD X (.builtin "abs") cAbs := ⟨_, call_abs, fun w r H ds vs d Q g rvs e k => by
  cases rvs with
  | nil => cases e
  | cons rv rt =>
    cases rt with
    | cons _ _ => cases rv <;> cases e
    | nil =>
      cases rv <;> simp only [cAbs] at e <;> cases e
      exact ⟨_, rfl, k.now g (.int _)⟩⟩
def cInt (_ : Rs) : List D → Option D
  | [.int i] => some (.int i)
  | [.bl b] => some (.int (if b then 1 else 0))
  | _ => none
theorem cd_int : CalD X (.type "int") cInt := ⟨_, call_int1, fun w r H ds vs d Q g rvs e k => by
  cases rvs with
  | nil => cases e
  | cons rv rt =>
    cases rt with
    | cons _ _ => cases rv <;> cases e
    | nil =>
      cases rv <;> simp only [cInt] at e <;> cases e
      · exact .inr ⟨_, rfl, k.now g (.int _)⟩
      · exact .inl ⟨_, rfl, k.now g (.int _)⟩⟩
def cList (_ : Rs) : List D → Option D
  | [.lst ds] => some (.lst ds)
  | [.tup ds] => some (.lst ds)
  | _ => none
theorem cd_list : CalD X (.type "list") cList := ⟨_, call_list_of, fun w r H ds vs d Q g rvs e k => by
  cases rvs with
  | nil => cases e
  | cons rv rt =>
    cases rt with
    | cons _ _ => cases rv <;> cases e
    | nil =>
      cases rv <;> simp only [cList] at e <;> first | (cases e; done) | skip
      case tup a xs ds hx rx => cases e; exact ⟨a, xs, rfl, .inr (g.sub.sqT hx), fun p hp => k.new g hp (.lst upd_same ((tr_new (o := .lst xs) g hp).rps rx))⟩
      case lst a xs ds hx rx => cases e; exact ⟨a, xs, rfl, .inl (SqL.of (g.sub _ _ hx)), fun p hp => k.new g hp (.lst upd_same ((tr_new (o := .lst xs) g hp).rps rx))⟩⟩
def cTuple (_ : Rs) : List D → Option D
  | [.lst ds] => some (.tup ds)
  | [.tup ds] => some (.tup ds)
  | _ => none
theorem cd_tuple : CalD X (.type "tuple") cTuple := ⟨_, call_tuple_of, fun w r H ds vs d Q g rvs e k => by
  cases rvs with
  | nil => cases e
  | cons rv rt =>
    cases rt with
    | cons _ _ => cases rv <;> cases e
    | nil =>
      cases rv <;> simp only [cTuple] at e <;> first | (cases e; done) | skip
      case tup a xs ds hx rx => cases e; exact ⟨a, xs, rfl, .inr ⟨g.sub.sqT hx, k.now g (.tup hx rx)⟩⟩
      case lst a xs ds hx rx => cases e; exact ⟨a, xs, rfl, .inl ⟨SqL.of (g.sub _ _ hx), fun p hp => k.new g hp (.tup (SqT.of upd_same) ((tr_new (o := .tup xs) g hp).rps rx))⟩⟩⟩
def intsOf : List D → Option (List Int)
  | [] => some []
  | .int i :: r => (intsOf r).map (i :: ·)
  | _ => none
theorem Rps.ints {K : PySem.W.Frag} {m : List Addr} {H : Hp} : ∀ {ds : List D} {vs : List V} {ns : List Int}, Rps K m H ds vs → intsOf ds = some ns → vs = ns.map V.int
  | _, _, _, .nil, e => by cases e; rfl
  | _, _, _, .cons r t, e => by
    cases r <;> simp only [intsOf] at e <;> try cases e
    cases q : intsOf _ with
    | none => rw [q] at e; cases e
    | some l =>
      rw [q] at e
      cases e
      rw [Rps.ints t q]
      rfl
def cSum (_ : Rs) : List D → Option D
  | [.lst ds] => (intsOf ds).map fun ns => .int ns.sum
  | _ => none
theorem cd_sum (hc : X.calm = true) : CalD X (.builtin "sum") cSum := ⟨_, cr_sum hc, fun w r H ds vs d Q g rvs e k => by
  cases rvs with
  | nil => cases e
  | cons rv rt =>
    cases rt with
    | cons _ _ => cases rv <;> cases e
    | nil =>
      cases rv <;> simp only [cSum] at e <;> try cases e
      rename_i a xs ds hx rx
      cases q : intsOf ds with
      | none => rw [q] at e; cases e
      | some ns =>
        rw [q] at e
        cases e
        have z := rx.ints q
        subst z
        exact ⟨a, ns, rfl, SqL.of (g.sub _ _ hx), k.now g (.int _)⟩⟩
/-! isinstance against a built-in class -/
def D.cls : D → Option String
  | .non => some "NoneType"
  | .bl _ => some "bool"
  | .int _ => some "int"
  | .str _ => some "str"
  | .tup _ => some "tuple"
  | .lst _ => some "list"
  | .dic _ => some "dict"
  | _ => none
def isiB (c T : String) : Option Bool := if ["NoneType", "bool", "int", "str", "tuple", "list", "dict"].contains c && ["bool", "int", "str", "tuple", "list", "dict"].contains T then some (c == T || (c == "bool" && T == "int")) else none
def cIsi (_ : Rs) : List D → Option D
  | [d, .ty T] => (d.cls.bind fun c => isiB c T).map D.bl
  | _ => none
theorem isiB_kit {c T : String} {b : Bool} (h : isiB c T = some b) : kitB c T = some b := by
  have all : ∀ c ∈ ["NoneType", "bool", "int", "str", "tuple", "list", "dict"], ∀ T ∈ ["bool", "int", "str", "tuple", "list", "dict"], kitB c T = some (c == T || (c == "bool" && T == "int")) := by decide +kernel
  unfold isiB at h
  split at h
  · rename_i q
    cases h
    rw [Bool.and_eq_true] at q
    exact all c (List.contains_iff_mem.mp q.1) T (List.contains_iff_mem.mp q.2)
  · cases h
theorem Rp.tyX {K : PySem.W.Frag} {m : List Addr} {v H : Hp} (s : Sub v H) {d : D} {x : V} {c : String} (h : Rp K m v d x) (e : d.cls = some c) : TyX K H x (.type c) := by
  cases h <;> simp only [D.cls] at e <;> cases e
  case non => exact .base .non
  case bl => exact .base (.bl _)
  case int => exact .base (.int _)
  case str => exact .base (.str _)
  case tup a xs ds hx rx =>
    rcases hx with (hx | ⟨o, hx⟩) | ⟨o, its, n, h1, h2, _⟩
    · exact .base (.tup (s _ _ hx))
    · exact .fTuple (s _ _ hx)
    · exact .kTuple h1 h2
  case lst a xs ds hx rx => exact .base (.lst (s _ _ hx))
  case dic a xs ds hx rx => exact .base (.dK (s _ _ hx))
theorem cd_isi : CalD X (.builtin "isinstance") cIsi := ⟨_, call_isi, fun w r H ds vs d Q g rvs e k => by
  cases rvs with
  | nil => cases e
  | cons rv rt =>
    rename_i x dt v vt
    cases rt with
    | nil => cases rv <;> cases e
    | cons rv2 rt2 =>
      rename_i T _ v2 _
      cases rt2 with
      | cons _ _ => cases rv2 <;> cases e
      | nil =>
        cases rv2 <;> simp only [cIsi] at e <;> try cases e
        cases q : x.cls with
        | none => rw [q] at e; cases e
        | some c =>
          rw [q] at e
          rename_i n
          cases q2 : isiB c n with
          | none => rw [Option.bind_some, q2] at e; cases e
          | some b =>
            rw [Option.bind_some, q2] at e
            cases e
            exact ⟨v, .ty n, .type c, .type n, b, rfl, .ty n, rv.tyX g.sub q, kit_ty (isiB_kit q2), k.now g (.bl _)⟩⟩
/-! ### calls of defs -/
/-- a def's promise by a plain function -/
def spD (K : PySem.W.Frag) (n : Nat) (F : List D → Rs → Out D) : Sp := fun vs H Q E => vs.length = n ∧ ∃ ds r w, Good K w r H ∧ Rps K w.m w.v ds vs ∧ match F ds r with
  | .ok d r' => ∀ w' H', Tr w H w' H' → Good K w' r' H' → ∀ v, Rp K w'.m w'.v d v → Q v H'
  | .exc c fs r' => ∀ w' H' cls dd, Tr w H w' H' → Good K w' r' H' → ExcAt K c fs cls dd H' → E cls dd H'
  | .bad => False
def xCall (F : List D → Rs → Out D) (f : Ax) : Ex := fun ρ r => (f ρ r).bind fun ds r1 => F ds r1
section
variable {k : Nat} {f : Addr} {fd : FuncData} {ps : List Str} {n : Nat} {x : Str} {p pos : Pos} {e : Expr} {es : List Expr} {F : List D → Rs → Out D} {fa : Ax}
theorem Out.bind_len {fa : Ax} {n : Nat} : True := trivial
theorem de_call (G : FnOk X.prog X.w X.K X.mg X.base (L2.CX X.prog X.w) k f fd ps (spD X.K n F)) (hr : Room k X.A) (hg : Gl X x) (hm : X.mg x = some (.ref f)) (hk : PySem.W.keepIn X.K (.ref f) = true) (hb : Binds X.K fd ps []) (tk : Takes X W)
    (ha : PA X (e :: es) (tA X.K W fa)) (hn : ∀ ρ r ds r', fa ρ r = .ok ds r' → ds.length = n) (hdb : (x == ("__debug__" : Str)) = false := by decide) (he : starEach (e :: es) X.env = (false, eval e X.env) :: starEach es X.env := by rfl) (hpl : (backTo pos (starEach es X.env)).any (·.1) = false := by rfl) :
    PE X (.Call (.Name x p) (e :: es) [] pos) (tE X.K W (xCall F fa)) :=
  (pe_callS G hr hg hm hk hb (fun σ => passAt tk σ) ha hdb he hpl).imp fun σ H Q ⟨ρ, r, w, gd, s, h⟩ => by
    refine ⟨ρ, r, w, gd, s, ?_⟩
    have hl := hn ρ r
    unfold xCall at h
    revert h hl
    generalize fa ρ r = o
    intro h hl
    cases o with
    | ok ds r1 =>
      intro w1 H1 t1 g1 vs rvs
      refine ⟨by rw [← rvs.length]; exact hl ds r1 rfl, ds, r1, w1, g1, rvs, ?_⟩
      have h' : After X.K W w H σ (F ds r1) (fun d w' _ H' => ∀ v, Rp X.K w'.m w'.v d v → Q v H') := h
      revert h'
      generalize F ds r1 = o2
      intro h'
      cases o2 with
      | ok d r2 => exact fun w2 H2 t2 g2 => h' w2 H2 (t1.trans t2) g2
      | exc c fs r2 => exact fun w2 H2 cls dd t2 g2 x => h' w2 H2 cls dd (t1.trans t2) g2 x
      | bad => exact h'
    | exc c fs r1 => exact h
    | bad => exact h
end
theorem nil_len {ρ : En} {r r' : Rs} {ds : List D} (h : xNil ρ r = .ok ds r') : ds.length = 0 := by cases h; rfl
theorem cons_len {f : Ex} {g : Ax} {n : Nat} (hg : ∀ ρ r ds r', g ρ r = .ok ds r' → ds.length = n) : ∀ ρ r ds r', xCons f g ρ r = .ok ds r' → ds.length = n + 1 := fun ρ r ds r' h => by
  unfold xCons at h
  cases q : f ρ r with
  | ok d r1 =>
    rw [q] at h
    have h' : (g ρ r1).bind (fun ds r2 => .ok (d :: ds) r2) = Out.ok ds r' := h
    cases q2 : g ρ r1 with
    | ok es r2 =>
      rw [q2] at h'
      cases h'
      rw [List.length_cons, hg _ _ _ _ q2]
    | exc c fs r2 => rw [q2] at h'; cases h'
    | bad => rw [q2] at h'; cases h'
  | exc c fs r1 => rw [q] at h; cases h
  | bad => rw [q] at h; cases h
/-- the number of arguments, by the term -/
theorem len0 : ∀ (ρ : En) (r : Rs) (ds : List D) (r' : Rs), xNil ρ r = .ok ds r' → ds.length = 0 := fun _ _ _ _ h => nil_len h
end
end DL

/-! DL6: new lists; what is walked; comprehensions. -/
namespace DL
open PySem L2
section
variable {X : Cx} {W : WX}

/-! ### a new list -/
/-- what is known of a new list's place -/
structure NewL (K : PySem.W.Frag) (w : Wd) (H0 H : Hp) (ds : List D) (p : Addr) : Prop where
  fresh : H0 p = none
  nv : w.v p = none
  nm : p ∉ w.m
  at_ : ∃ xs, H p = some (.lst xs) ∧ Rps K w.m w.v ds xs
structure NewD (K : PySem.W.Frag) (w : Wd) (H0 H : Hp) (ds : List (Key × D)) (p : Addr) : Prop where
  fresh : H0 p = none
  nv : w.v p = none
  nm : p ∉ w.m
  at_ : ∃ xs, H p = some (.dK xs) ∧ Rpk K w.m w.v ds xs
abbrev Lx := En → Rs → Out (List D)
def tN (K : PySem.W.Frag) (W : WX) (f : Lx) : TE := fun σ H Q => ∃ ρ r w, Good K w r H ∧ Slots K w ρ σ ∧
  After K W w H σ (f ρ r) fun ds w' _ H' => ∀ p, NewL K w' H H' ds p → Q (.ref p) H'
def xL (f : Lx) : Ex := fun ρ r => (f ρ r).bind fun ds r1 => .ok (.lst ds) r1
/-- an unseen object of one's own is shown -/
theorem tr_see {K : PySem.W.Frag} {w w0 : Wd} {r : Rs} {H0 H : Hp} {p : Addr} {o : HO} (g : Good K w r H) (t : Tr w0 H0 w H) (h0 : H0 p = none) (hv : w.v p = none) (hm : p ∉ w.m) (hp : H p = some o) : Tr w0 H0 (w.see p o) H ∧ Good K (w.see p o) r H := by
  have sb : Sub w.v (w.see p o).v := fun a u e => by
    have hne : a ≠ p := by rintro rfl; rw [hv] at e; cases e
    show upd w.v p o a = some u
    rw [upd_ne hne]; exact e
  refine ⟨⟨t.sub.trans sb, t.pre, t.keep, t.live, fun b e => ?_, t.newm, t.tups, t.gm, t.same⟩, ⟨fun a u e => ?_, fun a ha => ?_, g.len, g.nd, fun n u e => ?_, g.gv⟩⟩
  · by_cases hb : b = p
    · subst hb; exact .inr h0
    · have e' : upd w.v p o b ≠ none := e
      rw [upd_ne hb] at e'; exact t.newv b e'
  · have e' : upd w.v p o a = some u := e
    by_cases ha : a = p
    · subst ha; rw [upd_same] at e'; cases e'; exact hp
    · rw [upd_ne ha] at e'; exact g.sub a u e'
  · have hne : a ≠ p := by rintro rfl; exact hm ha
    show upd w.v p o a = none
    rw [upd_ne hne]; exact g.dis a ha
  · obtain ⟨a, ha, x⟩ := g.at_ n u e
    exact ⟨a, ha, roAt_mono sb (.refl _) rfl x⟩
theorem de_n {e : Expr} {f : Lx} (h : PE X e (tN X.K W f)) : PE X e (tE X.K W (xL f)) := h.imp fun σ H Q ⟨ρ, r, w, g, s, h⟩ => by
  refine ⟨ρ, r, w, g, s, ?_⟩
  unfold xL at h
  revert h
  generalize f ρ r = o
  intro h
  cases o with
  | ok ds r1 =>
    intro w1 H1 t1 g1 p n
    obtain ⟨xs, hp, rx⟩ := n.at_
    obtain ⟨t2, g2⟩ := tr_see g1 t1 n.fresh n.nv n.nm hp
    refine h (w1.see p (.lst xs)) H1 t2 g2 (.ref p) (.lst see_at ?_)
    exact rx.mono (fun a u e => by
      have hne : a ≠ p := by rintro rfl; rw [n.nv] at e; cases e
      show upd w1.v p _ a = some u
      rw [upd_ne hne]; exact e) (.refl _)
  | exc c fs r1 => exact h
  | bad => exact h
/-- a new object that is not seen -/
theorem tr_hid {K : PySem.W.Frag} {w : Wd} {r : Rs} {H : Hp} (g : Good K w r H) {p : Addr} {o : HO} (h : H p = none) : Tr w H w (upd H p o) ∧ Good K w r (upd H p o) := by
  refine ⟨⟨.refl _, .refl _, fun b u e _ => by rw [upd_ne (ne_of_none e h)]; exact e, (tr_new (o := o) g h).live, fun b e => .inl e, fun b e => .inl e, (tr_new (o := o) g h).tups, fun _ _ => Nat.le_refl _, fun n a C dx fs hm ha _ => upd_ne (ne_of_none ha h)⟩, ⟨fun a u e => ?_, g.dis, g.len, g.nd, fun n u e => ?_, g.gv⟩⟩
  · have hne : a ≠ p := by rintro rfl; rw [g.none_of h] at e; cases e
    rw [upd_ne hne]; exact g.sub a u e
  · obtain ⟨a, ha, x⟩ := g.at_ n u e
    refine ⟨a, ha, roAt_mono (.refl _) (.refl _) ?_ x⟩
    have hne : a ≠ p := by rintro rfl; exact g.live (List.mem_iff_getElem?.mpr ⟨n, ha⟩) h
    exact upd_ne hne
theorem newL_hid {K : PySem.W.Frag} {w w0 : Wd} {r : Rs} {H0 H : Hp} (g : Good K w r H) (t : Tr w0 H0 w H) {p : Addr} {ds : List D} {xs : List V} (h : H p = none) (rx : Rps K w.m w.v ds xs) : NewL K w H0 (upd H p (.lst xs)) ds p :=
  ⟨t.fresh h, g.none_of h, fun hm => g.live hm h, xs, upd_same, rx⟩
def xLst' (f : Ax) : Lx := fun ρ r => (f ρ r).bind fun ds r1 => if ds.length ≤ lim then .ok ds r1 else .bad
theorem After.fst {K : PySem.W.Frag} {w : Wd} {H : Hp} {σ : L2.St} {α β : Type} {o : Out α} {f : α → Rs → Out β} {Q : β → Wd → Rs → Hp → Prop} {Q1 : α → Wd → Rs → Hp → Prop}
    (h : After K W w H σ (o.bind f) Q) (k : ∀ a w1 r1 H1, o = .ok a r1 → Tr w H w1 H1 → Good K w1 r1 H1 → (∀ b r2, f a r1 = .ok b r2 → ∀ w2 H2, Tr w H w2 H2 → Good K w2 r2 H2 → Q b w2 r2 H2) → After K W w1 H1 σ (f a r1) Q → Q1 a w1 r1 H1) : After K W w H σ o Q1 := by
  cases o with
  | ok a r =>
    intro w1 H1 t1 g1
    have h' : After K W w H σ (f a r) Q := h
    refine k a w1 r H1 rfl t1 g1 (fun b r2 e w2 H2 t2 g2 => ?_) ?_
    · rw [e] at h'
      exact h' w2 H2 t2 g2
    · revert h'
      generalize f a r = o2
      intro h'
      cases o2 with
      | ok b r2 => exact fun w2 H2 t2 g2 => h' w2 H2 (t1.trans t2) g2
      | exc c fs r2 => exact fun w2 H2 cls dd t2 g2 x => h' w2 H2 cls dd (t1.trans t2) g2 x
      | bad => exact h'
  | exc c fs r => exact h
  | bad => exact h
theorem dn_lst {es : List Expr} {pos : Pos} {f : Ax} (h : PA X es (tA X.K W f)) : PE X (.List es pos) (tN X.K W (xLst' f)) :=
  (pe_lst h).imp fun σ H Q ⟨ρ, r, w, gd, s, h⟩ => ⟨ρ, r, w, gd, s, h.fst fun ds w1 r1 H1 _ t1 g1 q h1 vs rvs => by
    split at h1
    · rename_i hl
      refine ⟨by rw [← rvs.length]; exact lim_le hl, fun p hp => ?_⟩
      obtain ⟨t2, g2⟩ := tr_hid (o := .lst vs) g1 hp
      exact q ds r1 (if_pos hl) w1 _ (t1.trans t2) g2 p (newL_hid g1 t1 hp rvs)
    · exact h1.elim⟩
/-- list(x) -/
def cListN : List D → Option (List D)
  | [.lst ds] => some ds
  | [.tup ds] => some ds
  | _ => none
def xListN (f : Ax) : Lx := fun ρ r => (f ρ r).bind fun ds r1 => match cListN ds with
  | some es => .ok es r1
  | none => .bad
theorem dn_list {x : Str} {p pos : Pos} {e : Expr} {es : List Expr} {f : Ax} (hg : Gl X x) (hm : X.mg x = none) (hv : bootBuiltins x = some (.type "list")) (ha : PA X (e :: es) (tA X.K W f)) (hn : x ≠ "__name__" := by decide) (hdb : (x == ("__debug__" : Str)) = false := by decide)
    (he : starEach (e :: es) X.env = (false, eval e X.env) :: starEach es X.env := by rfl) (hpl : (backTo pos (starEach es X.env)).any (·.1) = false := by rfl) : PE X (.Call (.Name x p) (e :: es) [] pos) (tN X.K W (xListN f)) :=
  (pe_callTy call_list_of hg hm hv ha hn hdb he hpl).imp fun σ H Q ⟨ρ, r, w, gd, s, h⟩ => ⟨ρ, r, w, gd, s, h.fst fun ds w1 r1 H1 _ t1 g1 q h1 vs rvs => by
    split at h1
    · rename_i es e
      have e' : (match cListN ds with | some es => Out.ok es r1 | none => .bad) = .ok es r1 := by rw [e]
      cases rvs with
      | nil => cases e
      | cons rv rt =>
        cases rt with
        | cons _ _ => cases rv <;> cases e
        | nil =>
          cases rv with
          | tup hx rx =>
            cases e
            refine ⟨_, _, rfl, .inr (g1.sub.sqT hx), fun p hp => ?_⟩
            obtain ⟨t2, g2⟩ := tr_hid g1 hp
            exact q _ r1 e' w1 _ (t1.trans t2) g2 p (newL_hid g1 t1 hp rx)
          | lst hx rx =>
            cases e
            refine ⟨_, _, rfl, .inl (SqL.of (g1.sub _ _ hx)), fun p hp => ?_⟩
            obtain ⟨t2, g2⟩ := tr_hid g1 hp
            exact q _ r1 e' w1 _ (t1.trans t2) g2 p (newL_hid g1 t1 hp rx)
          | _ => cases e
    · exact h1.elim⟩

/-! ### what is walked -/
/-- the iterator gives the data one by one, as long as what is seen stands -/
def Walks (K : PySem.W.Frag) (J : It) (w : Wd) (ds : List D) : Prop := ∀ w' r' H', Sub w.v w'.v → Pre w.m w'.m → Good K w' r' H' → ∀ i : Nat,
  (∀ d, ds[i]? = some d → J.go i H' ∧ ∀ x H2, J.yld i H' x H2 → ∃ w2, Tr w' H' w2 H2 ∧ Good K w2 r' H2 ∧ Rp K w2.m w2.v d x) ∧ (ds.length ≤ i → J.stop i H')
def tI (K : PySem.W.Frag) (W : WX) (f : Lx) : TI := fun σ H R => ∃ ρ r w, Good K w r H ∧ Slots K w ρ σ ∧
  After K W w H σ (f ρ r) fun ds w' _ H' => ∀ J, Walks K J w' ds → R J H'
theorem _root_.L2.PI.imp {X : Cx} {tg e : Expr} {t t' : TI} (h : PI X tg e t) (i : ∀ σ H Q, t' σ H Q → t σ H Q) : PI X tg e t' := ⟨fun pins s σ H Q I q => h.run pins s σ H Q I (i σ H Q q)⟩
theorem _root_.L2.PI.or {X : Cx} {tg e : Expr} {t t' : TI} (h : PI X tg e t) (h' : PI X tg e t') : PI X tg e (fun σ H R => t σ H R ∨ t' σ H R) := ⟨fun pins s σ H Q I q => by
  rcases q with q | q
  · exact h.run pins s σ H Q I q
  · exact h'.run pins s σ H Q I q⟩
def signs (s : Str) : List D := s.cps.toList.map fun c => .str ⟨#[c]⟩
def items : D → Option (List D)
  | .lst ds => some ds
  | .tup ds => some ds
  | .str s => some (signs s)
  | _ => none
def xItems (f : Ex) : Lx := fun ρ r => (f ρ r).bind fun d r1 => match items d with
  | some ds => .ok ds r1
  | none => .bad
theorem Rps.at_ {K : PySem.W.Frag} {m : List Addr} {H : Hp} {ds : List D} {vs : List V} {i : Nat} {d : D} {v : V} (h : Rps K m H ds vs) (e : ds[i]? = some d) (e' : vs[i]? = some v) : Rp K m H d v := by
  obtain ⟨v', h1, h2⟩ := h.get e
  rw [h1] at e'
  cases e'
  exact h2
theorem walks_lst {K : PySem.W.Frag} {w : Wd} {a : Addr} {xs : List V} {ds : List D} (hx : w.v a = some (.lst xs)) (rx : Rps K w.m w.v ds xs) : Walks K (Itl K a) w ds := by
  intro w' r' H' sb pr g i
  have h1 : SqL K H' a xs := SqL.of (g.sub _ _ (sb _ _ hx))
  refine ⟨fun d e => ?_, fun hl => ⟨xs, h1, by rw [← rx.length]; exact hl⟩⟩
  obtain ⟨v, hv, _⟩ := rx.get e
  refine ⟨⟨xs, v, h1, hv⟩, fun x H2 y => ?_⟩
  obtain ⟨e2, y⟩ := y
  subst e2
  have := y xs h1
  exact ⟨w', .refl _ _, g, (rx.mono sb pr).at_ e this⟩
theorem walks_tup {K : PySem.W.Frag} {w : Wd} {a : Addr} {xs : List V} {ds : List D} (hx : SqT K w.v a xs) (rx : Rps K w.m w.v ds xs) : Walks K (Itt K a) w ds := by
  intro w' r' H' sb pr g i
  have h1 : SqT K H' a xs := g.sub.sqT (sb.sqT hx)
  refine ⟨fun d e => ?_, fun hl => ⟨xs, h1, by rw [← rx.length]; exact hl⟩⟩
  obtain ⟨v, hv, _⟩ := rx.get e
  refine ⟨⟨xs, v, h1, hv⟩, fun x H2 y => ?_⟩
  obtain ⟨e2, y⟩ := y
  subst e2
  have := y xs h1
  exact ⟨w', .refl _ _, g, (rx.mono sb pr).at_ e this⟩
theorem signs_len (s : Str) : (signs s).length = s.cps.size := by simp [signs]
theorem walks_str {K : PySem.W.Frag} {w : Wd} (s : Str) : Walks K (Its s) w (signs s) := by
  intro w' r' H' sb pr g i
  refine ⟨fun d e => ?_, fun hl => by rw [signs_len] at hl; exact hl⟩
  have hi : i < s.cps.size := by
    rw [← signs_len]
    exact (List.getElem?_eq_some_iff.mp e).1
  refine ⟨hi, fun x H2 y => ?_⟩
  obtain ⟨e2, c, hc, ex⟩ := y
  subst e2
  subst ex
  refine ⟨w', .refl _ _, g, ?_⟩
  have hd : d = .str ⟨#[c]⟩ := by
    unfold signs at e
    rw [List.getElem?_map] at e
    have hc' : s.cps.toList[i]? = some c := by rw [Array.getElem?_toList]; exact hc
    rw [hc'] at e
    exact (Option.some.inj e).symm
  rw [hd]
  exact .str _
theorem di_seq {tg e : Expr} {f : Ex} (h : PE X e (tE X.K W f)) : PI X tg e (tI X.K W (xItems f)) :=
  ((pi_list h).or ((pi_tup h).or (pi_str h))).imp fun σ H R ⟨ρ, r, w, gd, s, q⟩ => by
    unfold xItems at q
    have q' := q
    revert q
    generalize ho : f ρ r = o
    intro q
    cases o with
    | ok d r1 =>
      have q1 : After X.K W w H σ (match items d with | some ds => .ok ds r1 | none => .bad) (fun ds w' _ H' => ∀ J, Walks X.K J w' ds → R J H') := q
      cases d with
      | lst ds =>
        refine .inl ⟨ρ, r, w, gd, s, ?_⟩
        rw [ho]
        intro w1 H1 t1 g1 v rv
        cases rv with
        | lst hx rx => exact ⟨_, rfl, ⟨_, SqL.of (g1.sub _ _ hx)⟩, q1 w1 H1 t1 g1 _ (walks_lst hx rx)⟩
      | tup ds =>
        refine .inr (.inl ⟨ρ, r, w, gd, s, ?_⟩)
        rw [ho]
        intro w1 H1 t1 g1 v rv
        cases rv with
        | tup hx rx => exact ⟨_, rfl, ⟨_, g1.sub.sqT hx⟩, q1 w1 H1 t1 g1 _ (walks_tup hx rx)⟩
      | str x =>
        refine .inr (.inr ⟨ρ, r, w, gd, s, ?_⟩)
        rw [ho]
        intro w1 H1 t1 g1 v rv
        cases rv with
        | str => exact ⟨_, rfl, q1 w1 H1 t1 g1 _ (walks_str x)⟩
      | _ => exact False.elim q1
    | exc c fs r1 =>
      refine .inl ⟨ρ, r, w, gd, s, ?_⟩
      rw [ho]
      exact q
    | bad => exact False.elim q
/-- range -/
def rng (lo : Int) (n : Nat) : List D := (List.range n).map fun i => .int (lo + (i : Nat))
theorem rng_len (lo : Int) (n : Nat) : (rng lo n).length = n := by simp [rng]
theorem walks_rng {K : PySem.W.Frag} {w : Wd} (lo : Int) (n : Nat) : Walks K (Itr lo n) w (rng lo n) := by
  intro w' r' H' sb pr g i
  refine ⟨fun d e => ?_, fun hl => by rw [rng_len] at hl; exact hl⟩
  have hi : i < n := by
    have := (List.getElem?_eq_some_iff.mp e).1
    rwa [rng_len] at this
  refine ⟨hi, fun x H2 y => ?_⟩
  obtain ⟨e2, ex⟩ := y
  subst e2
  subst ex
  refine ⟨w', .refl _ _, g, ?_⟩
  have hd : d = .int (lo + (i : Nat)) := by
    unfold rng at e
    rw [List.getElem?_map, List.getElem?_range hi] at e
    exact (Option.some.inj e).symm
  rw [hd]
  exact .int _
def big (i : Int) : Bool := decide (i.natAbs < 2 ^ 62)
theorem big_of {i : Int} (h : big i = true) : -(2 ^ 62) ≤ i ∧ i < 2 ^ 62 := by
  unfold big at h
  rw [decide_eq_true_eq] at h
  omega
def xRng1 (f : Ax) : Lx := fun ρ r => (f ρ r).bind fun ds r1 => match ds with
  | [.int j] => if big j then .ok (rng 0 j.toNat) r1 else .bad
  | _ => .bad
def xRng2 (f : Ax) : Lx := fun ρ r => (f ρ r).bind fun ds r1 => match ds with
  | [.int i, .int j] => if big i && big j then .ok (rng i (j - i).toNat) r1 else .bad
  | _ => .bad
theorem di_rng1 {tg a : Expr} {f : Ax} {p pos : Pos} (hg : Gl X "range") (hm : X.mg "range" = none) (ha : PA X [a] (tA X.K W f)) (hs : starEach [a] X.env = [(false, eval a X.env)] := by rfl) : PI X tg (.Call (.Name "range" p) [a] [] pos) (tI X.K W (xRng1 f)) :=
  (pi_range1 hg hm ha hs).imp fun σ H R ⟨ρ, r, w, gd, s, q⟩ => ⟨ρ, r, w, gd, s, q.bind fun ds w1 r1 H1 t1 g1 q1 vs rvs => by
    split at q1
    · rename_i j
      split at q1
      · rename_i hb
        cases rvs with
        | cons r1 r2 =>
          cases r1
          cases r2
          exact ⟨j, rfl, (big_of hb).1, (big_of hb).2, q1.ok g1 _ (walks_rng 0 _)⟩
      · exact q1.elim
    · exact q1.elim⟩
theorem di_rng2 {tg a b : Expr} {f : Ax} {p pos : Pos} (hg : Gl X "range") (hm : X.mg "range" = none) (ha : PA X [a, b] (tA X.K W f)) (hs : starEach [a, b] X.env = [(false, eval a X.env), (false, eval b X.env)] := by rfl) (hs2 : starEach [b] X.env = [(false, eval b X.env)] := by rfl) :
    PI X tg (.Call (.Name "range" p) [a, b] [] pos) (tI X.K W (xRng2 f)) :=
  (pi_range2 hg hm ha hs hs2).imp fun σ H R ⟨ρ, r, w, gd, s, q⟩ => ⟨ρ, r, w, gd, s, q.bind fun ds w1 r1 H1 t1 g1 q1 vs rvs => by
    split at q1
    · rename_i i j
      split at q1
      · rename_i hb
        rw [Bool.and_eq_true] at hb
        cases rvs with
        | cons r1 r2 =>
          cases r1
          cases r2 with
          | cons r3 r4 =>
            cases r3
            cases r4
            exact ⟨i, j, rfl, ⟨(big_of hb.1).1, (big_of hb.1).2, (big_of hb.2).1, (big_of hb.2).2⟩, q1.ok g1 _ (walks_rng i _)⟩
      · exact q1.elim
    · exact q1.elim⟩

/-! ### targets -/
abbrev Tg := D → En → Option En
/-- a target that stores into slots alone, those of js -/
def TgD (K : PySem.W.Frag) (g : TG) (t : Tg) (js : List Nat) : Prop := ∀ (w : Wd) (r : Rs) (H : Hp) (ρ ρ' : En) (σ : L2.St) (d : D) (v : V), Good K w r H → ρ.length = σ.length → Rp K w.m w.v d v → t d ρ = some ρ' →
  ∃ σ', (∀ Q : L2.St → Hp → Prop, Q σ' H → g v σ H Q) ∧ ρ'.length = ρ.length ∧ σ'.length = σ.length ∧ ∀ i : Nat, (ρ'[i]? = ρ[i]? ∧ σ'[i]? = σ[i]?) ∨ (i ∈ js ∧ ∃ e x, ρ'[i]? = some (some e) ∧ σ'[i]? = some (some x) ∧ Rp K w.m w.v e x)
def gNm (i : Nat) : Tg := fun d ρ => if i < ρ.length then some (ρ.set i (some d)) else none
theorem tg_name (K : PySem.W.Frag) (i : Nat) : TgD K (gName i) (gNm i) [i] := fun w r H ρ ρ' σ d v g hl rv e => by
  unfold gNm at e
  split at e
  · rename_i hi
    cases e
    refine ⟨σ.set i (some v), fun Q q => q, List.length_set, List.length_set, fun j => ?_⟩
    by_cases hj : i = j
    · subst hj
      exact .inr ⟨List.mem_singleton.mpr rfl, d, v, List.getElem?_set_self hi, List.getElem?_set_self (by rw [← hl]; exact hi), rv⟩
    · exact .inl ⟨List.getElem?_set_ne hj, List.getElem?_set_ne hj⟩
  · cases e
/-- several names in a row -/
def TgsD (K : PySem.W.Frag) (g : TGs) (t : List D → En → Option En) (js : List Nat) : Prop := ∀ (w : Wd) (r : Rs) (H : Hp) (ρ ρ' : En) (σ : L2.St) (ds : List D) (vs : List V), Good K w r H → ρ.length = σ.length → Rps K w.m w.v ds vs → t ds ρ = some ρ' →
  ∃ σ', (∀ Q : L2.St → Hp → Prop, Q σ' H → g vs σ H Q) ∧ ρ'.length = ρ.length ∧ σ'.length = σ.length ∧ ∀ i : Nat, (ρ'[i]? = ρ[i]? ∧ σ'[i]? = σ[i]?) ∨ (i ∈ js ∧ ∃ e x, ρ'[i]? = some (some e) ∧ σ'[i]? = some (some x) ∧ Rp K w.m w.v e x)
def gNil' : List D → En → Option En
  | [], ρ => some ρ
  | _, _ => none
def gCons' (t : Tg) (u : List D → En → Option En) : List D → En → Option En
  | d :: ds, ρ => (t d ρ).bind fun ρ1 => u ds ρ1
  | _, _ => none
theorem tgs_nil (K : PySem.W.Frag) : TgsD K gNil gNil' [] := fun w r H ρ ρ' σ ds vs g hl rv e => by
  cases rv with
  | nil =>
    cases e
    exact ⟨σ, fun Q q => ⟨rfl, q⟩, rfl, rfl, fun i => .inl ⟨rfl, rfl⟩⟩
  | cons _ _ => cases e
theorem tgs_cons {K : PySem.W.Frag} {g : TG} {t : Tg} {js : List Nat} {gs : TGs} {u : List D → En → Option En} {ks : List Nat} (h : TgD K g t js) (h' : TgsD K gs u ks) : TgsD K (gCons g gs) (gCons' t u) (js ++ ks) := fun w r H ρ ρ' σ ds vs gd hl rv e => by
  cases rv with
  | nil => cases e
  | cons rv rt =>
    rename_i d ds v vs
    cases e1 : t d ρ with
    | none =>
      have e' : (t d ρ).bind (fun ρ1 => u ds ρ1) = some ρ' := e
      rw [e1] at e'
      cases e'
    | some ρ1 =>
      have e' : (t d ρ).bind (fun ρ1 => u ds ρ1) = some ρ' := e
      rw [e1] at e'
      obtain ⟨σ1, a1, a2, a3, a4⟩ := h w r H ρ ρ1 σ d v gd hl rv e1
      obtain ⟨σ2, b1, b2, b3, b4⟩ := h' w r H ρ1 ρ' σ1 ds vs gd (by rw [a2, a3, hl]) rt e'
      refine ⟨σ2, fun Q q => ⟨v, vs, rfl, a1 _ (b1 Q q)⟩, by rw [b2, a2], by rw [b3, a3], fun i => ?_⟩
      rcases b4 i with ⟨q1, q2⟩ | ⟨m, q⟩
      · rcases a4 i with ⟨p1, p2⟩ | ⟨m, e, x, p1, p2, p3⟩
        · exact .inl ⟨q1.trans p1, q2.trans p2⟩
        · exact .inr ⟨List.mem_append_left _ m, e, x, q1.trans p1, q2.trans p2, p3⟩
      · exact .inr ⟨List.mem_append_right _ m, q⟩
/-- a, b = a tuple -/
def gTp (n : Nat) (u : List D → En → Option En) : Tg := fun d ρ => match d with
  | .tup ds => if ds.length = n then u ds ρ else none
  | _ => none
theorem tg_tup {K : PySem.W.Frag} {gs : TGs} {u : List D → En → Option En} {ks : List Nat} (n : Nat) (h : TgsD K gs u ks) : TgD K (gTup K n gs) (gTp n u) ks := fun w r H ρ ρ' σ d v gd hl rv e => by
  cases rv <;> simp only [gTp] at e <;> first | (cases e; done) | skip
  rename_i a xs ds hx rx
  split at e
  · rename_i hn
    obtain ⟨σ1, a1, a2, a3, a4⟩ := h w r H ρ ρ' σ _ _ gd hl rx e
    exact ⟨σ1, fun Q q => ⟨_, _, rfl, gd.sub.sqT hx, by rw [← rx.length]; exact hn, a1 Q q⟩, a2, a3, a4⟩
  · cases e
/-- a, b = a list -/
def gLs (n : Nat) (u : List D → En → Option En) : Tg := fun d ρ => match d with
  | .lst ds => if ds.length = n then u ds ρ else none
  | _ => none
theorem tg_lst {K : PySem.W.Frag} {gs : TGs} {u : List D → En → Option En} {ks : List Nat} (n : Nat) (h : TgsD K gs u ks) : TgD K (gLst K n gs) (gLs n u) ks := fun w r H ρ ρ' σ d v gd hl rv e => by
  cases rv <;> simp only [gLs] at e <;> first | (cases e; done) | skip
  rename_i a xs ds hx rx
  split at e
  · rename_i hn
    obtain ⟨σ1, a1, a2, a3, a4⟩ := h w r H ρ ρ' σ _ _ gd hl rx e
    exact ⟨σ1, fun Q q => ⟨_, _, rfl, SqL.of (gd.sub _ _ hx), by rw [← rx.length]; exact hn, a1 Q q⟩, a2, a3, a4⟩
  · cases e
theorem TgD.slots {K : PySem.W.Frag} {g : TG} {t : Tg} {js : List Nat} (h : TgD K g t js) {w : Wd} {r : Rs} {H : Hp} {ρ ρ' : En} {σ : L2.St} {d : D} {v : V} (gd : Good K w r H) (s : Slots K w ρ σ) (rv : Rp K w.m w.v d v) (e : t d ρ = some ρ') :
    ∃ σ', (∀ Q : L2.St → Hp → Prop, Q σ' H → g v σ H Q) ∧ Slots K w ρ' σ' ∧ σ'.length = σ.length ∧ ∀ i, i ∉ js → σ'[i]? = σ[i]? := by
  obtain ⟨σ', h1, h2, h4, h3⟩ := h w r H ρ ρ' σ d v gd s.len rv e
  refine ⟨σ', h1, ⟨by rw [h2, h4, s.len], fun i d' e' => ?_⟩, h4, fun i hi => ?_⟩
  · rcases h3 i with ⟨q1, q2⟩ | ⟨_, e2, x, q1, q2, q3⟩
    · rw [q1] at e'
      rw [q2]
      exact s.at_ i d' e'
    · rw [q1] at e'
      cases e'
      exact ⟨x, q2, q3⟩
  · rcases h3 i with ⟨_, q2⟩ | ⟨m, _⟩
    · exact q2
    · exact absurd m hi
end
end DL

/-! DL7: comprehensions. -/
namespace DL
open PySem L2
section
variable {X : Cx} {W : WX}
abbrev W0 : WX := fun _ _ _ _ => False

/-- an unseen object of one's own is changed -/
theorem tr_own {K : PySem.W.Frag} {w w0 : Wd} {r : Rs} {H0 H : Hp} {p : Addr} {o u : HO} (g : Good K w r H) (t : Tr w0 H0 w H) (h0 : H0 p = none) (hv : w.v p = none) (hm : p ∉ w.m) (hp : H p = some o) : Tr w0 H0 w (upd H p u) ∧ Good K w r (upd H p u) := by
  refine ⟨⟨t.sub, t.pre, fun b x e n => ?_, fun b e => ?_, t.newv, t.newm, fun b xs e => ?_, t.gm, fun n a C dx fs hn ha e => ?_⟩, ⟨fun a x e => ?_, g.dis, g.len, g.nd, fun n x e => ?_, g.gv⟩⟩
  · have hne : b ≠ p := by rintro rfl; rw [h0] at e; cases e
    rw [upd_ne hne]; exact t.keep b x e n
  · by_cases hb : b = p
    · subst hb; rw [upd_same]; intro z; cases z
    · rw [upd_ne hb]; exact t.live b e
  · have hne : b ≠ p := by
      rintro rfl
      rcases e with e | ⟨y, e⟩ <;> (rw [h0] at e; cases e)
    rcases t.tups b xs e with e | ⟨y, e⟩
    · exact .inl (by rw [upd_ne hne]; exact e)
    · exact .inr ⟨y, by rw [upd_ne hne]; exact e⟩
  · have hne : a ≠ p := by rintro rfl; rw [h0] at ha; cases ha
    rw [upd_ne hne]; exact t.same n a C dx fs hn ha e
  · have hne : a ≠ p := by rintro rfl; rw [hv] at e; cases e
    rw [upd_ne hne]; exact g.sub a x e
  · obtain ⟨a, ha, q⟩ := g.at_ n x e
    have hne : a ≠ p := by rintro rfl; exact hm (List.mem_iff_getElem?.mpr ⟨n, ha⟩)
    exact ⟨a, ha, roAt_mono (.refl _) (.refl _) (upd_ne hne) q⟩

def wipeE (ρ : En) : List Nat → En
  | [] => ρ
  | v :: vs => (wipeE ρ vs).set v none
theorem wipeE_len (ρ : En) : ∀ vs, (wipeE ρ vs).length = ρ.length
  | [] => rfl
  | v :: vs => by unfold wipeE; rw [List.length_set, wipeE_len ρ vs]
theorem wipeE_some {ρ : En} {i : Nat} {x : D} : ∀ {vs : List Nat}, (wipeE ρ vs)[i]? = some (some x) → ρ[i]? = some (some x) ∧ i ∉ vs
  | [], h => ⟨h, by simp⟩
  | v :: vs, h => by
    unfold wipeE at h
    by_cases hi : v = i
    · subst hi
      by_cases hv : v < (wipeE ρ vs).length
      · rw [List.getElem?_set_self hv] at h; cases h
      · rw [List.getElem?_eq_none (by simpa using hv)] at h; cases h
    · rw [List.getElem?_set_ne hi] at h
      obtain ⟨h1, h2⟩ := wipeE_some h
      exact ⟨h1, by simp only [List.mem_cons, not_or]; exact ⟨fun e => hi e.symm, h2⟩⟩
theorem Slots.wipe {K : PySem.W.Frag} {w : Wd} {ρ : En} {σ : L2.St} (s : Slots K w ρ σ) (vs : List Nat) : Slots K w (wipeE ρ vs) (wipe σ vs) := by
  refine ⟨by rw [wipeE_len, wipe_length, s.len], fun i d e => ?_⟩
  obtain ⟨h1, h2⟩ := wipeE_some e
  rw [wipe_out h2]
  exact s.at_ i d h1
theorem wipe_in {σ : L2.St} {i : Nat} : ∀ {vs : List Nat}, i ∈ vs → i < σ.length → (wipe σ vs)[i]? = some none
  | [], h, _ => by cases h
  | v :: vs, h, hl => by
    unfold L2.wipe
    by_cases hv : v = i
    · subst hv
      exact List.getElem?_set_self (by rw [wipe_length]; exact hl)
    · rw [List.getElem?_set_ne hv]
      rcases List.mem_cons.mp h with e | h
      · exact absurd e.symm hv
      · exact wipe_in h hl
theorem wipe_eq {σ τ : L2.St} {vs : List Nat} (hl : σ.length = τ.length) (h : ∀ i, i ∉ vs → σ[i]? = τ[i]?) : wipe σ vs = wipe τ vs := by
  apply List.ext_getElem?
  intro i
  by_cases hi : i ∈ vs
  · by_cases hlt : i < σ.length
    · rw [wipe_in hi hlt, wipe_in hi (by rw [← hl]; exact hlt)]
    · rw [List.getElem?_eq_none (by rw [wipe_length]; omega), List.getElem?_eq_none (by rw [wipe_length]; omega)]
  · rw [wipe_out hi, wipe_out hi]
    exact h i hi
theorem wipe_wipe {σ : L2.St} (vs : List Nat) : wipe (wipe σ vs) vs = wipe σ vs := wipe_eq (wipe_length _ _) fun _ hi => wipe_out hi

/-- a comprehension's turns -/
def lcGo (tg : Tg) (t : Tx) (f : Ex) (ρ : En) : List D → Rs → Option (List D × Rs)
  | [], r => some ([], r)
  | d :: ds, r => (tg d ρ).bind fun ρ1 => match t ρ1 r with
    | .ok true r1 => match f ρ1 r1 with
      | .ok e r2 => (lcGo tg t f ρ ds r2).map fun p => (e :: p.1, p.2)
      | _ => none
    | .ok false r1 => lcGo tg t f ρ ds r1
    | _ => none
def xLc (it : Lx) (tg : Tg) (t : Tx) (f : Ex) (vs : List Nat) : Lx := fun ρ r => (it ρ r).bind fun ds r1 => match lcGo tg t f (wipeE ρ vs) ds r1 with
  | some p => if p.1.length ≤ lim then .ok p.1 p.2 else .bad
  | none => .bad
def xYes : Tx := fun _ r => .ok true r
def tTs (K : PySem.W.Frag) (f : Tx) : TT := tT K W0 f
theorem _root_.L2.PTs.imp {X : Cx} {e : List Expr} {t t' : TT} (h : PTs X e t) (i : ∀ σ H Q, t' σ H Q → t σ H Q) : PTs X e t' := ⟨fun pins s σ H Q I q => h.run pins s σ H Q I (i σ H Q q)⟩
theorem dts_nil : PTs X [] (tT X.K W0 xYes) := pts_nil.imp fun σ H Q ⟨ρ, r, w, gd, s, h⟩ => h.ok gd
theorem dts_one {c : Expr} {f : Tx} (h : PT X c (tT X.K W0 f)) : PTs X [c] (tT X.K W0 f) := pts_one h
structure LcInv (K : PySem.W.Frag) (w1 : Wd) (H1 : Hp) (ps : Addr) (ds es : List D) (rE : Rs) (tg : Tg) (t : Tx) (f : Ex) (ρ : En) (i : Nat) (H : Hp) : Prop where
  le : i ≤ ds.length
  ex : ∃ w r acc done rest, Tr w1 H1 w H ∧ Good K w r H ∧ w.v ps = none ∧ ps ∉ w.m ∧ H ps = some (.lst acc) ∧ Rps K w.m w.v done acc ∧ lcGo tg t f ρ (ds.drop i) r = some (rest, rE) ∧ es = done ++ rest
theorem lc_dl {K : PySem.W.Frag} {it : Lx} {g : TG} {tg : Tg} {js : List Nat} {t : Tx} {f : Ex} {vs : List Nat} (hg : TgD K g tg js) (hj : ∀ j ∈ js, j ∈ vs) {σ : L2.St} {H : Hp} {Q : VK} (h : tN K W (xLc it tg t f vs) σ H Q) :
    tLc (tI K W it) g (tT K W0 t) (tE K W0 f) vs σ H Q := by
  obtain ⟨ρ, r, w, gd, s, h⟩ := h
  refine ⟨ρ, r, w, gd, s, h.fst fun ds w1 r1 H1 _ t1 g1 q h1 J wk D hD => ?_⟩
  cases e : lcGo tg t f (wipeE ρ vs) ds r1 with
  | none => rw [e] at h1; exact h1.elim
  | some p =>
    obtain ⟨es, rE⟩ := p
    rw [e] at h1 q
    dsimp only at h1 q
    split at h1
    · rename_i hl
      have q := q es rE (if_pos hl)
      have s1 := s.mono t1
      refine ⟨fun i m H => m = ds.length - i ∧ LcInv K w1 H1 D ds es rE tg t f (wipeE ρ vs) i H, ⟨ds.length, by simp, ⟨Nat.zero_le _, ?_⟩⟩, ?_⟩
      · obtain ⟨t2, g2⟩ := tr_hid (o := .lst []) g1 hD
        exact ⟨w1, r1, [], [], es, t2, g2, g1.none_of hD, fun hm => g1.live hm hD, upd_same, .nil, by rw [List.drop_zero]; exact e, rfl⟩
      · rintro i m H' ⟨rfl, le, w', r', acc, done, rest, t', g', nv, nm, hDl, rd, hgo, hes⟩
        by_cases hlt : i < ds.length
        · refine .inr ?_
          have hd : ds[i]? = some ds[i] := List.getElem?_eq_getElem hlt
          obtain ⟨go, yl⟩ := (wk w' r' H' t'.sub t'.pre g' i).1 _ hd
          refine ⟨go, fun H2 => LcInv K w1 H1 D ds es rE tg t f (wipeE ρ vs) (i + 1) H2, fun H2 p => ⟨ds.length - (i + 1), by omega, rfl, p⟩, fun x H2 y => ?_⟩
          obtain ⟨w2, t2, g2, rx⟩ := yl x H2 y
          rw [List.drop_eq_getElem_cons hlt] at hgo
          unfold lcGo at hgo
          cases e1 : tg ds[i] (wipeE ρ vs) with
          | none => rw [e1] at hgo; cases hgo
          | some ρ1 =>
            rw [e1] at hgo
            have hgo : (match t ρ1 r' with
              | .ok true r1 => match f ρ1 r1 with
                | .ok e r2 => (lcGo tg t f (wipeE ρ vs) (ds.drop (i + 1)) r2).map fun p => (e :: p.1, p.2)
                | _ => none
              | .ok false r1 => lcGo tg t f (wipeE ρ vs) (ds.drop (i + 1)) r1
              | _ => none) = some (rest, rE) := hgo
            have sw : Slots K w2 (wipeE ρ vs) (wipe σ vs) := ((s1.mono t').mono t2).wipe vs
            obtain ⟨σ2, k1, s2, k2, k3⟩ := hg.slots g2 sw rx e1
            refine k1 _ ⟨?_, ρ1, r', w2, g2, s2, ?_⟩
            · rw [← wipe_wipe (σ := σ) vs]
              exact wipe_eq k2 fun j hj' => k3 j fun m => hj' (hj j m)
            · have t12 := t'.trans t2
              have keepD : ∀ {w3 : Wd} {H3 : Hp}, Tr w2 H2 w3 H3 → w3.v D = none ∧ D ∉ w3.m ∧ H3 D = some (.lst acc) := fun {w3 H3} t3 => by
                have a := t2.trans t3
                refine ⟨?_, fun hm => ?_, a.keep D _ hDl nm⟩
                · cases ev : w3.v D with
                  | none => rfl
                  | some o =>
                    rcases a.newv D (by rw [ev]; intro z; cases z) with z | z
                    · exact absurd nv z
                    · rw [hDl] at z; cases z
                · rcases a.newm D hm with z | z
                  · exact nm z
                  · rw [hDl] at z; cases z
              cases et : t ρ1 r' with
              | exc c fs r3 => rw [et] at hgo; cases hgo
              | bad => rw [et] at hgo; cases hgo
              | ok b r3 =>
                rw [et] at hgo
                intro w3 H3 t3 g3
                cases b with
                | false =>
                  refine iteF ⟨hlt, w3, r3, acc, done, rest, t12.trans t3, g3, (keepD t3).1, (keepD t3).2.1, (keepD t3).2.2, (t2.trans t3).rps rd, hgo, hes⟩
                | true =>
                  refine iteT ⟨ρ1, r3, w3, g3, s2.mono t3, ?_⟩
                  have hgo : (match f ρ1 r3 with
                    | .ok e r2 => (lcGo tg t f (wipeE ρ vs) (ds.drop (i + 1)) r2).map fun p => (e :: p.1, p.2)
                    | _ => none) = some (rest, rE) := hgo
                  cases ef : f ρ1 r3 with
                  | exc c fs r4 => rw [ef] at hgo; cases hgo
                  | bad => rw [ef] at hgo; cases hgo
                  | ok d r4 =>
                    rw [ef] at hgo
                    have hgo : (lcGo tg t f (wipeE ρ vs) (ds.drop (i + 1)) r4).map (fun p => (d :: p.1, p.2)) = some (rest, rE) := hgo
                    cases el : lcGo tg t f (wipeE ρ vs) (ds.drop (i + 1)) r4 with
                    | none => rw [el] at hgo; cases hgo
                    | some p =>
                      rw [el] at hgo
                      obtain ⟨rest', rE'⟩ := p
                      cases hgo
                      intro w4 H4 t4 g4 y ry
                      obtain ⟨n1, n2, n3⟩ := keepD (t3.trans t4)
                      refine ⟨acc, n3, ?_, hlt, ?_⟩
                      · rw [← rd.length]
                        have : es.length = done.length + (rest'.length + 1) := by rw [hes, List.length_append, List.length_cons]
                        exact lim_lt (by omega)
                      · have tt := (t12.trans t3).trans t4
                        obtain ⟨t5, g5⟩ := tr_own (u := .lst (acc ++ [y])) g4 tt hD n1 n2 n3
                        refine ⟨w4, r4, acc ++ [y], done ++ [d], rest', t5, g5, n1, n2, upd_same, ?_, el, by rw [hes, List.append_assoc]; rfl⟩
                        exact (((t2.trans t3).trans t4).rps rd).append (.cons ry .nil)
        · have ei : i = ds.length := by omega
          subst ei
          refine .inl ⟨(wk w' r' H' t'.sub t'.pre g' ds.length).2 (Nat.le_refl _), ?_⟩
          rw [List.drop_length] at hgo
          cases hgo
          rw [List.append_nil] at hes
          subst hes
          exact q w' H' (t1.trans t') g' D ⟨t1.fresh hD, nv, nm, acc, hDl, rd⟩
    · exact h1.elim
section
variable {elt tg iter : Expr} {ifs : List Expr} {scope : Scope} {own : List (Str × Nat)} {pos : Pos} {it : Lx} {g : TG} {dt : Tg} {js : List Nat} {t : Tx} {f : Ex}
theorem dn_lc (hc : X.calm = true) (hN : X.N.Nodup) (hi : PI X tg iter (tI X.K W it)) (ok : BlkOk X.N X.env.scope scope own) (hd : TgD X.K g dt js) (hj : ∀ j ∈ js, j ∈ own.map (·.2))
    (hg : ∀ (s : Shared) (H : Hp) (C : Addr) (cl : List (Str × Addr)) (fp : List Addr), PG (X.blk s H scope (compEnvC scope cl C X.env) fp) tg g) (ht : ∀ (s : Shared) (H : Hp) (C : Addr) (cl : List (Str × Addr)) (fp : List Addr), PTs (X.blk s H scope (compEnvC scope cl C X.env) fp) ifs (tT X.K W0 t))
    (he : ∀ (s : Shared) (H : Hp) (C : Addr) (cl : List (Str × Addr)) (fp : List Addr), PE (X.blk s H scope (compEnvC scope cl C X.env) fp) elt (tE X.K W0 f)) (hs : ∀ x, foldedSetIterable iter X.env x = pure x := by intro _; rfl) :
    PE X (.ListComp elt [⟨tg, iter, ifs, 0⟩] scope pos) (tN X.K W (xLc it dt t f (own.map (·.2)))) :=
  (pe_lc hc hN hi ok hg ht he hs).imp fun σ H Q h => lc_dl hd hj h
theorem dn_setLc {i : Nat} {y : Str} {py spos : Pos} (hc : X.calm = true) (hN : X.N.Nodup) (hy : X.N[i]? = some y) (hyl : X.env.scope.names.lookup y = some .local)
    (hsw : swapsWith (.ListComp elt [⟨tg, iter, ifs, 0⟩] scope pos) (some (.Name y py)) spos.line X.env = pure true) (hi : PI X tg iter (tI X.K W it)) (ok : BlkOk X.N X.env.scope scope own) (hd : TgD X.K g dt js) (hj : ∀ j ∈ js, j ∈ own.map (·.2))
    (hg : ∀ (s : Shared) (H : Hp) (C : Addr) (cl : List (Str × Addr)) (fp : List Addr), PG (X.blk s H scope (compEnvC scope cl C X.env) fp) tg g) (ht : ∀ (s : Shared) (H : Hp) (C : Addr) (cl : List (Str × Addr)) (fp : List Addr), PTs (X.blk s H scope (compEnvC scope cl C X.env) fp) ifs (tT X.K W0 t))
    (he : ∀ (s : Shared) (H : Hp) (C : Addr) (cl : List (Str × Addr)) (fp : List Addr), PE (X.blk s H scope (compEnvC scope cl C X.env) fp) elt (tE X.K W0 f)) (hs : ∀ x, foldedSetIterable iter X.env x = pure x := by intro _; rfl) :
    PS X (.Assign [.Name y py] (.ListComp elt [⟨tg, iter, ifs, 0⟩] scope pos) spos) (tAsg (tN X.K W (xLc it dt t f (own.map (·.2)))) (gName i)) :=
  (ps_setLc hc hN hy hyl hsw hi ok hg ht he hs).imp fun D σ H h => lc_dl hd hj h
end
end
end DL

/-! DL8: statements. -/
namespace DL
open PySem L2

structure Ent where
  w : Wd
  H : Hp
/-- an object of one's own, unseen -/
def OwnD (K : PySem.W.Frag) (w : Wd) (H : Hp) (p : Addr) : D → Prop
  | .lst ds => ∃ xs, H p = some (.lst xs) ∧ Rps K w.m w.v ds xs
  | .dic ds => ∃ xs, H p = some (.dK xs) ∧ Rpk K w.m w.v ds xs
  | _ => False
theorem OwnD.live {K : PySem.W.Frag} {w : Wd} {H : Hp} {p : Addr} {d : D} (h : OwnD K w H p d) : ∃ o, H p = some o ∧ ∀ xs, ¬ Rd H p (.tup xs) := by
  cases d <;> try exact h.elim
  · obtain ⟨xs, e, _⟩ := h
    exact ⟨_, e, fun ys z => by rcases z with z | ⟨u, z⟩ <;> (rw [e] at z; cases z)⟩
  · obtain ⟨xs, e, _⟩ := h
    exact ⟨_, e, fun ys z => by rcases z with z | ⟨u, z⟩ <;> (rw [e] at z; cases z)⟩
theorem OwnD.mono {K : PySem.W.Frag} {w w' : Wd} {H H' : Hp} {p : Addr} {d : D} (h : OwnD K w H p d) (s : Sub w.v w'.v) (q : Pre w.m w'.m) (e : H' p = H p) : OwnD K w' H' p d := by
  cases d <;> try exact h.elim
  · obtain ⟨xs, e1, r⟩ := h
    exact ⟨xs, e.trans e1, r.mono s q⟩
  · obtain ⟨xs, e1, r⟩ := h
    exact ⟨xs, e.trans e1, r.mono s q⟩
/-- the state between statements: O the slots that hold objects of one's own -/
structure SIw (K : PySem.W.Frag) (E : Ent) (lo : Wd) (O : List Nat) (ρ : En) (r : Rs) (σ : St) (H : Hp) (w : Wd) : Prop where
  tr : Tr E.w E.H w H
  los : Sub lo.v w.v
  lop : Pre lo.m w.m
  gd : Good K w r H
  len : ρ.length = σ.length
  fr : ∀ (i : Nat) (d : D), ρ[i]? = some (some d) → i ∉ O → ∃ v, σ[i]? = some (some v) ∧ Rp K w.m w.v d v
  ow : ∀ (i : Nat) (d : D), ρ[i]? = some (some d) → i ∈ O → ∃ p, σ[i]? = some (some (.ref p)) ∧ OwnD K w H p d ∧ w.v p = none ∧ p ∉ w.m ∧ E.H p = none
  dj : ∀ (i j : Nat) (d e : D) (p : Addr), i ∈ O → j ∈ O → i ≠ j → ρ[i]? = some (some d) → ρ[j]? = some (some e) → σ[i]? = some (some (.ref p)) → σ[j]? ≠ some (some (.ref p))
def SI (K : PySem.W.Frag) (E : Ent) (lo : Wd) (O : List Nat) (ρ : En) (r : Rs) (σ : St) (H : Hp) : Prop := ∃ w, SIw K E lo O ρ r σ H w
section
variable {K : PySem.W.Frag} {E : Ent} {lo lo' : Wd} {O : List Nat} {ρ : En} {r r' : Rs} {σ : St} {H H' : Hp} {w w' : Wd}
theorem SI.lower (h : SI K E lo O ρ r σ H) (a : Sub lo'.v lo.v) (b : Pre lo'.m lo.m) : SI K E lo' O ρ r σ H := by
  obtain ⟨w, s⟩ := h
  exact ⟨w, s.tr, a.trans s.los, b.trans s.lop, s.gd, s.len, s.fr, s.ow, s.dj⟩
theorem SIw.slots (s : SIw K E lo O ρ r σ H w) : Slots K w (wipeE ρ O) σ := by
  refine ⟨by rw [wipeE_len]; exact s.len, fun i d e => ?_⟩
  obtain ⟨h1, h2⟩ := wipeE_some e
  exact s.fr i d h1 h2
theorem own_keep (t : Tr w H w' H') {p : Addr} {o : HO} (hp : H p = some o) (hv : w.v p = none) (hm : p ∉ w.m) : H' p = H p ∧ w'.v p = none ∧ p ∉ w'.m := by
  refine ⟨(t.keep p o hp hm).trans hp.symm, ?_, fun z => ?_⟩
  · cases e : w'.v p with
    | none => rfl
    | some u =>
      rcases t.newv p (by rw [e]; intro z; cases z) with z | z
      · exact absurd hv z
      · rw [hp] at z; cases z
  · rcases t.newm p z with z | z
    · exact hm z
    · rw [hp] at z; cases z
/-- behind an expression that saw no object of one's own -/
theorem SIw.step (s : SIw K E lo O ρ r σ H w) (t : Tr w H w' H') (g : Good K w' r' H') : SIw K E lo O ρ r' σ H' w' where
  tr := s.tr.trans t
  los := s.los.trans t.sub
  lop := s.lop.trans t.pre
  gd := g
  len := s.len
  fr := fun i d e ho => by
    obtain ⟨v, h1, h2⟩ := s.fr i d e ho
    exact ⟨v, h1, t.rp h2⟩
  ow := fun i d e ho => by
    obtain ⟨p, h1, h2, h3, h4, h5⟩ := s.ow i d e ho
    obtain ⟨o, hp, _⟩ := h2.live
    obtain ⟨k1, k2, k3⟩ := own_keep t hp h3 h4
    exact ⟨p, h1, h2.mono t.sub t.pre k1, k2, k3, h5⟩
  dj := s.dj
/-- the addresses of one's own objects -/
def Own (O : List Nat) (ρ : En) (σ : St) (b : Addr) : Prop := ∃ i ∈ O, (∃ d, ρ[i]? = some (some d)) ∧ σ[i]? = some (some (.ref b))
noncomputable instance ownDec (O : List Nat) (ρ : En) (σ : St) (b : Addr) : Decidable (Own O ρ σ b) := Classical.propDecidable _
noncomputable def visW (w : Wd) (O : List Nat) (ρ : En) (σ : St) (H : Hp) : Wd := ⟨w.m, fun b => if Own O ρ σ b then H b else w.v b, w.g⟩
noncomputable def hidW (w : Wd) (O : List Nat) (ρ : En) (σ : St) : Wd := ⟨w.m, fun b => if Own O ρ σ b then none else w.v b, w.g⟩
/-- no instance was written -/
def verOk : Rs → Rs → Bool
  | .obj i _ _ :: r, .obj j _ _ :: r1 => i == j && verOk r r1
  | .obj _ _ _ :: _, _ => false
  | .lst _ :: r, x :: r1 => !x.isObj && verOk r r1
  | .dic _ :: r, x :: r1 => !x.isObj && verOk r r1
  | [], r1 => r1.all fun x => !x.isObj
  | _ :: _, [] => false
def mixR : Rs → Rs → Rs
  | .obj i c fs :: r, _ :: r1 => .obj i c fs :: mixR r r1
  | .lst _ :: r, x :: r1 => x :: mixR r r1
  | .dic _ :: r, x :: r1 => x :: mixR r r1
  | [], r1 => r1
  | _ :: _, [] => []
theorem verOk_self : ∀ r : Rs, verOk r r = true
  | [] => rfl
  | .obj i _ _ :: r => by rw [verOk, verOk_self r]; simp
  | .lst _ :: r => by rw [verOk, verOk_self r]; rfl
  | .dic _ :: r => by rw [verOk, verOk_self r]; rfl
theorem mixR_self : ∀ r : Rs, mixR r r = r
  | [] => rfl
  | .obj i _ _ :: r => by rw [mixR, mixR_self r]
  | .lst _ :: r => by rw [mixR, mixR_self r]
  | .dic _ :: r => by rw [mixR, mixR_self r]
theorem mixR_len : ∀ {r r1 : Rs}, verOk r r1 = true → (mixR r r1).length = r1.length
  | [], r1, _ => by rw [mixR]
  | .obj i c fs :: r, [], h => by simp [verOk] at h
  | .lst _ :: r, [], h => by simp [verOk] at h
  | .dic _ :: r, [], h => by simp [verOk] at h
  | .obj i c fs :: r, .obj j _ _ :: r1, h => by
    rw [verOk, Bool.and_eq_true] at h
    rw [mixR, List.length_cons, List.length_cons, mixR_len h.2]
  | .obj i c fs :: r, .lst _ :: r1, h => by simp [verOk] at h
  | .obj i c fs :: r, .dic _ :: r1, h => by simp [verOk] at h
  | .lst _ :: r, x :: r1, h => by
    rw [verOk, Bool.and_eq_true] at h
    rw [mixR, List.length_cons, List.length_cons, mixR_len h.2]
  | .dic _ :: r, x :: r1, h => by
    rw [verOk, Bool.and_eq_true] at h
    rw [mixR, List.length_cons, List.length_cons, mixR_len h.2]
/-- each thing of the mix: an instance of before, unchanged, or no instance, of now -/
theorem mixR_get : ∀ {r r1 : Rs} {n : Nat} {o : RO}, verOk r r1 = true → (mixR r r1)[n]? = some o →
    (∃ i c fs c' fs', o = .obj i c fs ∧ r[n]? = some o ∧ r1[n]? = some (.obj i c' fs')) ∨ (o.isObj = false ∧ r1[n]? = some o)
  | [], r1, n, o, h, e => by
    rw [mixR] at e
    rw [verOk, List.all_eq_true] at h
    have := h o (List.mem_iff_getElem?.mpr ⟨n, e⟩)
    exact .inr ⟨by simpa using this, e⟩
  | .obj i c fs :: r, [], n, o, h, e => by simp [verOk] at h
  | .lst _ :: r, [], n, o, h, e => by simp [verOk] at h
  | .dic _ :: r, [], n, o, h, e => by simp [verOk] at h
  | .obj i c fs :: r, .lst _ :: r1, n, o, h, e => by simp [verOk] at h
  | .obj i c fs :: r, .dic _ :: r1, n, o, h, e => by simp [verOk] at h
  | .obj i c fs :: r, .obj j c' fs' :: r1, n, o, h, e => by
    rw [verOk, Bool.and_eq_true, beq_iff_eq] at h
    obtain ⟨rfl, h⟩ := h
    rw [mixR] at e
    cases n with
    | zero =>
      simp only [List.getElem?_cons_zero, Option.some.injEq] at e
      subst e
      exact .inl ⟨i, c, fs, c', fs', rfl, rfl, rfl⟩
    | succ n =>
      simp only [List.getElem?_cons_succ] at e ⊢
      exact mixR_get h e
  | .lst _ :: r, x :: r1, n, o, h, e => by
    rw [verOk, Bool.and_eq_true] at h
    rw [mixR] at e
    cases n with
    | zero =>
      simp only [List.getElem?_cons_zero, Option.some.injEq] at e ⊢
      subst e
      exact .inr ⟨by simpa using h.1, rfl⟩
    | succ n =>
      simp only [List.getElem?_cons_succ] at e ⊢
      exact mixR_get h.2 e
  | .dic _ :: r, x :: r1, n, o, h, e => by
    rw [verOk, Bool.and_eq_true] at h
    rw [mixR] at e
    cases n with
    | zero =>
      simp only [List.getElem?_cons_zero, Option.some.injEq] at e ⊢
      subst e
      exact .inr ⟨by simpa using h.1, rfl⟩
    | succ n =>
      simp only [List.getElem?_cons_succ] at e ⊢
      exact mixR_get h.2 e
theorem SIw.own (s : SIw K E lo O ρ r σ H w) {b : Addr} (h : Own O ρ σ b) : (∃ o, H b = some o ∧ ∀ xs, ¬ Rd H b (.tup xs)) ∧ w.v b = none ∧ b ∉ w.m ∧ E.H b = none := by
  obtain ⟨i, hi, ⟨d, hd⟩, hs⟩ := h
  obtain ⟨p, h1, h2, h3, h4, h5⟩ := s.ow i d hd hi
  rw [hs] at h1
  cases h1
  exact ⟨h2.live, h3, h4, h5⟩
theorem SIw.vis_sub (s : SIw K E lo O ρ r σ H w) : Sub w.v (visW w O ρ σ H).v := fun a o e => by
  have hn : ¬ Own O ρ σ a := fun z => by rw [(s.own z).2.1] at e; cases e
  show (if Own O ρ σ a then H a else w.v a) = some o
  rw [if_neg hn]; exact e
theorem SIw.all (s : SIw K E lo O ρ r σ H w) : Good K (visW w O ρ σ H) r H ∧ Slots K (visW w O ρ σ H) ρ σ ∧
    ∀ (w1 : Wd) (H1 : Hp) (r1 : Rs), verOk r r1 = true → Tr (visW w O ρ σ H) H w1 H1 → Good K w1 r1 H1 → Tr w H (hidW w1 O ρ σ) H1 ∧ Good K (hidW w1 O ρ σ) (mixR r r1) H1 ∧ SubT w1.v (hidW w1 O ρ σ).v := by
  refine ⟨⟨fun a o e => ?_, fun a ha => ?_, s.gd.len, s.gd.nd, fun n o e => ?_, s.gd.gv⟩, ⟨s.len, fun i d e => ?_⟩, fun w1 H1 r1 vo t g => ?_⟩
  · have e' : (if Own O ρ σ a then H a else w.v a) = some o := e
    split at e'
    · exact e'
    · exact s.gd.sub a o e'
  · have hn : ¬ Own O ρ σ a := fun z => (s.own z).2.2.1 ha
    show (if Own O ρ σ a then H a else w.v a) = none
    rw [if_neg hn]; exact s.gd.dis a ha
  · obtain ⟨a, ha, x⟩ := s.gd.at_ n o e
    exact ⟨a, ha, roAt_mono s.vis_sub (.refl _) rfl x⟩
  · by_cases ho : i ∈ O
    · obtain ⟨p, h1, h2, h3, h4, h5⟩ := s.ow i d e ho
      have hp : Own O ρ σ p := ⟨i, ho, ⟨d, e⟩, h1⟩
      have ev : (visW w O ρ σ H).v p = H p := if_pos hp
      refine ⟨_, h1, ?_⟩
      cases d <;> try exact h2.elim
      · obtain ⟨xs, e1, q⟩ := h2
        exact .lst (ev.trans e1) (q.mono s.vis_sub (.refl _))
      · obtain ⟨xs, e1, q⟩ := h2
        exact .dic (ev.trans e1) (q.mono s.vis_sub (.refl _))
    · obtain ⟨v, h1, h2⟩ := s.fr i d e ho
      exact ⟨v, h1, h2.mono s.vis_sub (.refl _)⟩
  · have keepO : ∀ b, Own O ρ σ b → H1 b = H b ∧ b ∉ w1.m := fun b z => by
      obtain ⟨⟨o, ho, _⟩, hv, hm, _⟩ := s.own z
      refine ⟨(t.keep b o ho hm).trans ho.symm, fun q => ?_⟩
      rcases t.newm b q with q | q
      · exact hm q
      · rw [ho] at q; cases q
    have hT : SubT w1.v (hidW w1 O ρ σ).v := fun b xs q => by
      have hn : ¬ Own O ρ σ b := fun z => by
        obtain ⟨⟨o, ho, nt⟩, _⟩ := s.own z
        have q1 := g.sub.rd q
        rcases q1 with q1 | ⟨u, q1⟩
        · exact nt xs (.inl (by rw [← (keepO b z).1]; exact q1))
        · exact nt xs (.inr ⟨u, by rw [← (keepO b z).1]; exact q1⟩)
      have ev : (hidW w1 O ρ σ).v b = w1.v b := if_neg hn
      rcases q with q | ⟨u, q⟩
      · exact .inl (ev.trans q)
      · exact .inr ⟨u, ev.trans q⟩
    have sub1 : Sub w.v (hidW w1 O ρ σ).v := fun b o e => by
      have hn : ¬ Own O ρ σ b := fun z => by rw [(s.own z).2.1] at e; cases e
      have ev : (hidW w1 O ρ σ).v b = w1.v b := if_neg hn
      rw [ev]
      exact t.sub b o (s.vis_sub b o e)
    refine ⟨⟨sub1, t.pre, t.keep, t.live, fun b e => ?_, t.newm, t.tups, t.gm, t.same⟩, ⟨fun b o e => ?_, fun b hb => ?_, by rw [mixR_len vo]; exact g.len, g.nd, fun n o e => ?_, fun n i c fs e => ?_⟩, hT⟩
    · have e' : (if Own O ρ σ b then none else w1.v b) ≠ none := e
      split at e'
      · exact absurd rfl e'
      · rename_i hn
        rcases t.newv b e' with z | z
        · have ev : (visW w O ρ σ H).v b = w.v b := if_neg hn
          rw [ev] at z
          exact .inl z
        · exact .inr z
    · have e' : (if Own O ρ σ b then none else w1.v b) = some o := e
      split at e'
      · cases e'
      · exact g.sub b o e'
    · show (if Own O ρ σ b then none else w1.v b) = none
      split
      · rfl
      · exact g.dis b hb
    · rcases mixR_get vo e with ⟨i, c, fs, c', fs', rfl, e1, e2⟩ | ⟨no, e1⟩
      · obtain ⟨a, ha, x⟩ := s.gd.at_ n _ e1
        have eg : w1.g n = w.g n := (g.gv n i c' fs' e2).trans (s.gd.gv n i c fs e1).symm
        have x' := x
        obtain ⟨dx, vs, hx, _⟩ := x'
        exact ⟨a, t.pre n a ha, roAt_mono sub1 t.pre (t.same n a _ _ _ ha hx eg) x⟩
      · obtain ⟨a, ha, x⟩ := g.at_ n o e1
        exact ⟨a, ha, roAt_monoI no hT (.refl _) rfl x⟩
    · rcases mixR_get vo e with ⟨i', c1, fs1, c', fs', e0, e1, e2⟩ | ⟨no, e1⟩
      · cases e0
        exact g.gv n i c' fs' e2
      · cases no
end

/-! ### outcomes of statements -/
inductive SOut where
  | next (ρ : En) (r : Rs)
  | ret (d : D) (r : Rs)
  | brk (ρ : En) (r : Rs)
  | cont (ρ : En) (r : Rs)
  | exc (c : Nat) (fs : List (Str × Int)) (ρ : En) (r : Rs)
  | bad
abbrev Sx := En → Rs → SOut
/-- what is known of a def's answer; fr: a list is new -/
def PostD (K : PySem.W.Frag) (fr : Bool) (H0 : Hp) (w : Wd) (H : Hp) (d : D) (v : V) : Prop := match fr, d with
  | true, .lst ds => ∃ p, v = .ref p ∧ NewL K w H0 H ds p
  | true, .dic ds => ∃ p, v = .ref p ∧ NewD K w H0 H ds p
  | _, _ => Rp K w.m w.v d v
structure Sc where
  K : PySem.W.Frag
  W : WX
  E : Ent
  fr : Bool
  O : List Nat
def AfterS (c : Sc) (lo : Wd) (D : Ends) : SOut → Prop
  | .next ρ r => ∀ σ H, SI c.K c.E lo c.O ρ r σ H → D.nx σ H
  | .brk ρ r => ∀ σ H, SI c.K c.E lo c.O ρ r σ H → D.bk σ H
  | .cont ρ r => ∀ σ H, SI c.K c.E lo c.O ρ r σ H → D.ct σ H
  | .ret d r => ∀ w H v, Tr c.E.w c.E.H w H → Good c.K w r H → PostD c.K c.fr c.E.H w H d v → D.rt v H
  | .exc x fs ρ r => ∀ σ H cls dd, SI c.K c.E lo c.O ρ r σ H → ExcAt c.K x fs cls dd H → c.W cls dd σ H
  | .bad => False
def tS (c : Sc) (g : Sx) : TS := fun D σ H => ∃ ρ r lo, SI c.K c.E lo c.O ρ r σ H ∧ AfterS c lo D (g ρ r)
def SOut.bind (o : SOut) (g : Sx) : SOut := match o with
  | .next ρ r => g ρ r
  | o => o
def sSeq (f g : Sx) : Sx := fun ρ r => (f ρ r).bind g
def sNext : Sx := fun ρ r => .next ρ r
section
variable {X : Cx} {c : Sc} {st : Stmt} {rest body orelse : List Stmt} {f g h : Sx} {pos : Pos}
theorem AfterS.bind {lo : Wd} {D : Ends} {o : SOut} (h : AfterS c lo D (o.bind g)) : AfterS c lo { D with nx := tS c g D } o := by
  cases o with
  | next ρ r => exact fun σ H s => ⟨ρ, r, lo, s, h⟩
  | _ => exact h
theorem dss_nil : PSs X [] (tS c sNext) := pss_nil.imp fun D σ H ⟨ρ, r, lo, s, h⟩ => h σ H s
theorem dss_cons (h1 : PS X st (tS c f)) (h2 : PSs X rest (tS c g)) : PSs X (st :: rest) (tS c (sSeq f g)) := (pss_cons h1 h2).imp fun D σ H ⟨ρ, r, lo, s, h⟩ => ⟨ρ, r, lo, s, h.bind⟩
theorem dss_one (h1 : PS X st (tS c f)) : PSs X [st] (tS c f) := pss_one h1
theorem ds_pass : PS X (.Pass pos) (tS c sNext) := ps_pass.imp fun D σ H ⟨ρ, r, lo, s, h⟩ => h σ H s
def sBrk : Sx := fun ρ r => .brk ρ r
def sCont : Sx := fun ρ r => .cont ρ r
theorem ds_break : PS X (.Break pos) (tS c sBrk) := ps_break.imp fun D σ H ⟨ρ, r, lo, s, h⟩ => h σ H s
theorem ds_continue : PS X (.Continue pos) (tS c sCont) := ps_continue.imp fun D σ H ⟨ρ, r, lo, s, h⟩ => h σ H s
/-- an exception of an expression -/
theorem exc_after {lo : Wd} {D : Ends} {α : Type} {w w' : Wd} {H : Hp} {σ : St} {ρ : En} {r : Rs} {x : Nat} {fs : List (Str × Int)} {r1 : Rs} {Q : α → Wd → Rs → Hp → Prop} (s : SIw c.K c.E lo c.O ρ r σ H w)
    (h : AfterS c lo D (.exc x fs ρ r1)) : After c.K c.W w H σ (Out.exc (α := α) x fs r1) Q := fun w' H' cls dd t g e => h σ H' cls dd ⟨w', s.step t g⟩ e
/-- an expression that sees no object of one's own -/
def evF {α : Type} (O : List Nat) (f : En → Rs → Out α) (k : α → En → Rs → SOut) : Sx := fun ρ r => match f (wipeE ρ O) r with
  | .ok a r1 => k a ρ r1
  | .exc x fs r1 => .exc x fs ρ r1
  | .bad => .bad
/-- one that sees all -/
def evI {α : Type} (f : En → Rs → Out α) (k : α → En → Rs → SOut) : Sx := fun ρ r => match f ρ r with
  | .ok a r1 => if verOk r r1 = true then k a ρ (mixR r r1) else .bad
  | .exc x fs r1 => if verOk r r1 = true then .exc x fs ρ (mixR r r1) else .bad
  | .bad => .bad
theorem evF_dl {α : Type} {f : En → Rs → Out α} {k : α → En → Rs → SOut} {D : Ends} {σ : St} {H : Hp} {Q : α → Wd → Rs → Hp → Prop} {ρ : En} {r : Rs} {lo w : Wd} (s : SIw c.K c.E lo c.O ρ r σ H w) (h : AfterS c lo D (evF c.O f k ρ r))
    (q : ∀ a r1 w1 H1, Tr w H w1 H1 → SIw c.K c.E lo c.O ρ r1 σ H1 w1 → AfterS c lo D (k a ρ r1) → Q a w1 r1 H1) : After c.K c.W w H σ (f (wipeE ρ c.O) r) Q := by
  unfold evF at h
  revert h
  generalize f (wipeE ρ c.O) r = o
  intro h
  cases o with
  | ok a r1 => exact fun w1 H1 t g => q a r1 w1 H1 t (s.step t g) h
  | exc x fs r1 => exact fun w1 H1 cls dd t g e => h σ H1 cls dd ⟨w1, s.step t g⟩ e
  | bad => exact h
theorem evI_dl {α : Type} {f : En → Rs → Out α} {k : α → En → Rs → SOut} {D : Ends} {σ : St} {H : Hp} {Q : α → Wd → Rs → Hp → Prop} {ρ : En} {r : Rs} {lo w : Wd} (s : SIw c.K c.E lo c.O ρ r σ H w) (h : AfterS c lo D (evI f k ρ r))
    (q : ∀ a r1 r2 w1 H1, Tr (visW w c.O ρ σ H) H w1 H1 → Good c.K w1 r1 H1 → SIw c.K c.E lo c.O ρ r2 σ H1 (hidW w1 c.O ρ σ) → SubT w1.v (hidW w1 c.O ρ σ).v → AfterS c lo D (k a ρ r2) → Q a w1 r1 H1) : After c.K c.W (visW w c.O ρ σ H) H σ (f ρ r) Q := by
  obtain ⟨_, _, u⟩ := s.all
  unfold evI at h
  revert h
  generalize f ρ r = o
  intro h
  cases o with
  | ok a r1 =>
    intro w1 H1 t g
    dsimp only at h
    split at h
    · rename_i vo
      obtain ⟨t1, g1, st⟩ := u w1 H1 r1 vo t g
      exact q a r1 _ w1 H1 t g (s.step t1 g1) st h
    · exact h.elim
  | exc x fs r1 =>
    intro w1 H1 cls dd t g e
    dsimp only at h
    split at h
    · rename_i vo
      obtain ⟨t1, g1, st⟩ := u w1 H1 r1 vo t g
      exact h σ H1 cls dd ⟨_, s.step t1 g1⟩ e
    · exact h.elim
  | bad => exact h
theorem evI_dl2 {α : Type} {f : En → Rs → Out α} {k : α → En → Rs → SOut} {D : Ends} {σ : St} {H : Hp} {Q : α → Wd → Rs → Hp → Prop} {ρ : En} {r : Rs} {lo w : Wd} (s : SIw c.K c.E lo c.O ρ r σ H w) (h : AfterS c lo D (evI f k ρ r))
    (q : ∀ a r1 r2 w1 H1, Tr w H (hidW w1 c.O ρ σ) H1 → Tr (visW w c.O ρ σ H) H w1 H1 → Good c.K w1 r1 H1 → SIw c.K c.E lo c.O ρ r2 σ H1 (hidW w1 c.O ρ σ) → SubT w1.v (hidW w1 c.O ρ σ).v → AfterS c lo D (k a ρ r2) → Q a w1 r1 H1) : After c.K c.W (visW w c.O ρ σ H) H σ (f ρ r) Q := by
  obtain ⟨_, _, u⟩ := s.all
  unfold evI at h
  revert h
  generalize f ρ r = o
  intro h
  cases o with
  | ok a r1 =>
    intro w1 H1 t g
    dsimp only at h
    split at h
    · rename_i vo
      obtain ⟨t1, g1, st⟩ := u w1 H1 r1 vo t g
      exact q a r1 _ w1 H1 t1 t g (s.step t1 g1) st h
    · exact h.elim
  | exc x fs r1 =>
    intro w1 H1 cls dd t g e
    dsimp only at h
    split at h
    · rename_i vo
      obtain ⟨t1, g1, st⟩ := u w1 H1 r1 vo t g
      exact h σ H1 cls dd ⟨_, s.step t1 g1⟩ e
    · exact h.elim
  | bad => exact h
end
end DL

/-! DL9: the rules of statements; a def's promise. -/
namespace DL
open PySem L2

section
variable {K : PySem.W.Frag} {E : Ent} {lo : Wd} {O : List Nat} {ρ ρ' : En} {r r' : Rs} {σ σ' : St} {H H' : Hp} {w w' : Wd}
/-- slots stored into that are not one's own -/
theorem SIw.store {js : List Nat} (s : SIw K E lo O ρ r σ H w) (hl : ρ'.length = ρ.length) (hl' : σ'.length = σ.length) (hj : ∀ j ∈ js, j ∉ O)
    (h : ∀ i : Nat, (ρ'[i]? = ρ[i]? ∧ σ'[i]? = σ[i]?) ∨ (i ∈ js ∧ ∃ e x, ρ'[i]? = some (some e) ∧ σ'[i]? = some (some x) ∧ Rp K w.m w.v e x)) : SIw K E lo O ρ' r σ' H w where
  tr := s.tr
  los := s.los
  lop := s.lop
  gd := s.gd
  len := by rw [hl, hl', s.len]
  fr := fun i d e ho => by
    rcases h i with ⟨q1, q2⟩ | ⟨_, e2, x, q1, q2, q3⟩
    · rw [q1] at e
      rw [q2]
      exact s.fr i d e ho
    · rw [q1] at e
      cases e
      exact ⟨x, q2, q3⟩
  ow := fun i d e ho => by
    rcases h i with ⟨q1, q2⟩ | ⟨m, _⟩
    · rw [q1] at e
      rw [q2]
      exact s.ow i d e ho
    · exact absurd ho (hj i m)
  dj := fun i j d e p hi hj' hne h1 h2 h3 => by
    rcases h i with ⟨q1, q2⟩ | ⟨m, _⟩
    · rcases h j with ⟨p1, p2⟩ | ⟨m, _⟩
      · rw [q1] at h1
        rw [q2] at h3
        rw [p1] at h2
        rw [p2]
        exact s.dj i j d e p hi hj' hne h1 h2 h3
      · exact absurd hj' (hj j m)
    · exact absurd hi (hj i m)
/-- a slot forgotten -/
theorem SIw.forget (s : SIw K E lo O ρ r σ H w) (i : Nat) : SIw K E lo O (ρ.set i none) r σ H w := by
  have back : ∀ {j : Nat} {d : D}, (ρ.set i none)[j]? = some (some d) → ρ[j]? = some (some d) := fun {j d} e => by
    by_cases hj : i = j
    · subst hj
      by_cases hl : i < ρ.length
      · rw [List.getElem?_set_self hl] at e; cases e
      · rw [List.getElem?_eq_none (by simpa using hl)] at e; cases e
    · rwa [List.getElem?_set_ne hj] at e
  exact ⟨s.tr, s.los, s.lop, s.gd, by rw [List.length_set]; exact s.len, fun j d e ho => s.fr j d (back e) ho, fun j d e ho => s.ow j d (back e) ho, fun a b d e p ha hb hne h1 h2 h3 => s.dj a b d e p ha hb hne (back h1) (back h2) h3⟩
/-- an own slot gets an own object -/
theorem SIw.setOwn {i : Nat} {d : D} {p : Addr} (s : SIw K E lo O ρ r σ H w) (hi : i ∈ O) (hil : i < ρ.length) (ho : OwnD K w H p d) (hv : w.v p = none) (hm : p ∉ w.m) (hE : E.H p = none)
    (hne : ∀ j e, j ∈ O → j ≠ i → ρ[j]? = some (some e) → σ[j]? ≠ some (some (.ref p))) : SIw K E lo O (ρ.set i (some d)) r (σ.set i (some (.ref p))) H w := by
  have hil' : i < σ.length := by rw [← s.len]; exact hil
  refine ⟨s.tr, s.los, s.lop, s.gd, by rw [List.length_set, List.length_set]; exact s.len, fun j e q hj => ?_, fun j e q hj => ?_, fun a b e1 e2 q ha hb hab h1 h2 h3 => ?_⟩
  · have hji : i ≠ j := by rintro rfl; exact hj hi
    rw [List.getElem?_set_ne hji] at q ⊢
    exact s.fr j e q hj
  · by_cases hji : i = j
    · subst hji
      rw [List.getElem?_set_self hil] at q
      cases q
      exact ⟨p, List.getElem?_set_self hil', ho, hv, hm, hE⟩
    · rw [List.getElem?_set_ne hji] at q ⊢
      exact s.ow j e q hj
  · by_cases hai : i = a
    · subst hai
      rw [List.getElem?_set_self hil'] at h3
      cases h3
      rw [List.getElem?_set_ne hab] at h2 ⊢
      exact hne b e2 hb (Ne.symm hab) h2
    · rw [List.getElem?_set_ne hai] at h1 h3
      by_cases hbi : i = b
      · subst hbi
        rw [List.getElem?_set_self hil']
        intro z
        cases z
        exact hne a e1 ha (Ne.symm hai) h1 h3
      · rw [List.getElem?_set_ne hbi] at h2 ⊢
        exact s.dj a b e1 e2 q ha hb hab h1 h2 h3
/-- an own object is changed -/
theorem SIw.mut {i : Nat} {d d' : D} {p : Addr} {o : HO} (s : SIw K E lo O ρ r σ H w) (hi : i ∈ O) (hρ : ρ[i]? = some (some d)) (hσ : σ[i]? = some (some (.ref p))) (ho : OwnD K w (upd H p o) p d') : SIw K E lo O (ρ.set i (some d')) r σ (upd H p o) w := by
  obtain ⟨p', h1, h2, h3, h4, h5⟩ := s.ow i d hρ hi
  rw [hσ] at h1
  cases h1
  obtain ⟨u, hu, _⟩ := h2.live
  obtain ⟨t, g⟩ := tr_own (u := o) s.gd s.tr h5 h3 h4 hu
  have hil : i < ρ.length := (List.getElem?_eq_some_iff.mp hρ).1
  refine ⟨t, s.los, s.lop, g, by rw [List.length_set]; exact s.len, fun j e q hj => ?_, fun j e q hj => ?_, fun a b e1 e2 q ha hb hab k1 k2 k3 => ?_⟩
  · have hji : i ≠ j := by rintro rfl; exact hj hi
    rw [List.getElem?_set_ne hji] at q
    exact s.fr j e q hj
  · by_cases hji : i = j
    · subst hji
      rw [List.getElem?_set_self hil] at q
      cases q
      exact ⟨p, hσ, ho, h3, h4, h5⟩
    · rw [List.getElem?_set_ne hji] at q
      obtain ⟨p2, a1, a2, a3, a4, a5⟩ := s.ow j e q hj
      have hpp : p2 ≠ p := by
        rintro rfl
        exact s.dj i j d e p2 hi hj hji hρ q hσ a1
      exact ⟨p2, a1, a2.mono (.refl _) (.refl _) (upd_ne hpp), a3, a4, a5⟩
  · have k1' : ∃ z, ρ[a]? = some (some z) := by
      by_cases z : i = a
      · subst z; exact ⟨d, hρ⟩
      · rw [List.getElem?_set_ne z] at k1; exact ⟨e1, k1⟩
    have k2' : ∃ z, ρ[b]? = some (some z) := by
      by_cases z : i = b
      · subst z; exact ⟨d, hρ⟩
      · rw [List.getElem?_set_ne z] at k2; exact ⟨e2, k2⟩
    obtain ⟨z1, k1'⟩ := k1'
    obtain ⟨z2, k2'⟩ := k2'
    exact s.dj a b z1 z2 q ha hb hab k1' k2' k3
/-- an own object is shown, its slot forgotten -/
theorem SIw.show_ {i : Nat} {d : D} {p : Addr} (s : SIw K E lo O ρ r σ H w) (hi : i ∈ O) (hρ : ρ[i]? = some (some d)) (hσ : σ[i]? = some (some (.ref p))) : ∃ w', SIw K E lo O (ρ.set i none) r σ H w' ∧ Rp K w'.m w'.v d (.ref p) := by
  obtain ⟨p', h1, h2, h3, h4, h5⟩ := s.ow i d hρ hi
  rw [hσ] at h1
  cases h1
  obtain ⟨o, hp, _⟩ := h2.live
  obtain ⟨t, g⟩ := tr_see s.gd s.tr h5 h3 h4 hp
  have sb : Sub w.v (w.see p o).v := fun a u e => by
    have hne : a ≠ p := by rintro rfl; rw [h3] at e; cases e
    show upd w.v p o a = some u
    rw [upd_ne hne]; exact e
  have back : ∀ {j : Nat} {e : D}, (ρ.set i none)[j]? = some (some e) → ρ[j]? = some (some e) ∧ j ≠ i := fun {j e} q => by
    by_cases hj : i = j
    · subst hj
      by_cases hl : i < ρ.length
      · rw [List.getElem?_set_self hl] at q; cases q
      · rw [List.getElem?_eq_none (by simpa using hl)] at q; cases q
    · rw [List.getElem?_set_ne hj] at q
      exact ⟨q, fun z => hj z.symm⟩
  refine ⟨w.see p o, ⟨t, s.los.trans sb, s.lop, g, by rw [List.length_set]; exact s.len, fun j e q hj => ?_, fun j e q hj => ?_, fun a b e1 e2 q ha hb hab k1 k2 k3 => s.dj a b e1 e2 q ha hb hab (back k1).1 (back k2).1 k3⟩, ?_⟩
  · obtain ⟨v, a1, a2⟩ := s.fr j e (back q).1 hj
    exact ⟨v, a1, a2.mono sb (.refl _)⟩
  · obtain ⟨q1, q2⟩ := back q
    obtain ⟨p2, a1, a2, a3, a4, a5⟩ := s.ow j e q1 hj
    have hpp : p2 ≠ p := by
      rintro rfl
      exact s.dj i j d e p2 hi hj (Ne.symm q2) hρ q1 hσ a1
    refine ⟨p2, a1, a2.mono sb (.refl _) rfl, ?_, a4, a5⟩
    show upd w.v p o p2 = none
    rw [upd_ne hpp]; exact a3
  · cases d <;> try exact h2.elim
    · obtain ⟨xs, e1, q⟩ := h2
      rw [hp] at e1
      cases e1
      exact .lst upd_same (q.mono sb (.refl _))
    · obtain ⟨xs, e1, q⟩ := h2
      rw [hp] at e1
      cases e1
      exact .dic upd_same (q.mono sb (.refl _))
theorem SIw.newL {H0 : Hp} {w0 : Wd} {ds : List D} {p : Addr} {i : Nat} (s : SIw K E lo O ρ r σ H w) (s0 : SIw K E lo O ρ r' σ H0 w0) (hi : i ∈ O) (hil : i < ρ.length) (n : NewL K w H0 H ds p) : SIw K E lo O (ρ.set i (some (.lst ds))) r (σ.set i (some (.ref p))) H w := by
  refine s.setOwn hi hil n.at_ n.nv n.nm (s0.tr.fresh n.fresh) fun j e hj hji q z => ?_
  obtain ⟨p2, a1, a2, _⟩ := s0.ow j e q hj
  rw [z] at a1
  cases a1
  obtain ⟨o, ho, _⟩ := a2.live
  rw [n.fresh] at ho
  cases ho
end

section
variable {X : Cx} {c : Sc} {st : Stmt} {pos : Pos}
/-! ### assignments -/
def kStore (tg : Tg) : D → En → Rs → SOut := fun d ρ r => match tg d ρ with
  | some ρ' => .next ρ' r
  | none => .bad
def sAsg (O : List Nat) (tg : Tg) (f : Ex) : Sx := evF O f (kStore tg)
def sAsgI (tg : Tg) (f : Ex) : Sx := evI f fun d ρ r => if d.imm = true then kStore tg d ρ r else .bad
theorem store_dl {g : TG} {tg : Tg} {js : List Nat} {lo w : Wd} {ρ : En} {r : Rs} {σ : St} {H : Hp} {D : Ends} {d : DL.D} {v : V} (hg : TgD c.K g tg js) (hj : ∀ j ∈ js, j ∉ c.O) (s : SIw c.K c.E lo c.O ρ r σ H w) (rv : Rp c.K w.m w.v d v)
    (h : AfterS c lo D (kStore tg d ρ r)) : g v σ H D.nx := by
  unfold kStore at h
  split at h
  · rename_i ρ' e
    obtain ⟨σ', h1, h2, h3, h4⟩ := hg w r H ρ ρ' σ d v s.gd s.len rv e
    exact h1 _ (h σ' H ⟨w, s.store h2 h3 hj h4⟩)
  · exact h.elim
theorem ds_asg {f : Ex} {g : TG} {tg : Tg} {js : List Nat} (h : PS X st (tAsg (tE c.K c.W f) g)) (hg : TgD c.K g tg js) (hj : ∀ j ∈ js, j ∉ c.O) : PS X st (tS c (sAsg c.O tg f)) :=
  h.imp fun D σ H ⟨ρ, r, lo, ⟨w, s⟩, h⟩ => ⟨wipeE ρ c.O, r, w, s.gd, s.slots, evF_dl s h fun d r1 w1 H1 t s1 h1 v rv => store_dl hg hj s1 rv h1⟩
theorem ds_asgI {f : Ex} {g : TG} {tg : Tg} {js : List Nat} (h : PS X st (tAsg (tE c.K c.W f) g)) (hg : TgD c.K g tg js) (hj : ∀ j ∈ js, j ∉ c.O) : PS X st (tS c (sAsgI tg f)) :=
  h.imp fun D σ H ⟨ρ, r, lo, ⟨w, s⟩, h⟩ => ⟨ρ, r, visW w c.O ρ σ H, s.all.1, s.all.2.1, evI_dl s h fun d r1 r2 w1 H1 t g1 s1 sT h1 v rv => by
    split at h1
    · rename_i hi
      exact store_dl hg hj s1 (rv.immM sT (.refl _) hi) h1
    · exact h1.elim⟩
/-- a new list of one's own -/
def kOwn (i : Nat) : List D → En → Rs → SOut := fun ds ρ r => if i < ρ.length then .next (ρ.set i (some (.lst ds))) r else .bad
def sAsgN (O : List Nat) (i : Nat) (f : Lx) : Sx := evF O f (kOwn i)
def sAsgNI (i : Nat) (f : Lx) : Sx := evI f fun ds ρ r => if D.imms ds = true then kOwn i ds ρ r else .bad
theorem ds_asgN {f : Lx} {i : Nat} (h : PS X st (tAsg (tN c.K c.W f) (gName i))) (hi : i ∈ c.O) : PS X st (tS c (sAsgN c.O i f)) :=
  h.imp fun D σ H ⟨ρ, r, lo, ⟨w, s⟩, h⟩ => ⟨wipeE ρ c.O, r, w, s.gd, s.slots, evF_dl s h fun ds r1 w1 H1 t s1 h1 p n => by
    unfold kOwn at h1
    split at h1
    · rename_i hl
      exact h1 _ _ ⟨w1, s1.newL s hi hl n⟩
    · exact h1.elim⟩
theorem ds_asgNI {f : Lx} {i : Nat} (h : PS X st (tAsg (tN c.K c.W f) (gName i))) (hi : i ∈ c.O) : PS X st (tS c (sAsgNI i f)) :=
  h.imp fun D σ H ⟨ρ, r, lo, ⟨w, s⟩, h⟩ => ⟨ρ, r, visW w c.O ρ σ H, s.all.1, s.all.2.1, evI_dl s h fun ds r1 r2 w1 H1 t g1 s1 sT h1 p n => by
    split at h1
    · rename_i hm
      unfold kOwn at h1
      split at h1
      · rename_i hl
        obtain ⟨xs, e1, q⟩ := n.at_
        refine h1 _ _ ⟨_, s1.newL s hi hl ⟨n.fresh, ?_, n.nm, xs, e1, q.immM sT (.refl _) hm⟩⟩
        show (if Own c.O ρ σ p then none else w1.v p) = none
        split
        · rfl
        · exact n.nv
      · exact h1.elim
    · exact h1.elim⟩
/-- y's own object goes to x -/
def sMove (i j : Nat) : Sx := fun ρ r => match ρ[j]? with
  | some (some d) => if i < ρ.length then .next ((ρ.set j none).set i (some d)) r else .bad
  | _ => .bad
theorem ds_move {i j : Nat} (h : PS X st (tAsg (tVar j) (gName i))) (hi : i ∈ c.O) (hj : j ∈ c.O) (hij : i ≠ j) : PS X st (tS c (sMove i j)) :=
  h.imp fun D σ H ⟨ρ, r, lo, ⟨w, s⟩, h⟩ => by
    unfold sMove at h
    split at h
    · rename_i d e
      split at h
      · rename_i hl
        obtain ⟨p, h1, h2, h3, h4, h5⟩ := s.ow j d e hj
        refine ⟨_, h1, h _ _ ⟨w, (s.forget j).setOwn hi (by rw [List.length_set]; exact hl) h2 h3 h4 h5 fun k z hk hki q q2 => ?_⟩⟩
        by_cases hkj : j = k
        · subst hkj
          rw [List.getElem?_set_self (List.getElem?_eq_some_iff.mp e).1] at q
          cases q
        · rw [List.getElem?_set_ne hkj] at q
          exact s.dj j k d z p hj hk hkj e q h1 q2
      · exact h.elim
    · exact h.elim
/-- y's own object goes to x, which is not one's own: nothing changes it from here on -/
def sGive (tg : Tg) (j : Nat) : Sx := fun ρ r => match ρ[j]? with
  | some (some d) => kStore tg d (ρ.set j none) r
  | _ => .bad
theorem ds_give {j : Nat} {g : TG} {tg : Tg} {js : List Nat} (h : PS X st (tAsg (tVar j) g)) (hg : TgD c.K g tg js) (hjs : ∀ j ∈ js, j ∉ c.O) (hj : j ∈ c.O) : PS X st (tS c (sGive tg j)) :=
  h.imp fun D σ H ⟨ρ, r, lo, ⟨w, s⟩, h⟩ => by
    unfold sGive at h
    split at h
    · rename_i d e
      obtain ⟨p, h1, _⟩ := s.ow j d e hj
      obtain ⟨w', s', rv⟩ := s.show_ hj e h1
      exact ⟨_, h1, store_dl hg hjs s' rv h⟩
    · exact h.elim
/-! ### a list of one's own changed -/
def kApp (i : Nat) : List D → En → Rs → SOut := fun ds ρ r => match ds, ρ[i]? with
  | [d], some (some (.lst xs)) => if xs.length < lim then .next (ρ.set i (some (.lst (xs ++ [d])))) r else .bad
  | _, _ => .bad
def sApp (O : List Nat) (i : Nat) (f : Ax) : Sx := evF O f (kApp i)
def sAppI (i : Nat) (f : Ax) : Sx := evI f fun ds ρ r => if D.imms ds = true then kApp i ds ρ r else .bad
theorem app_dl {i : Nat} {lo w : Wd} {ρ : En} {r : Rs} {σ : St} {H : Hp} {D : Ends} {ds : List DL.D} {vs : List V} {p : Addr} (hi : i ∈ c.O) (hσ : σ[i]? = some (some (.ref p))) (s : SIw c.K c.E lo c.O ρ r σ H w) (rv : Rps c.K w.m w.v ds vs)
    (h : AfterS c lo D (kApp i ds ρ r)) : rAppend (.ref p) vs H (fun _ H1 => D.nx σ H1) := by
  unfold kApp at h
  split at h
  · rename_i d xs e
    split at h
    · rename_i hl
      obtain ⟨p', h1, h2, h3, h4, h5⟩ := s.ow i _ e hi
      rw [hσ] at h1
      cases h1
      obtain ⟨ys, e1, q⟩ := h2
      cases rv with
      | cons rv rt =>
        cases rt
        refine ⟨p, ys, _, rfl, rfl, e1, by rw [← q.length]; exact lim_lt hl, h _ _ ⟨w, s.mut hi e hσ ⟨_, upd_same, q.append (.one rv)⟩⟩⟩
    · exact h.elim
  · exact h.elim
theorem own_ty {i : Nat} {lo w : Wd} {ρ : En} {r : Rs} {σ : St} {H : Hp} {xs : List DL.D} (hi : i ∈ c.O) (s : SIw c.K c.E lo c.O ρ r σ H w) (e : ρ[i]? = some (some (.lst xs))) : ∃ p, σ[i]? = some (some (.ref p)) ∧ tyV c.K "list" (.ref p) H := by
  obtain ⟨p, h1, h2, _⟩ := s.ow i _ e hi
  obtain ⟨ys, e1, q⟩ := h2
  exact ⟨p, h1, .inl ⟨rfl, ys, SqL.of e1⟩⟩
def isOwnL (i : Nat) (g : Sx) : Sx := fun ρ r => match ρ[i]? with
  | some (some (.lst _)) => g ρ r
  | _ => .bad
theorem isOwnL_dl {i : Nat} {g : Sx} {lo : Wd} {ρ : En} {r : Rs} {D : Ends} (h : AfterS c lo D (isOwnL i g ρ r)) : ∃ xs, ρ[i]? = some (some (.lst xs)) ∧ AfterS c lo D (g ρ r) := by
  unfold isOwnL at h
  split at h
  · rename_i xs e
    exact ⟨xs, e, h⟩
  · exact h.elim
theorem ds_app {i : Nat} {f : Ax} (h : PS X st (tDrop (tBM c.K "list" rAppend (tVar i) (tA c.K c.W f)))) (hi : i ∈ c.O) : PS X st (tS c (isOwnL i (sApp c.O i f))) :=
  h.imp fun D σ H ⟨ρ, r, lo, ⟨w, s⟩, h⟩ => by
    obtain ⟨xs, e, h⟩ := isOwnL_dl h
    obtain ⟨p, h1, ty⟩ := own_ty hi s e
    exact ⟨_, h1, ty, wipeE ρ c.O, r, w, s.gd, s.slots, evF_dl s h fun ds r1 w1 H1 t s1 h2 vs rvs => app_dl hi h1 s1 rvs h2⟩
theorem ds_appI {i : Nat} {f : Ax} (h : PS X st (tDrop (tBM c.K "list" rAppend (tVar i) (tA c.K c.W f)))) (hi : i ∈ c.O) : PS X st (tS c (isOwnL i (sAppI i f))) :=
  h.imp fun D σ H ⟨ρ, r, lo, ⟨w, s⟩, h⟩ => by
    obtain ⟨xs, e, h⟩ := isOwnL_dl h
    obtain ⟨p, h1, ty⟩ := own_ty hi s e
    refine ⟨_, h1, ty, ρ, r, visW w c.O ρ σ H, s.all.1, s.all.2.1, evI_dl s h fun ds r1 r2 w1 H1 t g1 s1 sT h2 vs rvs => ?_⟩
    split at h2
    · rename_i hm
      exact app_dl hi h1 s1 (rvs.immM sT (.refl _) hm) h2
    · exact h2.elim
/-! ### expressions as statements, returns, branches -/
def sExp (O : List Nat) (f : Ex) : Sx := evF O f fun _ ρ r => .next ρ r
theorem ds_exp {f : Ex} (h : PS X st (tDrop (tE c.K c.W f))) : PS X st (tS c (sExp c.O f)) :=
  h.imp fun D σ H ⟨ρ, r, lo, ⟨w, s⟩, h⟩ => ⟨wipeE ρ c.O, r, w, s.gd, s.slots, evF_dl s h fun d r1 w1 H1 t s1 h1 v rv => h1 σ H1 ⟨w1, s1⟩⟩
def D.isL : D → Bool
  | .lst _ => true
  | .dic _ => true
  | _ => false
theorem postD_of {K : PySem.W.Frag} {fr : Bool} {H0 H : Hp} {w : Wd} {d : D} {v : V} (h : Rp K w.m w.v d v) (e : (fr && d.isL) = false) : PostD K fr H0 w H d v := by
  unfold PostD
  cases fr with
  | false => exact h
  | true => cases d <;> first | exact h | cases e
def sRet (fr : Bool) (O : List Nat) (f : Ex) : Sx := evF O f fun d _ r => if (fr && d.isL) = true then .bad else .ret d r
def sRetI (f : Ex) : Sx := evI f fun d _ r => if d.imm = true then .ret d r else .bad
theorem imm_notL {d : D} (h : d.imm = true) (fr : Bool) : (fr && d.isL) = false := by
  have e : d.isL = false := by
    cases d <;> first | rfl | (simp [D.imm] at h)
  rw [e, Bool.and_false]
theorem ds_ret {f : Ex} (h : PS X st (tRet (tE c.K c.W f))) : PS X st (tS c (sRet c.fr c.O f)) :=
  h.imp fun D σ H ⟨ρ, r, lo, ⟨w, s⟩, h⟩ => ⟨wipeE ρ c.O, r, w, s.gd, s.slots, evF_dl s h fun d r1 w1 H1 t s1 h1 v rv => by
    split at h1
    · exact h1.elim
    · rename_i hn
      exact h1 w1 H1 v s1.tr s1.gd (postD_of rv (by simpa using hn))⟩
theorem ds_retI {f : Ex} (h : PS X st (tRet (tE c.K c.W f))) : PS X st (tS c (sRetI f)) :=
  h.imp fun D σ H ⟨ρ, r, lo, ⟨w, s⟩, h⟩ => ⟨ρ, r, visW w c.O ρ σ H, s.all.1, s.all.2.1, evI_dl s h fun d r1 r2 w1 H1 t g1 s1 sT h1 v rv => by
    split at h1
    · rename_i hm
      exact h1 _ H1 v s1.tr s1.gd (postD_of (rv.immM sT (.refl _) hm) (imm_notL hm _))
    · exact h1.elim⟩
theorem ds_retN0 (h : PS X st tRetN) : PS X st (tS c (fun _ r => .ret .non r)) :=
  h.imp fun D σ H ⟨ρ, r, lo, ⟨w, s⟩, h⟩ => h w H .non s.tr s.gd (postD_of .non (by cases c.fr <;> rfl))
/-- a new list is handed back -/
theorem postD_new {K : PySem.W.Frag} {fr : Bool} {E : Ent} {H : Hp} {w : Wd} {r : Rs} {ds : List D} {p : Addr} (t : Tr E.w E.H w H) (g : Good K w r H) (n : NewL K w E.H H ds p) : ∃ w', Tr E.w E.H w' H ∧ Good K w' r H ∧ PostD K fr E.H w' H (.lst ds) (.ref p) := by
  cases fr with
  | true => exact ⟨w, t, g, p, rfl, n⟩
  | false =>
    obtain ⟨xs, e, q⟩ := n.at_
    obtain ⟨t2, g2⟩ := tr_see g t n.fresh n.nv n.nm e
    refine ⟨_, t2, g2, .lst upd_same (q.mono (fun a u z => ?_) (.refl _))⟩
    have hne : a ≠ p := by rintro rfl; rw [n.nv] at z; cases z
    show upd w.v p _ a = some u
    rw [upd_ne hne]; exact z
theorem postD_newD {K : PySem.W.Frag} {fr : Bool} {E : Ent} {H : Hp} {w : Wd} {r : Rs} {ds : List (Key × D)} {p : Addr} (t : Tr E.w E.H w H) (g : Good K w r H) (n : NewD K w E.H H ds p) : ∃ w', Tr E.w E.H w' H ∧ Good K w' r H ∧ PostD K fr E.H w' H (.dic ds) (.ref p) := by
  cases fr with
  | true => exact ⟨w, t, g, p, rfl, n⟩
  | false =>
    obtain ⟨xs, e, q⟩ := n.at_
    obtain ⟨t2, g2⟩ := tr_see g t n.fresh n.nv n.nm e
    refine ⟨_, t2, g2, .dic upd_same (q.mono (fun a u z => ?_) (.refl _))⟩
    have hne : a ≠ p := by rintro rfl; rw [n.nv] at z; cases z
    show upd w.v p _ a = some u
    rw [upd_ne hne]; exact z
def sRetOD (i : Nat) : Sx := fun ρ r => match ρ[i]? with
  | some (some (.dic ds)) => .ret (.dic ds) r
  | _ => .bad
theorem ds_retOD {i : Nat} (h : PS X st (tRet (tVar i))) (hi : i ∈ c.O) : PS X st (tS c (sRetOD i)) :=
  h.imp fun D σ H ⟨ρ, r, lo, ⟨w, s⟩, h⟩ => by
    unfold sRetOD at h
    split at h
    · rename_i ds e
      obtain ⟨p, h1, h2, h3, h4, h5⟩ := s.ow i _ e hi
      obtain ⟨w', t', g', q⟩ := postD_newD (fr := c.fr) s.tr s.gd ⟨h5, h3, h4, h2⟩
      exact ⟨_, h1, h w' H _ t' g' q⟩
    · exact h.elim
def sRetN (O : List Nat) (f : Lx) : Sx := evF O f fun ds _ r => .ret (.lst ds) r
def sRetNI (f : Lx) : Sx := evI f fun ds _ r => if D.imms ds = true then .ret (.lst ds) r else .bad
theorem ds_retN {f : Lx} (h : PS X st (tRet (tN c.K c.W f))) : PS X st (tS c (sRetN c.O f)) :=
  h.imp fun D σ H ⟨ρ, r, lo, ⟨w, s⟩, h⟩ => ⟨wipeE ρ c.O, r, w, s.gd, s.slots, evF_dl s h fun ds r1 w1 H1 t s1 h1 p n => by
    obtain ⟨w', t', g', q⟩ := postD_new (fr := c.fr) s1.tr s1.gd ⟨s.tr.fresh n.fresh, n.nv, n.nm, n.at_⟩
    exact h1 w' H1 _ t' g' q⟩
theorem ds_retNI {f : Lx} (h : PS X st (tRet (tN c.K c.W f))) : PS X st (tS c (sRetNI f)) :=
  h.imp fun D σ H ⟨ρ, r, lo, ⟨w, s⟩, h⟩ => ⟨ρ, r, visW w c.O ρ σ H, s.all.1, s.all.2.1, evI_dl s h fun ds r1 r2 w1 H1 t g1 s1 sT h1 p n => by
    split at h1
    · rename_i hm
      obtain ⟨xs, e1, q⟩ := n.at_
      obtain ⟨w', t', g', q⟩ := postD_new (fr := c.fr) s1.tr s1.gd ⟨s.tr.fresh n.fresh, (by
        show (if Own c.O ρ σ p then none else w1.v p) = none
        split
        · rfl
        · exact n.nv), n.nm, xs, e1, q.immM sT (.refl _) hm⟩
      exact h1 w' H1 _ t' g' q
    · exact h1.elim⟩
def sRetO (i : Nat) : Sx := fun ρ r => match ρ[i]? with
  | some (some (.lst ds)) => .ret (.lst ds) r
  | _ => .bad
theorem ds_retO {i : Nat} (h : PS X st (tRet (tVar i))) (hi : i ∈ c.O) : PS X st (tS c (sRetO i)) :=
  h.imp fun D σ H ⟨ρ, r, lo, ⟨w, s⟩, h⟩ => by
    unfold sRetO at h
    split at h
    · rename_i ds e
      obtain ⟨p, h1, h2, h3, h4, h5⟩ := s.ow i _ e hi
      obtain ⟨w', t', g', q⟩ := postD_new (fr := c.fr) s.tr s.gd ⟨h5, h3, h4, h2⟩
      exact ⟨_, h1, h w' H _ t' g' q⟩
    · exact h.elim
def sIfF (O : List Nat) (t : Tx) (f g : Sx) : Sx := evF O t fun b ρ r => if b = true then f ρ r else g ρ r
theorem ds_ifF {e : Expr} {a b : List Stmt} {t : Tx} {f g : Sx} (hc : PT X e (tT c.K c.W t)) (ha : PSs X a (tS c f)) (hb : PSs X b (tS c g)) : PS X (.If e a b pos) (tS c (sIfF c.O t f g)) :=
  (ps_if hc ha hb).imp fun D σ H ⟨ρ, r, lo, ⟨w, s⟩, h⟩ => ⟨wipeE ρ c.O, r, w, s.gd, s.slots, evF_dl s h fun b r1 w1 H1 t s1 h1 => by
    cases b with
    | true => exact iteT ⟨ρ, r1, lo, ⟨_, s1⟩, h1⟩
    | false => exact iteF ⟨ρ, r1, lo, ⟨_, s1⟩, h1⟩⟩
def sIf (t : Tx) (f g : Sx) : Sx := evI t fun b ρ r => if b = true then f ρ r else g ρ r
theorem ds_if {e : Expr} {a b : List Stmt} {t : Tx} {f g : Sx} (hc : PT X e (tT c.K c.W t)) (ha : PSs X a (tS c f)) (hb : PSs X b (tS c g)) : PS X (.If e a b pos) (tS c (sIf t f g)) :=
  (ps_if hc ha hb).imp fun D σ H ⟨ρ, r, lo, ⟨w, s⟩, h⟩ => ⟨ρ, r, visW w c.O ρ σ H, s.all.1, s.all.2.1, evI_dl s h fun b r1 r2 w1 H1 t g1 s1 sT h1 => by
    cases b with
    | true => exact iteT ⟨ρ, r2, lo, ⟨_, s1⟩, h1⟩
    | false => exact iteF ⟨ρ, r2, lo, ⟨_, s1⟩, h1⟩⟩
/-! ### loops -/
def forGo (tg : Tg) (body : Sx) : List D → En → Rs → SOut
  | [], ρ, r => .next ρ r
  | d :: ds, ρ, r => match tg d ρ with
    | none => .bad
    | some ρ1 => match body ρ1 r with
      | .next ρ2 r2 => forGo tg body ds ρ2 r2
      | .cont ρ2 r2 => forGo tg body ds ρ2 r2
      | .brk ρ2 r2 => .next ρ2 r2
      | o => o
def sFor (O : List Nat) (it : Lx) (tg : Tg) (body : Sx) : Sx := evF O it (forGo tg body)
def sForI (it : Lx) (tg : Tg) (body : Sx) : Sx := evI it fun ds ρ r => if D.imms ds = true then forGo tg body ds ρ r else .bad
theorem AfterS.lower {lo lo' : Wd} {D : Ends} {o : SOut} (h : AfterS c lo' D o) (a : Sub lo'.v lo.v) (b : Pre lo'.m lo.m) : AfterS c lo D o := by
  cases o with
  | next ρ r => exact fun σ H s => h σ H (s.lower a b)
  | brk ρ r => exact fun σ H s => h σ H (s.lower a b)
  | cont ρ r => exact fun σ H s => h σ H (s.lower a b)
  | ret d r => exact h
  | exc x fs ρ r => exact fun σ H cls dd s => h σ H cls dd (s.lower a b)
  | bad => exact h
theorem SIw.self {K : PySem.W.Frag} {E : Ent} {lo : Wd} {O : List Nat} {ρ : En} {r : Rs} {σ : St} {H : Hp} {w : Wd} (s : SIw K E lo O ρ r σ H w) : SIw K E w O ρ r σ H w := ⟨s.tr, .refl _, .refl _, s.gd, s.len, s.fr, s.ow, s.dj⟩
theorem for_dl {g : TG} {tg : Tg} {js : List Nat} {body : Sx} {tb : TS} (hg : TgD c.K g tg js) (hj : ∀ j ∈ js, j ∉ c.O) (hb : ∀ D σ H, tS c body D σ H → tb D σ H) {J : It} {lo w wk0 : Wd} {ρ : En} {r : Rs} {σ : St} {H : Hp} {D : Ends} {ds : List DL.D}
    (wk : Walks c.K J wk0 ds) (hsub : Sub wk0.v w.v) (hpre : Pre wk0.m w.m) (s : SIw c.K c.E lo c.O ρ r σ H w) (h : AfterS c lo D (forGo tg body ds ρ r)) :
    ∃ W : Nat → Nat → St → Hp → Prop, (∃ m, W 0 m σ H) ∧ ∀ i m σ H, W i m σ H →
      (J.stop i H ∧ D.nx σ H) ∨ (J.go i H ∧ ∃ N : St → Hp → Prop, (∀ σ' H', N σ' H' → ∃ m', m' < m ∧ W (i + 1) m' σ' H') ∧ ∀ x H', J.yld i H x H' → g x σ H' fun σ2 H2 => tb { D with nx := N, ct := N, bk := D.nx } σ2 H2) := by
  have hA : AfterS c w D (forGo tg body ds ρ r) := h.lower s.los s.lop
  refine ⟨fun i m σ H => m = ds.length - i ∧ i ≤ ds.length ∧ ∃ ρ r, SI c.K c.E w c.O ρ r σ H ∧ AfterS c w D (forGo tg body (ds.drop i) ρ r), ⟨ds.length, by simp, Nat.zero_le _, ρ, r, ⟨w, s.self⟩, by rw [List.drop_zero]; exact hA⟩, ?_⟩
  rintro i m σ' H' ⟨rfl, hi, ρ', r', ⟨w', s'⟩, h'⟩
  obtain ⟨hgo, hstop⟩ := wk w' r' H' (hsub.trans s'.los) (hpre.trans s'.lop) s'.gd i
  by_cases hlt : i < ds.length
  · refine .inr ?_
    obtain ⟨go, yl⟩ := hgo ds[i] (List.getElem?_eq_getElem hlt)
    rw [List.drop_eq_getElem_cons hlt] at h'
    refine ⟨go, fun σ2 H2 => ∃ ρ2 r2, SI c.K c.E w c.O ρ2 r2 σ2 H2 ∧ AfterS c w D (forGo tg body (ds.drop (i + 1)) ρ2 r2), fun σ2 H2 q => ⟨ds.length - (i + 1), by omega, rfl, hlt, q⟩, fun x H2 y => ?_⟩
    obtain ⟨w2, t2, g2, rx⟩ := yl x H2 y
    have s2 := s'.step t2 g2
    unfold forGo at h'
    cases e : tg ds[i] ρ' with
    | none => rw [e] at h'; exact h'.elim
    | some ρ1 =>
      rw [e] at h'
      obtain ⟨σ1, k1, k2, k3, k4⟩ := hg w2 r' H2 ρ' ρ1 σ' ds[i] x s2.gd s2.len rx e
      refine k1 _ (hb _ _ _ ⟨ρ1, r', w, ⟨w2, s2.store k2 k3 hj k4⟩, ?_⟩)
      have h2 : AfterS c w D (match body ρ1 r' with
        | .next ρ2 r2 => forGo tg body (ds.drop (i + 1)) ρ2 r2
        | .cont ρ2 r2 => forGo tg body (ds.drop (i + 1)) ρ2 r2
        | .brk ρ2 r2 => .next ρ2 r2
        | o => o) := h'
      revert h2
      generalize body ρ1 r' = o
      intro h2
      cases o with
      | next ρ2 r2 => exact fun σ3 H3 s3 => ⟨ρ2, r2, s3, h2⟩
      | cont ρ2 r2 => exact fun σ3 H3 s3 => ⟨ρ2, r2, s3, h2⟩
      | brk ρ2 r2 => exact fun σ3 H3 s3 => h2 σ3 H3 s3
      | ret d r2 => exact h2
      | exc y fs ρ2 r2 => exact h2
      | bad => exact h2
  · have ei : i = ds.length := by omega
    subst ei
    rw [List.drop_length] at h'
    exact .inl ⟨hstop (Nat.le_refl _), h' σ' H' ⟨w', s'⟩⟩
theorem ds_for {tgt iter : Expr} {body : List Stmt} {it : Lx} {g : TG} {tg : Tg} {js : List Nat} {f : Sx} (hp : PassesOwn (model X.prog X.w) X.A X.env X.xe) (hc : X.calm = true) (hi : PI X tgt iter (tI c.K c.W it)) (hg : PG X tgt g) (hd : TgD c.K g tg js) (hj : ∀ j ∈ js, j ∉ c.O) (hb : PSs X body (tS c f)) (hs : ∀ x, foldedSetIterable iter X.env x = pure x := by intro _; rfl) :
    PS X (.For tgt iter body [] pos) (tS c (sFor c.O it tg f)) :=
  (ps_for hp hc hi hg hb hs).imp fun D σ H ⟨ρ, r, lo, ⟨w, s⟩, h⟩ => ⟨wipeE ρ c.O, r, w, s.gd, s.slots, evF_dl s h fun ds r1 w1 H1 t s1 h1 J wk => for_dl hd hj (fun _ _ _ h => h) wk (.refl _) (.refl _) s1 h1⟩
def whileGo (t : Tx) (body : Sx) : Nat → Sx
  | 0 => fun _ _ => .bad
  | n + 1 => evI t fun b ρ r => if b = true then (match body ρ r with
    | .next ρ2 r2 => whileGo t body n ρ2 r2
    | .cont ρ2 r2 => whileGo t body n ρ2 r2
    | .brk ρ2 r2 => .next ρ2 r2
    | o => o) else .next ρ r
theorem ds_while {e : Expr} {body : List Stmt} {t : Tx} {f : Sx} (n : Nat) (hp : PassesOwn (model X.prog X.w) X.A X.env X.xe) (hc : PT X e (tT c.K c.W t)) (hb : PSs X body (tS c f)) : PS X (.While e body [] pos) (tS c (whileGo t f n)) :=
  (ps_while hp hc hb).imp fun D σ H ⟨ρ, r, lo, s, h⟩ => by
    refine ⟨fun m σ H => ∃ ρ r, SI c.K c.E lo c.O ρ r σ H ∧ AfterS c lo D (whileGo t f m ρ r), ⟨n, ρ, r, s, h⟩, ?_⟩
    rintro m σ H ⟨ρ, r, ⟨w, s⟩, h⟩
    cases m with
    | zero => exact h.elim
    | succ m =>
      refine ⟨ρ, r, visW w c.O ρ σ H, s.all.1, s.all.2.1, evI_dl s h fun b r1 r2 w1 H1 t1 g1 s1 sT h1 => ?_⟩
      cases b with
      | false =>
        rw [if_neg Bool.false_ne_true] at h1 ⊢
        exact h1 σ H1 ⟨_, s1⟩
      | true =>
        rw [if_pos rfl] at h1 ⊢
        refine ⟨fun σ2 H2 => ∃ ρ2 r2, SI c.K c.E lo c.O ρ2 r2 σ2 H2 ∧ AfterS c lo D (whileGo t f m ρ2 r2), fun σ2 H2 q => ⟨m, Nat.lt_succ_self _, q⟩, ρ, r2, lo, ⟨_, s1⟩, ?_⟩
        revert h1
        generalize f ρ r2 = o
        intro h2
        cases o with
        | next ρ2 r2 => exact fun σ3 H3 s3 => ⟨ρ2, r2, s3, h2⟩
        | cont ρ2 r2 => exact fun σ3 H3 s3 => ⟨ρ2, r2, s3, h2⟩
        | brk ρ2 r2 => exact fun σ3 H3 s3 => h2 σ3 H3 s3
        | ret d r2 => exact h2
        | exc y fs ρ2 r2 => exact h2
        | bad => exact h2
def whileGoF (O : List Nat) (t : Tx) (body : Sx) : Nat → Sx
  | 0 => fun _ _ => .bad
  | n + 1 => evF O t fun b ρ r => if b = true then (match body ρ r with
    | .next ρ2 r2 => whileGoF O t body n ρ2 r2
    | .cont ρ2 r2 => whileGoF O t body n ρ2 r2
    | .brk ρ2 r2 => .next ρ2 r2
    | o => o) else .next ρ r
theorem ds_whileF {e : Expr} {body : List Stmt} {t : Tx} {f : Sx} (n : Nat) (hp : PassesOwn (model X.prog X.w) X.A X.env X.xe) (hc : PT X e (tT c.K c.W t)) (hb : PSs X body (tS c f)) : PS X (.While e body [] pos) (tS c (whileGoF c.O t f n)) :=
  (ps_while hp hc hb).imp fun D σ H ⟨ρ, r, lo, s, h⟩ => by
    refine ⟨fun m σ H => ∃ ρ r, SI c.K c.E lo c.O ρ r σ H ∧ AfterS c lo D (whileGoF c.O t f m ρ r), ⟨n, ρ, r, s, h⟩, ?_⟩
    rintro m σ H ⟨ρ, r, ⟨w, s⟩, h⟩
    cases m with
    | zero => exact h.elim
    | succ m =>
      refine ⟨wipeE ρ c.O, r, w, s.gd, s.slots, evF_dl s h fun b r1 w1 H1 t1 s1 h1 => ?_⟩
      cases b with
      | false =>
        rw [if_neg Bool.false_ne_true] at h1 ⊢
        exact h1 σ H1 ⟨_, s1⟩
      | true =>
        rw [if_pos rfl] at h1 ⊢
        refine ⟨fun σ2 H2 => ∃ ρ2 r2, SI c.K c.E lo c.O ρ2 r2 σ2 H2 ∧ AfterS c lo D (whileGoF c.O t f m ρ2 r2), fun σ2 H2 q => ⟨m, Nat.lt_succ_self _, q⟩, ρ, r1, lo, ⟨_, s1⟩, ?_⟩
        revert h1
        generalize f ρ r1 = o
        intro h2
        cases o with
        | next ρ2 r2 => exact fun σ3 H3 s3 => ⟨ρ2, r2, s3, h2⟩
        | cont ρ2 r2 => exact fun σ3 H3 s3 => ⟨ρ2, r2, s3, h2⟩
        | brk ρ2 r2 => exact fun σ3 H3 s3 => h2 σ3 H3 s3
        | ret d r2 => exact h2
        | exc y fs ρ2 r2 => exact h2
        | bad => exact h2
/-! ### x += e over ints, raise -/
def kAug (i : Nat) (op : Int → Int → Int) : D → En → Rs → SOut := fun d ρ r => match ρ[i]?, d with
  | some (some (.int a)), .int b => .next (ρ.set i (some (.int (op a b)))) r
  | _, _ => .bad
def sAug (i : Nat) (op : Int → Int → Int) (f : Ex) : Sx := fun ρ r => match ρ[i]? with
  | some (some (.int _)) => evI f (kAug i op) ρ r
  | _ => .bad
theorem ds_aug {i : Nat} {op : Int → Int → Int} {f : Ex} (h : PS X st (tAug i (tE c.K c.W f) (ipI op))) (hi : i ∉ c.O) : PS X st (tS c (sAug i op f)) :=
  h.imp fun D σ H ⟨ρ, r, lo, ⟨w, s⟩, h⟩ => by
    unfold sAug at h
    split at h
    · rename_i a e
      obtain ⟨v, h1, h2⟩ := s.fr i _ e hi
      cases h2
      refine ⟨_, h1, ρ, r, visW w c.O ρ σ H, s.all.1, s.all.2.1, evI_dl s h fun d r1 r2 w1 H1 t1 g1 s1 sT h3 v rv => ?_⟩
      cases rv with
      | int b =>
        have h4 : AfterS c lo D (.next (ρ.set i (some (.int (op a b)))) r2) := by
          unfold kAug at h3
          rw [e] at h3
          exact h3
        refine ⟨_, _, rfl, rfl, h4 _ _ ⟨_, s1.store (js := [i]) List.length_set List.length_set (fun j hj => by rw [List.mem_singleton.mp hj]; exact hi) fun j => ?_⟩⟩
        by_cases hj : i = j
        · subst hj
          have hl := (List.getElem?_eq_some_iff.mp e).1
          exact .inr ⟨List.mem_singleton.mpr rfl, _, _, List.getElem?_set_self hl, List.getElem?_set_self (by rw [← s.len]; exact hl), .int _⟩
        · exact .inl ⟨List.getElem?_set_ne hj, List.getElem?_set_ne hj⟩
      | _ =>
        unfold kAug at h3
        rw [e] at h3
        exact h3.elim
    · exact h.elim
def sRaise (x : Nat) : Sx := fun ρ r => .exc x [] ρ r
theorem ds_raise {e : Expr} {x : Nat} (hc : X.calm = true) (tk : Takes X c.W) (he : PMk X e (fun _ H Q => Q (.ref (clsA c.K x)) none H)) : PS X (.Raise (some e) none pos) (tS c (sRaise x)) :=
  (ps_raise hc tk he).imp fun D σ H ⟨ρ, r, lo, s, h⟩ => h σ H _ _ s ⟨rfl, (fun _ => rfl), fun z => nomatch z⟩
end
/-! ### a def -/
def runF (N : Nat) (g : Sx) : List D → Rs → Out D := fun ds r => match g (ds.map some ++ List.replicate (N - ds.length) none) r with
  | .next _ r' => .ok .non r'
  | .ret d r' => .ok d r'
  | .exc x fs _ r' => .exc x fs r'
  | _ => .bad
/-- a def's promise by a plain function; fr: a list that it hands back is new -/
def spF (K : PySem.W.Frag) (n : Nat) (fr : Bool) (F : List D → Rs → Out D) : Sp := fun vs H Q E => vs.length = n ∧ ∃ ds r w, Good K w r H ∧ Rps K w.m w.v ds vs ∧ match F ds r with
  | .ok d r' => ∀ w' H' v, Tr w H w' H' → Good K w' r' H' → PostD K fr H w' H' d v → Q v H'
  | .exc c fs r' => ∀ w' H' cls dd, Tr w H w' H' → Good K w' r' H' → ExcAt K c fs cls dd H' → E cls dd H'
  | .bad => False
theorem getE_map {ds : List D} {N i : Nat} {d : D} (h : (ds.map some ++ List.replicate N none)[i]? = some (some d)) : ds[i]? = some d := by
  by_cases hi : i < ds.length
  · rw [List.getElem?_append_left (by rw [List.length_map]; exact hi), List.getElem?_map] at h
    cases e : ds[i]? with
    | none => rw [e] at h; cases h
    | some x => rw [e] at h; cases h; rfl
  · rw [List.getElem?_append_right (by rw [List.length_map]; omega)] at h
    rw [List.getElem?_replicate] at h
    split at h <;> cases h
open PyProof.Rows in
theorem ok_fn {P : Program} {w : World} {K : PySem.W.Frag} {mg : Str → Option Value} {base : Heap} {x qual : Str} {st : Stmt} {f : Addr} {fd : FuncData} {N ps : List Str} {k : Nat} {fr : Bool} (O : List Nat) {g : Sx}
    (F : Fun K x qual st f fd) (S : FnScope N ps (defScope st)) (hO : ∀ i ∈ O, ps.length ≤ i)
    (hb : ∀ (cdv : Value) (A : Around) (outer : List Env) (s : Shared) (H : Hp) (E : XK) (En : Ent), Room k (A.deeper (envOfC qual (defScope st) s.heap.objs.size f cdv)) →
      PSs (cxOf (L2.CX P w) P w K mg base N qual (defScope st) f cdv A outer s H E) (defBody st) (tS ⟨K, fun cls d _ H => E cls d H, En, fr, O⟩ g)) :
    FnOk P w K mg base (L2.CX P w) (k + 1) f fd ps (spF K ps.length fr (runF N.length g)) := by
  refine F.okX S (fun vs H Q E h => h.1) fun cdv A outer s H vs Q E hr h => ?_
  obtain ⟨hl, ds, r, w0, gd, rv, h⟩ := h
  refine ⟨_, hb cdv A outer s H E ⟨w0, H⟩ hr, ds.map some ++ List.replicate (N.length - ds.length) none, r, w0, ⟨w0, .refl _ _, .refl _, .refl _, gd, ?_, fun i d e _ => ?_, fun i d e hi => ?_, fun i j d e p hi _ _ e1 => ?_⟩, ?_⟩
  · unfold L2.start
    rw [List.length_append, List.length_append, List.length_map, List.length_map, List.length_replicate, List.length_replicate, rv.length]
  · obtain ⟨v, h1, h2⟩ := rv.get (getE_map e)
    refine ⟨v, ?_, h2⟩
    unfold L2.start
    have hi : i < vs.length := (List.getElem?_eq_some_iff.mp h1).1
    rw [List.getElem?_append_left (by rw [List.length_map]; exact hi), List.getElem?_map, h1]
    rfl
  · have hi2 := (List.getElem?_eq_some_iff.mp (getE_map e)).1
    have := hO i hi
    have := rv.length
    omega
  · have hi2 := (List.getElem?_eq_some_iff.mp (getE_map e1)).1
    have := hO i hi
    have := rv.length
    omega
  · unfold runF at h
    revert h
    generalize g (ds.map some ++ List.replicate (N.length - ds.length) none) r = o
    intro h
    cases o with
    | next ρ r' =>
      intro σ H' s
      obtain ⟨w1, s⟩ := s
      exact h w1 H' .non s.tr s.gd (postD_of .non (by cases fr <;> rfl))
    | ret d r' => exact fun w1 H' v t g q => h w1 H' v t g q
    | exc c fs ρ r' =>
      intro σ H' cls dd s e
      obtain ⟨w1, s⟩ := s
      exact h w1 H' cls dd s.tr s.gd e
    | brk ρ r' => exact h.elim
    | cont ρ r' => exact h.elim
    | bad => exact h.elim
/-- the weaker promise, as calls take it -/
theorem spF_D {K : PySem.W.Frag} {n : Nat} {fr : Bool} {F : List D → Rs → Out D} (vs : List V) (H : Hp) (Q : VK) (E : XK) (h : spD K n F vs H Q E) : spF K n fr F vs H Q E := by
  obtain ⟨hl, ds, r, w, g, rv, h⟩ := h
  refine ⟨hl, ds, r, w, g, rv, ?_⟩
  revert h
  generalize F ds r = o
  intro h
  cases o with
  | ok d r' =>
    intro w' H' v t gd q
    unfold PostD at q
    split at q
    · obtain ⟨p, rfl, n⟩ := q
      obtain ⟨xs, e, rx⟩ := n.at_
      obtain ⟨t2, g2⟩ := tr_see gd t n.fresh n.nv n.nm e
      refine h _ H' t2 g2 _ (.lst see_at (rx.mono (fun a u z => ?_) (.refl _)))
      have hne : a ≠ p := by rintro rfl; rw [n.nv] at z; cases z
      show upd w'.v p _ a = some u
      rw [upd_ne hne]; exact z
    · obtain ⟨p, rfl, n⟩ := q
      obtain ⟨xs, e, rx⟩ := n.at_
      obtain ⟨t2, g2⟩ := tr_see gd t n.fresh n.nv n.nm e
      refine h _ H' t2 g2 _ (.dic see_at (rx.mono (fun a u z => ?_) (.refl _)))
      have hne : a ≠ p := by rintro rfl; rw [n.nv] at z; cases z
      show upd w'.v p _ a = some u
      rw [upd_ne hne]; exact z
    · exact h w' H' t gd v q
  | exc c fs r' => exact h
  | bad => exact h
theorem FnOk.d {P : Program} {w : World} {K : PySem.W.Frag} {mg : Str → Option Value} {base : Heap} {CX : CXT} {k n : Nat} {f : Addr} {fd : FuncData} {ps : List Str} {fr : Bool} {F : List D → Rs → Out D} (G : FnOk P w K mg base CX k f fd ps (spF K n fr F)) :
    FnOk P w K mg base CX k f fd ps (spD K n F) := G.imp fun vs H Q E h => spF_D vs H Q E h
end DL

/-! DL10: dicts; resources. -/
namespace DL
open PySem L2

/-! ### dicts, as data -/
def getK (kds : List (Key × D)) (k : Key) : Option D := (kds.find? fun p => decide (p.1 = k)).map (·.2)
def setK (kds : List (Key × D)) (k : Key) (d : D) : List (Key × D) :=
  if (kds.any fun p => decide (p.1 = k)) = true then kds.map (fun p => if p.1 = k then (p.1, d) else p) else kds ++ [(k, d)]
def keyOf : D → Option Key
  | .int i => some (.inl i)
  | .str x => some (.inr x)
  | _ => none
section
variable {K : PySem.W.Frag} {m : List Addr} {H : Hp}
theorem Rp.key {d : D} {v : V} {k : Key} (h : Rp K m H d v) (e : keyOf d = some k) : v = kV k := by
  cases h <;> simp only [keyOf] at e <;> cases e <;> rfl
theorem Rpk.length : ∀ {kds : List (Key × D)} {kvs : List (Key × V)}, Rpk K m H kds kvs → kds.length = kvs.length
  | _, _, .nil => rfl
  | _, _, .cons _ r => congrArg (· + 1) r.length
theorem Rpk.get (k : Key) : ∀ {kds : List (Key × D)} {kvs : List (Key × V)}, Rpk K m H kds kvs → (∃ d v, getK kds k = some d ∧ valV kvs k = some v ∧ Rp K m H d v) ∨ (getK kds k = none ∧ valV kvs k = none)
  | _, _, .nil => .inr ⟨rfl, rfl⟩
  | (k', d) :: kds, (_, v) :: kvs, .cons h r => by
    by_cases e : k' = k
    · refine .inl ⟨d, v, ?_, valV_pos e, h⟩
      unfold getK
      rw [List.find?_cons]
      simp [e]
    · have e1 : getK ((k', d) :: kds) k = getK kds k := by
        unfold getK
        rw [List.find?_cons]
        simp [e]
      rw [e1, valV_neg (p := (k', v)) e]
      exact Rpk.get k r
theorem Rpk.any (k : Key) : ∀ {kds : List (Key × D)} {kvs : List (Key × V)}, Rpk K m H kds kvs → (kds.any fun p => decide (p.1 = k)) = (kvs.any fun p => decide (p.1 = k))
  | _, _, .nil => rfl
  | _ :: _, _ :: _, .cons _ r => by rw [List.any_cons, List.any_cons, Rpk.any k r]
theorem Rpk.repl (k : Key) {d : D} {v : V} (h : Rp K m H d v) : ∀ {kds : List (Key × D)} {kvs : List (Key × V)}, Rpk K m H kds kvs → Rpk K m H (kds.map fun p => if p.1 = k then (p.1, d) else p) (kvs.map fun p => if p.1 = k then (p.1, v) else p)
  | _, _, .nil => .nil
  | (k', _) :: _, _ :: _, .cons q r => by
    rw [List.map_cons, List.map_cons]
    by_cases e : k' = k
    · rw [if_pos e, if_pos e]
      exact .cons h (Rpk.repl k h r)
    · rw [if_neg e, if_neg e]
      exact .cons q (Rpk.repl k h r)
theorem Rpk.snoc {k : Key} {d : D} {v : V} (h : Rp K m H d v) : ∀ {kds : List (Key × D)} {kvs : List (Key × V)}, Rpk K m H kds kvs → Rpk K m H (kds ++ [(k, d)]) (kvs ++ [(k, v)])
  | _, _, .nil => .cons h .nil
  | _, _, .cons q r => .cons q (Rpk.snoc h r)
theorem Rpk.put (k : Key) {d : D} {v : V} (h : Rp K m H d v) {kds : List (Key × D)} {kvs : List (Key × V)} (r : Rpk K m H kds kvs) : Rpk K m H (setK kds k d) (putK kvs k v) := by
  unfold setK putK
  rw [r.any k]
  split
  · exact r.repl k h
  · exact r.snoc h
end
section
variable {X : Cx} {W : WX}
/-- d[k], d.get(k), d.get(k, x), k in d -/
def dicR (r : Rs) : D → Option (List (Key × D))
  | .dic kds => some kds
  | .loc n => match r[n]? with
    | some (.dic kds) => some kds
    | _ => none
  | _ => none
def dGet (r : Rs) (x y : D) : Option (Option D) := match dicR r x, keyOf y with
  | some kds, some k => some (getK kds k)
  | _, _ => none
theorem dicR_dl {K : PySem.W.Frag} {w : Wd} {r : Rs} {H : Hp} {x : D} {v : V} {kds : List (Key × D)} (g : Good K w r H) (rx : Rp K w.m w.v x v) (e : dicR r x = some kds) : ∃ a kvs, v = .ref a ∧ H a = some (.dK kvs) ∧ Rpk K w.m w.v kds kvs := by
  cases rx <;> simp only [dicR] at e <;> try (cases e; done)
  case dic a kvs kds' hx rx => cases e; exact ⟨a, kvs, rfl, g.sub _ _ hx, rx⟩
  case loc n a hm =>
    cases q : r[n]? with
    | none => rw [q] at e; cases e
    | some o =>
      rw [q] at e
      cases o with
      | lst _ => cases e
      | obj _ _ _ => cases e
      | dic ds =>
        cases e
        obtain ⟨b, hb, _, xs, h1, h2⟩ := g.at_ n _ q
        rw [hm] at hb
        cases hb
        exact ⟨a, xs, rfl, h1, h2⟩
theorem dGet_dl {w : Wd} {r : Rs} {H : Hp} {x y : D} {v u : V} {o : Option D} (g : Good X.K w r H) (rx : Rp X.K w.m w.v x v) (ry : Rp X.K w.m w.v y u) (e : dGet r x y = some o) :
    ∃ a o', v = .ref a ∧ IsD H a ∧ DGet H a u o' ∧ ((o = none ∧ o' = none) ∨ ∃ d z, o = some d ∧ o' = some z ∧ Rp X.K w.m w.v d z) := by
  unfold dGet at e
  cases q1 : dicR r x with
  | none => rw [q1] at e; cases e
  | some kds =>
    cases q2 : keyOf y with
    | none => rw [q1, q2] at e; cases e
    | some k =>
      rw [q1, q2] at e
      cases e
      obtain ⟨a, kvs, ev, hH, rk⟩ := dicR_dl g rx q1
      have hk := ry.key q2
      rcases rk.get k with ⟨d, z, h1, h2, h3⟩ | ⟨h1, h2⟩
      · refine ⟨a, some z, ev, .inl ⟨kvs, .inl hH⟩, ?_, .inr ⟨d, z, h1, rfl, h3⟩⟩
        rw [hk, ← h2]
        exact DGet.k hH
      · refine ⟨a, none, ev, .inl ⟨kvs, .inl hH⟩, ?_, .inl ⟨h1, rfl⟩⟩
        rw [hk, ← h2]
        exact DGet.k hH
def xDGet (f g : Ex) : Ex := fun ρ r => (f ρ r).bind fun a r1 => (g ρ r1).bind fun b r2 => match dGet r2 a b with
  | some (some d) => .ok d r2
  | _ => .bad
theorem de_dget {a b : Expr} {pos : Pos} {f g : Ex} {k : Nat} (hr : Room k X.A) (ha : PE X a (tE X.K W f)) (hb : PE X b (tE X.K W g)) (hs : NoSl b := by exact fun _ _ => rfl) : PE X (.Subscript a b pos) (tE X.K W (xDGet f g)) :=
  (pe_dget (hu_of hr) ha hb hs).imp fun σ H Q ⟨ρ, r, w, gd, s, h⟩ => ⟨ρ, r, w, gd, s, h.bind fun a w1 r1 H1 t1 g1 h1 v rv => ⟨ρ, r1, w1, g1, s.mono t1, h1.bind fun b w2 r2 H2 t2 g2 h2 u ru => by
    split at h2
    · rename_i d e
      obtain ⟨p, o', e1, _, e3, e4⟩ := dGet_dl g2 (t2.rp rv) ru e
      rcases e4 with ⟨z, _⟩ | ⟨d', z, e5, e6, e7⟩
      · cases z
      · cases e5
        subst e6
        exact ⟨p, z, e1, e3, h2.ok g2 _ e7⟩
    · exact h2.elim⟩⟩
def D.isD (r : Rs) (d : D) : Bool := (dicR r d).isSome
def xDGet1 (f g : Ex) : Ex := fun ρ r => (f ρ r).bind fun a r1 => if a.isD r1 = true then (g ρ r1).bind fun b r2 => (match dGet r2 a b with
  | some o => .ok (o.getD .non) r2
  | _ => .bad) else .bad
def xDGet2 (f g h : Ex) : Ex := fun ρ r => (f ρ r).bind fun a r1 => if a.isD r1 = true then (g ρ r1).bind fun b r2 => (h ρ r2).bind fun c r3 => (match dGet r3 a b with
  | some o => .ok (o.getD c) r3
  | _ => .bad) else .bad
theorem isD_dl {w : Wd} {r : Rs} {H : Hp} {x : D} {v : V} (g : Good X.K w r H) (rx : Rp X.K w.m w.v x v) (e : x.isD r = true) : ∃ a, v = .ref a ∧ IsD H a := by
  unfold D.isD at e
  rw [Option.isSome_iff_exists] at e
  obtain ⟨kds, e⟩ := e
  obtain ⟨a, kvs, ev, hH, _⟩ := dicR_dl g rx e
  exact ⟨a, ev, .inl ⟨kvs, .inl hH⟩⟩
def xDIn (f g : Ex) : Tx := fun ρ r => (f ρ r).bind fun a r1 => (g ρ r1).bind fun b r2 => match dGet r2 b a with
  | some o => .ok o.isSome r2
  | _ => .bad
theorem dIn_dl {K : PySem.W.Frag} {neg : Bool} {f g : Ex} {σ : L2.St} {H : Hp} {Q : Bool → Hp → Prop} {X : Cx} (eK : X.K = K) (h : tT K W (xDIn f g) σ H (fun b H => Q (neg.xor b) H)) :
    tE K W f σ H fun y H1 => tE K W g σ H1 fun x H2 => ∃ a o, x = .ref a ∧ DGet H2 a y o ∧ Q (neg.xor o.isSome) H2 := by
  subst eK
  obtain ⟨ρ, r, w, gd, s, h⟩ := h
  refine ⟨ρ, r, w, gd, s, h.bind fun a w1 r1 H1 t1 g1 h1 v rv => ⟨ρ, r1, w1, g1, s.mono t1, h1.bind fun b w2 r2 H2 t2 g2 h2 u ru => ?_⟩⟩
  split at h2
  · rename_i o e
    obtain ⟨p, o', e1, _, e3, e4⟩ := dGet_dl g2 ru (t2.rp rv) e
    refine ⟨p, o', e1, e3, ?_⟩
    have h3 := h2.ok g2
    rcases e4 with ⟨z1, z2⟩ | ⟨d', z, e5, e6, e7⟩
    · subst z1; subst z2; exact h3
    · subst e5; subst e6; exact h3
  · exact h2.elim
theorem dt_din {a b : Expr} {pos : Pos} {f g : Ex} {k : Nat} (hr : Room k X.A) (ha : PE X a (tE X.K W f)) (hb : PE X b (tE X.K W g)) (hm : behindInMarks .In b = false := by rfl) : PT X (.Compare a [.In] [b] pos) (tT X.K W (xDIn f g)) :=
  (pt_cmp (pc_din (hu_of hr) ha hb) hm).imp fun σ H Q h => by
    have q := dIn_dl (neg := false) (X := X) (Q := Q) rfl (by simpa using h)
    obtain ⟨ρ, r, w, gd, s, q⟩ := q
    exact ⟨ρ, r, w, gd, s, q.mono fun d w1 r1 H1 t1 g1 q v rv => by
      obtain ⟨ρ2, r2, w2, gd2, s2, q2⟩ := q v rv
      exact ⟨ρ2, r2, w2, gd2, s2, q2.mono fun d2 w3 r3 H3 t3 g3 q3 v3 rv3 => by
        obtain ⟨a, o, e1, e2, e3⟩ := q3 v3 rv3
        exact ⟨a, o, e1, e2, _, rfl, by simpa using e3⟩⟩⟩
theorem dt_dnotin {a b : Expr} {pos : Pos} {f g : Ex} {k : Nat} (hr : Room k X.A) (ha : PE X a (tE X.K W f)) (hb : PE X b (tE X.K W g)) (hm : behindInMarks .NotIn b = false := by rfl) : PT X (.Compare a [.NotIn] [b] pos) (tT X.K W (xNot (xDIn f g))) :=
  (pt_cmp (pc_dnotin (hu_of hr) ha hb) hm).imp fun σ H Q h => by
    have h' : tT X.K W (xDIn f g) σ H (fun b H => Q (!b) H) := by
      obtain ⟨ρ, r, w, gd, s, h⟩ := h
      exact ⟨ρ, r, w, gd, s, h.bind fun b w1 r1 H1 t1 g1 h1 => h1.ok g1⟩
    have q := dIn_dl (neg := true) (X := X) (Q := Q) rfl (by simpa using h')
    obtain ⟨ρ, r, w, gd, s, q⟩ := q
    exact ⟨ρ, r, w, gd, s, q.mono fun d w1 r1 H1 t1 g1 q v rv => by
      obtain ⟨ρ2, r2, w2, gd2, s2, q2⟩ := q v rv
      exact ⟨ρ2, r2, w2, gd2, s2, q2.mono fun d2 w3 r3 H3 t3 g3 q3 v3 rv3 => by
        obtain ⟨a, o, e1, e2, e3⟩ := q3 v3 rv3
        exact ⟨a, o, e1, e2, _, rfl, by simpa using e3⟩⟩⟩
section
variable {o e f : Expr} {apos cpos : Pos} {fo fe ff : Ex} {k : Nat}
theorem de_get1 (hr : Room k X.A) (ho : PE X o (tE X.K W fo)) (he : PE X e (tE X.K W fe)) (m : M1 X o "get" apos e cpos := by exact ⟨rfl, rfl, rfl, rfl⟩) : PE X (.Call (.Attribute o "get" apos) [e] [] cpos) (tE X.K W (xDGet1 fo fe)) :=
  (pe_dget1 (hu_of hr) ho he m).imp fun σ H Q ⟨ρ, r, w, gd, s, h⟩ => ⟨ρ, r, w, gd, s, h.bind fun a w1 r1 H1 t1 g1 h1 v rv => by
    split at h1
    · rename_i hd
      obtain ⟨p, ep, ip⟩ := isD_dl g1 rv hd
      refine ⟨p, ep, ip, ρ, r1, w1, g1, s.mono t1, h1.bind fun b w2 r2 H2 t2 g2 h2 u ru => ?_⟩
      split at h2
      · rename_i o e
        obtain ⟨p', o', e1, _, e3, e4⟩ := dGet_dl g2 (t2.rp rv) ru e
        rw [ep] at e1
        cases e1
        refine ⟨o', e3, ?_⟩
        rcases e4 with ⟨z1, z2⟩ | ⟨d', z, e5, e6, e7⟩
        · subst z1; subst z2
          exact h2.ok g2 _ .non
        · subst e5; subst e6
          exact h2.ok g2 _ e7
      · exact h2.elim
    · exact h1.elim⟩
theorem de_get2 (hr : Room k X.A) (ho : PE X o (tE X.K W fo)) (he : PE X e (tE X.K W fe)) (hf : PE X f (tE X.K W ff)) (m : M2 X o "get" apos e f cpos := by exact ⟨rfl, rfl, rfl, rfl⟩) : PE X (.Call (.Attribute o "get" apos) [e, f] [] cpos) (tE X.K W (xDGet2 fo fe ff)) :=
  (pe_dget2 (hu_of hr) ho he hf m).imp fun σ H Q ⟨ρ, r, w, gd, s, h⟩ => ⟨ρ, r, w, gd, s, h.bind fun a w1 r1 H1 t1 g1 h1 v rv => by
    split at h1
    · rename_i hd
      obtain ⟨p, ep, ip⟩ := isD_dl g1 rv hd
      refine ⟨p, ep, ip, ρ, r1, w1, g1, s.mono t1, h1.bind fun b w2 r2 H2 t2 g2 h2 u ru => ⟨ρ, r2, w2, g2, s.mono (t1.trans t2), h2.bind fun c w3 r3 H3 t3 g3 h3 x rx => ?_⟩⟩
      split at h3
      · rename_i o e
        obtain ⟨p', o', e1, _, e3, e4⟩ := dGet_dl g3 ((t2.trans t3).rp rv) (t3.rp ru) e
        rw [ep] at e1
        cases e1
        refine ⟨o', e3, ?_⟩
        rcases e4 with ⟨z1, z2⟩ | ⟨d', z, e5, e6, e7⟩
        · subst z1; subst z2
          exact h3.ok g3 _ rx
        · subst e5; subst e6
          exact h3.ok g3 _ e7
      · exact h3.elim
    · exact h1.elim⟩
end
/-- a written dict's item -/
def xKD (tab : List (Str × D)) (g : Ex) : Ex := fun ρ r => (g ρ r).bind fun b r1 => match b with
  | .str x => (match tab.lookup x with
    | some d => .ok d r1
    | none => .bad)
  | _ => .bad
theorem de_kd {a b : Expr} {pos : Pos} {g : Ex} {p : Addr} {tab : List (Str × D)} (ha : PE X a (tC (.ref p))) (hb : PE X b (tE X.K W g)) (ht : ∀ x d, tab.lookup x = some d → ∃ v, KDct X.K X.w p x v ∧ ∀ m H, Rp X.K m H d v) (hs : PlainIx b := by exact fun _ _ => rfl) :
    PE X (.Subscript a b pos) (tE X.K W (xKD tab g)) :=
  (pe_ix ix_kdict ha hb hs).imp fun σ H Q ⟨ρ, r, w, gd, s, h⟩ => ⟨ρ, r, w, gd, s, h.bind fun b w1 r1 H1 t1 g1 h1 v rv => by
    split at h1
    · split at h1
      · rename_i d e
        obtain ⟨z, k1, k2⟩ := ht _ d e
        cases rv
        exact ⟨p, _, z, rfl, rfl, k1, h1.ok g1 _ (k2 _ _)⟩
      · exact h1.elim
    · exact h1.elim⟩
/-! ### a new dict -/
abbrev Dx := En → Rs → Out (List (Key × D))
def tND (K : PySem.W.Frag) (W : WX) (f : Dx) : TE := fun σ H Q => ∃ ρ r w, Good K w r H ∧ Slots K w ρ σ ∧
  After K W w H σ (f ρ r) fun ds w' _ H' => ∀ p, NewD K w' H H' ds p → Q (.ref p) H'
def xD (f : Dx) : Ex := fun ρ r => (f ρ r).bind fun ds r1 => .ok (.dic ds) r1
theorem de_nd {e : Expr} {f : Dx} (h : PE X e (tND X.K W f)) : PE X e (tE X.K W (xD f)) := h.imp fun σ H Q ⟨ρ, r, w, g, s, h⟩ => ⟨ρ, r, w, g, s, h.fst fun ds w1 r1 H1 _ t1 g1 q _ p n => by
  obtain ⟨xs, hp, rx⟩ := n.at_
  obtain ⟨t2, g2⟩ := tr_see g1 t1 n.fresh n.nv n.nm hp
  refine q _ r1 rfl (w1.see p (.dK xs)) H1 t2 g2 (.ref p) (.dic see_at ?_)
  exact rx.mono (fun a u e => by
    have hne : a ≠ p := by rintro rfl; rw [n.nv] at e; cases e
    show upd w1.v p _ a = some u
    rw [upd_ne hne]; exact e) (.refl _)⟩
theorem newD_hid {K : PySem.W.Frag} {w w0 : Wd} {r : Rs} {H0 H : Hp} (g : Good K w r H) (t : Tr w0 H0 w H) {p : Addr} {ds : List (Key × D)} {xs : List (Key × V)} (h : H p = none) (rx : Rpk K w.m w.v ds xs) : NewD K w H0 (upd H p (.dK xs)) ds p :=
  ⟨t.fresh h, g.none_of h, fun hm => g.live hm h, xs, upd_same, rx⟩
def xDNew : Dx := fun _ r => .ok [] r
theorem dnd_new {pos : Pos} : PE X (.Dict [] [] pos) (tND X.K W xDNew) := pe_dnewK.imp fun σ H Q ⟨ρ, r, w, g, s, h⟩ p hp => by
  obtain ⟨t2, g2⟩ := tr_hid (o := .dK []) g hp
  exact h w _ t2 g2 p (newD_hid g (.refl _ _) hp .nil)
/-- dict(x): a copy -/
theorem call_dictC : CallR X (.type "dict") (fun xs H Q => ∃ a kvs, xs = [.ref a] ∧ Rd H a (.dK kvs) ∧ ∀ p, H p = none → Q (.ref p) (upd H p (.dK kvs))) := by
  intro pins s σ H xs us Q I r h
  obtain ⟨a, kvs, rfl, e, q⟩ := h
  obtain ⟨u, rfl, ru⟩ := vals1 r
  obtain rfl : u = Value.ref a := ru
  exact d_copyOf I e fun p s' hp I' => ⟨.ref p, _, I', rfl, q p hp⟩
def dicOf : List D → Option (List (Key × D))
  | [.dic kds] => some kds
  | _ => none
def xDCopy (f : Ax) : Dx := fun ρ r => (f ρ r).bind fun ds r1 => match dicOf ds with
  | some kds => .ok kds r1
  | none => .bad
theorem dnd_copy {x : Str} {p pos : Pos} {e : Expr} {es : List Expr} {f : Ax} (hg : Gl X x) (hm : X.mg x = none) (hv : bootBuiltins x = some (.type "dict")) (ha : PA X (e :: es) (tA X.K W f)) (hn : x ≠ "__name__" := by decide) (hdb : (x == ("__debug__" : Str)) = false := by decide)
    (he : starEach (e :: es) X.env = (false, eval e X.env) :: starEach es X.env := by rfl) (hpl : (backTo pos (starEach es X.env)).any (·.1) = false := by rfl) : PE X (.Call (.Name x p) (e :: es) [] pos) (tND X.K W (xDCopy f)) :=
  (pe_callTy call_dictC hg hm hv ha hn hdb he hpl).imp fun σ H Q ⟨ρ, r, w, gd, s, h⟩ => ⟨ρ, r, w, gd, s, h.fst fun ds w1 r1 H1 _ t1 g1 q h1 vs rvs => by
    split at h1
    · rename_i kds e
      have e' : (match dicOf ds with | some kds => Out.ok kds r1 | none => .bad) = .ok kds r1 := by rw [e]
      cases rvs with
      | nil => cases e
      | cons rv rt =>
        cases rt with
        | cons _ _ => cases rv <;> cases e
        | nil =>
          cases rv with
          | dic hx rx =>
            cases e
            refine ⟨_, _, rfl, .inl (g1.sub _ _ hx), fun p hp => ?_⟩
            obtain ⟨t2, g2⟩ := tr_hid g1 hp
            exact q _ r1 e' w1 _ (t1.trans t2) g2 p (newD_hid g1 t1 hp rx)
          | _ => cases e
    · exact h1.elim⟩
/-! the display {k: v, ..} -/
def xPs : List (Ex × Ex) → En → Rs → Out (List (Key × D))
  | [], _, r => .ok [] r
  | (f, g) :: ps, ρ, r => (f ρ r).bind fun a r1 => (g ρ r1).bind fun b r2 => match keyOf a with
    | some k => (xPs ps ρ r2).bind fun l r3 => .ok ((k, b) :: l) r3
    | none => .bad
def mergeD (kds more : List (Key × D)) : List (Key × D) := more.foldl (fun acc p => setK acc p.1 p.2) kds
theorem Rpk.merge {K : PySem.W.Frag} {m : List Addr} {H : Hp} : ∀ {more : List (Key × D)} {mv : List (Key × V)} {kds : List (Key × D)} {kvs : List (Key × V)}, Rpk K m H more mv → Rpk K m H kds kvs → Rpk K m H (mergeD kds more) (mergeK kvs mv)
  | _, _, _, _, .nil, r => r
  | (k, d) :: more, (_, v) :: mv, kds, kvs, .cons h t, r => by
    show Rpk K m H (mergeD (setK kds k d) more) (mergeK (putK kvs k v) mv)
    exact Rpk.merge t (r.put k h)
/-- the pairs' readings -/
def tPr (K : PySem.W.Frag) (W : WX) (ps : List (Ex × Ex)) : List (TE × TE) := ps.map fun p => (tE K W p.1, tE K W p.2)
theorem pairs_dl {K : PySem.W.Frag} {σ : L2.St} : ∀ (ps : List (Ex × Ex)) {H : Hp} {Q : List (V × V) → Hp → Prop} {ρ : En} {r : Rs} {w : Wd}, Good K w r H → Slots K w ρ σ →
    After K W w H σ (xPs ps ρ r) (fun l w' _ H' => ∀ vs : List (Key × V), Rpk K w'.m w'.v l vs → Q (vs.map fun kv => (kV kv.1, kv.2)) H') → tPairs (tPr K W ps) σ H Q
  | [], H, Q, ρ, r, w, g, s, h => h.ok g [] .nil
  | (f, k) :: ps, H, Q, ρ, r, w, g, s, h => by
    refine ⟨ρ, r, w, g, s, h.bind fun a w1 r1 H1 t1 g1 h1 v rv => ⟨ρ, r1, w1, g1, s.mono t1, h1.bind fun b w2 r2 H2 t2 g2 h2 u ru => ?_⟩⟩
    split at h2
    · rename_i k e
      refine pairs_dl ps g2 (s.mono (t1.trans t2)) (h2.bind fun l w3 r3 H3 t3 g3 h3 vs rvs => ?_)
      have := h3.ok g3 ((k, u) :: vs) (.cons (t3.rp ru) rvs)
      rw [List.map_cons] at this
      rw [rv.key e]
      exact this
    · exact h2.elim
def xDisp (ps : List (Ex × Ex)) : Dx := fun ρ r => (xPs ps ρ r).bind fun l r1 => if l.length ≤ 15 then .ok (mergeD [] l) r1 else .bad
theorem xPs_len : ∀ {ps : List (Ex × Ex)} {ρ : En} {r : Rs} {l : List (Key × D)} {r' : Rs}, xPs ps ρ r = .ok l r' → l.length = ps.length := by
  intro ps
  induction ps with
  | nil => intro ρ r l r' h; cases h; rfl
  | cons p ps ih =>
    intro ρ r l r' h
    obtain ⟨f, g⟩ := p
    unfold xPs at h
    cases e1 : f ρ r with
    | exc c fs r1 => rw [e1] at h; cases h
    | bad => rw [e1] at h; cases h
    | ok a r1 =>
      rw [e1] at h
      have h : ((g ρ r1).bind fun b r2 => match keyOf a with | some k => (xPs ps ρ r2).bind fun l r3 => .ok ((k, b) :: l) r3 | none => .bad) = Out.ok l r' := h
      cases e2 : g ρ r1 with
      | exc c fs r2 => rw [e2] at h; cases h
      | bad => rw [e2] at h; cases h
      | ok b r2 =>
        rw [e2] at h
        have h : (match keyOf a with | some k => (xPs ps ρ r2).bind fun l r3 => .ok ((k, b) :: l) r3 | none => .bad) = Out.ok l r' := h
        cases e3 : keyOf a with
        | none => rw [e3] at h; cases h
        | some k =>
          rw [e3] at h
          have h : ((xPs ps ρ r2).bind fun l r3 => .ok ((k, b) :: l) r3) = Out.ok l r' := h
          cases e4 : xPs ps ρ r2 with
          | exc c fs r2 => rw [e4] at h; cases h
          | bad => rw [e4] at h; cases h
          | ok l2 r3 =>
            rw [e4] at h
            cases h
            rw [List.length_cons, List.length_cons, ih e4]
theorem dnd_disp {pos : Pos} {keys : List (Option Expr)} {values : List Expr} {ps : List (Ex × Ex)} (h : PPs X pos keys values (tPr X.K W ps)) (hall : keys.all (·.isSome) = true) (hl : keys.length = values.length) (h0 : keys ≠ []) (h15 : keys.length ≤ 15) :
    PE X (.Dict keys values pos) (tND X.K W (xDisp ps)) :=
  (pe_disp h hall hl h0 h15).imp fun σ H Q ⟨ρ, r, w, g, s, h⟩ p hp => by
    obtain ⟨t0, g0⟩ := tr_hid (o := .dK []) g hp
    have hv := g.none_of hp
    have hm : p ∉ w.m := fun z => g.live z hp
    have h' : After X.K W w (upd H p (.dK [])) σ (xPs ps ρ r) (fun l w' _ H' => ∀ vs : List (Key × V), Rpk X.K w'.m w'.v l vs → H' p = some (.dK []) ∧ ∃ kvs : List (Key × V), vs.map (fun kv => (kV kv.1, kv.2)) = kvs.map (fun kv => (kV kv.1, kv.2)) ∧ kvs.length ≤ 15 ∧ Q (.ref p) (upd H' p (.dK (mergeK [] kvs)))) := by
      unfold xDisp at h
      revert h
      generalize xPs ps ρ r = o
      intro h
      cases o with
      | ok l r1 =>
        intro w1 H1 t1 g1 vs rvs
        have t := t0.trans t1
        obtain ⟨k1, k2, k3⟩ := own_keep t1 (upd_same : upd H p (.dK []) p = _) hv hm
        have hp1 : H1 p = some (.dK []) := k1.trans upd_same
        have h : After X.K W w H σ (if l.length ≤ 15 then Out.ok (mergeD [] l) r1 else .bad) _ := h
        split at h
        · rename_i hl15
          refine ⟨hp1, vs, rfl, by rw [← rvs.length]; exact hl15, ?_⟩
          obtain ⟨t2, g2⟩ := tr_own (u := .dK (mergeK [] vs)) g1 t hp k2 k3 hp1
          exact h w1 _ t2 g2 p ⟨hp, k2, k3, _, upd_same, Rpk.merge rvs .nil⟩
        · exact h.elim
      | exc c fs r1 => exact fun w1 H1 cls dd t1 g1 e => h w1 H1 cls dd (t0.trans t1) g1 e
      | bad => exact h
    exact pairs_dl ps g0 ⟨s.len, s.at_⟩ h'
end
/-! ### statements over dicts of one's own -/
section
variable {X : Cx} {c : Sc} {st : Stmt} {pos : Pos}
theorem SIw.newD {K : PySem.W.Frag} {E : Ent} {lo : Wd} {O : List Nat} {ρ : En} {r r' : Rs} {σ : L2.St} {H H0 : Hp} {w w0 : Wd} {ds : List (Key × D)} {p : Addr} {i : Nat} (s : SIw K E lo O ρ r σ H w) (s0 : SIw K E lo O ρ r' σ H0 w0) (hi : i ∈ O) (hil : i < ρ.length) (n : NewD K w H0 H ds p) :
    SIw K E lo O (ρ.set i (some (.dic ds))) r (σ.set i (some (.ref p))) H w := by
  refine s.setOwn hi hil n.at_ n.nv n.nm (s0.tr.fresh n.fresh) fun j e hj hji q z => ?_
  obtain ⟨p2, a1, a2, _⟩ := s0.ow j e q hj
  rw [z] at a1
  cases a1
  obtain ⟨o, ho, _⟩ := a2.live
  rw [n.fresh] at ho
  cases ho
def kOwnD (i : Nat) : List (Key × D) → En → Rs → SOut := fun ds ρ r => if i < ρ.length then .next (ρ.set i (some (.dic ds))) r else .bad
def sAsgD (O : List Nat) (i : Nat) (f : Dx) : Sx := evF O f (kOwnD i)
theorem ds_asgD {f : Dx} {i : Nat} (h : PS X st (tAsg (tND c.K c.W f) (gName i))) (hi : i ∈ c.O) : PS X st (tS c (sAsgD c.O i f)) :=
  h.imp fun D σ H ⟨ρ, r, lo, ⟨w, s⟩, h⟩ => ⟨wipeE ρ c.O, r, w, s.gd, s.slots, evF_dl s h fun ds r1 w1 H1 t s1 h1 p n => by
    unfold kOwnD at h1
    split at h1
    · rename_i hl
      exact h1 _ _ ⟨w1, s1.newD s hi hl n⟩
    · exact h1.elim⟩
/-- d[k] = v, d of one's own -/
def kDPut (i : Nat) (v : D) : D → En → Rs → SOut := fun k ρ r => match keyOf k, ρ[i]? with
  | some k, some (some (.dic kds)) => if kds.length < lim then .next (ρ.set i (some (.dic (setK kds k v)))) r else .bad
  | _, _ => .bad
def sDPut' (O : List Nat) (i : Nat) (fk fv : Ex) : Sx := evF O fv fun v => evF O fk (kDPut i v)
def isOwnD (i : Nat) (g : Sx) : Sx := fun ρ r => match ρ[i]? with
  | some (some (.dic _)) => g ρ r
  | _ => .bad
theorem ds_dput {i : Nat} {fk fv : Ex} (h : PS X st (sDPut (tVar i) (tE c.K c.W fk) (tE c.K c.W fv))) (hi : i ∈ c.O) : PS X st (tS c (isOwnD i (sDPut' c.O i fk fv))) :=
  h.imp fun D σ H ⟨ρ, r, lo, ⟨w, s⟩, h⟩ => by
    unfold isOwnD at h
    split at h
    · rename_i kds e
      obtain ⟨p, h1, h2, _⟩ := s.ow i _ e hi
      refine ⟨wipeE ρ c.O, r, w, s.gd, s.slots, evF_dl s h fun v r1 w1 H1 t s1 h2 x rx => ⟨_, h1, wipeE ρ c.O, r1, w1, s1.gd, s1.slots, evF_dl s1 h2 fun k r2 w2 H2 t2 s2 h3 y ry => ?_⟩⟩
      unfold kDPut at h3
      split at h3
      · rename_i k' kds' q1 q2
        split at h3
        · rename_i hl
          obtain ⟨p', a1, a2, _⟩ := s2.ow i _ q2 hi
          rw [h1] at a1
          cases a1
          obtain ⟨kvs, b1, b2⟩ := a2
          refine ⟨p, _, rfl, .inl ⟨kvs, k', b1, ry.key q1, by rw [← b2.length]; exact lim_lt hl, rfl⟩, h3 _ _ ⟨w2, s2.mut hi q2 h1 ⟨_, upd_same, b2.put k' (t2.rp rx)⟩⟩⟩
        · exact h3.elim
      · exact h3.elim
    · exact h.elim
end
/-! ### resources -/
section
variable {X : Cx} {W : WX}
theorem roAt_live {K : PySem.W.Frag} {m : List Addr} {v H : Hp} {a : Addr} {o : RO} (h : RoAt K m v H a o) : ∃ u, H a = some u ∧ ∀ xs, ¬ Rd H a (.tup xs) := by
  cases o with
  | lst ds => obtain ⟨_, xs, e, _⟩ := h; exact ⟨_, e, fun ys z => by rcases z with z | ⟨u, z⟩ <;> (rw [e] at z; cases z)⟩
  | dic ds => obtain ⟨_, xs, e, _⟩ := h; exact ⟨_, e, fun ys z => by rcases z with z | ⟨u, z⟩ <;> (rw [e] at z; cases z)⟩
  | obj i c fs => obtain ⟨dx, xs, e, _⟩ := h; exact ⟨_, e, fun ys z => by rcases z with z | ⟨u, z⟩ <;> (rw [e] at z; cases z)⟩
/-- a resource is changed -/
theorem good_res {K : PySem.W.Frag} {w : Wd} {r : Rs} {H : Hp} (g : Good K w r H) {n : Nat} {a : Addr} {o o' : RO} {u : HO} (hm : w.m[n]? = some a) (hr : r[n]? = some o) (ho : o.isObj = false) (ho' : o'.isObj = false) (h : RoAt K w.m w.v (upd H a u) a o') : Tr w H w (upd H a u) ∧ Good K w (r.set n o') (upd H a u) := by
  have ha : a ∈ w.m := List.mem_iff_getElem?.mpr ⟨n, hm⟩
  obtain ⟨a', ha', x⟩ := g.at_ n o hr
  rw [hm] at ha'
  cases ha'
  obtain ⟨u0, hu, nt⟩ := roAt_live x
  refine ⟨⟨.refl _, .refl _, fun b q e n => ?_, fun b e => ?_, fun b e => .inl e, fun b e => .inl e, fun b xs e => ?_, fun _ _ => Nat.le_refl _, fun j b C dx fs hj hb _ => ?_⟩, ⟨fun b q e => ?_, g.dis, by rw [List.length_set]; exact g.len, g.nd, fun j q e => ?_, fun j i c fs e => ?_⟩⟩
  · have hne : b ≠ a := by rintro rfl; exact n ha
    rw [upd_ne hne]; exact e
  · by_cases hb : b = a
    · subst hb; rw [upd_same]; intro z; cases z
    · rw [upd_ne hb]; exact e
  · have hne : b ≠ a := by rintro rfl; exact nt xs e
    rcases e with e | ⟨z, e⟩
    · exact .inl (by rw [upd_ne hne]; exact e)
    · exact .inr ⟨z, by rw [upd_ne hne]; exact e⟩
  · have hne : b ≠ a := by
      rintro rfl
      cases o with
      | lst ds => obtain ⟨_, xs, e, _⟩ := x; rw [e] at hb; cases hb
      | dic ds => obtain ⟨_, xs, e, _⟩ := x; rw [e] at hb; cases hb
      | obj i c fs => cases ho
    exact upd_ne hne
  · have hne : b ≠ a := by rintro rfl; rw [g.dis b ha] at e; cases e
    rw [upd_ne hne]; exact g.sub b q e
  · by_cases hj : n = j
    · subst hj
      rw [List.getElem?_set_self (List.getElem?_eq_some_iff.mp hr).1] at e
      cases e
      exact ⟨a, hm, h⟩
    · rw [List.getElem?_set_ne hj] at e
      obtain ⟨b, hb, y⟩ := g.at_ j q e
      refine ⟨b, hb, roAt_mono (.refl _) (.refl _) (upd_ne ?_) y⟩
      rintro rfl
      obtain ⟨l1, e1⟩ := List.getElem?_eq_some_iff.mp hm
      obtain ⟨l2, e2⟩ := List.getElem?_eq_some_iff.mp hb
      exact hj ((List.getElem_inj g.nd).mp (e1.trans e2.symm))
  · by_cases hj : n = j
    · subst hj
      rw [List.getElem?_set_self (List.getElem?_eq_some_iff.mp hr).1] at e
      cases e
      cases ho'
    · rw [List.getElem?_set_ne hj] at e
      exact g.gv j i c fs e
/-- xs.append(e), xs a resource -/
def xAppR (f : Ex) (g : Ax) : Ex := fun ρ r => (f ρ r).bind fun a r1 => match a with
  | .loc n => (match r1[n]? with
    | some (.lst _) => (g ρ r1).bind fun ds r2 => (match ds, r2[n]? with
      | [d], some (.lst xs) => if d.imm && decide (xs.length < lim) then .ok .non (r2.set n (.lst (xs ++ [d]))) else .bad
      | _, _ => .bad)
    | _ => .bad)
  | _ => .bad
theorem imms_snoc {d : D} (h : d.imm = true) : ∀ {xs : List D}, D.imms xs = true → D.imms (xs ++ [d]) = true
  | [], _ => by show D.imms [d] = true; simp [D.imms, h]
  | x :: xs, e => by
    rw [D.imms, Bool.and_eq_true] at e
    show D.imms (x :: (xs ++ [d])) = true
    rw [D.imms, e.1, imms_snoc h e.2]
    rfl
theorem imms_set {d : D} (h : d.imm = true) : ∀ {xs : List D} (n : Nat), D.imms xs = true → D.imms (xs.set n d) = true
  | [], _, _ => rfl
  | x :: xs, 0, e => by
    rw [D.imms, Bool.and_eq_true] at e
    show D.imms (d :: xs) = true
    rw [D.imms, h, e.2]
    rfl
  | x :: xs, n + 1, e => by
    rw [D.imms, Bool.and_eq_true] at e
    show D.imms (x :: xs.set n d) = true
    rw [D.imms, e.1, imms_set h n e.2]
    rfl
theorem de_appR {e : Expr} {f : Ex} {g : Ax} (h : PE X e (tBM X.K "list" rAppend (tE X.K W f) (tA X.K W g))) : PE X e (tE X.K W (xAppR f g)) :=
  h.imp fun σ H Q ⟨ρ, r, w, gd, s, h⟩ => ⟨ρ, r, w, gd, s, h.bind fun a w1 r1 H1 t1 g1 h1 v rv => by
    split at h1
    · rename_i n
      split at h1
      · rename_i ds0 hr0
        cases rv with
        | loc hm =>
          obtain ⟨_, ys, k1, _⟩ := good_loc g1 hm hr0
          refine ⟨.inl ⟨rfl, ys, SqL.of k1⟩, ρ, r1, w1, g1, s.mono t1, h1.bind fun ds w2 r2 H2 t2 g2 h2 vs rvs => ?_⟩
          split at h2
          · rename_i d xs hr
            split at h2
            · rename_i hc
              rw [Bool.and_eq_true, decide_eq_true_eq] at hc
              have hm2 := t2.pre _ _ hm
              obtain ⟨im, zs, q1, q2⟩ := good_loc g2 hm2 hr
              cases rvs with
              | cons ry rt =>
                cases rt
                refine ⟨_, zs, _, rfl, rfl, q1, by rw [← q2.length]; exact lim_lt hc.2, ?_⟩
                obtain ⟨t3, g3⟩ := good_res g2 hm2 hr rfl rfl (o' := .lst (xs ++ [d])) (u := .lst (zs ++ [_])) ⟨imms_snoc hc.1 im, _, upd_same, q2.append (.one ry)⟩
                exact h2 w2 _ t3 g3 _ .non
            · exact h2.elim
          · exact h2.elim
      · exact h1.elim
    · exact h1.elim⟩
/-- a new resource -/
theorem good_add {K : PySem.W.Frag} {w : Wd} {r : Rs} {H0 H : Hp} {w0 : Wd} (g : Good K w r H) (t : Tr w0 H0 w H) {ds : List D} {p : Addr} (n : NewL K w H0 H ds p) (hi : D.imms ds = true) :
    Tr w0 H0 ⟨w.m ++ [p], w.v, w.g⟩ H ∧ Good K ⟨w.m ++ [p], w.v, w.g⟩ (r ++ [.lst ds]) H ∧ (w.m ++ [p])[r.length]? = some p := by
  have pr : Pre w.m (w.m ++ [p]) := fun k a e => by rw [List.getElem?_append_left (List.getElem?_eq_some_iff.mp e).1]; exact e
  have hp : (w.m ++ [p])[r.length]? = some p := by
    rw [← g.len, List.getElem?_append_right (Nat.le_refl _), Nat.sub_self]
    rfl
  refine ⟨⟨t.sub, t.pre.trans pr, t.keep, t.live, t.newv, fun b hb => ?_, t.tups, t.gm, t.same⟩, ⟨g.sub, fun a ha => ?_, ?_, ?_, fun k o e => ?_, fun k i c fs e => ?_⟩, hp⟩
  · rcases List.mem_append.mp hb with z | z
    · exact t.newm b z
    · rw [List.mem_singleton.mp z]; exact .inr n.fresh
  · rcases List.mem_append.mp ha with z | z
    · exact g.dis a z
    · rw [List.mem_singleton.mp z]; exact n.nv
  · rw [List.length_append, List.length_append, g.len]; rfl
  · refine List.nodup_append.mpr ⟨g.nd, by simp, fun a ha b hb => ?_⟩
    rw [List.mem_singleton.mp hb]
    rintro rfl
    exact n.nm ha
  · by_cases hk : k < r.length
    · rw [List.getElem?_append_left hk] at e
      obtain ⟨a, ha, x⟩ := g.at_ k o e
      exact ⟨a, pr k a ha, roAt_mono (.refl _) pr rfl x⟩
    · have hk2 : k = r.length := by
        have := (List.getElem?_eq_some_iff.mp e).1
        rw [List.length_append] at this
        simp only [List.length_singleton] at this
        omega
      subst hk2
      rw [List.getElem?_append_right (Nat.le_refl _), Nat.sub_self] at e
      cases e
      obtain ⟨xs, e1, q⟩ := n.at_
      exact ⟨p, hp, hi, xs, e1, q.mono (.refl _) pr⟩
  · by_cases hk : k < r.length
    · rw [List.getElem?_append_left hk] at e
      exact g.gv k i c fs e
    · have hk2 : k = r.length := by
        have := (List.getElem?_eq_some_iff.mp e).1
        rw [List.length_append] at this
        simp only [List.length_singleton] at this
        omega
      subst hk2
      rw [List.getElem?_append_right (Nat.le_refl _), Nat.sub_self] at e
      cases e
def xRes (f : Lx) : Ex := fun ρ r => (f ρ r).bind fun ds r1 => if D.imms ds = true then .ok (.loc r1.length) (r1 ++ [.lst ds]) else .bad
theorem de_res {e : Expr} {f : Lx} (h : PE X e (tN X.K W f)) : PE X e (tE X.K W (xRes f)) := h.imp fun σ H Q ⟨ρ, r, w, g, s, h⟩ => ⟨ρ, r, w, g, s, h.fst fun ds w1 r1 H1 _ t1 g1 q h1 p n => by
  split at h1
  · rename_i hi
    obtain ⟨t2, g2, hp⟩ := good_add g1 t1 n hi
    have q := q (.loc r1.length) (r1 ++ [.lst ds]) (if_pos hi) ⟨w1.m ++ [p], w1.v, w1.g⟩ H1 t2 g2
    exact q (.ref p) (.loc hp)
  · exact h1.elim⟩
end
section
variable {X : Cx} {c : Sc} {st : Stmt} {pos : Pos}
/-- xs[i] = e, xs a resource -/
def kSetR (v o : D) : D → En → Rs → SOut := fun i ρ r => match o, i with
  | .loc n, .int k => (match r[n]? with
    | some (.lst xs) => (match ixN xs.length k with
      | some j => if v.imm = true then .next ρ (r.set n (.lst (xs.set j v))) else .bad
      | none => .bad)
    | _ => .bad)
  | _, _ => .bad
def sSetR (O : List Nat) (fo fi fv : Ex) : Sx := evF O fv fun v => evF O fo fun o => evF O fi (kSetR v o)
theorem ds_setR {fo fi fv : Ex} (h : PS X st (tAsg (tE c.K c.W fv) (gSub (tE c.K c.W fo) (tE c.K c.W fi) rSetL))) : PS X st (tS c (sSetR c.O fo fi fv)) :=
  h.imp fun D σ H ⟨ρ, r, lo, ⟨w, s⟩, h⟩ => ⟨wipeE ρ c.O, r, w, s.gd, s.slots, evF_dl s h fun v r1 w1 H1 t1 s1 h1 x rx => ⟨wipeE ρ c.O, r1, w1, s1.gd, s1.slots, evF_dl s1 h1 fun o r2 w2 H2 t2 s2 h2 y ry => ⟨wipeE ρ c.O, r2, w2, s2.gd, s2.slots, evF_dl s2 h2 fun i r3 w3 H3 t3 s3 h3 z rz => by
    unfold kSetR at h3
    split at h3
    · rename_i n k
      split at h3
      · rename_i xs hr
        split at h3
        · rename_i j hj
          split at h3
          · rename_i hv
            cases rz
            cases (t3.rp ry) with
            | loc hm =>
              obtain ⟨im, zs, q1, q2⟩ := good_loc s3.gd hm hr
              refine ⟨_, zs, k, j, rfl, rfl, q1, by rw [← q2.length]; exact hj, ?_⟩
              obtain ⟨t4, g4⟩ := good_res s3.gd hm hr rfl rfl (o' := .lst (xs.set j v)) (u := .lst (zs.set j x)) ⟨imms_set hv j im, _, upd_same, q2.set ((t2.trans t3).rp rx) j⟩
              exact h3 _ _ ⟨w3, s3.step t4 g4⟩
          · exact h3.elim
        · exact h3.elim
      · exact h3.elim
    · exact h3.elim⟩⟩⟩
end
end DL

/-! DL11: the rest of the rules, the end. -/
namespace DL
open PySem L2
theorem r65 {k : Nat} {A : Around} (r : Room k A) : A.units + 65 < cLine := by have := r.un; omega
section
variable {X : Cx} {c : Sc} {st : Stmt} {pos : Pos}
/-- x = [..] that is not one's own -/
theorem asg_n {f : Lx} {g : TG} (h : PS X st (tAsg (tN c.K c.W f) g)) : PS X st (tAsg (tE c.K c.W (xL f)) g) := h.imp fun D σ H ⟨ρ, r, w, gd, s, q⟩ => ⟨ρ, r, w, gd, s, q.fst fun ds w1 r1 H1 _ t1 g1 q _ p n => by
  obtain ⟨xs, hp, rx⟩ := n.at_
  obtain ⟨t2, g2⟩ := tr_see g1 t1 n.fresh n.nv n.nm hp
  refine q _ r1 rfl (w1.see p (.lst xs)) H1 t2 g2 (.ref p) (.lst see_at ?_)
  exact rx.mono (fun a u e => by
    have hne : a ≠ p := by rintro rfl; rw [n.nv] at e; cases e
    show upd w1.v p _ a = some u
    rw [upd_ne hne]; exact e) (.refl _)⟩
/-- x, y = a, b -/
def kPar (i j : Nat) : List D → En → Rs → SOut := fun ds ρ r => match ds with
  | [a, b] => if i < ρ.length ∧ j < ρ.length then .next ((ρ.set i (some a)).set j (some b)) r else .bad
  | _ => .bad
def sPar (O : List Nat) (i j : Nat) (f : Ax) : Sx := evF O f (kPar i j)
theorem ds_par {i j : Nat} {f : Ax} (h : PS X st (tPar i j (tA c.K c.W f))) (hi : i ∉ c.O) (hj : j ∉ c.O) : PS X st (tS c (sPar c.O i j f)) :=
  h.imp fun D σ H ⟨ρ, r, lo, ⟨w, s⟩, h⟩ => ⟨wipeE ρ c.O, r, w, s.gd, s.slots, evF_dl s h fun ds r1 w1 H1 t s1 h1 vs rvs => by
    unfold kPar at h1
    split at h1
    · split at h1
      · rename_i hl
        cases rvs with
        | cons r1 r2 =>
          cases r2 with
          | cons r2 r3 =>
            cases r3
            refine ⟨_, _, rfl, h1 _ _ ⟨w1, s1.store (js := [i, j]) (by rw [List.length_set, List.length_set]) (by rw [List.length_set, List.length_set]) (fun k hk => ?_) fun k => ?_⟩⟩
            · rcases List.mem_cons.mp hk with z | z
              · rw [z]; exact hi
              · rw [List.mem_singleton.mp z]; exact hj
            · have l1 : i < σ.length := by rw [← s1.len]; exact hl.1
              have l2 : j < σ.length := by rw [← s1.len]; exact hl.2
              by_cases e2 : j = k
              · subst e2
                exact .inr ⟨by simp, _, _, List.getElem?_set_self (by rw [List.length_set]; exact hl.2), List.getElem?_set_self (by rw [List.length_set]; exact l2), r2⟩
              · rw [List.getElem?_set_ne e2, List.getElem?_set_ne e2]
                by_cases e1 : i = k
                · subst e1
                  exact .inr ⟨by simp, _, _, List.getElem?_set_self hl.1, List.getElem?_set_self l1, r1⟩
                · exact .inl ⟨List.getElem?_set_ne e1, List.getElem?_set_ne e1⟩
      · exact h1.elim
    · exact h1.elim⟩
end
theorem fnOk0 {P : Program} {w : World} {K : PySem.W.Frag} {mg : Str → Option Value} {base : Heap} {CX : CXT} {n : Nat} {f : Addr} {fd : FuncData} {ps : List Str} : FnOk P w K mg base CX 0 f fd ps (spF K n false fun _ _ => .bad) := by
  have no : ∀ vs H Q E, ¬ spF K n false (fun _ _ => .bad) vs H Q E := fun vs H Q E h => by
    obtain ⟨_, ds, r, w, g, rv, z⟩ := h
    exact z
  exact ⟨fun vs H Q E h => absurd h (no vs H Q E), fun A outer s H args us vs Q E _ _ _ _ h => absurd h (no vs H Q E)⟩
theorem lookup_mem {β : Type} {x : Str} {d : β} : ∀ {l : List (Str × β)}, l.lookup x = some d → (x, d) ∈ l
  | [], h => by cases h
  | (y, e) :: l, h => by
    rw [List.lookup_cons] at h
    split at h
    · rename_i q
      cases h
      rw [beq_iff_eq] at q
      subst q
      exact List.mem_cons_self
    · exact List.mem_cons_of_mem _ (lookup_mem h)
/-- what law(script) promises -/
def spLaw (K : PySem.W.Frag) : Sp := fun vs H Q _ => ∃ (a : Addr) (ns : List Int), vs = [.ref a] ∧ SqL K H a (ns.map V.int) ∧ ns.length ≤ 63 ∧ ∀ H', Q (.bl true) H'
theorem FnOk.law {P : Program} {w : World} {K : PySem.W.Frag} {mg : Str → Option Value} {base : Heap} {k : Nat} {f : Addr} {fd : FuncData} {ps : List Str} {F : List D → Rs → Out D} (G : FnOk P w K mg base (L2.CX P w) k f fd ps (spF K 1 false F))
    (h : ∀ ns : List Int, ns.length ≤ 63 → ∃ r, F [.scr ns] [] = .ok (.bl true) r) : FnOk P w K mg base (L2.CX P w) k f fd ps (spLaw K) := G.imp fun vs H Q E q => by
  obtain ⟨a, ns, rfl, hs, hl, q⟩ := q
  obtain ⟨r, e⟩ := h ns hl
  refine ⟨rfl, [.scr ns], [], ⟨[], H, fun _ => 0⟩, ⟨.refl _, (fun a h => absurd h (by simp)), rfl, List.nodup_nil, (fun n o e => by simp at e), fun n i c fs e => by simp at e⟩, .one (.scr hs), ?_⟩
  rw [e]
  intro w' H' v t g p
  cases p
  exact q H'
theorem walk {l : PySem.W.OpenLaw} {q : Program} {loose : List Str} {XP : (Str → Option Value) → Heap → Prop} {YP : World → Heap → Prop} {d : DefRec} {K : Params → PySem.W.Frag} {k : Nat} {x : Str} (hn : l.most = some 63) (hdf : d.params.defaults = []) (hr : Room k callerA)
    (hY : ∀ (w : World) (h : Heap), YP w h → (K w.params).In h)
    (F : ∀ (w : World) (mg : Str → Option Value) (fa : Addr) (h : Heap), (K w.params).In h → h.Ns mainGlobals mg → mg d.name = some (.ref fa) →
      ∃ fd : FuncData, (∀ (s : Shared) (u : Value), BindsTo s fd ⟨[u], []⟩ [(x, u)]) ∧ ∀ base : Heap, (K w.params).In base → base.Ns mainGlobals mg → FnOk l.prog w (K w.params) mg base (L2.CX l.prog w) k fa fd [x] (spLaw (K w.params))) :
    PySem.W.WalkO q loose XP YP l.row.toRowW d [] (fun f vs => PySem.call f vs) :=
  L2.walk_of (n := 63) (k := k) (x := x) (CX := fun w => L2.CX l.prog w) (sp := fun w => spLaw (K w.params)) hn (by decide) hdf hr hY F (fun _ _ a ns hl _ hS => ⟨a, ns, rfl, hS, hl, fun _ => rfl⟩) fun _ _ _ _ _ z => by
    obtain ⟨_, _, _, _, _, _, _, _, _, _, _, _, z⟩ := z
    exact z
end DL

/-! DL12: more rules: x[i] = v in a list of one's own. -/
namespace DL
open PySem L2
section
variable {X : Cx} {c : Sc} {st : Stmt}
def kSetO (i : Nat) (v : D) : D → En → Rs → SOut := fun k ρ r => match k, ρ[i]? with
  | .int j, some (some (.lst ds)) => (match ixN ds.length j with
    | some n => .next (ρ.set i (some (.lst (ds.set n v)))) r
    | none => .bad)
  | _, _ => .bad
def sSetO (O : List Nat) (i : Nat) (fi fv : Ex) : Sx := evF O fv fun v => evF O fi (kSetO i v)
theorem ds_setO {i : Nat} {fi fv : Ex} (h : PS X st (tAsg (tE c.K c.W fv) (gSub (tVar i) (tE c.K c.W fi) rSetL))) (hi : i ∈ c.O) : PS X st (tS c (isOwnL i (sSetO c.O i fi fv))) :=
  h.imp fun D σ H ⟨ρ, r, lo, ⟨w, s⟩, h⟩ => by
    obtain ⟨xs, e, h⟩ := isOwnL_dl h
    obtain ⟨p, h1, _⟩ := s.ow i _ e hi
    refine ⟨wipeE ρ c.O, r, w, s.gd, s.slots, evF_dl s h fun v r1 w1 H1 t1 s1 h2 x rx => ⟨_, h1, wipeE ρ c.O, r1, w1, s1.gd, s1.slots, evF_dl s1 h2 fun k r2 w2 H2 t2 s2 h3 y ry => ?_⟩⟩
    unfold kSetO at h3
    split at h3
    · rename_i j ds q2
      split at h3
      · rename_i n hn
        cases ry
        obtain ⟨p', a1, a2, _⟩ := s2.ow i _ q2 hi
        rw [h1] at a1
        cases a1
        obtain ⟨zs, b1, b2⟩ := a2
        exact ⟨_, zs, j, n, rfl, rfl, b1, by rw [← b2.length]; exact hn, h3 _ _ ⟨w2, s2.mut hi q2 h1 ⟨_, upd_same, b2.set (t2.rp rx) n⟩⟩⟩
      · exact h3.elim
    · exact h3.elim
/-- xs.insert(i, y) -/
def kIns (i : Nat) : List D → En → Rs → SOut := fun ds ρ r => match ds, ρ[i]? with
  | [.int j, d], some (some (.lst xs)) => if xs.length < lim ∧ 0 ≤ j ∧ big j = true then .next (ρ.set i (some (.lst (xs.take j.toNat ++ [d] ++ xs.drop j.toNat)))) r else .bad
  | _, _ => .bad
def sIns (O : List Nat) (i : Nat) (f : Ax) : Sx := evF O f (kIns i)
abbrev rIns : V → List V → Hp → VK → Prop := fun x vs H Q => ∃ (l : Addr) (xs : List V) (i : Int) (y : V), x = .ref l ∧ vs = [.int i, y] ∧ H l = some (.lst xs) ∧ xs.length < sizeLine ∧ 0 ≤ i ∧ i < 2 ^ 63 ∧ Q .non (upd H l (.lst (xs.take i.toNat ++ [y] ++ xs.drop i.toNat)))
theorem Rps.takeD {K : PySem.W.Frag} {m : List Addr} {H : Hp} : ∀ {ds : List DL.D} {vs : List V} (n : Nat), Rps K m H ds vs → Rps K m H (ds.take n) (vs.take n)
  | _, _, 0, _ => .nil
  | _, _, _ + 1, .nil => .nil
  | _, _, n + 1, .cons h t => .cons h (Rps.takeD n t)
theorem Rps.dropD {K : PySem.W.Frag} {m : List Addr} {H : Hp} : ∀ {ds : List DL.D} {vs : List V} (n : Nat), Rps K m H ds vs → Rps K m H (ds.drop n) (vs.drop n)
  | _, _, 0, h => h
  | _, _, _ + 1, .nil => .nil
  | _, _, n + 1, .cons _ t => Rps.dropD n t
theorem ds_ins {i : Nat} {f : Ax} (h : PS X st (tDrop (tBM c.K "list" rIns (tVar i) (tA c.K c.W f)))) (hi : i ∈ c.O) : PS X st (tS c (isOwnL i (sIns c.O i f))) :=
  h.imp fun D σ H ⟨ρ, r, lo, ⟨w, s⟩, h⟩ => by
    obtain ⟨xs, e, h⟩ := isOwnL_dl h
    obtain ⟨p, h1, ty⟩ := own_ty hi s e
    refine ⟨_, h1, ty, wipeE ρ c.O, r, w, s.gd, s.slots, evF_dl s h fun ds r1 w1 H1 t s1 h2 vs rvs => ?_⟩
    unfold kIns at h2
    split at h2
    · rename_i j d zs e2
      split at h2
      · rename_i hl
        obtain ⟨p', a1, a2, _⟩ := s1.ow i _ e2 hi
        rw [h1] at a1
        cases a1
        obtain ⟨ys, b1, b2⟩ := a2
        cases rvs with
        | cons q1 q2 =>
          cases q1
          cases q2 with
          | cons q2 q3 =>
            cases q3
            refine ⟨p, ys, j, _, rfl, rfl, b1, by rw [← b2.length]; exact lim_lt hl.1, hl.2.1, by have := (big_of hl.2.2).2; omega, h2 _ _ ⟨w1, s1.mut hi e2 h1 ⟨_, upd_same, ((b2.takeD _).append (.one q2)).append (b2.dropD _)⟩⟩⟩
      · exact h2.elim
    · exact h2.elim
/-- y = xs.pop(): the last thing of a list of one's own -/
def sPop (i : Nat) (k : DL.D → En → Rs → SOut) : Sx := fun ρ r => match ρ[i]? with
  | some (some (.lst xs)) => (match xs[xs.length - 1]? with
    | some d => k d (ρ.set i (some (.lst xs.dropLast))) r
    | none => .bad)
  | _ => .bad
theorem dropLast_rps {K : PySem.W.Frag} {m : List Addr} {H : Hp} {ds : List DL.D} {vs : List V} (h : Rps K m H ds vs) : Rps K m H ds.dropLast vs.dropLast := by
  rw [List.dropLast_eq_take, List.dropLast_eq_take, h.length]
  exact h.take _
theorem pop_dl {i : Nat} {k : DL.D → En → Rs → SOut} {lo w : Wd} {ρ : En} {r : Rs} {σ : St} {H : Hp} {D : Ends} {Q : V → Hp → Prop} (s : SIw c.K c.E lo c.O ρ r σ H w) (hi : i ∈ c.O) (h : AfterS c lo D (sPop i k ρ r))
    (q : ∀ d v ρ' H', SIw c.K c.E lo c.O ρ' r σ H' w → Rp c.K w.m w.v d v → AfterS c lo D (k d ρ' r) → Q v H') : ∃ v, σ[i]? = some (some v) ∧ tyV c.K "list" v H ∧ rPop v [] H Q := by
  unfold sPop at h
  split at h
  · rename_i xs e
    split at h
    · rename_i d hd
      obtain ⟨p, h1, h2, _⟩ := s.ow i _ e hi
      obtain ⟨ys, e1, rx⟩ := h2
      obtain ⟨v, hv, rv⟩ := rx.get hd
      exact ⟨.ref p, h1, .inl ⟨rfl, ys, SqL.of e1⟩, p, ys, v, rfl, rfl, e1, by rw [← rx.length]; exact hv, q d v _ _ (s.mut (d' := .lst xs.dropLast) hi e h1 ⟨_, upd_same, dropLast_rps rx⟩) rv h⟩
    · exact h.elim
  · exact h.elim
theorem ds_pop {i : Nat} {g : TG} {tg : Tg} {js : List Nat} (h : PS X st (tAsg (tBM0 c.K "list" rPop (tVar i)) g)) (hi : i ∈ c.O) (hg : TgD c.K g tg js) (hj : ∀ j ∈ js, j ∉ c.O) : PS X st (tS c (sPop i (kStore tg))) :=
  h.imp fun D σ H ⟨ρ, r, lo, ⟨w, s⟩, h⟩ => pop_dl s hi h fun d v ρ' H' s1 rv h1 => store_dl hg hj s1 rv h1
theorem ds_popX {i : Nat} (h : PS X st (tDrop (tBM0 c.K "list" rPop (tVar i)))) (hi : i ∈ c.O) : PS X st (tS c (sPop i fun _ ρ r => .next ρ r)) :=
  h.imp fun D σ H ⟨ρ, r, lo, ⟨w, s⟩, h⟩ => pop_dl s hi h fun d v ρ' H' s1 rv h1 => h1 σ H' ⟨w, s1⟩
/-- xs.extend(a list) -/
def kExt (i : Nat) : List DL.D → En → Rs → SOut := fun ds ρ r => match ds, ρ[i]? with
  | [.lst es], some (some (.lst xs)) => if xs.length + es.length ≤ lim then .next (ρ.set i (some (.lst (xs ++ es)))) r else .bad
  | _, _ => .bad
def sExt (O : List Nat) (i : Nat) (f : Ax) : Sx := evF O f (kExt i)
theorem ds_ext {i : Nat} {f : Ax} (h : PS X st (tDrop (tBM c.K "list" rExtend (tVar i) (tA c.K c.W f)))) (hi : i ∈ c.O) : PS X st (tS c (isOwnL i (sExt c.O i f))) :=
  h.imp fun D σ H ⟨ρ, r, lo, ⟨w, s⟩, h⟩ => by
    obtain ⟨xs, e, h⟩ := isOwnL_dl h
    obtain ⟨p, h1, ty⟩ := own_ty hi s e
    refine ⟨_, h1, ty, wipeE ρ c.O, r, w, s.gd, s.slots, evF_dl s h fun ds r1 w1 H1 t s1 h2 vs rvs => ?_⟩
    unfold kExt at h2
    split at h2
    · rename_i es zs e2
      split at h2
      · rename_i hl
        obtain ⟨p', a1, a2, _⟩ := s1.ow i _ e2 hi
        rw [h1] at a1
        cases a1
        obtain ⟨ys, b1, b2⟩ := a2
        cases rvs with
        | cons q1 q2 =>
          cases q2
          cases q1 with
          | lst hx rx =>
            exact ⟨p, _, ys, _, rfl, rfl, b1, s1.gd.sub _ _ hx, by rw [← b2.length, ← rx.length]; exact lim_le hl, h2 _ _ ⟨w1, s1.mut hi e2 h1 ⟨_, upd_same, b2.append rx⟩⟩⟩
      · exact h2.elim
    · exact h2.elim
end
end DL

/-! DL13: join. -/
namespace DL
open PySem L2
def strsOf : List D → Option (List Str)
  | [] => some []
  | .str x :: ds => (strsOf ds).map (x :: ·)
  | _ => none
def seqOf : D → Option (List D)
  | .lst ds => some ds
  | .tup ds => some ds
  | _ => none
theorem strsOf_rps {K : PySem.W.Frag} {m : List Addr} {H : Hp} : ∀ {ds : List D} {vs : List V} {xs : List Str}, Rps K m H ds vs → strsOf ds = some xs → vs = xs.map V.str
  | _, _, _, .nil, e => by cases e; rfl
  | d :: ds, _, _, .cons r t, e => by
    cases r <;> try (cases e; done)
    rename_i vs x
    simp only [strsOf] at e
    cases q : strsOf ds with
    | none => rw [q] at e; cases e
    | some ys =>
      rw [q] at e
      cases e
      rw [List.map_cons, ← strsOf_rps t q]
def rJoin (K : PySem.W.Frag) : V → List V → Hp → VK → Prop := fun x xs H Q => ∃ a p, ∃ ys : List Str, x = .str a ∧ xs = [.ref p] ∧ (SqL K H p (ys.map V.str) ∨ SqT K H p (ys.map V.str)) ∧
    (ys.map (·.length)).sum + ys.length * a.length ≤ 16777216 ∧ Q (.str (Txt.join a ys)) H
def joinD (x : Str) (b : D) : Option D := (seqOf b).bind fun ds => (strsOf ds).bind fun ys => if (ys.map (·.length)).sum + ys.length * x.length ≤ lim then some (.str (Txt.join x ys)) else none
def xJoin (f : Ex) (g : Ax) : Ex := fun ρ r => (f ρ r).bind fun a r1 => match a with
  | .str x => (g ρ r1).bind fun ds r2 => (match ds with
    | [b] => (match joinD x b with
      | some d => .ok d r2
      | none => .bad)
    | _ => .bad)
  | _ => .bad
section
variable {X : Cx} {W : WX}
theorem de_join {e : Expr} {f : Ex} {g : Ax} (h : PE X e (tBM X.K "str" (rJoin X.K) (tE X.K W f) (tA X.K W g))) : PE X e (tE X.K W (xJoin f g)) := h.imp fun σ H Q ⟨ρ, r, w, gd, s, h⟩ => ⟨ρ, r, w, gd, s, h.bind fun a w1 r1 H1 t1 g1 h1 v rv => by
  split at h1
  · rename_i x
    cases rv
    refine ⟨rfl, ρ, r1, w1, g1, s.mono t1, h1.bind fun ds w2 r2 H2 t2 g2 h2 us rus => ?_⟩
    split at h2
    · rename_i b
      split at h2
      · rename_i d hd
        unfold joinD at hd
        rw [Option.bind_eq_some_iff] at hd
        obtain ⟨es, q1, hd⟩ := hd
        rw [Option.bind_eq_some_iff] at hd
        obtain ⟨ys, q2, hd⟩ := hd
        split at hd
        · rename_i hl
          cases hd
          cases rus with
          | cons ru rt =>
            cases rt
            cases ru <;> simp only [seqOf] at q1 <;> try (cases q1; done)
            · rename_i a zs es' hx rx
              cases q1
              rw [strsOf_rps rx q2] at hx
              exact ⟨x, a, ys, rfl, rfl, .inr (g2.sub.sqT hx), Nat.le_trans hl (by decide), h2.ok g2 _ (.str _)⟩
            · rename_i a zs es' hx rx
              cases q1
              rw [strsOf_rps rx q2] at hx
              exact ⟨x, a, ys, rfl, rfl, .inl (.inl (.inl (g2.sub _ _ hx))), Nat.le_trans hl (by decide), h2.ok g2 _ (.str _)⟩
        · cases hd
      · exact h2.elim
    · exact h2.elim
  · exact h1.elim⟩
end
end DL

/-! DL14: classes and their instances. -/
namespace DL
open PySem L2

/-! ### fields by place -/
theorem zip_look : ∀ {ns : List Str} {vs : List V} {i : Nat} {x : Str} {v : V}, ns.Nodup → ns[i]? = some x → vs[i]? = some v → (ns.zip vs).lookup x = some v
  | [], _, _, _, _, _, h, _ => by simp at h
  | _ :: _, [], _, _, _, _, _, h => by simp at h
  | n :: ns, v :: vs, 0, x, u, nd, h1, h2 => by
    simp only [List.getElem?_cons_zero, Option.some.injEq] at h1 h2
    subst h1 h2
    rw [List.zip_cons_cons, List.lookup_cons]
    simp
  | n :: ns, v :: vs, i + 1, x, u, nd, h1, h2 => by
    simp only [List.getElem?_cons_succ] at h1 h2
    have hx : x ∈ ns := List.mem_iff_getElem?.mpr ⟨i, h1⟩
    have hne : x ≠ n := by rintro rfl; exact (List.nodup_cons.mp nd).1 hx
    rw [List.zip_cons_cons, List.lookup_cons, beq_eq_false_iff_ne.mpr hne]
    exact zip_look (List.nodup_cons.mp nd).2 h1 h2
theorem zip_none : ∀ {ns : List Str} {vs : List V} {x : Str}, x ∉ ns → (ns.zip vs).lookup x = none
  | [], _, _, _ => rfl
  | _ :: _, [], _, _ => rfl
  | n :: ns, v :: vs, x, h => by
    rw [List.mem_cons, not_or] at h
    rw [List.zip_cons_cons, List.lookup_cons, beq_eq_false_iff_ne.mpr h.1]
    exact zip_none h.2
theorem zip_put : ∀ {ns : List Str} {vs : List V} {i : Nat} {x : Str} {v : V}, ns.Nodup → ns[i]? = some x → i < vs.length → putF x v (ns.zip vs) = ns.zip (vs.set i v)
  | [], _, _, _, _, _, h, _ => by simp at h
  | _ :: _, [], _, _, _, _, _, h => by simp at h
  | n :: ns, v :: vs, 0, x, u, nd, h1, h2 => by
    simp only [List.getElem?_cons_zero, Option.some.injEq] at h1
    subst h1
    rw [List.zip_cons_cons, putF, if_pos rfl]
    rfl
  | n :: ns, v :: vs, i + 1, x, u, nd, h1, h2 => by
    simp only [List.getElem?_cons_succ] at h1
    have hx : x ∈ ns := List.mem_iff_getElem?.mpr ⟨i, h1⟩
    have hne : n ≠ x := by rintro rfl; exact (List.nodup_cons.mp nd).1 hx
    rw [List.zip_cons_cons, putF, if_neg hne, zip_put (List.nodup_cons.mp nd).2 h1 (by simpa using h2)]
    rfl
theorem zip_add : ∀ {ns : List Str} {vs : List V} {x : Str} {v : V}, ns.Nodup → ns[vs.length]? = some x → putF x v (ns.zip vs) = ns.zip (vs ++ [v])
  | [], _, _, _, _, h => by simp at h
  | n :: ns, [], x, u, nd, h1 => by
    simp only [List.length_nil, List.getElem?_cons_zero, Option.some.injEq] at h1
    subst h1
    simp [putF]
  | n :: ns, v :: vs, x, u, nd, h1 => by
    simp only [List.length_cons, List.getElem?_cons_succ] at h1
    have hx : x ∈ ns := List.mem_iff_getElem?.mpr ⟨_, h1⟩
    have hne : n ≠ x := by rintro rfl; exact (List.nodup_cons.mp nd).1 hx
    rw [List.zip_cons_cons, putF, if_neg hne, zip_add (List.nodup_cons.mp nd).2 h1]
    rfl

def insOf (r : Rs) : D → Option (Nat × List D)
  | .ins c fs => some (c, fs)
  | .loc n => match r[n]? with
    | some (.obj _ c fs) => some (c, fs)
    | _ => none
  | _ => none
theorem ins_dl {K : PySem.W.Frag} {w : Wd} {r : Rs} {H : Hp} {a : D} {v : V} {c : Nat} {fs : List D} (g : Good K w r H) (rv : Rp K w.m w.v a v) (e : insOf r a = some (c, fs)) :
    ∃ p dx vs, v = .ref p ∧ H p = some (.ins (clsA K c) dx ((fldsOf c).zip vs)) ∧ vs.length ≤ (fldsOf c).length ∧ Rps K w.m w.v fs vs := by
  cases rv <;> simp only [insOf] at e <;> try (cases e; done)
  case loc n a hm =>
    cases q : r[n]? with
    | none => rw [q] at e; cases e
    | some o =>
      rw [q] at e
      cases o with
      | lst _ => cases e
      | dic _ => cases e
      | obj i c' fs' =>
        cases e
        obtain ⟨b, hb, dx, vs, h1, h2, h3⟩ := g.at_ n _ q
        rw [hm] at hb
        cases hb
        exact ⟨a, dx, vs, rfl, h1, h2, h3⟩
  case ins c' a dx fs' vs h1 h2 h3 =>
    cases e
    exact ⟨a, dx, vs, rfl, g.sub _ _ h1, h2, h3⟩
section
variable {X : Cx} {W : WX}
/-- e.x, the field at i of an instance of class c0 -/
def fldD (r : Rs) (c0 i : Nat) (a : D) : Option D := match insOf r a with
  | some (c, fs) => if c = c0 then fs[i]? else none
  | none => none
def xFld (c0 i : Nat) (f : Ex) : Ex := fun ρ r => (f ρ r).bind fun a r1 => match fldD r1 c0 i a with
  | some d => .ok d r1
  | none => .bad
theorem fld_dl {K : PySem.W.Frag} {w : Wd} {r : Rs} {H : Hp} {a d : D} {v : V} {c0 i : Nat} {x : Str} (g : Good K w r H) (rv : Rp K w.m w.v a v) (hx : (fldsOf c0)[i]? = some x) (e : fldD r c0 i a = some d) :
    ∃ p dx fs u, v = .ref p ∧ H p = some (.ins (clsA K c0) dx fs) ∧ fs.lookup x = some u ∧ Rp K w.m w.v d u := by
  unfold fldD at e
  cases q : insOf r a with
  | none => rw [q] at e; cases e
  | some p =>
    obtain ⟨c, fs⟩ := p
    rw [q] at e
    dsimp only at e
    split at e
    · rename_i hc
      subst hc
      obtain ⟨p, dx, vs, h1, h2, h3, h4⟩ := ins_dl g rv q
      obtain ⟨u, hu, ru⟩ := h4.get e
      exact ⟨p, dx, _, u, h1, h2, zip_look (flds_nd c) hx hu, ru⟩
    · cases e
theorem de_fld {e : Expr} {x : Str} {pos : Pos} {f : Ex} (c0 i : Nat) (cl : Cls X.K (clsA X.K c0)) (na : NoAttr X.K (clsA X.K c0) x) (hx : (fldsOf c0)[i]? = some x) (he : PE X e (tE X.K W f)) (hb : attributeBase e x X.env (eval e X.env) = eval e X.env := by rfl) :
    PE X (.Attribute e x pos) (tE X.K W (xFld c0 i f)) :=
  (pe_fld he hb).imp fun σ H Q ⟨ρ, r, w, gd, s, h⟩ => ⟨ρ, r, w, gd, s, h.bind fun a w1 r1 H1 t1 g1 h1 v rv => by
    split at h1
    · rename_i d e
      obtain ⟨p, dx, fs, u, e1, e2, e3, ru⟩ := fld_dl g1 rv hx e
      exact ⟨p, _, dx, fs, u, e1, e2, cl, na, e3, h1.ok g1 u ru⟩
    · exact h1.elim⟩
/-- e.x, a constant of the class -/
def xCon (c0 : Nat) (d : D) (f : Ex) : Ex := fun ρ r => (f ρ r).bind fun a r1 => match insOf r1 a with
  | some (c, _) => if c = c0 then .ok d r1 else .bad
  | none => .bad
theorem de_con {e : Expr} {x : Str} {pos : Pos} {f : Ex} {d : D} {v0 : V} {u0 : Value} (c0 : Nat) (cl : Cls X.K (clsA X.K c0)) (k : Con X.K (clsA X.K c0) x v0 u0) (hd : ∀ (m : List Addr) (H : Hp), Rp X.K m H d v0) (hx : x ∉ fldsOf c0) (he : PE X e (tE X.K W f))
    (hb : attributeBase e x X.env (eval e X.env) = eval e X.env := by rfl) : PE X (.Attribute e x pos) (tE X.K W (xCon c0 d f)) :=
  (pe_con he hb).imp fun σ H Q ⟨ρ, r, w, gd, s, h⟩ => ⟨ρ, r, w, gd, s, h.bind fun a w1 r1 H1 t1 g1 h1 v rv => by
    split at h1
    · rename_i c fs e
      split at h1
      · rename_i hc
        subst hc
        obtain ⟨p, dx, vs, e1, e2, e3, ru⟩ := ins_dl g1 rv e
        exact ⟨p, _, dx, _, v0, u0, e1, e2, cl, k, zip_none hx, h1.ok g1 v0 (hd _ _)⟩
      · exact h1.elim
    · exact h1.elim⟩

/-! ### methods -/
def tMethS (C : Addr) (m : Str) (sp : Sp) (E : St → XK) (ta : TE) (t : TA) : TE := fun σ H Q => ta σ H fun x H1 => ∃ a dx fs, x = .ref a ∧ H1 a = some (.ins C dx fs) ∧ fs.lookup m = none ∧
  t σ H1 fun vs H2 => sp (x :: vs) H2 Q (E σ)
section
variable {CX : CXT} {k : Nat} {f C : Addr} {fd : FuncData} {ps : List Str} {sp : Sp} {E : St → XK} {x m : Str} {p pos apos : Pos} {e o : Expr} {es : List Expr} {ta : TE} {t : TA}
theorem pe_methT {pl : Sem Bool} (he : PE X o ta) (c : Cls X.K C) (hm : Meth X.K C m f) (F : FnOk X.prog X.w X.K X.mg X.base CX k f fd ps sp) (hr : Room k X.A) (hb : Binds X.K fd ps []) (hx : ∀ σ, PassesAt CX X σ (E σ)) (ha : PA X (e :: es) t)
    (hst : starEach (e :: es) X.env = (false, eval e X.env) :: starEach es X.env := by rfl) (hpl : (backTo pos (starEach es X.env)).any (·.1) = false := by rfl)
    (ht : eval (.Call (.Attribute o m apos) (e :: es) [] pos) X.env = (do
      let ov ← eval o X.env
      standAt apos.atName
      let (f, first) ← holding [ov] (getMethod ov m pl)
      callWith pos f first (backTo pos (starEach (e :: es) X.env)) (backToKw pos (keywordEach [] X.env))) := by rfl) :
    PE X (.Call (.Attribute o m apos) (e :: es) [] pos) (tMethS C m sp E ta t) := by
  refine ⟨fun pins s σ H Q I h => ?_⟩
  refine PySem.W.methodCall_KW (pl := pl) (thn (he.run pins s σ H _ I h) fun u s1 ⟨x, H1, I1, rx, a, dx, fs, ex, ea, l, q⟩ => ?_) ht
  subst ex
  obtain rfl : u = Value.ref a := rx
  refine getmeth_ok I1 ea c hm l ?_
  refine PySem.W.callWith_K (first := [.ref a]) (h₀ := X.base) I.ok.mod.kin hm.kp (thn (ha.run pos pins s1 σ H1 _ I1 q) fun us s2 ⟨vs, H2, I2, r, q2⟩ => ⟨I2.kIn, ?_⟩) hst hpl
  exact run_fnS (us := .ref a :: us) (vs := .ref a :: vs) F hr hb (hx σ) I2 (.cons rfl r) q2
theorem pe_methT0 {pl : Sem Bool} (he : PE X o ta) (c : Cls X.K C) (hm : Meth X.K C m f) (F : FnOk X.prog X.w X.K X.mg X.base CX k f fd ps sp) (hr : Room k X.A) (hb : Binds X.K fd ps []) (hx : ∀ σ, PassesAt CX X σ (E σ))
    (ht : eval (.Call (.Attribute o m apos) [] [] pos) X.env = (do
      let ov ← eval o X.env
      standAt apos.atName
      let (f, first) ← holding [ov] (getMethod ov m pl)
      callWith pos f first (backTo pos (starEach [] X.env)) (backToKw pos (keywordEach [] X.env))) := by rfl) :
    PE X (.Call (.Attribute o m apos) [] [] pos) (tMethS C m sp E ta tNil) := by
  refine ⟨fun pins s σ H Q I h => ?_⟩
  refine PySem.W.methodCall_KW (pl := pl) (thn (he.run pins s σ H _ I h) fun u s1 ⟨x, H1, I1, rx, a, dx, fs, ex, ea, l, q⟩ => ?_) ht
  subst ex
  obtain rfl : u = Value.ref a := rx
  refine getmeth_ok I1 ea c hm l ?_
  exact PySem.W.callWith_K0 (first := [.ref a]) I1.kIn hm.kp (run_fnS (us := [.ref a]) (vs := [.ref a]) F hr hb (hx σ) I1 (.cons rfl .nil) q)
end
/-- behind a callee's promise -/
theorem after_fn {K : PySem.W.Frag} {n : Nat} {F : List D → Rs → Out D} {w : Wd} {H : Hp} {σ : L2.St} {w1 : Wd} {H1 : Hp} {ds : List D} {vs : List V} {r1 : Rs} {Q : VK} (t1 : Tr w H w1 H1) (g1 : Good K w1 r1 H1) (rvs : Rps K w1.m w1.v ds vs) (hl : ds.length = n)
    (h : After K W w1 H1 σ (F ds r1) (fun d w' _ H' => ∀ v, Rp K w'.m w'.v d v → Q v H')) : spD K n F vs H1 Q (WE W σ) := by
  refine ⟨by rw [← rvs.length]; exact hl, ds, r1, w1, g1, rvs, ?_⟩
  revert h
  generalize F ds r1 = o2
  intro h
  cases o2 with
  | ok d r2 => exact fun w2 H2 t2 g2 => h w2 H2 t2 g2
  | exc c fs r2 => exact fun w2 H2 cls dd t2 g2 x => h w2 H2 cls dd t2 g2 x
  | bad => exact h
def xMeth (c0 : Nat) (F : List D → Rs → Out D) (f : Ex) (g : Ax) : Ex := fun ρ r => (f ρ r).bind fun a r1 => match insOf r1 a with
  | some (c, _) => if c = c0 then (g ρ r1).bind fun ds r2 => F (a :: ds) r2 else .bad
  | none => .bad
section
variable {k n : Nat} {g : Addr} {fd : FuncData} {ps : List Str} {F : List D → Rs → Out D} {x m : Str} {p pos apos : Pos} {e o : Expr} {es : List Expr} {f : Ex} {fa : Ax}
theorem meth_dl {c0 : Nat} (hn : ∀ ρ r ds r', fa ρ r = .ok ds r' → ds.length = n) (hx : m ∉ fldsOf c0) {σ : L2.St} {H : Hp} {Q : VK} (h : tE X.K W (xMeth c0 F f fa) σ H Q) :
    tMethS (clsA X.K c0) m (spD X.K (n + 1) F) (WE W) (tE X.K W f) (tA X.K W fa) σ H Q := by
  obtain ⟨ρ, r, w, gd, s, h⟩ := h
  refine ⟨ρ, r, w, gd, s, h.bind fun a w1 r1 H1 t1 g1 h1 v rv => ?_⟩
  split at h1
  · rename_i c fs e
    split at h1
    · rename_i hc
      subst hc
      obtain ⟨p, dx, vs, e1, e2, e3, ru⟩ := ins_dl g1 rv e
      refine ⟨p, dx, _, e1, e2, zip_none hx, ρ, r1, w1, g1, s.mono t1, ?_⟩
      have hl := hn ρ r1
      revert h1 hl
      generalize fa ρ r1 = o
      intro h1 hl
      cases o with
      | ok ds r2 =>
        intro w2 H2 t2 g2 vs2 rvs
        refine after_fn (t1.trans t2) g2 (.cons (t2.rp rv) rvs) (by rw [List.length_cons, hl ds r2 rfl]) ?_
        have h' : After X.K W w1 H1 σ (F (a :: ds) r2) (fun d w' _ H' => ∀ v, Rp X.K w'.m w'.v d v → Q v H') := h1
        revert h'
        generalize F (a :: ds) r2 = o2
        intro h'
        cases o2 with
        | ok d r3 => exact fun w3 H3 t3 g3 => h' w3 H3 (t2.trans t3) g3
        | exc c fs r3 => exact fun w3 H3 cls dd t3 g3 x => h' w3 H3 cls dd (t2.trans t3) g3 x
        | bad => exact h'
      | exc c fs r2 => exact h1
      | bad => exact h1
    · exact h1.elim
  · exact h1.elim
theorem de_meth {pl : Sem Bool} (c0 : Nat) (cl : Cls X.K (clsA X.K c0)) (hm : Meth X.K (clsA X.K c0) m g) (hx : m ∉ fldsOf c0) (G : FnOk X.prog X.w X.K X.mg X.base (L2.CX X.prog X.w) k g fd ps (spD X.K (n + 1) F)) (hr : Room k X.A) (hb : Binds X.K fd ps []) (tk : Takes X W)
    (ho : PE X o (tE X.K W f)) (ha : PA X (e :: es) (tA X.K W fa)) (hn : ∀ ρ r ds r', fa ρ r = .ok ds r' → ds.length = n)
    (hst : starEach (e :: es) X.env = (false, eval e X.env) :: starEach es X.env := by rfl) (hpl : (backTo pos (starEach es X.env)).any (·.1) = false := by rfl)
    (ht : eval (.Call (.Attribute o m apos) (e :: es) [] pos) X.env = (do
      let ov ← eval o X.env
      standAt apos.atName
      let (f, first) ← holding [ov] (getMethod ov m pl)
      callWith pos f first (backTo pos (starEach (e :: es) X.env)) (backToKw pos (keywordEach [] X.env))) := by rfl) :
    PE X (.Call (.Attribute o m apos) (e :: es) [] pos) (tE X.K W (xMeth c0 F f fa)) :=
  (pe_methT (pl := pl) (E := WE W) ho cl hm G hr hb (fun σ => passAt tk σ) ha hst hpl ht).imp fun σ H Q h => meth_dl hn hx h
theorem de_meth0 {pl : Sem Bool} (c0 : Nat) (cl : Cls X.K (clsA X.K c0)) (hm : Meth X.K (clsA X.K c0) m g) (hx : m ∉ fldsOf c0) (G : FnOk X.prog X.w X.K X.mg X.base (L2.CX X.prog X.w) k g fd ps (spD X.K 1 F)) (hr : Room k X.A) (hb : Binds X.K fd ps []) (tk : Takes X W)
    (ho : PE X o (tE X.K W f))
    (ht : eval (.Call (.Attribute o m apos) [] [] pos) X.env = (do
      let ov ← eval o X.env
      standAt apos.atName
      let (f, first) ← holding [ov] (getMethod ov m pl)
      callWith pos f first (backTo pos (starEach [] X.env)) (backToKw pos (keywordEach [] X.env))) := by rfl) :
    PE X (.Call (.Attribute o m apos) [] [] pos) (tE X.K W (xMeth c0 F f xNil)) :=
  (pe_methT0 (pl := pl) (E := WE W) ho cl hm G hr hb (fun σ => passAt tk σ) ht).imp fun σ H Q h => by
    obtain ⟨ρ, r, w, gd, s, q⟩ := meth_dl (fa := xNil) (n := 0) len0 hx h
    exact ⟨ρ, r, w, gd, s, q.mono fun a w1 r1 H1 t1 g1 q v rv => by
      obtain ⟨p, dx, fs, e1, e2, e3, ρ2, r2, w2, gd2, s2, q2⟩ := q v rv
      exact ⟨p, dx, fs, e1, e2, e3, q2.ok gd2 [] .nil⟩⟩
end
end
end DL

/-! DL15: instances made: that change (a resource), or that stay as their __init__ left them (data). -/
namespace DL
open PySem L2

/-! ### the call -/
def tMakeS (C : Addr) (sp : Sp) (E : St → XK) (t : TA) : TE := fun σ H Q => t σ H fun vs H1 => ∀ x dx, H1 x = none → H1 dx = none → dx ≠ x →
  sp (.ref x :: vs) (upd (upd H1 dx (.own x)) x (.ins C dx [])) (fun v H2 => v = .non ∧ Q (.ref x) H2) (E σ)
section
variable {X : Cx} {CX : CXT} {k : Nat} {f C : Addr} {fd : FuncData} {ps : List Str} {sp : Sp} {E : St → XK} {x : Str} {p pos : Pos} {e : Expr} {es : List Expr} {t : TA} {σ : L2.St} {H : Hp} {s : Shared}
theorem run_makeS {pins : List (Addr × Obj)} {Q : VK} {us : List Value} {vs : List V} (M : Mk X.K C f) (F : FnOk X.prog X.w X.K X.mg X.base CX k f fd ps sp) (hr : Room (k + 1) X.A) (hb : Binds X.K fd ps [])
    (hx : PassesAt CX X σ (E σ)) (I : Inv X pins σ H s) (r : Vals vs us)
    (h : ∀ x dx, H x = none → H dx = none → dx ≠ x → sp (.ref x :: vs) (upd (upd H dx (.own x)) x (.ins C dx [])) (fun v H2 => v = .non ∧ Q (.ref x) H2) (E σ)) :
    wpAny (model X.prog X.w) X.A (call (.ref C) us) (EP X pins σ Q) X.xe s := by
  have hq := h (s.heap.objs.size + 1) s.heap.objs.size (I.hok.fresh (Nat.le_succ _)) (I.hok.fresh (Nat.le_refl _)) (Nat.ne_of_lt (Nat.lt_succ_self _))
  have I2 := Inv.made (C := C) I
  have r2 : Vals (V.ref (s.heap.objs.size + 1) :: vs) (Value.ref (s.heap.objs.size + 1) :: us) := .cons rfl r
  have hl : (Value.ref (s.heap.objs.size + 1) :: us).length = ps.length := by
    have e := r2.length
    rw [F.len _ _ _ _ hq] at e
    exact e.symm
  have b := hb _ (Value.ref (s.heap.objs.size + 1) :: us) I2.kIn (by rw [List.append_nil]; exact hl)
  rw [List.append_nil] at b
  refine wpAny_call (make_map (f := f) I.kIn M.makes M.init (beq_iff_eq.mp M.fn) (codeAny_mono (F.run _ X.stack _ _ ⟨Value.ref (s.heap.objs.size + 1) :: us, []⟩ (Value.ref (s.heap.objs.size + 1) :: us) _ _ (E σ) (hr.make C us [])
    (I2.env0.make C us []) b r2 hq) fun r s' hq' => ?_))
  cases r with
  | error e => exact hx pins _ _ e s' I2 hq'
  | ok fl =>
    cases fl with
    | ret u =>
      obtain ⟨v, H', I3, rv, ev, q3⟩ := I2.after hq'
      subst ev
      exact ⟨rv, ⟨V.ref (s.heap.objs.size + 1), H', I3, rfl, q3⟩⟩
    | next => exact False.elim hq'
    | brk => exact False.elim hq'
    | cont => exact False.elim hq'
theorem pe_makeT (M : Mk X.K C f) (F : FnOk X.prog X.w X.K X.mg X.base CX k f fd ps sp) (hr : Room (k + 1) X.A) (hg : Gl X x) (hm : X.mg x = some (.ref C)) (hb : Binds X.K fd ps []) (hx : ∀ σ, PassesAt CX X σ (E σ))
    (ha : PA X (e :: es) t) (hdb : (x == ("__debug__" : Str)) = false := by decide) (he : starEach (e :: es) X.env = (false, eval e X.env) :: starEach es X.env := by rfl) (hpl : (backTo pos (starEach es X.env)).any (·.1) = false := by rfl) :
    PE X (.Call (.Name x p) (e :: es) [] pos) (tMakeS C sp E t) := by
  refine ⟨fun pins s σ H Q I h => ?_⟩
  refine wpAny_Call_Name_kw (ld_glob I hg hm ?_ hdb)
  refine PySem.W.callWith_K (h₀ := X.base) I.ok.mod.kin M.kp (thn (ha.run pos pins s σ H _ I h) fun us s1 ⟨vs, H1, I1, r, q⟩ => ⟨I1.kIn, ?_⟩) he hpl
  exact run_makeS M F hr hb (hx σ) I1 r q
end

/-! ### the new resource -/
theorem good_make {K : PySem.W.Frag} {w : Wd} {r : Rs} {H : Hp} (g : Good K w r H) {x dx : Addr} (c : Nat) (hx : H x = none) (hdx : H dx = none) (hne : dx ≠ x) :
    ∃ w2, w2.m = w.m ++ [x] ∧ w2.v = w.v ∧ (∀ n, n < w.m.length → w2.g n = w.g n) ∧ Tr w H w2 (upd (upd H dx (.own x)) x (.ins (clsA K c) dx [])) ∧
      Good K w2 (r ++ [.obj 0 c []]) (upd (upd H dx (.own x)) x (.ins (clsA K c) dx [])) ∧ Rp K w2.m w2.v (.loc r.length) (.ref x) := by
  have other : ∀ {b : Addr} {o : HO}, H b = some o → upd (upd H dx (.own x)) x (.ins (clsA K c) dx []) b = some o := fun {b o} e => by
    have h1 : b ≠ x := ne_of_none e hx
    have h2 : b ≠ dx := ne_of_none e hdx
    rw [upd_ne h1, upd_ne h2]; exact e
  have pr : Pre w.m (w.m ++ [x]) := fun k a e => by rw [List.getElem?_append_left (List.getElem?_eq_some_iff.mp e).1]; exact e
  have hp : (w.m ++ [x])[r.length]? = some x := by
    rw [← g.len, List.getElem?_append_right (Nat.le_refl _), Nat.sub_self]
    rfl
  have hnm : x ∉ w.m := fun hm => g.live hm hx
  have gl : ∀ n, n < w.m.length → (if n = r.length then 0 else w.g n) = w.g n := fun n hn => by rw [if_neg (by have := g.len; omega)]
  refine ⟨⟨w.m ++ [x], w.v, fun n => if n = r.length then 0 else w.g n⟩, rfl, rfl, gl, ⟨.refl _, pr, fun b o e _ => other e, fun b e => ?_, fun b e => .inl e, fun b hb => ?_, fun b xs e => ?_, fun n hn => Nat.le_of_eq (gl n hn).symm, fun n a C' dx' fs hm ha _ => (other ha).trans ha.symm⟩,
    ⟨fun a o e => other (g.sub a o e), fun a ha => ?_, ?_, ?_, fun k o e => ?_, fun k i c' fs e => ?_⟩, .loc hp⟩
  · by_cases h1 : b = x
    · subst h1; rw [upd_same]; intro z; cases z
    · rw [upd_ne h1]
      by_cases h2 : b = dx
      · subst h2; rw [upd_same]; intro z; cases z
      · rw [upd_ne h2]; exact e
  · rcases List.mem_append.mp hb with z | z
    · exact .inl z
    · rw [List.mem_singleton.mp z]; exact .inr hx
  · rcases e with e | ⟨u, e⟩
    · exact .inl (other e)
    · exact .inr ⟨u, other e⟩
  · rcases List.mem_append.mp ha with z | z
    · exact g.dis a z
    · rw [List.mem_singleton.mp z]; exact g.none_of hx
  · show (w.m ++ [x]).length = _
    rw [List.length_append, List.length_append, g.len]; rfl
  · refine List.nodup_append.mpr ⟨g.nd, by simp, fun a ha b hb => ?_⟩
    rw [List.mem_singleton.mp hb]
    rintro rfl
    exact hnm ha
  · by_cases hk : k < r.length
    · rw [List.getElem?_append_left hk] at e
      obtain ⟨a, ha, y⟩ := g.at_ k o e
      have hax : a ≠ x := by rintro rfl; exact hnm (List.mem_iff_getElem?.mpr ⟨k, ha⟩)
      have had : a ≠ dx := by rintro rfl; exact g.live (List.mem_iff_getElem?.mpr ⟨k, ha⟩) hdx
      exact ⟨a, pr k a ha, roAt_mono (.refl _) pr (by rw [upd_ne hax, upd_ne had]) y⟩
    · have hk2 : k = r.length := by
        have := (List.getElem?_eq_some_iff.mp e).1
        rw [List.length_append] at this
        simp only [List.length_singleton] at this
        omega
      subst hk2
      rw [List.getElem?_append_right (Nat.le_refl _), Nat.sub_self] at e
      cases e
      exact ⟨x, hp, dx, [], by rw [upd_same]; simp, Nat.zero_le _, .nil⟩
  · show (if k = r.length then 0 else w.g k) = i
    by_cases hk : k < r.length
    · rw [List.getElem?_append_left hk] at e
      rw [if_neg (by omega)]
      exact g.gv k i c' fs e
    · have hk2 : k = r.length := by
        have := (List.getElem?_eq_some_iff.mp e).1
        rw [List.length_append] at this
        simp only [List.length_singleton] at this
        omega
      subst hk2
      rw [List.getElem?_append_right (Nat.le_refl _), Nat.sub_self] at e
      cases e
      rw [if_pos rfl]

/-! ### no later resource is in it -/
mutual
def D.blw (L : Nat) : D → Bool
  | .tup xs => D.blws L xs
  | .lst xs => D.blws L xs
  | .ins _ xs => D.blws L xs
  | .dic kvs => D.blwk L kvs
  | .loc n => decide (n < L)
  | _ => true
def D.blws (L : Nat) : List D → Bool
  | [] => true
  | x :: xs => D.blw L x && D.blws L xs
def D.blwk (L : Nat) : List (Key × D) → Bool
  | [] => true
  | (_, d) :: r => D.blw L d && D.blwk L r
end
section
variable {K : PySem.W.Frag} {m m' : List Addr} {H H' : Hp} {L : Nat}
mutual
theorem Rp.lower (s : Sub H H') (p : ∀ (n : Nat) (a : Addr), n < L → m[n]? = some a → m'[n]? = some a) : ∀ {d : D} {v : V}, d.blw L = true → Rp K m H d v → Rp K m' H' d v
  | _, _, _, .non => .non
  | _, _, _, .bl b => .bl b
  | _, _, _, .int i => .int i
  | _, _, _, .str x => .str x
  | .tup ds, _, e, .tup h r => .tup (s.sqT h) (Rps.lower s p (by rw [D.blw] at e; exact e) r)
  | .lst ds, _, e, .lst h r => .lst (s _ _ h) (Rps.lower s p (by rw [D.blw] at e; exact e) r)
  | .dic ds, _, e, .dic h r => .dic (s _ _ h) (Rpk.lower s p (by rw [D.blw] at e; exact e) r)
  | .loc n, _, e, .loc h => .loc (p n _ (by rw [D.blw, decide_eq_true_eq] at e; exact e) h)
  | _, _, _, .scr h => .scr (s.sqL h)
  | _, _, _, .ty n => .ty n
  | _, _, _, .gl a => .gl a
  | .ins c fs, _, e, .ins h l r => .ins (s _ _ h) l (Rps.lower s p (by rw [D.blw] at e; exact e) r)
theorem Rps.lower (s : Sub H H') (p : ∀ (n : Nat) (a : Addr), n < L → m[n]? = some a → m'[n]? = some a) : ∀ {d : List D} {v : List V}, D.blws L d = true → Rps K m H d v → Rps K m' H' d v
  | _, _, _, .nil => .nil
  | _ :: _, _, e, .cons h r => by
    rw [D.blws, Bool.and_eq_true] at e
    exact .cons (Rp.lower s p e.1 h) (Rps.lower s p e.2 r)
theorem Rpk.lower (s : Sub H H') (p : ∀ (n : Nat) (a : Addr), n < L → m[n]? = some a → m'[n]? = some a) : ∀ {d : List (Key × D)} {v : List (Key × V)}, D.blwk L d = true → Rpk K m H d v → Rpk K m' H' d v
  | _, _, _, .nil => .nil
  | (_, _) :: _, _, e, .cons h r => by
    rw [D.blwk, Bool.and_eq_true] at e
    exact .cons (Rp.lower s p e.1 h) (Rpk.lower s p e.2 r)
end
end
def RO.blw (L : Nat) : RO → Bool
  | .lst xs => D.blws L xs
  | .dic kvs => D.blwk L kvs
  | .obj _ _ fs => D.blws L fs
/-- a field's value, its own list or dict shown -/
def frzD (L : Nat) (r : Rs) : D → Option D
  | .loc n => if n < L then some (.loc n) else match r[n]? with
    | some (.lst xs) => if D.blws L xs then some (.lst xs) else none
    | some (.dic kvs) => if D.blwk L kvs then some (.dic kvs) else none
    | _ => none
  | d => if d.blw L then some d else none
def frzs (L : Nat) (r : Rs) : List D → Option (List D)
  | [] => some []
  | d :: ds => (frzD L r d).bind fun e => (frzs L r ds).map (e :: ·)
/-- the resources from L on are gone -/
def popOk (L : Nat) (r : Rs) : Bool := (r.take L).all (·.blw L)
theorem popR_dl {K : PySem.W.Frag} {w1 w2 w' : Wd} {r1 r' : Rs} {H1 H2 H' : Hp} {x dx : Addr} {c : Nat} {L : Nat} (g1 : Good K w1 r1 H1) (hL : L = r1.length) (hx : H1 x = none) (hdx : H1 dx = none) (hne : dx ≠ x)
    (e2 : H2 = upd (upd H1 dx (.own x)) x (.ins (clsA K c) dx [])) (em : w2.m = w1.m ++ [x]) (ev : w2.v = w1.v) (eg : ∀ n, n < w1.m.length → w2.g n = w1.g n) (t : Tr w2 H2 w' H') (g : Good K w' r' H') (ok : popOk L r' = true) :
    ∃ w3, w3.m = w1.m ∧ Tr w1 H1 w3 H' ∧ Good K w3 (r'.take L) H' ∧ Sub w'.v w3.v ∧ (∀ (n : Nat) (a : Addr), n < L → w'.m[n]? = some a → w3.m[n]? = some a) ∧
      ∀ (n : Nat) (a : Addr), L ≤ n → w'.m[n]? = some a → w3.v a = H' a := by
  have hlen : w1.m.length = L := by rw [hL]; exact g1.len
  have other : ∀ {b : Addr} {o : HO}, H1 b = some o → H2 b = some o := fun {b o} e => by
    rw [e2, upd_ne (ne_of_none e hx), upd_ne (ne_of_none e hdx)]; exact e
  have back : ∀ {b : Addr}, H2 b = none → H1 b = none := fun {b} e => by
    cases q : H1 b with
    | none => rfl
    | some o => rw [other q] at e; cases e
  have hnm : x ∉ w1.m := fun hm => g1.live hm hx
  have pre1 : ∀ (n : Nat) (a : Addr), w1.m[n]? = some a → w'.m[n]? = some a := fun n a e => t.pre n a (by
    rw [em, List.getElem?_append_left (List.getElem?_eq_some_iff.mp e).1]; exact e)
  have take1 : ∀ (n : Nat) (a : Addr), n < L → w'.m[n]? = some a → w1.m[n]? = some a := fun n a hn e => by
    have hn' : n < w1.m.length := by omega
    have := pre1 n _ (List.getElem?_eq_getElem hn')
    rw [e] at this
    cases this
    exact List.getElem?_eq_getElem hn'
  have late : ∀ {b : Addr}, b ∈ w'.m.drop L → b ∉ w1.m := fun {b} hb hm => by
    obtain ⟨n, hn⟩ := List.mem_iff_getElem?.mp hm
    obtain ⟨k, hk⟩ := List.mem_iff_getElem?.mp hb
    rw [List.getElem?_drop] at hk
    have h1 := pre1 n b hn
    have hn2 : n < w1.m.length := (List.getElem?_eq_some_iff.mp hn).1
    obtain ⟨l1, q1⟩ := List.getElem?_eq_some_iff.mp h1
    obtain ⟨l2, q2⟩ := List.getElem?_eq_some_iff.mp hk
    have := (List.getElem_inj g.nd).mp (q1.trans q2.symm)
    omega
  have lateN : ∀ {b : Addr}, b ∈ w'.m.drop L → H1 b = none := fun {b} hb => by
    rcases t.newm b (List.mem_of_mem_drop hb) with z | z
    · rw [em] at z
      rcases List.mem_append.mp z with z | z
      · exact absurd z (late hb)
      · rw [List.mem_singleton.mp z]; exact hx
    · exact back z
  have subv : Sub w'.v (fun b => if b ∈ w'.m.drop L then H' b else w'.v b) := fun b o e => by
    have hb : b ∉ w'.m.drop L := fun hb => by rw [g.dis b (List.mem_of_mem_drop hb)] at e; cases e
    show (if b ∈ w'.m.drop L then H' b else w'.v b) = some o
    rw [if_neg hb]; exact e
  refine ⟨⟨w1.m, fun b => if b ∈ w'.m.drop L then H' b else w'.v b, w'.g⟩, rfl, ⟨fun b o e => subv b o (t.sub b o (by rw [ev]; exact e)), .refl _, fun b o e hm => ?_, fun b e => ?_, fun b e => ?_, fun b hb => .inl hb, fun b xs e => ?_, fun n hn => ?_, fun n a C dx' fs hm ha e => ?_⟩,
    ⟨fun b o e => ?_, fun a ha => ?_, ?_, g1.nd, fun n o e => ?_, fun n i c' fs e => ?_⟩, subv, take1, fun n a hn ha => ?_⟩
  · refine t.keep b o (other e) fun z => ?_
    rw [em] at z
    rcases List.mem_append.mp z with z | z
    · exact hm z
    · rw [List.mem_singleton.mp z, hx] at e; cases e
  · refine t.live b fun z => e (back z)
  · have e' : (if b ∈ w'.m.drop L then H' b else w'.v b) ≠ none := e
    split at e'
    · rename_i hb
      exact .inr (lateN hb)
    · rcases t.newv b e' with z | z
      · rw [ev] at z; exact .inl z
      · exact .inr (back z)
  · refine t.tups b xs ?_
    rcases e with e | ⟨u, e⟩
    · exact .inl (other e)
    · exact .inr ⟨u, other e⟩
  · have := t.gm n (by rw [em, List.length_append]; omega)
    rw [eg n hn] at this
    exact this
  · have hn : n < w1.m.length := (List.getElem?_eq_some_iff.mp hm).1
    have h2 := t.same n a C dx' fs (by rw [em, List.getElem?_append_left hn]; exact hm) (other ha) (by rw [eg n hn]; exact e)
    rw [h2, other ha, ha]
  · have e' : (if b ∈ w'.m.drop L then H' b else w'.v b) = some o := e
    split at e'
    · exact e'
    · exact g.sub b o e'
  · have hb : a ∉ w'.m.drop L := fun hb => late hb ha
    show (if a ∈ w'.m.drop L then H' a else w'.v a) = none
    rw [if_neg hb]
    obtain ⟨n, hn⟩ := List.mem_iff_getElem?.mp ha
    exact g.dis a (List.mem_iff_getElem?.mpr ⟨n, pre1 n a hn⟩)
  · show w1.m.length = (r'.take L).length
    rw [List.length_take, ← g.len, hlen]
    have : L ≤ w'.m.length := by
      by_cases h0 : L = 0
      · omega
      · have h1 : L - 1 < w1.m.length := by omega
        have := (List.getElem?_eq_some_iff.mp (pre1 (L - 1) _ (List.getElem?_eq_getElem h1))).1
        omega
    omega
  · have hn : n < L := by
      have := (List.getElem?_eq_some_iff.mp e).1
      rw [List.length_take] at this
      omega
    have hb : o.blw L = true := by
      unfold popOk at ok
      rw [List.all_eq_true] at ok
      exact ok o (List.mem_iff_getElem?.mpr ⟨n, e⟩)
    rw [List.getElem?_take, if_pos hn] at e
    obtain ⟨a, ha, y⟩ := g.at_ n o e
    refine ⟨a, take1 n a hn ha, ?_⟩
    cases o with
    | lst ds => obtain ⟨i, xs, h1, h2⟩ := y; exact ⟨i, xs, h1, h2.lower subv take1 hb⟩
    | dic ds => obtain ⟨i, xs, h1, h2⟩ := y; exact ⟨i, xs, h1, h2.lower subv take1 hb⟩
    | obj i c fs => obtain ⟨dx, vs, h1, hl, h2⟩ := y; exact ⟨dx, vs, h1, hl, h2.lower subv take1 hb⟩
  · rw [List.getElem?_take] at e
    split at e
    · exact g.gv n i c' fs e
    · cases e
  · have hb : a ∈ w'.m.drop L := List.mem_iff_getElem?.mpr ⟨n - L, by rw [List.getElem?_drop, show L + (n - L) = n by omega]; exact ha⟩
    exact if_pos hb
theorem frzD_dl {K : PySem.W.Frag} {w' w3 : Wd} {r' : Rs} {H' : Hp} {L : Nat} (g : Good K w' r' H') (sv : Sub w'.v w3.v) (tk : ∀ (n : Nat) (a : Addr), n < L → w'.m[n]? = some a → w3.m[n]? = some a)
    (lt : ∀ (n : Nat) (a : Addr), L ≤ n → w'.m[n]? = some a → w3.v a = H' a) {d e : D} {v : V} (h : frzD L r' d = some e) (rv : Rp K w'.m w'.v d v) : Rp K w3.m w3.v e v := by
  by_cases hd : ∃ n, d = .loc n
  · obtain ⟨n, rfl⟩ := hd
    by_cases hn : n < L
    · rw [frzD, if_pos hn] at h
      cases h
      exact rv.lower sv tk (by rw [D.blw, decide_eq_true_eq]; exact hn)
    · rw [frzD, if_neg hn] at h
      cases rv with
      | loc hm =>
        cases q : r'[n]? with
        | none => rw [q] at h; cases h
        | some o =>
          rw [q] at h
          obtain ⟨a, ha, y⟩ := g.at_ n o q
          rw [hm] at ha
          cases ha
          have hv := lt n _ (by omega) hm
          cases o with
          | lst xs =>
            dsimp only at h
            split at h
            · rename_i hb
              cases h
              obtain ⟨_, ys, h1, h2⟩ := y
              exact .lst (hv.trans h1) (h2.lower sv tk hb)
            · cases h
          | dic xs =>
            dsimp only at h
            split at h
            · rename_i hb
              cases h
              obtain ⟨_, ys, h1, h2⟩ := y
              exact .dic (hv.trans h1) (h2.lower sv tk hb)
            · cases h
          | obj i c fs => cases h
  · have h' : (if d.blw L then some d else none) = some e := by
      cases d <;> first | exact h | exact absurd ⟨_, rfl⟩ hd
    split at h'
    · rename_i hb
      cases h'
      exact rv.lower sv tk hb
    · cases h'
theorem frzs_dl {K : PySem.W.Frag} {w' w3 : Wd} {r' : Rs} {H' : Hp} {L : Nat} (g : Good K w' r' H') (sv : Sub w'.v w3.v) (tk : ∀ (n : Nat) (a : Addr), n < L → w'.m[n]? = some a → w3.m[n]? = some a)
    (lt : ∀ (n : Nat) (a : Addr), L ≤ n → w'.m[n]? = some a → w3.v a = H' a) : ∀ {ds es : List D} {vs : List V}, frzs L r' ds = some es → Rps K w'.m w'.v ds vs → Rps K w3.m w3.v es vs
  | [], _, _, h, .nil => by cases h; exact .nil
  | d :: ds, es, _, h, .cons rv rt => by
    unfold frzs at h
    cases q : frzD L r' d with
    | none => rw [q] at h; cases h
    | some e =>
      rw [q] at h
      have h : (frzs L r' ds).map (e :: ·) = some es := h
      cases q2 : frzs L r' ds with
      | none => rw [q2] at h; cases h
      | some es' =>
        rw [q2] at h
        cases h
        exact .cons (frzD_dl g sv tk lt q rv) (frzs_dl g sv tk lt q2 rt)

/-! ### the rules -/
/-- C(..), an instance that changes -/
def xNewR (c0 : Nat) (F : List D → Rs → Out D) (g : Ax) : Ex := fun ρ r => (g ρ r).bind fun ds r1 => (F (.loc r1.length :: ds) (r1 ++ [.obj 0 c0 []])).bind fun d r2 => match d with
  | .non => .ok (.loc r1.length) r2
  | _ => .bad
/-- C(..), an instance that stays as it is -/
def frzO (L : Nat) (r : Rs) : Out D := if popOk L r then (match r[L]? with
  | some (.obj _ c fs) => (match frzs L r fs with
    | some es => .ok (.ins c es) (r.take L)
    | none => .bad)
  | _ => .bad) else .bad
def kNewF (L : Nat) : Out D → Out D
  | .ok .non r2 => frzO L r2
  | .exc c fs r2 => if popOk L r2 then .exc c fs (r2.take L) else .bad
  | _ => .bad
def xNewF (c0 : Nat) (F : List D → Rs → Out D) (g : Ax) : Ex := fun ρ r => (g ρ r).bind fun ds r1 => kNewF r1.length (F (.loc r1.length :: ds) (r1 ++ [.obj 0 c0 []]))
section
variable {X : Cx} {W : WX} {k n : Nat} {f : Addr} {fd : FuncData} {ps : List Str} {F : List D → Rs → Out D} {x : Str} {p pos : Pos} {e : Expr} {es : List Expr} {fa : Ax}
theorem de_newR (c0 : Nat) (M : Mk X.K (clsA X.K c0) f) (G : FnOk X.prog X.w X.K X.mg X.base (L2.CX X.prog X.w) k f fd ps (spD X.K (n + 1) F)) (hr : Room (k + 1) X.A) (hg : Gl X x) (hm : X.mg x = some (.ref (clsA X.K c0))) (hb : Binds X.K fd ps []) (tk : Takes X W)
    (ha : PA X (e :: es) (tA X.K W fa)) (hn : ∀ ρ r ds r', fa ρ r = .ok ds r' → ds.length = n) (hdb : (x == ("__debug__" : Str)) = false := by decide) (he : starEach (e :: es) X.env = (false, eval e X.env) :: starEach es X.env := by rfl) (hpl : (backTo pos (starEach es X.env)).any (·.1) = false := by rfl) :
    PE X (.Call (.Name x p) (e :: es) [] pos) (tE X.K W (xNewR c0 F fa)) :=
  (pe_makeT (E := WE W) M G hr hg hm hb (fun σ => passAt tk σ) ha hdb he hpl).imp fun σ H Q ⟨ρ, r, w, gd, s, h⟩ => by
    refine ⟨ρ, r, w, gd, s, ?_⟩
    have hl := hn ρ r
    unfold xNewR at h
    revert h hl
    generalize fa ρ r = o
    intro h hl
    cases o with
    | ok ds r1 =>
      intro w1 H1 t1 g1 vs rvs x dx hx hdx hne
      obtain ⟨w2, em, ev, eg, t2, g2, rx⟩ := good_make g1 c0 hx hdx hne
      refine after_fn (σ := σ) (t1.trans t2) g2 (.cons rx (t2.rps rvs)) (by rw [List.length_cons, hl ds r1 rfl]) ?_
      have h' : After X.K W w H σ ((F (.loc r1.length :: ds) (r1 ++ [.obj 0 c0 []])).bind fun d r2 => match d with
        | .non => Out.ok (.loc r1.length) r2
        | _ => .bad) (fun d w' _ H' => ∀ v, Rp X.K w'.m w'.v d v → Q v H') := h
      revert h'
      generalize F (.loc r1.length :: ds) (r1 ++ [.obj 0 c0 []]) = o2
      intro h'
      cases o2 with
      | ok d r2 =>
        intro w3 H3 t3 g3 v rv
        cases d <;> try exact h'.elim
        cases rv
        exact ⟨rfl, h' w3 H3 ((t1.trans t2).trans t3) g3 _ (t3.rp rx)⟩
      | exc c fs r2 => exact fun w3 H3 cls dd t3 g3 z => h' w3 H3 cls dd ((t1.trans t2).trans t3) g3 z
      | bad => exact h'
    | exc c fs r1 => exact h
    | bad => exact h
theorem de_newF (c0 : Nat) (M : Mk X.K (clsA X.K c0) f) (G : FnOk X.prog X.w X.K X.mg X.base (L2.CX X.prog X.w) k f fd ps (spD X.K (n + 1) F)) (hr : Room (k + 1) X.A) (hg : Gl X x) (hm : X.mg x = some (.ref (clsA X.K c0))) (hb : Binds X.K fd ps []) (tk : Takes X W)
    (ha : PA X (e :: es) (tA X.K W fa)) (hn : ∀ ρ r ds r', fa ρ r = .ok ds r' → ds.length = n) (hdb : (x == ("__debug__" : Str)) = false := by decide) (he : starEach (e :: es) X.env = (false, eval e X.env) :: starEach es X.env := by rfl) (hpl : (backTo pos (starEach es X.env)).any (·.1) = false := by rfl) :
    PE X (.Call (.Name x p) (e :: es) [] pos) (tE X.K W (xNewF c0 F fa)) :=
  (pe_makeT (E := WE W) M G hr hg hm hb (fun σ => passAt tk σ) ha hdb he hpl).imp fun σ H Q ⟨ρ, r, w, gd, s, h⟩ => by
    refine ⟨ρ, r, w, gd, s, ?_⟩
    have hl := hn ρ r
    unfold xNewF at h
    revert h hl
    generalize fa ρ r = o
    intro h hl
    cases o with
    | ok ds r1 =>
      intro w1 H1 t1 g1 vs rvs x dx hx hdx hne
      obtain ⟨w2, em, ev, eg, t2, g2, rx⟩ := good_make g1 c0 hx hdx hne
      refine after_fn (σ := σ) (t1.trans t2) g2 (.cons rx (t2.rps rvs)) (by rw [List.length_cons, hl ds r1 rfl]) ?_
      have h' : After X.K W w H σ (kNewF r1.length (F (.loc r1.length :: ds) (r1 ++ [.obj 0 c0 []]))) (fun d w' _ H' => ∀ v, Rp X.K w'.m w'.v d v → Q v H') := h
      revert h'
      generalize F (.loc r1.length :: ds) (r1 ++ [.obj 0 c0 []]) = o2
      intro h'
      cases o2 with
      | ok d r2 =>
        intro w3 H3 t3 g3 v rv
        cases d <;> try exact h'.elim
        cases rv
        refine ⟨rfl, ?_⟩
        have h2 : After X.K W w H σ (frzO r1.length r2) (fun d w' _ H' => ∀ v, Rp X.K w'.m w'.v d v → Q v H') := h'
        unfold frzO at h2
        split at h2
        · rename_i ok
          obtain ⟨w4, em4, t4, g4, sv, tk4, lt4⟩ := popR_dl g1 rfl hx hdx hne rfl em ev eg t3 g3 ok
          split at h2
          · rename_i i c fs q
            split at h2
            · rename_i es q2
              refine h2 w4 H3 (t1.trans t4) g4 (.ref x) ?_
              obtain ⟨a, ha, dx', vs', k1, k2, k3⟩ := g3.at_ _ _ q
              cases (t3.rp rx) with
              | loc hm =>
                rw [hm] at ha
                cases ha
                exact .ins ((lt4 _ _ (Nat.le_refl _) hm).trans k1) k2 (frzs_dl g3 sv tk4 lt4 q2 k3)
            · exact h2.elim
          · exact h2.elim
        · exact h2.elim
      | exc c fs r2 =>
        intro w3 H3 cls dd t3 g3 z
        have h2 : After X.K W w H σ (if popOk r1.length r2 then Out.exc c fs (r2.take r1.length) else .bad) (fun d w' _ H' => ∀ v, Rp X.K w'.m w'.v d v → Q v H') := h'
        split at h2
        · rename_i ok
          obtain ⟨w4, em4, t4, g4, sv, tk4, lt4⟩ := popR_dl g1 rfl hx hdx hne rfl em ev eg t3 g3 ok
          exact h2 w4 H3 cls dd (t1.trans t4) g4 z
        · exact h2.elim
      | bad => exact h'
    | exc c fs r1 => exact h
    | bad => exact h
end

/-! ### o.x = e, o an instance that changes -/
section
variable {X : Cx} {c : Sc} {st : Stmt} {pos pos' : Pos}
def putI (i : Nat) (v : D) (fs : List D) : Option (List D) := if i < fs.length then some (fs.set i v) else if i = fs.length then some (fs ++ [v]) else none
def kSetF (c0 i : Nat) (v : D) : D → En → Rs → SOut := fun o ρ r => match o with
  | .loc n => (match r[n]? with
    | some (.obj j c fs) => if c = c0 then (match putI i v fs with
      | some fs' => .next ρ (r.set n (.obj (j + 1) c fs'))
      | none => .bad) else .bad
    | _ => .bad)
  | _ => .bad
def sSetF (O : List Nat) (c0 i : Nat) (fo fv : Ex) : Sx := evF O fv fun v => evF O fo (kSetF c0 i v)
theorem good_obj {K : PySem.W.Frag} {w : Wd} {r : Rs} {H : Hp} (g : Good K w r H) {n j c : Nat} {a dx : Addr} {fs fs' : List D} {vs : List V} (hm : w.m[n]? = some a) (hr : r[n]? = some (.obj j c fs)) (hl : vs.length ≤ (fldsOf c).length) (rv : Rps K w.m w.v fs' vs) :
    ∃ w', w'.m = w.m ∧ w'.v = w.v ∧ Tr w H w' (upd H a (.ins (clsA K c) dx ((fldsOf c).zip vs))) ∧ Good K w' (r.set n (.obj (j + 1) c fs')) (upd H a (.ins (clsA K c) dx ((fldsOf c).zip vs))) := by
  have ha : a ∈ w.m := List.mem_iff_getElem?.mpr ⟨n, hm⟩
  obtain ⟨a', ha', x⟩ := g.at_ n _ hr
  rw [hm] at ha'
  cases ha'
  obtain ⟨u0, hu, nt⟩ := roAt_live x
  have hgn := g.gv n j c fs hr
  have inj : ∀ {i : Nat}, w.m[i]? = some a → i = n := fun {i} hi => by
    obtain ⟨l1, e1⟩ := List.getElem?_eq_some_iff.mp hm
    obtain ⟨l2, e2⟩ := List.getElem?_eq_some_iff.mp hi
    exact (List.getElem_inj g.nd).mp (e2.trans e1.symm)
  refine ⟨⟨w.m, w.v, fun i => if i = n then j + 1 else w.g i⟩, rfl, rfl, ⟨.refl _, .refl _, fun b q e nb => ?_, fun b e => ?_, fun b e => .inl e, fun b e => .inl e, fun b xs e => ?_, fun i _ => ?_, fun i b C' dx' fs2 hb hH e => ?_⟩,
    ⟨fun b q e => ?_, g.dis, by rw [List.length_set]; exact g.len, g.nd, fun i q e => ?_, fun i j' c' fs2 e => ?_⟩⟩
  · have hne : b ≠ a := by rintro rfl; exact nb ha
    rw [upd_ne hne]; exact e
  · by_cases hb : b = a
    · subst hb; rw [upd_same]; intro z; cases z
    · rw [upd_ne hb]; exact e
  · have hne : b ≠ a := by rintro rfl; exact nt xs e
    rcases e with e | ⟨z, e⟩
    · exact .inl (by rw [upd_ne hne]; exact e)
    · exact .inr ⟨z, by rw [upd_ne hne]; exact e⟩
  · show w.g i ≤ if i = n then j + 1 else w.g i
    split
    · rename_i h; subst h; omega
    · exact Nat.le_refl _
  · by_cases hba : b = a
    · subst hba
      have := inj hb
      subst this
      have e' : (if i = i then j + 1 else w.g i) = w.g i := e
      rw [if_pos rfl] at e'
      omega
    · exact upd_ne hba
  · have hne : b ≠ a := by rintro rfl; rw [g.dis b ha] at e; cases e
    rw [upd_ne hne]; exact g.sub b q e
  · by_cases hj : n = i
    · subst hj
      rw [List.getElem?_set_self (List.getElem?_eq_some_iff.mp hr).1] at e
      cases e
      exact ⟨a, hm, dx, vs, upd_same, hl, rv⟩
    · rw [List.getElem?_set_ne hj] at e
      obtain ⟨b, hb, y⟩ := g.at_ i q e
      refine ⟨b, hb, roAt_mono (.refl _) (.refl _) (upd_ne ?_) y⟩
      rintro rfl
      exact hj (inj hb).symm
  · show (if i = n then j + 1 else w.g i) = j'
    by_cases hj : n = i
    · subst hj
      rw [List.getElem?_set_self (List.getElem?_eq_some_iff.mp hr).1] at e
      cases e
      rw [if_pos rfl]
    · rw [List.getElem?_set_ne hj] at e
      rw [if_neg (fun z => hj z.symm)]
      exact g.gv i j' c' fs2 e
theorem ds_setF {fo fv : Ex} {x : Str} (c0 i : Nat) (cl : Cls c.K (clsA c.K c0)) (na : NoAttr c.K (clsA c.K c0) x) (hx : (fldsOf c0)[i]? = some x) (h : PS X st (sFld c.K (tE c.K c.W fo) (tE c.K c.W fv) x)) : PS X st (tS c (sSetF c.O c0 i fo fv)) :=
  h.imp fun D σ H ⟨ρ, r, lo, ⟨w, s⟩, h⟩ => ⟨wipeE ρ c.O, r, w, s.gd, s.slots, evF_dl s h fun v r1 w1 H1 t1 s1 h1 y ry => ⟨wipeE ρ c.O, r1, w1, s1.gd, s1.slots, evF_dl s1 h1 fun o r2 w2 H2 t2 s2 h2 z rz => by
    unfold kSetF at h2
    split at h2
    · rename_i n
      split at h2
      · rename_i j c' fs hr
        split at h2
        · rename_i hc
          subst hc
          split at h2
          · rename_i fs' hp
            cases rz with
            | loc hm =>
              obtain ⟨a', ha', dx, vs, k1, k2, k3⟩ := s2.gd.at_ n _ hr
              rw [hm] at ha'
              cases ha'
              have ry2 := t2.rp ry
              have hi : i < (fldsOf c').length := (List.getElem?_eq_some_iff.mp hx).1
              have small : ((fldsOf c').zip vs).length < 1000 := by
                have h1 : (fldsOf c').length < 1000 := by
                  have : ∀ l ∈ fldTab, l.length < 1000 := by decide
                  unfold fldsOf
                  by_cases hc : c' < fldTab.length
                  · rw [List.getD_eq_getElem?_getD, List.getElem?_eq_getElem hc]
                    exact this _ (List.getElem_mem hc)
                  · rw [List.getD_eq_getElem?_getD, List.getElem?_eq_none (by omega)]
                    decide
                rw [List.length_zip]
                omega
              refine ⟨_, _, dx, _, rfl, k1, cl, na, small, ?_⟩
              unfold putI at hp
              split at hp
              · rename_i hlt
                cases hp
                rw [k3.length] at hlt
                rw [zip_put (flds_nd c') hx hlt]
                obtain ⟨w3, em, ev, t3, g3⟩ := good_obj (fs' := fs.set i v) (dx := dx) s2.gd hm hr (by rw [List.length_set]; exact k2) (k3.set ry2 i)
                exact h2 _ _ ⟨w3, s2.step t3 g3⟩
              · split at hp
                · rename_i heq
                  cases hp
                  rw [k3.length] at heq
                  subst heq
                  rw [zip_add (flds_nd c') hx]
                  obtain ⟨w3, em, ev, t3, g3⟩ := good_obj (fs' := fs ++ [v]) (dx := dx) s2.gd hm hr (by rw [List.length_append]; exact hi) (k3.append (.one ry2))
                  exact h2 _ _ ⟨w3, s2.step t3 g3⟩
                · cases hp
          · exact h2.elim
        · exact h2.elim
      · exact h2.elim
    · exact h2.elim⟩⟩
end
end DL

/-! DL16: try, except. -/
namespace DL
open PySem L2

/-! ### expressions where P holds of the slots -/
def tEp (P : L2.St → Prop) (K : PySem.W.Frag) (W : WX) (f : Ex) : TE := fun σ H Q => P σ ∧ tE K W f σ H Q
def tTp (P : L2.St → Prop) (K : PySem.W.Frag) (W : WX) (f : Tx) : TT := fun σ H Q => P σ ∧ tT K W f σ H Q
section
variable {X : Cx} {W : WX} {P : L2.St → Prop} {a b e : Expr} {rest : List Expr} {pos : Pos} {f g : Ex} {t u : Tx}
theorem ep_any (h : PE X e (tE X.K W f)) : PE X e (tEp P X.K W f) := h.imp fun _ _ _ q => q.2
theorem tp_any (h : PT X e (tT X.K W t)) : PT X e (tTp P X.K W t) := h.imp fun _ _ _ q => q.2
theorem ep_one {op} (h : PE X a (tEp P X.K W f)) : PE X (.BoolOp op [a] pos) (tEp P X.K W f) := pe_one h
theorem ep_and (ha : PE X a (tEp P X.K W f)) (hb : PE X (.BoolOp .And (b :: rest) pos) (tEp P X.K W g)) : PE X (.BoolOp .And (a :: b :: rest) pos) (tEp P X.K W (xAndV f g)) :=
  (pe_andT ha hb).imp fun σ H Q ⟨hp, ρ, r, w, gd, s, h⟩ => ⟨hp, ρ, r, w, gd, s, h.bind fun d w1 r1 H1 t1 g1 h1 v rv => by
    split at h1
    · rename_i e
      exact ⟨true, truth_v g1 rv e, iteT ⟨hp, ρ, r1, w1, g1, s.mono t1, h1⟩⟩
    · rename_i e
      exact ⟨false, truth_v g1 rv e, iteF (h1.ok g1 v rv)⟩
    · exact h1.elim⟩
theorem ep_or (ha : PE X a (tEp P X.K W f)) (hb : PE X (.BoolOp .Or (b :: rest) pos) (tEp P X.K W g)) : PE X (.BoolOp .Or (a :: b :: rest) pos) (tEp P X.K W (xOrV f g)) :=
  (pe_orT ha hb).imp fun σ H Q ⟨hp, ρ, r, w, gd, s, h⟩ => ⟨hp, ρ, r, w, gd, s, h.bind fun d w1 r1 H1 t1 g1 h1 v rv => by
    split at h1
    · rename_i e
      exact ⟨true, truth_v g1 rv e, iteT (h1.ok g1 v rv)⟩
    · rename_i e
      exact ⟨false, truth_v g1 rv e, iteF ⟨hp, ρ, r1, w1, g1, s.mono t1, h1⟩⟩
    · exact h1.elim⟩
theorem ep_not (ha : PE X a (tEp P X.K W f)) : PE X (.UnaryOp .Not a pos) (tEp P X.K W (xNotV f)) :=
  (pe_notT ha).imp fun σ H Q ⟨hp, ρ, r, w, gd, s, h⟩ => ⟨hp, ρ, r, w, gd, s, h.bind fun d w1 r1 H1 t1 g1 h1 v rv => by
    split at h1
    · rename_i b e
      exact ⟨b, truth_v g1 rv e, h1.ok g1 _ (.bl _)⟩
    · exact h1.elim⟩
theorem tp_tr (h : PE X e (tEp P X.K W f)) (he : ∀ whole, isTrue e X.env whole = (do let v ← whole; standAt e.pos; holding [v] (truthy v)) := by intro _; rfl) : PT X e (tTp P X.K W (xTr f)) :=
  (pt_truth h he).imp fun σ H Q ⟨hp, ρ, r, w, g, s, h⟩ => ⟨hp, ρ, r, w, g, s, h.bind fun d w1 r1 H1 t1 g1 h1 v rv => by
    split at h1
    · rename_i b e
      exact ⟨b, truth_v g1 rv e, h1.ok g1⟩
    · exact h1.elim⟩
theorem wp_and1 (ha : PT X a (tTp P X.K W t)) : PW X (.BoolOp .And [a] pos) (tTp P X.K W t) := pw_and1 ha
theorem wp_or1 (ha : PT X a (tTp P X.K W t)) : PW X (.BoolOp .Or [a] pos) (tTp P X.K W t) := pw_or1 ha
theorem wp_and (ha : PT X a (tTp P X.K W t)) (hb : PW X (.BoolOp .And (b :: rest) pos) (tTp P X.K W u)) : PW X (.BoolOp .And (a :: b :: rest) pos) (tTp P X.K W (xAnd t u)) := (pw_and ha hb).imp fun σ H Q ⟨hp, ρ, r, w, gd, s, h⟩ =>
  ⟨hp, ρ, r, w, gd, s, h.bind fun b w1 r1 H1 t1 g1 h1 => by
    cases b with
    | true => exact iteT ⟨hp, ρ, r1, w1, g1, s.mono t1, h1⟩
    | false => exact iteF (h1.ok g1)⟩
theorem wp_or (ha : PT X a (tTp P X.K W t)) (hb : PW X (.BoolOp .Or (b :: rest) pos) (tTp P X.K W u)) : PW X (.BoolOp .Or (a :: b :: rest) pos) (tTp P X.K W (xOr t u)) := (pw_or ha hb).imp fun σ H Q ⟨hp, ρ, r, w, gd, s, h⟩ =>
  ⟨hp, ρ, r, w, gd, s, h.bind fun b w1 r1 H1 t1 g1 h1 => by
    cases b with
    | true => exact iteT (h1.ok g1)
    | false => exact iteF ⟨hp, ρ, r1, w1, g1, s.mono t1, h1⟩⟩
theorem tp_not (ha : PT X a (tTp P X.K W t)) : PT X (.UnaryOp .Not a pos) (tTp P X.K W (xNot t)) := (pt_not ha).imp fun σ H Q ⟨hp, ρ, r, w, gd, s, h⟩ =>
  ⟨hp, ρ, r, w, gd, s, h.bind fun b w1 r1 H1 t1 g1 h1 => h1.ok g1⟩
end
/-- slot i holds the error -/
def erAt (i : Nat) (a : Addr) : L2.St → Prop := fun σ => σ[i]? = some (some (.ref a))
/-- isinstance(error, F), of an error of class cc -/
theorem ep_isE {X : Cx} {W : WX} {a : Addr} {oe : Obj} {pn : List (Addr × Obj)} {i cc : Nat} {b : Bool} {n : Str} {e2 : Expr} {np p pos : Pos} {cv : Value} {c : V} (C : ExcC X.K (clsA X.K cc)) (hz : Zc (.ref (clsA X.K cc)) none oe) (hf : ∃ vs, oe.data = .fields vs)
    (hg : Gl (X.suite a ((a, oe) :: pn)) "isinstance") (hm : X.mg "isinstance" = none) (he : PE (X.suite a ((a, oe) :: pn)) (.Name n np) (tVar i)) (h2 : PE (X.suite a ((a, oe) :: pn)) e2 (tC c)) (hc : ∀ u, RelV c u → u = cv) (hk : PySem.W.kitOne X.K (.ref (clsA X.K cc)) cv = some b)
    (hs2 : starEach [e2] (X.suite a ((a, oe) :: pn)).env = (false, eval e2 (X.suite a ((a, oe) :: pn)).env) :: starEach [] (X.suite a ((a, oe) :: pn)).env := by rfl)
    (hs : starEach [.Name n np, e2] (X.suite a ((a, oe) :: pn)).env = (false, eval (.Name n np) (X.suite a ((a, oe) :: pn)).env) :: starEach [e2] (X.suite a ((a, oe) :: pn)).env := by rfl)
    (hpl : (backTo pos (starEach [e2] (X.suite a ((a, oe) :: pn)).env)).any (·.1) = false := by rfl) :
    PE (X.suite a ((a, oe) :: pn)) (.Call (.Name "isinstance" p) [.Name n np, e2] [] pos) (tEp (erAt i a) X.K W (xC (.bl b))) :=
  (pe_callB (call_isE C hz hf) hg hm (by decide +kernel) (pa_cons he (pa_cons h2 pa_nil hs2) hs) (by decide) (by decide) hs hpl).imp fun σ H Q ⟨hp, ρ, r, w, gd, s, h⟩ =>
    ⟨_, hp, _, cv, b, rfl, hc, hk, h.ok gd (.bl b) (.bl b)⟩

/-! ### suites -/
def tSu (i : Nat) (a : Addr) (c : Sc) (g : Sx) : TS := fun D σ H => erAt i a σ ∧ tS c g D σ H
def noNx : SOut → SOut
  | .next _ _ => .bad
  | o => o
def sSuIf (t : Tx) (f g : Sx) : Sx := evI t fun b ρ r => if b = true then noNx (f ρ r) else g ρ r
section
variable {X : Cx} {c : Sc} {st : Stmt} {rest body : List Stmt} {f : Ex} {g h : Sx} {t : Tx} {i : Nat} {a : Addr} {pos : Pos} {e : Expr}
theorem su_any (hb : PSs X body (tS c g)) : PSs X body (tSu i a c g) := hb.imp fun _ _ _ q => q.2
theorem su_one (hb : PS X st (tSu i a c g)) : PSs X [st] (tSu i a c g) := pss_one hb
theorem su_ret (hr : PS X st (tRet (tEp (erAt i a) c.K c.W f))) : PS X st (tSu i a c (sRet c.fr c.O f)) :=
  hr.imp fun D σ H ⟨hp, ρ, r, lo, ⟨w, s⟩, h⟩ => ⟨hp, wipeE ρ c.O, r, w, s.gd, s.slots, evF_dl s h fun d r1 w1 H1 t s1 h1 v rv => by
    split at h1
    · exact h1.elim
    · rename_i hn
      exact h1 w1 H1 v s1.tr s1.gd (postD_of rv (by simpa using hn))⟩
theorem su_if (hc : PT X e (tTp (erAt i a) c.K c.W t)) (ha : PSs X body (tS c g)) (hr : PSs X rest (tSu i a c h)) : PSs X (.If e body [] pos :: rest) (tSu i a c (sSuIf t g h)) :=
  (pss_cons (ps_if hc ha pss_nil) hr).imp fun D σ H ⟨hp, ρ, r, lo, ⟨w, s⟩, q⟩ => ⟨hp, ρ, r, visW w c.O ρ σ H, s.all.1, s.all.2.1, evI_dl s q fun b r1 r2 w1 H1 t g1 s1 sT h1 => by
    cases b with
    | true =>
      refine iteT ⟨ρ, r2, lo, ⟨_, s1⟩, ?_⟩
      rw [if_pos rfl] at h1
      revert h1
      generalize g ρ r2 = o
      intro h1
      cases o with
      | next ρ3 r3 => exact h1.elim
      | ret d r3 => exact h1
      | brk ρ3 r3 => exact h1
      | cont ρ3 r3 => exact h1
      | exc x fs ρ3 r3 => exact h1
      | bad => exact h1
    | false =>
      rw [if_neg Bool.false_ne_true] at h1
      exact iteF ⟨hp, ρ, r2, lo, ⟨_, s1⟩, h1⟩⟩
end
theorem SIw.junk {K : PySem.W.Frag} {E : Ent} {lo : Wd} {O : List Nat} {ρ : En} {r : Rs} {σ : L2.St} {H : Hp} {w : Wd} (s : SIw K E lo O ρ r σ H w) {i : Nat} (hi : i ∉ O) (x : Option V) : SIw K E lo O (ρ.set i none) r (σ.set i x) H w := by
  have back : ∀ {j : Nat} {d : D}, (ρ.set i none)[j]? = some (some d) → ρ[j]? = some (some d) ∧ i ≠ j := fun {j d} e => by
    by_cases hj : i = j
    · subst hj
      by_cases hl : i < ρ.length
      · rw [List.getElem?_set_self hl] at e; cases e
      · rw [List.getElem?_eq_none (by simpa using hl)] at e; cases e
    · rw [List.getElem?_set_ne hj] at e
      exact ⟨e, hj⟩
  refine ⟨s.tr, s.los, s.lop, s.gd, by rw [List.length_set, List.length_set]; exact s.len, fun j d e ho => ?_, fun j d e ho => ?_, fun a b d e p ha hb hne h1 h2 h3 => ?_⟩
  · obtain ⟨q1, q2⟩ := back e
    rw [List.getElem?_set_ne q2]
    exact s.fr j d q1 ho
  · obtain ⟨q1, q2⟩ := back e
    rw [List.getElem?_set_ne q2]
    exact s.ow j d q1 ho
  · obtain ⟨q1, q2⟩ := back h1
    obtain ⟨q3, q4⟩ := back h2
    rw [List.getElem?_set_ne q2] at h3
    rw [List.getElem?_set_ne q4]
    exact s.dj a b d e p ha hb hne q1 q3 h3
/-- behind a suite: its error's name is gone -/
def wrapE (i : Nat) : SOut → SOut
  | .next ρ r => .next (ρ.set i none) r
  | .brk ρ r => .brk (ρ.set i none) r
  | .cont ρ r => .cont (ρ.set i none) r
  | .ret d r => .ret d r
  | _ => .bad
def kTryAs (cs : List Nat) (c0 i : Nat) (su : Nat → Sx) : SOut → SOut
  | .exc x fs ρ r => if fs.isEmpty && cs.contains x && decide (i < ρ.length) then (if subE x c0 then wrapE i (su x (ρ.set i none) r) else .exc x fs ρ r) else .bad
  | o => o
/-- try: body except C as n: suite -/
def sTryAs (cs : List Nat) (c0 i : Nat) (g : Sx) (su : Nat → Sx) : Sx := fun ρ r => kTryAs cs c0 i su (g ρ r)
def W0' : WX := fun _ _ _ _ => False
section
variable {X : Cx} {c : Sc} {x n : Str} {i c0 : Nat} {cs : List Nat} {body suite : List Stmt} {b₀ : Stmt} {np pos pos' : Pos} {g : Sx} {su : Nat → Sx}
theorem ds_try_as (eK : X.K = c.K) (hs : X.stack = X.env :: X.outer) (hf : X.env.frame = some X.env.locals) (hN : X.N.Nodup) (hi : X.N[i]? = some n) (hln : X.env.kindOf n = some .local) (hc : Names X x (.ref (clsA c.K c0))) (tk : Takes X c.W) (hiO : i ∉ c.O)
    (hem : ∀ cc, cs.contains cc = true → PySem.W.exmOne c.K (.ref (clsA c.K cc)) (.ref (clsA c.K c0)) = some (subE cc c0))
    (hb : ∀ (W : WX) (pn : List (Addr × Obj)) (xe : Value → Shared → Prop), Takes (X.tr pn xe) W → PassesOwn (model X.prog X.w) X.A X.env xe → PSs (X.tr pn xe) body (tS { c with W := W } g))
    (hsu : ∀ (cc : Nat), cs.contains cc = true → ∀ (a : Addr) (oe : Obj) (pn : List (Addr × Obj)), Zc (.ref (clsA c.K cc)) none oe → (∃ vs, oe.data = .fields vs) → PSs (X.suite a ((a, oe) :: pn)) (b₀ :: suite) (tSu i a { c with W := W0' } (su cc))) :
    PS X (.Try body [.ExceptHandler (some (.Name x np)) (some n) (b₀ :: suite) pos'] [] [] pos) (tS c (sTryAs cs c0 i g su)) :=
  (ps_try_as (ts := fun a cls d D σ H => ∃ cc, (cs.contains cc = true ∧ cls = .ref (clsA c.K cc) ∧ d = none) ∧ tSu i a { c with W := W0' } (su cc) D σ H) (tb := fun W => tS { c with W := W } g) hs hf hN hi hln hc tk hb
    (fun a oe cls d pn hz hd => ⟨fun pins s σ H D I q => by
      obtain ⟨cc, ⟨h1, h2, h3⟩, q⟩ := q
      subst h2 h3
      exact (hsu cc h1 a oe pn hz hd).run pins s σ H D I q⟩)).imp fun D σ H ⟨ρ, r, lo, s, h⟩ => by
    refine ⟨ρ, r, lo, s, ?_⟩
    unfold sTryAs at h
    revert h
    generalize g ρ r = o
    intro h
    cases o with
    | next ρ1 r1 => exact h
    | ret d r1 => exact h
    | brk ρ1 r1 => exact h
    | cont ρ1 r1 => exact h
    | bad => exact h
    | exc y fs ρ1 r1 =>
      intro σ1 H1 cls dd s1 e
      have h : AfterS c lo D (if (fs.isEmpty && cs.contains y && decide (i < ρ1.length)) = true then (if subE y c0 = true then wrapE i (su y (ρ1.set i none) r1) else .exc y fs ρ1 r1) else .bad) := h
      split at h
      · rename_i hcond
        rw [Bool.and_eq_true, Bool.and_eq_true, decide_eq_true_eq] at hcond
        obtain ⟨⟨hc1, hc2⟩, hc3⟩ := hcond
        obtain ⟨e1, e2, e3⟩ := e
        subst e1
        refine ⟨subE y c0, by rw [eK]; exact hem y hc2, fun hb1 a ha => ?_, fun hb0 => ?_⟩
        · rw [if_pos hb1] at h
          have hd := e2 hc1
          subst hd
          obtain ⟨w1, s1⟩ := s1
          have s2 := s1.junk hiO (some (.ref a))
          have hl : i < σ1.length := by rw [← s1.len]; exact hc3
          refine ⟨y, ⟨hc2, rfl, rfl⟩, List.getElem?_set_self hl, ρ1.set i none, r1, lo, ⟨w1, s2⟩, ?_⟩
          revert h
          generalize su y (ρ1.set i none) r1 = o2
          intro h
          cases o2 with
          | next ρ2 r2 => exact fun σ2 H2 ⟨w2, q2⟩ => h _ _ ⟨w2, q2.junk hiO none⟩
          | brk ρ2 r2 => exact fun σ2 H2 ⟨w2, q2⟩ => h _ _ ⟨w2, q2.junk hiO none⟩
          | cont ρ2 r2 => exact fun σ2 H2 ⟨w2, q2⟩ => h _ _ ⟨w2, q2.junk hiO none⟩
          | ret d r2 => exact h
          | exc z fs2 ρ2 r2 => exact h.elim
          | bad => exact h
        · rw [if_neg (by rw [hb0]; exact Bool.false_ne_true)] at h
          exact h σ1 H1 _ dd s1 ⟨rfl, e2, e3⟩
      · exact h.elim
end
end DL

/-! DL17: calls that hand back new things; more built-ins; resources that are dicts; statements that see all. -/
namespace DL
open PySem L2
section
variable {X : Cx} {W : WX}
/-! ### a call that hands back a new list, a new dict -/
def xCallN (F : List D → Rs → Out D) (f : Ax) : Lx := fun ρ r => (f ρ r).bind fun ds r1 => (F ds r1).bind fun d r2 => match d with
  | .lst es => .ok es r2
  | _ => .bad
def xCallND (F : List D → Rs → Out D) (f : Ax) : Dx := fun ρ r => (f ρ r).bind fun ds r1 => (F ds r1).bind fun d r2 => match d with
  | .dic es => .ok es r2
  | _ => .bad
section
variable {k : Nat} {f : Addr} {fd : FuncData} {ps : List Str} {n : Nat} {x : Str} {p pos : Pos} {e : Expr} {es : List Expr} {F : List D → Rs → Out D} {fa : Ax}
theorem callN_dl {α : Type} {conv : D → Rs → Out α} {T : α → Wd → Hp → Hp → VK → Prop} (hn : ∀ ρ r ds r', fa ρ r = .ok ds r' → ds.length = n)
    (hT : ∀ d r a r2 w1 H1 w2 H2 v Q H w, conv d r = .ok a r2 → r2 = r ∧ (Tr w H w1 H1 → PostD X.K true H1 w2 H2 d v → (T a w2 H H2 Q) → Q v H2)) (hE : ∀ d r x fs r2, conv d r ≠ .exc x fs r2)
    {σ : L2.St} {H : Hp} {Q : VK}
    (h : ∃ ρ r w, Good X.K w r H ∧ Slots X.K w ρ σ ∧ After X.K W w H σ ((fa ρ r).bind fun ds r1 => (F ds r1).bind conv) fun a w' _ H' => T a w' H H' Q) :
    tCallS (spF X.K n true F) (WE W) (tA X.K W fa) σ H Q := by
  obtain ⟨ρ, r, w, gd, s, h⟩ := h
  refine ⟨ρ, r, w, gd, s, ?_⟩
  have hl := hn ρ r
  revert h hl
  generalize fa ρ r = o
  intro h hl
  cases o with
  | ok ds r1 =>
    intro w1 H1 t1 g1 vs rvs
    refine ⟨by rw [← rvs.length]; exact hl ds r1 rfl, ds, r1, w1, g1, rvs, ?_⟩
    have h' : After X.K W w H σ ((F ds r1).bind conv) (fun a w' _ H' => T a w' H H' Q) := h
    revert h'
    generalize F ds r1 = o2
    intro h'
    cases o2 with
    | ok d r2 =>
      intro w2 H2 v t2 g2 q
      have h2 : After X.K W w H σ (conv d r2) (fun a w' _ H' => T a w' H H' Q) := h'
      revert h2
      generalize hc : conv d r2 = o3
      intro h2
      cases o3 with
      | ok a r3 =>
        obtain ⟨rfl, k⟩ := hT d r2 a r3 w1 H1 w2 H2 v Q H w hc
        exact k t1 q (h2 w2 H2 (t1.trans t2) g2)
      | exc x fs r3 => exact absurd hc (hE _ _ _ _ _)
      | bad => exact h2.elim
    | exc c fs r2 => exact fun w2 H2 cls dd t2 g2 x => h' w2 H2 cls dd (t1.trans t2) g2 x
    | bad => exact h'
  | exc c fs r1 => exact h
  | bad => exact h
theorem dn_call (G : FnOk X.prog X.w X.K X.mg X.base (L2.CX X.prog X.w) k f fd ps (spF X.K n true F)) (hr : Room k X.A) (hg : Gl X x) (hm : X.mg x = some (.ref f)) (hk : PySem.W.keepIn X.K (.ref f) = true) (hb : Binds X.K fd ps []) (tk : Takes X W)
    (ha : PA X (e :: es) (tA X.K W fa)) (hn : ∀ ρ r ds r', fa ρ r = .ok ds r' → ds.length = n) (hdb : (x == ("__debug__" : Str)) = false := by decide) (he : starEach (e :: es) X.env = (false, eval e X.env) :: starEach es X.env := by rfl) (hpl : (backTo pos (starEach es X.env)).any (·.1) = false := by rfl) :
    PE X (.Call (.Name x p) (e :: es) [] pos) (tN X.K W (xCallN F fa)) :=
  (pe_callS G hr hg hm hk hb (fun σ => passAt tk σ) ha hdb he hpl).imp fun σ H Q h =>
    callN_dl (T := fun ds w' H H' Q => ∀ p, NewL X.K w' H H' ds p → Q (.ref p) H') hn (fun d r a r2 w1 H1 w2 H2 v Q H w hc => by
      cases d <;> cases hc
      refine ⟨rfl, fun t1 q k => ?_⟩
      obtain ⟨p, rfl, n⟩ := q
      exact k p ⟨t1.fresh n.fresh, n.nv, n.nm, n.at_⟩) (fun d r x fs r2 hc => by cases d <;> cases hc) h
theorem dnd_call (G : FnOk X.prog X.w X.K X.mg X.base (L2.CX X.prog X.w) k f fd ps (spF X.K n true F)) (hr : Room k X.A) (hg : Gl X x) (hm : X.mg x = some (.ref f)) (hk : PySem.W.keepIn X.K (.ref f) = true) (hb : Binds X.K fd ps []) (tk : Takes X W)
    (ha : PA X (e :: es) (tA X.K W fa)) (hn : ∀ ρ r ds r', fa ρ r = .ok ds r' → ds.length = n) (hdb : (x == ("__debug__" : Str)) = false := by decide) (he : starEach (e :: es) X.env = (false, eval e X.env) :: starEach es X.env := by rfl) (hpl : (backTo pos (starEach es X.env)).any (·.1) = false := by rfl) :
    PE X (.Call (.Name x p) (e :: es) [] pos) (tND X.K W (xCallND F fa)) :=
  (pe_callS G hr hg hm hk hb (fun σ => passAt tk σ) ha hdb he hpl).imp fun σ H Q h =>
    callN_dl (T := fun ds w' H H' Q => ∀ p, NewD X.K w' H H' ds p → Q (.ref p) H') hn (fun d r a r2 w1 H1 w2 H2 v Q H w hc => by
      cases d <;> cases hc
      refine ⟨rfl, fun t1 q k => ?_⟩
      obtain ⟨p, rfl, n⟩ := q
      exact k p ⟨t1.fresh n.fresh, n.nv, n.nm, n.at_⟩) (fun d r x fs r2 hc => by cases d <;> cases hc) h
end
/-! ### built-ins -/
def cStr (_ : Rs) : List D → Option D
  | [.int i] => if big i then some (.str (toString i)) else none
  | _ => none
theorem cd_str : CalD X (.type "str") cStr := ⟨_, call_str_int, fun w r H ds vs d Q g rvs e k => by
  cases rvs with
  | nil => cases e
  | cons rv rt =>
    cases rt with
    | cons _ _ => cases rv <;> cases e
    | nil =>
      cases rv <;> simp only [cStr] at e <;> try (cases e; done)
      split at e
      · rename_i i hb
        cases e
        refine ⟨_, rfl, ?_, k.now g (.str _)⟩
        have := big_of hb
        by_cases h0 : i.natAbs = 0
        · rw [h0]; decide
        · have h1 : i.natAbs < 2 ^ 1920 := Nat.lt_of_lt_of_le (show i.natAbs < 2 ^ 63 by omega) (Nat.pow_le_pow_right (n := 2) (by decide) (show 63 ≤ 1920 by decide))
          exact (Nat.log2_lt h0).mpr h1
      · cases e⟩
def blsOf : List D → Option (List Bool)
  | [] => some []
  | .bl b :: r => (blsOf r).map (b :: ·)
  | _ => none
theorem Rps.bls {K : PySem.W.Frag} {m : List Addr} {H : Hp} : ∀ {ds : List D} {vs : List V} {bs : List Bool}, Rps K m H ds vs → blsOf ds = some bs → vs = bs.map V.bl
  | _, _, _, .nil, e => by cases e; rfl
  | _, _, _, .cons r t, e => by
    cases r <;> simp only [blsOf] at e <;> try cases e
    cases q : blsOf _ with
    | none => rw [q] at e; cases e
    | some l =>
      rw [q] at e
      cases e
      rw [Rps.bls t q]
      rfl
def cAny (_ : Rs) : List D → Option D
  | [.lst ds] => (blsOf ds).map fun bs => .bl (bs.any id)
  | _ => none
def cAll (_ : Rs) : List D → Option D
  | [.lst ds] => (blsOf ds).map fun bs => .bl (bs.all id)
  | _ => none
theorem cd_any (hc : X.calm = true) : CalD X (.builtin "any") cAny := ⟨_, cr_any hc, fun w r H ds vs d Q g rvs e k => by
  cases rvs with
  | nil => cases e
  | cons rv rt =>
    cases rt with
    | cons _ _ => cases rv <;> cases e
    | nil =>
      cases rv <;> simp only [cAny] at e <;> try cases e
      rename_i a xs ds hx rx
      cases q : blsOf ds with
      | none => rw [q] at e; cases e
      | some bs =>
        rw [q] at e
        cases e
        have z := rx.bls q
        subst z
        exact ⟨a, bs, rfl, SqL.of (g.sub _ _ hx), k.now g (.bl _)⟩⟩
theorem cd_all (hc : X.calm = true) : CalD X (.builtin "all") cAll := ⟨_, cr_all hc, fun w r H ds vs d Q g rvs e k => by
  cases rvs with
  | nil => cases e
  | cons rv rt =>
    cases rt with
    | cons _ _ => cases rv <;> cases e
    | nil =>
      cases rv <;> simp only [cAll] at e <;> try cases e
      rename_i a xs ds hx rx
      cases q : blsOf ds with
      | none => rw [q] at e; cases e
      | some bs =>
        rw [q] at e
        cases e
        have z := rx.bls q
        subst z
        exact ⟨a, bs, rfl, SqL.of (g.sub _ _ hx), k.now g (.bl _)⟩⟩
def cMax2 (_ : Rs) : List D → Option D
  | [.int i, .int j] => some (.int (if j > i then j else i))
  | _ => none
def cMin2 (_ : Rs) : List D → Option D
  | [.int i, .int j] => some (.int (if j < i then j else i))
  | _ => none
theorem cd_max2 (hc : X.calm = true) : CalD X (.builtin "max") cMax2 := ⟨_, call_max2 hc, fun w r H ds vs d Q g rvs e k => by
  cases rvs with
  | nil => cases e
  | cons rv rt =>
    cases rt with
    | nil => cases rv <;> cases e
    | cons rv2 rt2 =>
      cases rt2 with
      | cons _ _ => cases rv <;> cases rv2 <;> cases e
      | nil =>
        cases rv <;> cases rv2 <;> simp only [cMax2] at e <;> cases e
        exact ⟨_, _, rfl, k.now g (.int _)⟩⟩
theorem cd_min2 (hc : X.calm = true) : CalD X (.builtin "min") cMin2 := ⟨_, call_min2 hc, fun w r H ds vs d Q g rvs e k => by
  cases rvs with
  | nil => cases e
  | cons rv rt =>
    cases rt with
    | nil => cases rv <;> cases e
    | cons rv2 rt2 =>
      cases rt2 with
      | cons _ _ => cases rv <;> cases rv2 <;> cases e
      | nil =>
        cases rv <;> cases rv2 <;> simp only [cMin2] at e <;> cases e
        exact ⟨_, _, rfl, k.now g (.int _)⟩⟩
def maxI : List Int → Int
  | [] => 0
  | [x] => x
  | x :: y :: r => max x (maxI (y :: r))
def minI : List Int → Int
  | [] => 0
  | [x] => x
  | x :: y :: r => min x (minI (y :: r))
theorem maxI_spec : ∀ {ns : List Int}, 0 < ns.length → maxI ns ∈ ns ∧ ∀ y ∈ ns, y ≤ maxI ns
  | [], h => by simp at h
  | [x], _ => ⟨List.mem_singleton.mpr rfl, fun y hy => by rw [List.mem_singleton.mp hy]; exact Int.le_refl _⟩
  | x :: y :: r, _ => by
    obtain ⟨h1, h2⟩ := maxI_spec (ns := y :: r) (by simp)
    rw [maxI]
    refine ⟨?_, fun z hz => ?_⟩
    · by_cases h : x ≤ maxI (y :: r)
      · rw [Int.max_eq_right h]; exact List.mem_cons_of_mem _ h1
      · rw [Int.max_eq_left (by omega)]; exact List.mem_cons_self
    · rcases List.mem_cons.mp hz with e | e
      · rw [e]; exact Int.le_max_left _ _
      · exact Int.le_trans (h2 z e) (Int.le_max_right _ _)
theorem minI_spec : ∀ {ns : List Int}, 0 < ns.length → minI ns ∈ ns ∧ ∀ y ∈ ns, minI ns ≤ y
  | [], h => by simp at h
  | [x], _ => ⟨List.mem_singleton.mpr rfl, fun y hy => by rw [List.mem_singleton.mp hy]; exact Int.le_refl _⟩
  | x :: y :: r, _ => by
    obtain ⟨h1, h2⟩ := minI_spec (ns := y :: r) (by simp)
    rw [minI]
    refine ⟨?_, fun z hz => ?_⟩
    · by_cases h : x ≤ minI (y :: r)
      · rw [Int.min_eq_left h]; exact List.mem_cons_self
      · rw [Int.min_eq_right (by omega)]; exact List.mem_cons_of_mem _ h1
    · rcases List.mem_cons.mp hz with e | e
      · rw [e]; exact Int.min_le_left _ _
      · exact Int.le_trans (Int.min_le_right _ _) (h2 z e)
def cMax1 (_ : Rs) : List D → Option D
  | [.lst ds] => (intsOf ds).bind fun ns => if ns.isEmpty then none else some (.int (maxI ns))
  | _ => none
def cMin1 (_ : Rs) : List D → Option D
  | [.lst ds] => (intsOf ds).bind fun ns => if ns.isEmpty then none else some (.int (minI ns))
  | _ => none
theorem cd_max1 (hc : X.calm = true) : CalD X (.builtin "max") cMax1 := ⟨_, cr_max hc, fun w r H ds vs d Q g rvs e k => by
  cases rvs with
  | nil => cases e
  | cons rv rt =>
    cases rt with
    | cons _ _ => cases rv <;> cases e
    | nil =>
      cases rv <;> simp only [cMax1] at e <;> try cases e
      rename_i a xs ds hx rx
      cases q : intsOf ds with
      | none => rw [q] at e; cases e
      | some ns =>
        rw [q, Option.bind_some] at e
        split at e
        · cases e
        · rename_i hne
          cases e
          have z := rx.ints q
          subst z
          have h0 : 0 < ns.length := by cases ns with | nil => exact absurd rfl hne | cons _ _ => simp
          refine ⟨a, ns, rfl, SqL.of (g.sub _ _ hx), h0, fun m hm hy => ?_⟩
          obtain ⟨h1, h2⟩ := maxI_spec h0
          have : m = maxI ns := Int.le_antisymm (h2 m hm) (hy _ h1)
          subst this
          exact k.now g (.int _)⟩
theorem cd_min1 (hc : X.calm = true) : CalD X (.builtin "min") cMin1 := ⟨_, cr_min hc, fun w r H ds vs d Q g rvs e k => by
  cases rvs with
  | nil => cases e
  | cons rv rt =>
    cases rt with
    | cons _ _ => cases rv <;> cases e
    | nil =>
      cases rv <;> simp only [cMin1] at e <;> try cases e
      rename_i a xs ds hx rx
      cases q : intsOf ds with
      | none => rw [q] at e; cases e
      | some ns =>
        rw [q, Option.bind_some] at e
        split at e
        · cases e
        · rename_i hne
          cases e
          have z := rx.ints q
          subst z
          have h0 : 0 < ns.length := by cases ns with | nil => exact absurd rfl hne | cons _ _ => simp
          refine ⟨a, ns, rfl, SqL.of (g.sub _ _ hx), h0, fun m hm hy => ?_⟩
          obtain ⟨h1, h2⟩ := minI_spec h0
          have : m = minI ns := Int.le_antisymm (hy _ h1) (h2 m hm)
          subst this
          exact k.now g (.int _)⟩
/-- k in d, as a value -/
theorem de_din {a b : Expr} {pos : Pos} {f g : Ex} {k : Nat} (hr : Room k X.A) (ha : PE X a (tE X.K W f)) (hb : PE X b (tE X.K W g)) (hm : behindInMarks .In b = false := by rfl) : PE X (.Compare a [.In] [b] pos) (tE X.K W (xV (xDIn f g))) :=
  (pe_cmp (pc_din (hu_of hr) ha hb) hm).imp fun σ H Q h => by
    have h' : tT X.K W (xDIn f g) σ H (fun b H => Q (.bl (false.xor b)) H) := by
      obtain ⟨ρ, r, w, gd, s, h⟩ := h
      exact ⟨ρ, r, w, gd, s, h.bind fun b w1 r1 H1 t1 g1 h1 => by simpa using h1.ok g1 _ (.bl b)⟩
    have q := dIn_dl (neg := false) (X := X) (Q := fun b H => Q (.bl b) H) rfl h'
    obtain ⟨ρ, r, w, gd, s, q⟩ := q
    exact ⟨ρ, r, w, gd, s, q.mono fun d w1 r1 H1 t1 g1 q v rv => by
      obtain ⟨ρ2, r2, w2, gd2, s2, q2⟩ := q v rv
      exact ⟨ρ2, r2, w2, gd2, s2, q2.mono fun d2 w3 r3 H3 t3 g3 q3 v3 rv3 => by
        obtain ⟨a, o, e1, e2, e3⟩ := q3 v3 rv3
        exact ⟨a, o, e1, e2, by simpa using e3⟩⟩⟩
theorem de_dnotin {a b : Expr} {pos : Pos} {f g : Ex} {k : Nat} (hr : Room k X.A) (ha : PE X a (tE X.K W f)) (hb : PE X b (tE X.K W g)) (hm : behindInMarks .NotIn b = false := by rfl) : PE X (.Compare a [.NotIn] [b] pos) (tE X.K W (xV (xNot (xDIn f g)))) :=
  (pe_cmp (pc_dnotin (hu_of hr) ha hb) hm).imp fun σ H Q h => by
    have h' : tT X.K W (xDIn f g) σ H (fun b H => Q (.bl (true.xor b)) H) := by
      obtain ⟨ρ, r, w, gd, s, h⟩ := h
      have h1 : After X.K W w H σ (xNot (xDIn f g) ρ r) (fun b w' r' H' => Q (.bl b) H') := h.bind fun b w1 r1 H1 t1 g1 h1 => h1.ok g1 _ (.bl _)
      exact ⟨ρ, r, w, gd, s, h1.bind fun b w1 r1 H1 t1 g1 h2 => by simpa using h2.ok g1⟩
    have q := dIn_dl (neg := true) (X := X) (Q := fun b H => Q (.bl b) H) rfl h'
    obtain ⟨ρ, r, w, gd, s, q⟩ := q
    exact ⟨ρ, r, w, gd, s, q.mono fun d w1 r1 H1 t1 g1 q v rv => by
      obtain ⟨ρ2, r2, w2, gd2, s2, q2⟩ := q v rv
      exact ⟨ρ2, r2, w2, gd2, s2, q2.mono fun d2 w3 r3 H3 t3 g3 q3 v3 rv3 => by
        obtain ⟨a, o, e1, e2, e3⟩ := q3 v3 rv3
        exact ⟨a, o, e1, e2, by simpa using e3⟩⟩⟩
end
end DL

/-! DL18: dicts that are resources; statements over own things that see all; comprehensions over two things, of dicts. -/
namespace DL
open PySem L2
theorem immk_set {d : D} (h : d.imm = true) (k : Key) : ∀ {kds : List (Key × D)}, D.immk kds = true → D.immk (kds.map fun p => if p.1 = k then (p.1, d) else p) = true
  | [], _ => rfl
  | p :: r, e => by
    rw [D.immk, Bool.and_eq_true] at e
    rw [List.map_cons, D.immk, immk_set h k e.2]
    by_cases q : p.1 = k
    · rw [if_pos q]; simp [h]
    · rw [if_neg q]; simp [e.1]
theorem immk_snoc {d : D} (h : d.imm = true) (k : Key) : ∀ {kds : List (Key × D)}, D.immk kds = true → D.immk (kds ++ [(k, d)]) = true
  | [], _ => by show D.immk [(k, d)] = true; simp [D.immk, h]
  | p :: r, e => by
    rw [D.immk, Bool.and_eq_true] at e
    show D.immk (p :: (r ++ [(k, d)])) = true
    rw [D.immk, e.1, immk_snoc h k e.2]
    rfl
theorem immk_put {d : D} (h : d.imm = true) (k : Key) {kds : List (Key × D)} (e : D.immk kds = true) : D.immk (setK kds k d) = true := by
  unfold setK
  split
  · exact immk_set h k e
  · exact immk_snoc h k e
/-- a new resource -/
theorem good_addD {K : PySem.W.Frag} {w : Wd} {r : Rs} {H0 H : Hp} {w0 : Wd} (g : Good K w r H) (t : Tr w0 H0 w H) {ds : List (Key × D)} {p : Addr} (n : NewD K w H0 H ds p) (hi : D.immk ds = true) :
    Tr w0 H0 ⟨w.m ++ [p], w.v, w.g⟩ H ∧ Good K ⟨w.m ++ [p], w.v, w.g⟩ (r ++ [.dic ds]) H ∧ (w.m ++ [p])[r.length]? = some p := by
  have pr : Pre w.m (w.m ++ [p]) := fun k a e => by rw [List.getElem?_append_left (List.getElem?_eq_some_iff.mp e).1]; exact e
  have hp : (w.m ++ [p])[r.length]? = some p := by
    rw [← g.len, List.getElem?_append_right (Nat.le_refl _), Nat.sub_self]
    rfl
  refine ⟨⟨t.sub, t.pre.trans pr, t.keep, t.live, t.newv, fun b hb => ?_, t.tups, t.gm, t.same⟩, ⟨g.sub, fun a ha => ?_, ?_, ?_, fun k o e => ?_, fun k i c fs e => ?_⟩, hp⟩
  · rcases List.mem_append.mp hb with z | z
    · exact t.newm b z
    · rw [List.mem_singleton.mp z]; exact .inr n.fresh
  · rcases List.mem_append.mp ha with z | z
    · exact g.dis a z
    · rw [List.mem_singleton.mp z]; exact n.nv
  · rw [List.length_append, List.length_append, g.len]; rfl
  · refine List.nodup_append.mpr ⟨g.nd, by simp, fun a ha b hb => ?_⟩
    rw [List.mem_singleton.mp hb]
    rintro rfl
    exact n.nm ha
  · by_cases hk : k < r.length
    · rw [List.getElem?_append_left hk] at e
      obtain ⟨a, ha, x⟩ := g.at_ k o e
      exact ⟨a, pr k a ha, roAt_mono (.refl _) pr rfl x⟩
    · have hk2 : k = r.length := by
        have := (List.getElem?_eq_some_iff.mp e).1
        rw [List.length_append] at this
        simp only [List.length_singleton] at this
        omega
      subst hk2
      rw [List.getElem?_append_right (Nat.le_refl _), Nat.sub_self] at e
      cases e
      obtain ⟨xs, e1, q⟩ := n.at_
      exact ⟨p, hp, hi, xs, e1, q.mono (.refl _) pr⟩
  · by_cases hk : k < r.length
    · rw [List.getElem?_append_left hk] at e
      exact g.gv k i c fs e
    · have hk2 : k = r.length := by
        have := (List.getElem?_eq_some_iff.mp e).1
        rw [List.length_append] at this
        simp only [List.length_singleton] at this
        omega
      subst hk2
      rw [List.getElem?_append_right (Nat.le_refl _), Nat.sub_self] at e
      cases e
def xResD (f : Dx) : Ex := fun ρ r => (f ρ r).bind fun ds r1 => if D.immk ds = true then .ok (.loc r1.length) (r1 ++ [.dic ds]) else .bad
section
variable {X : Cx} {W : WX}
theorem de_resD {e : Expr} {f : Dx} (h : PE X e (tND X.K W f)) : PE X e (tE X.K W (xResD f)) := h.imp fun σ H Q ⟨ρ, r, w, g, s, h⟩ => ⟨ρ, r, w, g, s, h.fst fun ds w1 r1 H1 _ t1 g1 q h1 p n => by
  split at h1
  · rename_i hi
    obtain ⟨t2, g2, hp⟩ := good_addD g1 t1 n hi
    have q := q (.loc r1.length) (r1 ++ [.dic ds]) (if_pos hi) ⟨w1.m ++ [p], w1.v, w1.g⟩ H1 t2 g2
    exact q (.ref p) (.loc hp)
  · exact h1.elim⟩
end
section
variable {X : Cx} {c : Sc} {st : Stmt} {pos : Pos}
/-- d[k] = v, d a resource -/
def kDSetR (v o : D) : D → En → Rs → SOut := fun k ρ r => match o, keyOf k with
  | .loc n, some k => (match r[n]? with
    | some (.dic kds) => if v.imm && decide (kds.length < lim) then .next ρ (r.set n (.dic (setK kds k v))) else .bad
    | _ => .bad)
  | _, _ => .bad
def sDSetR (O : List Nat) (fo fk fv : Ex) : Sx := evF O fv fun v => evF O fo fun o => evF O fk (kDSetR v o)
theorem ds_dsetR {fo fk fv : Ex} (h : PS X st (sDPut (tE c.K c.W fo) (tE c.K c.W fk) (tE c.K c.W fv))) : PS X st (tS c (sDSetR c.O fo fk fv)) :=
  h.imp fun D σ H ⟨ρ, r, lo, ⟨w, s⟩, h⟩ => ⟨wipeE ρ c.O, r, w, s.gd, s.slots, evF_dl s h fun v r1 w1 H1 t1 s1 h1 x rx => ⟨wipeE ρ c.O, r1, w1, s1.gd, s1.slots, evF_dl s1 h1 fun o r2 w2 H2 t2 s2 h2 y ry => ⟨wipeE ρ c.O, r2, w2, s2.gd, s2.slots, evF_dl s2 h2 fun i r3 w3 H3 t3 s3 h3 z rz => by
    unfold kDSetR at h3
    split at h3
    · rename_i n k q2
      split at h3
      · rename_i kds hr
        split at h3
        · rename_i hc
          rw [Bool.and_eq_true, decide_eq_true_eq] at hc
          cases (t3.rp ry) with
          | loc hm =>
            obtain ⟨b, hb, im, kvs, q3, q4⟩ := s3.gd.at_ n _ hr
            rw [hm] at hb
            cases hb
            obtain ⟨t4, g4⟩ := good_res s3.gd hm hr rfl rfl (o' := .dic (setK kds k v)) (u := .dK (putK kvs k x)) ⟨immk_put hc.1 k im, _, upd_same, q4.put k ((t2.trans t3).rp rx)⟩
            exact ⟨_, _, rfl, .inl ⟨kvs, k, q3, rz.key q2, by rw [← q4.length]; exact lim_lt hc.2, rfl⟩, h3 _ _ ⟨w3, s3.step t4 g4⟩⟩
        · exact h3.elim
      · exact h3.elim
    · exact h3.elim⟩⟩⟩
/-! ### own things: statements that see all -/
def sInsI (i : Nat) (f : Ax) : Sx := evI f fun ds ρ r => if D.imms ds = true then kIns i ds ρ r else .bad
theorem ds_insI {i : Nat} {f : Ax} (h : PS X st (tDrop (tBM c.K "list" rIns (tVar i) (tA c.K c.W f)))) (hi : i ∈ c.O) : PS X st (tS c (isOwnL i (sInsI i f))) :=
  h.imp fun D σ H ⟨ρ, r, lo, ⟨w, s⟩, h⟩ => by
    obtain ⟨xs, e, h⟩ := isOwnL_dl h
    obtain ⟨p, h1, ty⟩ := own_ty hi s e
    refine ⟨_, h1, ty, ρ, r, visW w c.O ρ σ H, s.all.1, s.all.2.1, evI_dl s h fun ds r1 r2 w1 H1 t g1 s1 sT h2 vs rvs => ?_⟩
    split at h2
    · rename_i hm
      have rw' := rvs.immM sT (.refl _) hm
      clear rvs
      unfold kIns at h2
      split at h2
      · rename_i j d zs e2
        split at h2
        · rename_i hl
          obtain ⟨p', a1, a2, _⟩ := s1.ow i _ e2 hi
          rw [h1] at a1
          cases a1
          obtain ⟨ys, b1, b2⟩ := a2
          cases rw' with
          | cons q1 q2 =>
            cases q1
            cases q2 with
            | cons q2 q3 =>
              cases q3
              refine ⟨p, ys, j, _, rfl, rfl, b1, by rw [← b2.length]; exact lim_lt hl.1, hl.2.1, by have := (big_of hl.2.2).2; omega, h2 _ _ ⟨_, s1.mut hi e2 h1 ⟨_, upd_same, ((b2.takeD _).append (.one q2)).append (b2.dropD _)⟩⟩⟩
        · exact h2.elim
      · exact h2.elim
    · exact h2.elim
/-- xs.extend(a new list that hangs on own things): only of things without lists of their own -/
def D.imm2 : D → Bool
  | .lst ds => D.imms ds
  | .tup ds => D.imms ds
  | _ => false
def sExtI (i : Nat) (f : Lx) : Sx := evI f fun es ρ r => if D.imms es = true then (match ρ[i]? with
  | some (some (.lst xs)) => if xs.length + es.length ≤ lim then .next (ρ.set i (some (.lst (xs ++ es)))) r else .bad
  | _ => .bad) else .bad
theorem ds_extI {i : Nat} {f : Lx} (h : PS X st (tDrop (tBM c.K "list" rExtend (tVar i) (tCons (tN c.K c.W f) tNil)))) (hi : i ∈ c.O) : PS X st (tS c (isOwnL i (sExtI i f))) :=
  h.imp fun D σ H ⟨ρ, r, lo, ⟨w, s⟩, h⟩ => by
    obtain ⟨xs, e, h⟩ := isOwnL_dl h
    obtain ⟨p, h1, ty⟩ := own_ty hi s e
    refine ⟨_, h1, ty, ρ, r, visW w c.O ρ σ H, s.all.1, s.all.2.1, evI_dl s h fun es r1 r2 w1 H1 t g1 s1 sT h2 p2 n => ?_⟩
    split at h2
    · rename_i hm
      split at h2
      · rename_i zs e2
        split at h2
        · rename_i hl
          obtain ⟨p', a1, a2, _⟩ := s1.ow i _ e2 hi
          rw [h1] at a1
          cases a1
          obtain ⟨ys, b1, b2⟩ := a2
          obtain ⟨vs, n1, n2⟩ := n.at_
          exact ⟨p, p2, ys, vs, rfl, rfl, b1, n1, by rw [← b2.length, ← n2.length]; exact lim_le hl, h2 _ _ ⟨_, s1.mut hi e2 h1 ⟨_, upd_same, b2.append (n2.immM sT (.refl _) hm)⟩⟩⟩
        · exact h2.elim
      · exact h2.elim
    · exact h2.elim
/-- xs.extend(a new list) -/
def sExtN (O : List Nat) (i : Nat) (f : Lx) : Sx := evF O f fun es ρ r => match ρ[i]? with
  | some (some (.lst xs)) => if xs.length + es.length ≤ lim then .next (ρ.set i (some (.lst (xs ++ es)))) r else .bad
  | _ => .bad
theorem ds_extN {i : Nat} {f : Lx} (h : PS X st (tDrop (tBM c.K "list" rExtend (tVar i) (tCons (tN c.K c.W f) tNil)))) (hi : i ∈ c.O) : PS X st (tS c (isOwnL i (sExtN c.O i f))) :=
  h.imp fun D σ H ⟨ρ, r, lo, ⟨w, s⟩, h⟩ => by
    obtain ⟨xs, e, h⟩ := isOwnL_dl h
    obtain ⟨p, h1, ty⟩ := own_ty hi s e
    refine ⟨_, h1, ty, wipeE ρ c.O, r, w, s.gd, s.slots, evF_dl s h fun es r1 w1 H1 t s1 h2 p2 n => ?_⟩
    split at h2
    · rename_i zs e2
      split at h2
      · rename_i hl
        obtain ⟨p', a1, a2, _⟩ := s1.ow i _ e2 hi
        rw [h1] at a1
        cases a1
        obtain ⟨ys, b1, b2⟩ := a2
        obtain ⟨vs, n1, n2⟩ := n.at_
        exact ⟨p, p2, ys, vs, rfl, rfl, b1, n1, by rw [← b2.length, ← n2.length]; exact lim_le hl, h2 _ _ ⟨_, s1.mut hi e2 h1 ⟨_, upd_same, b2.append n2⟩⟩⟩
      · exact h2.elim
    · exact h2.elim
/-- xs[i] = v -/
def sSetOI (i : Nat) (fi fv : Ex) : Sx := evI fv fun v ρ r => if v.imm = true then evI fi (kSetO i v) ρ r else .bad
theorem ds_setOI {i : Nat} {fi fv : Ex} (h : PS X st (tAsg (tE c.K c.W fv) (gSub (tVar i) (tE c.K c.W fi) rSetL))) (hi : i ∈ c.O) : PS X st (tS c (isOwnL i (sSetOI i fi fv))) :=
  h.imp fun D σ H ⟨ρ, r, lo, ⟨w, s⟩, h⟩ => by
    obtain ⟨xs, e, h⟩ := isOwnL_dl h
    obtain ⟨p, h1, _⟩ := s.ow i _ e hi
    refine ⟨ρ, r, visW w c.O ρ σ H, s.all.1, s.all.2.1, evI_dl s h fun v r1 r1' w1 H1 t1 g1 s1 sT1 h2 x rx => ?_⟩
    split at h2
    · rename_i hm
      have rx := rx.immM sT1 (.refl _) hm
      refine ⟨_, h1, ρ, r1', visW (hidW w1 c.O ρ σ) c.O ρ σ H1, s1.all.1, s1.all.2.1, evI_dl2 s1 h2 fun k r2 r2' w2 H2 t12 t2 g2 s2 sT2 h3 y ry => ?_⟩
      unfold kSetO at h3
      split at h3
      · rename_i j ds q2
        split at h3
        · rename_i n hn
          cases ry
          obtain ⟨p', a1, a2, _⟩ := s2.ow i _ q2 hi
          rw [h1] at a1
          cases a1
          obtain ⟨zs, b1, b2⟩ := a2
          exact ⟨_, zs, j, n, rfl, rfl, b1, by rw [← b2.length]; exact hn, h3 _ _ ⟨_, s2.mut hi q2 h1 ⟨_, upd_same, b2.set (t12.rp rx) n⟩⟩⟩
        · exact h3.elim
      · exact h3.elim
    · exact h2.elim
end
end DL

/-! DL19: comprehensions with two fors; dict comprehensions. -/
namespace DL
open PySem L2
/-- a hidden object stays hidden -/
theorem hid_keep {w w' : Wd} {H H' : Hp} {p : Addr} {o : HO} (t : Tr w H w' H') (nv : w.v p = none) (nm : p ∉ w.m) (hp : H p = some o) : w'.v p = none ∧ p ∉ w'.m ∧ H' p = some o := by
  obtain ⟨k1, k2, k3⟩ := own_keep t hp nv nm
  exact ⟨k2, k3, k1.trans hp⟩
theorem Slots.mono2 {K : PySem.W.Frag} {w w' : Wd} {ρ : En} {σ : L2.St} (s : Slots K w ρ σ) (a : Sub w.v w'.v) (b : Pre w.m w'.m) : Slots K w' ρ σ := ⟨s.len, fun i d e => by
  obtain ⟨v, h, r⟩ := s.at_ i d e
  exact ⟨v, h, r.mono a b⟩⟩
/-- what a turn of a comprehension does with its item: T, after the test -/
def turnD (K : PySem.W.Frag) (t : Tx) (vs : List Nat) (σ : L2.St) (T : L2.St → Hp → Prop) (N : Hp → Prop) : L2.St → Hp → Prop := fun σ2 H2 => wipe σ2 vs = wipe σ vs ∧ tT K W0 t σ2 H2 fun b H3 => if b = true then T σ2 H3 else N H3
/-- the turns of a comprehension, whatever grows: go, what the turns do to the data; P, what stands between two turns -/
theorem turns_dl {K : PySem.W.Frag} {g : TG} {tg : Tg} {js : List Nat} {t : Tx} {vs : List Nat} {β : Type} {el : En → Rs → Option (β × Rs)} (hg : TgD K g tg js) (hj : ∀ j ∈ js, j ∈ vs) {σ : L2.St} {w1 : Wd} {H1 : Hp} {ρ : En} {J : It} {ds : List DL.D}
    (wk : Walks K J w1 ds) (s1 : Slots K w1 ρ σ) (P : List DL.D → Wd → Rs → Hp → Prop) (hP : ∀ l w r H, P l w r H → Good K w r H ∧ Sub w1.v w.v ∧ Pre w1.m w.m) {r1 : Rs} (h0 : P ds w1 r1 H1) {Fin : Hp → Prop} (fin : ∀ w r H, P [] w r H → Fin H) {T : L2.St → Hp → (Hp → Prop) → Prop}
    (step : ∀ d l w r H w2 H2, P (d :: l) w r H → Tr w H w2 H2 → Good K w2 r H2 → ∃ ρ1, tg d (wipeE ρ vs) = some ρ1 ∧ ((∃ r3, t ρ1 r = .ok false r3 ∧ ∀ w3 H3, Tr w2 H2 w3 H3 → Good K w3 r3 H3 → P l w3 r3 H3) ∨
      (∃ r3, t ρ1 r = .ok true r3 ∧ ∀ w3 H3 σ2 (N : Hp → Prop), Tr w2 H2 w3 H3 → Good K w3 r3 H3 → Slots K w3 ρ1 σ2 → (∀ w4 r4 H4, P l w4 r4 H4 → N H4) → T σ2 H3 N))) :
    ∃ W : Nat → Nat → Hp → Prop, (∃ m, W 0 m H1) ∧ ∀ i m H, W i m H →
      (J.stop i H ∧ Fin H) ∨ (J.go i H ∧ ∃ Nx : Hp → Prop, (∀ H', Nx H' → ∃ m', m' < m ∧ W (i + 1) m' H') ∧ ∀ x H', J.yld i H x H' → g x (wipe σ vs) H' fun σ2 H2 => wipe σ2 vs = wipe σ vs ∧ tT K W0 t σ2 H2 fun b H3 =>
        if b = true then T σ2 H3 Nx else Nx H3) := by
  refine ⟨fun i m H => m = ds.length - i ∧ i ≤ ds.length ∧ ∃ w r, P (ds.drop i) w r H, ⟨ds.length, by simp, Nat.zero_le _, w1, r1, by rw [List.drop_zero]; exact h0⟩, ?_⟩
  rintro i m H' ⟨rfl, le, w', r', p'⟩
  obtain ⟨g', sb, pr⟩ := hP _ _ _ _ p'
  by_cases hlt : i < ds.length
  · refine .inr ?_
    have hd : ds[i]? = some ds[i] := List.getElem?_eq_getElem hlt
    obtain ⟨go, yl⟩ := (wk w' r' H' sb pr g' i).1 _ hd
    refine ⟨go, fun H2 => i + 1 ≤ ds.length ∧ ∃ w r, P (ds.drop (i + 1)) w r H2, fun H2 q => ⟨ds.length - (i + 1), by omega, rfl, q.1, q.2⟩, fun x H2 y => ?_⟩
    obtain ⟨w2, t2, g2, rx⟩ := yl x H2 y
    rw [List.drop_eq_getElem_cons hlt] at p'
    obtain ⟨ρ1, e1, st⟩ := step _ _ _ _ _ w2 H2 p' t2 g2
    have sw : Slots K w2 (wipeE ρ vs) (wipe σ vs) := ((s1.mono2 sb pr).mono t2).wipe vs
    obtain ⟨σ2, k1, s2, k2, k3⟩ := hg.slots g2 sw rx e1
    refine k1 _ ⟨?_, ρ1, r', w2, g2, s2, ?_⟩
    · rw [← wipe_wipe (σ := σ) vs]
      exact wipe_eq k2 fun j hj' => k3 j fun m => hj' (hj j m)
    · rcases st with ⟨r3, et, q⟩ | ⟨r3, et, q⟩
      · rw [et]
        exact fun w3 H3 t3 g3 => iteF ⟨hlt, w3, r3, q w3 H3 t3 g3⟩
      · rw [et]
        exact fun w3 H3 t3 g3 => iteT (q w3 H3 σ2 _ t3 g3 (s2.mono t3) fun w4 r4 H4 p4 => ⟨hlt, w4, r4, p4⟩)
  · have ei : i = ds.length := by omega
    subst ei
    refine .inl ⟨(wk w' r' H' sb pr g' ds.length).2 (Nat.le_refl _), ?_⟩
    rw [List.drop_length] at p'
    exact fin w' r' H' p'

/-! ### [e for x in xs for y in ys] -/
def lc2Go (tg : Tg) (it2 : Lx) (tg2 : Tg) (t : Tx) (f : Ex) (vs1 : List Nat) (ρ : En) : List D → Rs → Option (List D × Rs)
  | [], r => some ([], r)
  | d :: ds, r => (tg d ρ).bind fun ρ1 => match it2 ρ1 r with
    | .ok es r1 => (lcGo tg2 t f (wipeE ρ1 vs1) es r1).bind fun p => (lc2Go tg it2 tg2 t f vs1 ρ ds p.2).map fun q => (p.1 ++ q.1, q.2)
    | _ => none
def xLc2 (it : Lx) (tg : Tg) (it2 : Lx) (tg2 : Tg) (t : Tx) (f : Ex) (vs vs1 : List Nat) : Lx := fun ρ r => (it ρ r).bind fun ds r1 => match lc2Go tg it2 tg2 t f vs1 (wipeE ρ vs) ds r1 with
  | some p => if p.1.length ≤ lim then .ok p.1 p.2 else .bad
  | none => .bad
/-- between two turns: the list at D holds what is done, the rest is to come -/
structure LcP (K : PySem.W.Frag) (w0 : Wd) (H0 : Hp) (w1 : Wd) (p : Addr) (go : List DL.D → Rs → Option (List DL.D × Rs)) (es : List DL.D) (rE : Rs) (l : List DL.D) (w : Wd) (r : Rs) (H : Hp) : Prop where
  tr : Tr w0 H0 w H
  gd : Good K w r H
  sb : Sub w1.v w.v
  pr : Pre w1.m w.m
  nv : w.v p = none
  nm : p ∉ w.m
  ex : ∃ acc dn rs, H p = some (.lst acc) ∧ Rps K w.m w.v dn acc ∧ go l r = some (rs, rE) ∧ es = dn ++ rs
theorem LcP.step {K : PySem.W.Frag} {w0 w1 : Wd} {H0 : Hp} {p : Addr} {tg : Tg} {t : Tx} {f : Ex} {ρ : En} {es : List DL.D} {rE : Rs} (h0 : H0 p = none) (hl : es.length ≤ lim) {d : DL.D} {l : List DL.D} {w w2 : Wd} {r : Rs} {H H2 : Hp}
    (q : LcP K w0 H0 w1 p (lcGo tg t f ρ) es rE (d :: l) w r H) (t2 : Tr w H w2 H2) (g2 : Good K w2 r H2) : ∃ ρ1, tg d ρ = some ρ1 ∧ ((∃ r3, t ρ1 r = .ok false r3 ∧ ∀ w3 H3, Tr w2 H2 w3 H3 → Good K w3 r3 H3 → LcP K w0 H0 w1 p (lcGo tg t f ρ) es rE l w3 r3 H3) ∨
      (∃ r3, t ρ1 r = .ok true r3 ∧ ∀ w3 H3 σ2 (N : Hp → Prop), Tr w2 H2 w3 H3 → Good K w3 r3 H3 → Slots K w3 ρ1 σ2 → (∀ w4 r4 H4, LcP K w0 H0 w1 p (lcGo tg t f ρ) es rE l w4 r4 H4 → N H4) →
        tE K W0 f σ2 H3 fun y H4 => ∃ acc, H4 p = some (.lst acc) ∧ acc.length < sizeLine ∧ N (upd H4 p (.lst (acc ++ [y]))))) := by
  obtain ⟨acc, dn, rs, hp, rd, hgo, hes⟩ := q.ex
  unfold lcGo at hgo
  cases e1 : tg d ρ with
  | none => rw [e1] at hgo; cases hgo
  | some ρ1 =>
    rw [e1] at hgo
    have hgo : (match t ρ1 r with
      | .ok true r1 => match f ρ1 r1 with
        | .ok e r2 => (lcGo tg t f ρ l r2).map fun p => (e :: p.1, p.2)
        | _ => none
      | .ok false r1 => lcGo tg t f ρ l r1
      | _ => none) = some (rs, rE) := hgo
    obtain ⟨nv2, nm2, hp2⟩ := hid_keep t2 q.nv q.nm hp
    refine ⟨ρ1, rfl, ?_⟩
    cases et : t ρ1 r with
    | exc c fs r3 => rw [et] at hgo; cases hgo
    | bad => rw [et] at hgo; cases hgo
    | ok b r3 =>
      rw [et] at hgo
      cases b with
      | false =>
        refine .inl ⟨r3, rfl, fun w3 H3 t3 g3 => ?_⟩
        obtain ⟨nv3, nm3, hp3⟩ := hid_keep t3 nv2 nm2 hp2
        have t23 := t2.trans t3
        exact ⟨q.tr.trans t23, g3, q.sb.trans t23.sub, q.pr.trans t23.pre, nv3, nm3, acc, dn, rs, hp3, t23.rps rd, hgo, hes⟩
      | true =>
        refine .inr ⟨r3, rfl, fun w3 H3 σ2 N t3 g3 s3 k => ?_⟩
        obtain ⟨nv3, nm3, hp3⟩ := hid_keep t3 nv2 nm2 hp2
        have hgo : (match f ρ1 r3 with
          | .ok e r2 => (lcGo tg t f ρ l r2).map fun p => (e :: p.1, p.2)
          | _ => none) = some (rs, rE) := hgo
        refine ⟨ρ1, r3, w3, g3, s3, ?_⟩
        cases ef : f ρ1 r3 with
        | exc c fs r4 => rw [ef] at hgo; cases hgo
        | bad => rw [ef] at hgo; cases hgo
        | ok e r4 =>
          rw [ef] at hgo
          have hgo : (lcGo tg t f ρ l r4).map (fun p => (e :: p.1, p.2)) = some (rs, rE) := hgo
          cases el : lcGo tg t f ρ l r4 with
          | none => rw [el] at hgo; cases hgo
          | some z =>
            rw [el] at hgo
            obtain ⟨rest', rE'⟩ := z
            cases hgo
            intro w4 H4 t4 g4 y ry
            obtain ⟨nv4, nm4, hp4⟩ := hid_keep t4 nv3 nm3 hp3
            have t24 := (t2.trans t3).trans t4
            refine ⟨acc, hp4, ?_, k w4 r4 _ ?_⟩
            · rw [← rd.length]
              have : es.length = dn.length + (rest'.length + 1) := by rw [hes, List.length_append, List.length_cons]
              exact lim_lt (by omega)
            · obtain ⟨t5, g5⟩ := tr_own (u := .lst (acc ++ [y])) g4 (q.tr.trans t24) h0 nv4 nm4 hp4
              exact ⟨t5, g5, q.sb.trans t24.sub, q.pr.trans t24.pre, nv4, nm4, acc ++ [y], dn ++ [e], rest', upd_same, (t24.rps rd).append (.cons ry .nil), el, by rw [hes, List.append_assoc]; rfl⟩
theorem lc2_dl {K : PySem.W.Frag} {W : WX} {it it2 : Lx} {g g2 : TG} {tg tg2 : Tg} {js js2 : List Nat} {t : Tx} {f : Ex} {vs vs1 : List Nat} (hg : TgD K g tg js) (hj : ∀ j ∈ js, j ∈ vs) (hg2 : TgD K g2 tg2 js2) (hj2 : ∀ j ∈ js2, j ∈ vs1) {σ : L2.St} {H : Hp} {Q : VK} (h : tN K W (xLc2 it tg it2 tg2 t f vs vs1) σ H Q) :
    tLc2 (tI K W it) g (tT K W0 xYes) (tI K W0 it2) g2 (tT K W0 t) (tE K W0 f) vs vs1 σ H Q := by
  obtain ⟨ρ, r, w, gd, s, h⟩ := h
  refine ⟨ρ, r, w, gd, s, h.fst fun ds w1 r1 H1 _ t1 g1 q h1 J wk p hp => ?_⟩
  cases e : lc2Go tg it2 tg2 t f vs1 (wipeE ρ vs) ds r1 with
  | none => rw [e] at h1; exact h1.elim
  | some z =>
    obtain ⟨es, rE⟩ := z
    rw [e] at h1 q
    dsimp only at h1 q
    split at h1
    · rename_i hl
      have q := q es rE (if_pos hl)
      have s1 := s.mono t1
      obtain ⟨t2, g2'⟩ := tr_hid (o := .lst []) g1 hp
      refine turns_dl (t := xYes) (el := fun _ _ => (none : Option (Unit × Rs))) (T := fun σ2 H3 N => tI K W0 it2 σ2 H3 fun J1 H4 => ∃ W1 : Nat → Nat → Hp → Prop, (∃ m, W1 0 m H4) ∧ ∀ j k H, W1 j k H →
        (J1.stop j H ∧ N H) ∨ (J1.go j H ∧ ∃ Nx1 : Hp → Prop, (∀ H', Nx1 H' → ∃ k', k' < k ∧ W1 (j + 1) k' H') ∧ ∀ x H', J1.yld j H x H' → g2 x (wipe σ2 vs1) H' fun σ3 H5 => wipe σ3 vs1 = wipe σ2 vs1 ∧ tT K W0 t σ3 H5 fun b H6 =>
          if b = true then tE K W0 f σ3 H6 fun y H7 => ∃ acc, H7 p = some (.lst acc) ∧ acc.length < sizeLine ∧ Nx1 (upd H7 p (.lst (acc ++ [y]))) else Nx1 H6))
        hg hj wk s1 (LcP K w1 H1 w1 p (lc2Go tg it2 tg2 t f vs1 (wipeE ρ vs)) es rE) (fun l w r H x => ⟨x.gd, x.sb, x.pr⟩)
        ⟨t2, g2', .refl _, .refl _, g1.none_of hp, fun hm => g1.live hm hp, [], [], es, upd_same, .nil, e, rfl⟩ (fun w r H x => ?_) fun d l w3 r3 H3 w4 H4 x t4 g4 => ?_
      · obtain ⟨acc, dn, rs, hp', rd, hgo, hes⟩ := x.ex
        cases hgo
        rw [List.append_nil] at hes
        subst hes
        exact q w H (t1.trans x.tr) x.gd p ⟨t1.fresh hp, x.nv, x.nm, acc, hp', rd⟩
      · obtain ⟨acc, dn, rs, hp', rd, hgo, hes⟩ := x.ex
        unfold lc2Go at hgo
        cases e1 : tg d (wipeE ρ vs) with
        | none => rw [e1] at hgo; cases hgo
        | some ρ1 =>
          rw [e1, Option.bind_some] at hgo
          refine ⟨ρ1, rfl, .inr ⟨r3, rfl, fun w5 H5 σ2 N t5 g5 s5 k => ⟨ρ1, r3, w5, g5, s5, ?_⟩⟩⟩
          cases e2 : it2 ρ1 r3 with
          | exc c fs r4 => rw [e2] at hgo; cases hgo
          | bad => rw [e2] at hgo; cases hgo
          | ok ds2 r4 =>
            rw [e2] at hgo
            dsimp only at hgo
            cases e3 : lcGo tg2 t f (wipeE ρ1 vs1) ds2 r4 with
            | none => rw [e3] at hgo; cases hgo
            | some z =>
              obtain ⟨p1, r5⟩ := z
              rw [e3, Option.bind_some] at hgo
              cases e4 : lc2Go tg it2 tg2 t f vs1 (wipeE ρ vs) l r5 with
              | none => rw [e4] at hgo; cases hgo
              | some z =>
                obtain ⟨q1, r6⟩ := z
                rw [e4] at hgo
                cases hgo
                intro w6 H6 t6 g6 J1 wk1
                have t46 := (t4.trans t5).trans t6
                obtain ⟨nv6, nm6, hp6⟩ := hid_keep t46 x.nv x.nm hp'
                have hl2 : (dn ++ p1).length ≤ lim := by
                  rw [hes] at hl
                  simp only [List.length_append] at hl ⊢
                  omega
                refine turns_dl (t := t) (el := fun _ _ => (none : Option (Unit × Rs))) (T := fun σ3 H7 N => tE K W0 f σ3 H7 fun y H8 => ∃ acc, H8 p = some (.lst acc) ∧ acc.length < sizeLine ∧ N (upd H8 p (.lst (acc ++ [y]))))
                  hg2 hj2 wk1 (s5.mono t6) (LcP K w1 H1 w6 p (lcGo tg2 t f (wipeE ρ1 vs1)) (dn ++ p1) r5) (fun l w r H x => ⟨x.gd, x.sb, x.pr⟩)
                  ⟨x.tr.trans t46, g6, .refl _, .refl _, nv6, nm6, acc, dn, p1, hp6, t46.rps rd, e3, rfl⟩ (fun w7 r7 H7 y => ?_) fun d2 l2 w7 r7 H7 w8 H8 y t8 g8 => y.step hp hl2 t8 g8
                obtain ⟨acc7, dn7, rs7, hp7, rd7, hgo7, hes7⟩ := y.ex
                cases hgo7
                rw [List.append_nil] at hes7
                exact k w7 r5 H7 ⟨y.tr, y.gd, (x.sb.trans t46.sub).trans y.sb, (x.pr.trans t46.pre).trans y.pr, y.nv, y.nm, acc7, dn7, q1, hp7, rd7, e4, by rw [hes, ← List.append_assoc, hes7]⟩
    · exact h1.elim
section
variable {X : Cx} {W : WX} {elt tg iter tg1 iter1 : Expr} {ifs ifs1 : List Expr} {scope : Scope} {own : List (Str × Nat)} {vs1 : List Nat} {pos : Pos} {it it2 : Lx} {g g2 : TG} {dt dt2 : Tg} {js js2 : List Nat} {t : Tx} {f : Ex}
theorem dn_lc2 (hc : X.calm = true) (hN : X.N.Nodup) (hi : PI X tg iter (tI X.K W it)) (ok : BlkOk X.N X.env.scope scope own) (hd : TgD X.K g dt js) (hj : ∀ j ∈ js, j ∈ own.map (·.2)) (hd2 : TgD X.K g2 dt2 js2) (hj2 : ∀ j ∈ js2, j ∈ vs1) (hv : ∀ i ∈ vs1, i ∈ own.map (·.2))
    (hg : ∀ (s : Shared) (H : Hp) (C : Addr) (cl : List (Str × Addr)) (fp : List Addr), PG (X.blk s H scope (compEnvC scope cl C X.env) fp) tg g)
    (hi2 : ∀ (s : Shared) (H : Hp) (C : Addr) (cl : List (Str × Addr)) (fp : List Addr), PI (X.blk s H scope (compEnvC scope cl C X.env) fp) tg1 iter1 (tI X.K W0 it2))
    (hg2 : ∀ (s : Shared) (H : Hp) (C : Addr) (cl : List (Str × Addr)) (fp : List Addr), PG (X.blk s H scope (compEnvC scope cl C X.env) fp) tg1 g2) (ht : ∀ (s : Shared) (H : Hp) (C : Addr) (cl : List (Str × Addr)) (fp : List Addr), PTs (X.blk s H scope (compEnvC scope cl C X.env) fp) ifs1 (tT X.K W0 t))
    (he : ∀ (s : Shared) (H : Hp) (C : Addr) (cl : List (Str × Addr)) (fp : List Addr), PE (X.blk s H scope (compEnvC scope cl C X.env) fp) elt (tE X.K W0 f)) (hs : ∀ x, foldedSetIterable iter X.env x = pure x := by intro _; rfl) (hs1 : ∀ env x, foldedSetIterable iter1 env x = pure x := by intro _ _; rfl) :
    PE X (.ListComp elt [⟨tg, iter, [], 0⟩, ⟨tg1, iter1, ifs1, 0⟩] scope pos) (tN X.K W (xLc2 it dt it2 dt2 t f (own.map (·.2)) vs1)) :=
  (pe_lc2 (tt := tT X.K W0 xYes) hc hN hi ok hv hg (fun _ _ _ _ _ => dts_nil) hi2 hg2 ht he hs hs1).imp fun σ H Q h => lc2_dl hd hj hd2 hj2 h
theorem dn_setLc2 {i : Nat} {y : Str} {py spos : Pos} (hc : X.calm = true) (hN : X.N.Nodup) (hy : X.N[i]? = some y) (hyl : X.env.scope.names.lookup y = some .local)
    (hsw : swapsWith (.ListComp elt [⟨tg, iter, [], 0⟩, ⟨tg1, iter1, ifs1, 0⟩] scope pos) (some (.Name y py)) spos.line X.env = pure true) (hi : PI X tg iter (tI X.K W it)) (ok : BlkOk X.N X.env.scope scope own) (hd : TgD X.K g dt js) (hj : ∀ j ∈ js, j ∈ own.map (·.2)) (hd2 : TgD X.K g2 dt2 js2) (hj2 : ∀ j ∈ js2, j ∈ vs1) (hv : ∀ i ∈ vs1, i ∈ own.map (·.2))
    (hg : ∀ (s : Shared) (H : Hp) (C : Addr) (cl : List (Str × Addr)) (fp : List Addr), PG (X.blk s H scope (compEnvC scope cl C X.env) fp) tg g)
    (hi2 : ∀ (s : Shared) (H : Hp) (C : Addr) (cl : List (Str × Addr)) (fp : List Addr), PI (X.blk s H scope (compEnvC scope cl C X.env) fp) tg1 iter1 (tI X.K W0 it2))
    (hg2 : ∀ (s : Shared) (H : Hp) (C : Addr) (cl : List (Str × Addr)) (fp : List Addr), PG (X.blk s H scope (compEnvC scope cl C X.env) fp) tg1 g2) (ht : ∀ (s : Shared) (H : Hp) (C : Addr) (cl : List (Str × Addr)) (fp : List Addr), PTs (X.blk s H scope (compEnvC scope cl C X.env) fp) ifs1 (tT X.K W0 t))
    (he : ∀ (s : Shared) (H : Hp) (C : Addr) (cl : List (Str × Addr)) (fp : List Addr), PE (X.blk s H scope (compEnvC scope cl C X.env) fp) elt (tE X.K W0 f)) (hs : ∀ x, foldedSetIterable iter X.env x = pure x := by intro _; rfl) (hs1 : ∀ env x, foldedSetIterable iter1 env x = pure x := by intro _ _; rfl) :
    PS X (.Assign [.Name y py] (.ListComp elt [⟨tg, iter, [], 0⟩, ⟨tg1, iter1, ifs1, 0⟩] scope pos) spos) (tAsg (tN X.K W (xLc2 it dt it2 dt2 t f (own.map (·.2)) vs1)) (gName i)) :=
  (ps_setLc2 (tt := tT X.K W0 xYes) hc hN hy hyl hsw hi ok hv hg (fun _ _ _ _ _ => dts_nil) hi2 hg2 ht he hs hs1).imp fun D σ H h => lc2_dl hd hj hd2 hj2 h
end

/-! ### {k: v for x in xs if ..} -/
def dcGo (tg : Tg) (t : Tx) (fk fv : Ex) (ρ : En) : List D → List (Key × D) → Rs → Option (List (Key × D) × Rs)
  | [], acc, r => some (acc, r)
  | d :: ds, acc, r => (tg d ρ).bind fun ρ1 => match t ρ1 r with
    | .ok true r1 => match fk ρ1 r1 with
      | .ok a r2 => match fv ρ1 r2, keyOf a with
        | .ok b r3, some k => dcGo tg t fk fv ρ ds (setK acc k b) r3
        | _, _ => none
      | _ => none
    | .ok false r1 => dcGo tg t fk fv ρ ds acc r1
    | _ => none
def xDc (it : Lx) (tg : Tg) (t : Tx) (fk fv : Ex) (vs : List Nat) : Dx := fun ρ r => (it ρ r).bind fun ds r1 => if ds.length < lim then (match dcGo tg t fk fv (wipeE ρ vs) ds [] r1 with
  | some p => .ok p.1 p.2
  | none => .bad) else .bad
theorem setK_len (kds : List (Key × D)) (k : Key) (d : D) : (setK kds k d).length ≤ kds.length + 1 := by
  unfold setK
  split
  · rw [List.length_map]; omega
  · rw [List.length_append]; simp
structure DcP (K : PySem.W.Frag) (w0 : Wd) (H0 : Hp) (w1 : Wd) (p : Addr) (go : List DL.D → List (Key × DL.D) → Rs → Option (List (Key × DL.D) × Rs)) (es : List (Key × DL.D)) (rE : Rs) (l : List DL.D) (w : Wd) (r : Rs) (H : Hp) : Prop where
  tr : Tr w0 H0 w H
  gd : Good K w r H
  sb : Sub w1.v w.v
  pr : Pre w1.m w.m
  nv : w.v p = none
  nm : p ∉ w.m
  ex : ∃ acc dn, H p = some (.dK acc) ∧ Rpk K w.m w.v dn acc ∧ dn.length + l.length < lim ∧ go l dn r = some (es, rE)
theorem dc_dl {K : PySem.W.Frag} {W : WX} {it : Lx} {g : TG} {tg : Tg} {js : List Nat} {t : Tx} {fk fv : Ex} {vs : List Nat} (hg : TgD K g tg js) (hj : ∀ j ∈ js, j ∈ vs) {σ : L2.St} {H : Hp} {Q : VK} (h : tND K W (xDc it tg t fk fv vs) σ H Q) :
    tDc (tI K W it) g (tT K W0 t) (tE K W0 fk) (tE K W0 fv) vs σ H Q := by
  obtain ⟨ρ, r, w, gd, s, h⟩ := h
  refine ⟨ρ, r, w, gd, s, h.fst fun ds w1 r1 H1 _ t1 g1 q h1 J wk p hp => ?_⟩
  split at h1
  · rename_i hl
    rw [if_pos hl] at q
    cases e : dcGo tg t fk fv (wipeE ρ vs) ds [] r1 with
    | none => rw [e] at h1; exact h1.elim
    | some z =>
      obtain ⟨es, rE⟩ := z
      rw [e] at q
      have q := q es rE rfl
      have s1 := s.mono t1
      obtain ⟨t2, g2'⟩ := tr_hid (o := .dK []) g1 hp
      refine turns_dl (t := t) (el := fun _ _ => (none : Option (Unit × Rs))) (T := fun σ2 H3 N => tE K W0 fk σ2 H3 fun y H4 => tE K W0 fv σ2 H4 fun z H5 => ∃ kvs k, y = kV k ∧ H5 p = some (.dK kvs) ∧ kvs.length < sizeLine ∧ N (upd H5 p (.dK (putK kvs k z))))
        hg hj wk s1 (DcP K w1 H1 w1 p (dcGo tg t fk fv (wipeE ρ vs)) es rE) (fun l w r H x => ⟨x.gd, x.sb, x.pr⟩)
        ⟨t2, g2', .refl _, .refl _, g1.none_of hp, fun hm => g1.live hm hp, [], [], upd_same, .nil, by simpa using hl, e⟩ (fun w r H x => ?_) fun d l w3 r3 H3 w4 H4 x t4 g4 => ?_
      · obtain ⟨acc, dn, hp', rd, _, hgo⟩ := x.ex
        cases hgo
        exact q w H (t1.trans x.tr) x.gd p ⟨t1.fresh hp, x.nv, x.nm, acc, hp', rd⟩
      · obtain ⟨acc, dn, hp', rd, hln, hgo⟩ := x.ex
        rw [List.length_cons] at hln
        unfold dcGo at hgo
        cases e1 : tg d (wipeE ρ vs) with
        | none => rw [e1] at hgo; cases hgo
        | some ρ1 =>
          rw [e1, Option.bind_some] at hgo
          refine ⟨ρ1, rfl, ?_⟩
          obtain ⟨nv4, nm4, hp4⟩ := hid_keep t4 x.nv x.nm hp'
          cases et : t ρ1 r3 with
          | exc c fs r5 => rw [et] at hgo; cases hgo
          | bad => rw [et] at hgo; cases hgo
          | ok b r5 =>
            rw [et] at hgo
            cases b with
            | false =>
              refine .inl ⟨r5, rfl, fun w5 H5 t5 g5 => ?_⟩
              obtain ⟨nv5, nm5, hp5⟩ := hid_keep t5 nv4 nm4 hp4
              have t45 := t4.trans t5
              exact ⟨x.tr.trans t45, g5, x.sb.trans t45.sub, x.pr.trans t45.pre, nv5, nm5, acc, dn, hp5, rd.mono t45.sub t45.pre, by omega, hgo⟩
            | true =>
              refine .inr ⟨r5, rfl, fun w5 H5 σ2 N t5 g5 s5 k => ⟨ρ1, r5, w5, g5, s5, ?_⟩⟩
              obtain ⟨nv5, nm5, hp5⟩ := hid_keep t5 nv4 nm4 hp4
              dsimp only at hgo
              cases e2 : fk ρ1 r5 with
              | exc c fs r6 => rw [e2] at hgo; cases hgo
              | bad => rw [e2] at hgo; cases hgo
              | ok a r6 =>
                rw [e2] at hgo
                dsimp only at hgo
                intro w6 H6 t6 g6 y ry
                obtain ⟨nv6, nm6, hp6⟩ := hid_keep t6 nv5 nm5 hp5
                refine ⟨ρ1, r6, w6, g6, s5.mono t6, ?_⟩
                cases e3 : fv ρ1 r6 with
                | exc c fs r7 => rw [e3] at hgo; cases hgo
                | bad => rw [e3] at hgo; cases hgo
                | ok b r7 =>
                  cases e4 : keyOf a with
                  | none => rw [e3, e4] at hgo; cases hgo
                  | some kk =>
                    rw [e3, e4] at hgo
                    dsimp only at hgo
                    intro w7 H7 t7 g7 z rz
                    obtain ⟨nv7, nm7, hp7⟩ := hid_keep t7 nv6 nm6 hp6
                    have t47 := ((t4.trans t5).trans t6).trans t7
                    have rd7 := rd.mono t47.sub t47.pre
                    refine ⟨acc, kk, ry.key e4, hp7, by rw [← rd7.length]; exact lim_lt (by omega), k w7 r7 _ ?_⟩
                    obtain ⟨t8, g8⟩ := tr_own (u := .dK (putK acc kk z)) g7 (x.tr.trans t47) hp nv7 nm7 hp7
                    exact ⟨t8, g8, x.sb.trans t47.sub, x.pr.trans t47.pre, nv7, nm7, _, _, upd_same, rd7.put kk rz, by have := setK_len dn kk b; omega, hgo⟩
  · exact h1.elim
section
variable {X : Cx} {W : WX} {kx vx tg iter : Expr} {ifs : List Expr} {scope : Scope} {own : List (Str × Nat)} {pos : Pos} {it : Lx} {g : TG} {dt : Tg} {js : List Nat} {t : Tx} {fk fv : Ex}
theorem dnd_dc (hc : X.calm = true) (hN : X.N.Nodup) (hi : PI X tg iter (tI X.K W it)) (ok : BlkOk X.N X.env.scope scope own) (hd : TgD X.K g dt js) (hj : ∀ j ∈ js, j ∈ own.map (·.2))
    (hg : ∀ (s : Shared) (H : Hp) (C : Addr) (cl : List (Str × Addr)) (fp : List Addr), PG (X.blk s H scope (compEnvC scope cl C X.env) fp) tg g) (ht : ∀ (s : Shared) (H : Hp) (C : Addr) (cl : List (Str × Addr)) (fp : List Addr), PTs (X.blk s H scope (compEnvC scope cl C X.env) fp) ifs (tT X.K W0 t))
    (hk : ∀ (s : Shared) (H : Hp) (C : Addr) (cl : List (Str × Addr)) (fp : List Addr), PE (X.blk s H scope (compEnvC scope cl C X.env) fp) kx (tE X.K W0 fk))
    (he : ∀ (s : Shared) (H : Hp) (C : Addr) (cl : List (Str × Addr)) (fp : List Addr), PE (X.blk s H scope (compEnvC scope cl C X.env) fp) vx (tE X.K W0 fv)) (hs : ∀ x, foldedSetIterable iter X.env x = pure x := by intro _; rfl) :
    PE X (.DictComp kx vx [⟨tg, iter, ifs, 0⟩] scope pos) (tND X.K W (xDc it dt t fk fv (own.map (·.2)))) :=
  (pe_dc hc hN hi ok hg ht hk he hs).imp fun σ H Q h => dc_dl hd hj h
end
end DL

/-! DL20: sorted; a dict comprehension given to a name; loops over a range of own things; defaults; properties. -/
namespace DL
open PySem PySem.Spec PyProof.Rows L2
/-! ### texts in order -/
abbrev cps (x : Str) : List Nat := x.cps.toList
theorem cps_inj {x y : Str} (h : cps x = cps y) : x = y := by
  cases x; cases y
  simp only [cps] at h
  rw [Array.toList_inj] at h
  rw [h]
/-- x is not behind y -/
def leS (x y : Str) : Bool := !decide (cps y < cps x)
theorem leS_total (x y : Str) : leS x y = true ∨ leS y x = true := by
  unfold leS
  simp only [Bool.not_eq_true', decide_eq_false_iff_not, List.not_lt]
  exact List.le_total _ _
theorem leS_trans {x y z : Str} (a : leS x y = true) (b : leS y z = true) : leS x z = true := by
  unfold leS at *
  simp only [Bool.not_eq_true', decide_eq_false_iff_not, List.not_lt] at *
  exact List.le_trans a b
theorem leS_anti {x y : Str} (a : leS x y = true) (b : leS y x = true) : x = y := by
  unfold leS at *
  simp only [Bool.not_eq_true', decide_eq_false_iff_not, List.not_lt] at *
  exact cps_inj (List.le_antisymm a b)
def sortStr (xs : List Str) : List Str := xs.mergeSort leS
theorem sortStr_perm (xs : List Str) : (sortStr xs).Perm xs := List.mergeSort_perm xs leS
theorem sortStr_pair (xs : List Str) : (sortStr xs).Pairwise (fun a b => leS a b = true) := List.pairwise_mergeSort (le := leS) (fun _ _ _ a b => leS_trans a b) (fun a b => by rcases leS_total a b with h | h <;> simp [h]) xs
theorem rising_pair : ∀ {p : Str} {r : List Str}, risingS p r = true → (p :: r).Pairwise (fun a b => leS a b = true)
  | p, [], _ => by simp
  | p, x :: r, h => by
    rw [risingS, Bool.and_eq_true, ltCps_eq] at h
    have ih := rising_pair h.2
    have hx : leS p x = true := h.1
    rw [List.pairwise_cons]
    refine ⟨fun y hy => ?_, ih⟩
    rcases List.mem_cons.mp hy with e | e
    · rw [e]; exact hx
    · exact leS_trans hx ((List.pairwise_cons.mp ih).1 y e)
theorem sortStr_the {xs ys : List Str} (h1 : ys.Perm xs) (h2 : sortedS ys = true) : ys = sortStr xs := by
  have hp : ys.Pairwise (fun a b => leS a b = true) := by
    cases ys with
    | nil => exact .nil
    | cons y r => exact rising_pair h2
  exact List.Perm.eq_of_pairwise (fun a b _ _ => leS_anti) hp (sortStr_pair xs) (h1.trans (sortStr_perm xs).symm)
def sortInt (xs : List Int) : List Int := xs.mergeSort fun a b => decide (a ≤ b)
theorem sortInt_the {xs ys : List Int} (h1 : ys.Perm xs) (h2 : ys.Pairwise (· ≤ ·)) : ys = sortInt xs := by
  refine List.Perm.eq_of_pairwise (le := (· ≤ ·)) (fun a b _ _ x y => Int.le_antisymm x y) h2 ?_ (h1.trans (List.mergeSort_perm xs _).symm)
  have := List.pairwise_mergeSort (le := fun a b : Int => decide (a ≤ b)) (fun a b c x y => by simp at *; omega) (fun a b => by simp; omega) xs
  exact this.imp fun h => by simpa using h
def keysS : List (Key × D) → Option (List Str)
  | [] => some []
  | (.inr x, _) :: r => (keysS r).map (x :: ·)
  | _ => none
theorem keysS_rpk {K : PySem.W.Frag} {m : List Addr} {H : Hp} : ∀ {ds : List (Key × D)} {vs : List (Key × V)} {xs : List Str}, Rpk K m H ds vs → keysS ds = some xs → vs.map (·.1) = xs.map Sum.inr
  | _, _, _, .nil, e => by cases e; rfl
  | (k, d) :: ds, _, _, .cons r t, e => by
    cases k with
    | inl i => cases e
    | inr x =>
      simp only [keysS] at e
      cases q : keysS ds with
      | none => rw [q] at e; cases e
      | some ys =>
        rw [q] at e
        cases e
        rw [List.map_cons, List.map_cons, keysS_rpk t q]
/-- sorted(a list of texts, of ints; a dict with keys that are texts), fewer than 64 -/
def cSort : List D → Option (List D)
  | [.lst ds] => (match strsOf ds with
    | some xs => if xs.length < 64 then some ((sortStr xs).map .str) else none
    | none => (intsOf ds).bind fun ns => if ns.length < 64 then some ((sortInt ns).map .int) else none)
  | [.dic kds] => (keysS kds).bind fun xs => if xs.length < 64 then some ((sortStr xs).map .str) else none
  | _ => none
def xSort (f : Ax) : Lx := fun ρ r => (f ρ r).bind fun ds r1 => match cSort ds with
  | some es => .ok es r1
  | none => .bad
theorem rps_strs {K : PySem.W.Frag} {m : List Addr} {H : Hp} : ∀ xs : List Str, Rps K m H (xs.map D.str) (xs.map V.str)
  | [] => .nil
  | x :: xs => .cons (.str x) (rps_strs xs)
theorem rps_ints {K : PySem.W.Frag} {m : List Addr} {H : Hp} : ∀ xs : List Int, Rps K m H (xs.map D.int) (xs.map V.int)
  | [] => .nil
  | x :: xs => .cons (.int x) (rps_ints xs)
section
variable {X : Cx} {W : WX}
theorem CallR.or {fn : Value} {r1 r2 : List V → Hp → VK → Prop} (h1 : CallR X fn r1) (h2 : CallR X fn r2) : CallR X fn (fun xs H Q => r1 xs H Q ∨ r2 xs H Q) := fun pins s σ H xs us Q I r h => by
  rcases h with h | h
  · exact h1 pins s σ H xs us Q I r h
  · exact h2 pins s σ H xs us Q I r h
theorem dn_sort {x : Str} {p pos : Pos} {e : Expr} {es : List Expr} {f : Ax} (hc : X.calm = true) (hg : Gl X x) (hm : X.mg x = none) (hv : bootBuiltins x = some (.builtin "sorted")) (ha : PA X (e :: es) (tA X.K W f)) (hn : x ≠ "__name__" := by decide) (hdb : (x == ("__debug__" : Str)) = false := by decide)
    (he : starEach (e :: es) X.env = (false, eval e X.env) :: starEach es X.env := by rfl) (hpl : (backTo pos (starEach es X.env)).any (·.1) = false := by rfl) : PE X (.Call (.Name x p) (e :: es) [] pos) (tN X.K W (xSort f)) :=
  (pe_callB (CallR.or cr_sortedS (CallR.or cr_sorted (call_sortedD hc))) hg hm hv ha hn hdb he hpl).imp fun σ H Q ⟨ρ, r, w, gd, s, h⟩ => ⟨ρ, r, w, gd, s, h.fst fun ds w1 r1 H1 _ t1 g1 q h1 vs rvs => by
    split at h1
    · rename_i es e
      have e' : (match cSort ds with | some es => Out.ok es r1 | none => .bad) = .ok es r1 := by rw [e]
      have fin : ∀ {vs' : List V} (p : Addr), Rps X.K w1.m w1.v es vs' → H1 p = none → Q (.ref p) (upd H1 p (.lst vs')) := fun {vs'} p rv hp => by
        obtain ⟨t2, g2⟩ := tr_hid (o := .lst vs') g1 hp
        exact q _ r1 e' w1 _ (t1.trans t2) g2 p (newL_hid g1 t1 hp rv)
      cases rvs with
      | nil => cases e
      | cons rv rt =>
        cases rt with
        | cons _ _ => cases rv <;> cases e
        | nil =>
          cases rv <;> simp only [cSort] at e <;> try (cases e; done)
          case lst =>
            rename_i a xs ds hx rx zz
            cases q1 : strsOf ds with
            | some ys =>
              rw [q1] at e
              dsimp only at e
              split at e
              · rename_i h64
                cases e
                rw [strsOf_rps rx q1] at hx
                refine .inl ⟨a, ys, rfl, SqL.of (g1.sub _ _ hx), h64, fun zs p k1 k2 hp => ?_⟩
                rw [sortStr_the k1 k2]
                exact fin p (rps_strs _) hp
              · cases e
            | none =>
              rw [q1] at e
              dsimp only at e
              cases q2 : intsOf ds with
              | none => rw [q2] at e; cases e
              | some ns =>
                rw [q2, Option.bind_some] at e
                split at e
                · rename_i h64
                  cases e
                  have z := rx.ints q2
                  subst z
                  refine .inr (.inl ⟨a, ns, rfl, SqL.of (g1.sub _ _ hx), h64, fun zs p k1 k2 hp => ?_⟩)
                  rw [sortInt_the k1 k2]
                  exact fin p (rps_ints _) hp
                · cases e
          case dic =>
            rename_i a kvs kds hx rx zz
            cases q1 : keysS kds with
            | none => rw [q1] at e; cases e
            | some ys =>
              rw [q1, Option.bind_some] at e
              split at e
              · rename_i h64
                cases e
                refine .inr (.inr ⟨a, kvs, ys, rfl, .inl (g1.sub _ _ hx), keysS_rpk rx q1, h64, fun zs p k1 k2 hp => ?_⟩)
                rw [sortStr_the k1 k2]
                exact fin p (rps_strs _) hp
              · cases e
    · exact h1.elim⟩

/-! ### a dict comprehension given to a name -/
section
variable {kx vx tg iter : Expr} {ifs : List Expr} {scope : Scope} {own : List (Str × Nat)} {pos spos py : Pos} {wi : TI} {g : TG} {tt : TT} {tk tv : TE} {i : Nat} {y : Str} {it : Lx} {dt : Tg} {js : List Nat} {t : Tx} {fk fv : Ex}
theorem sw_trueD {l : Nat} {env : Env} (hk : env.scope.kind = .function) (hy : env.scope.names.lookup y = some .local) (hl : (py.line == pos.line) = true)
    (ha : (scope.names.any fun (n, k) => n == y && (k == .local || k == .cell)) = false) : swapsWith (.DictComp kx vx [⟨tg, iter, ifs, 0⟩] scope pos) (some (.Name y py)) l env = pure true := by
  have ky : env.kindOf y = some .local := hy
  have hb : env.blockKind = .function := by unfold Env.blockKind; rw [hk]; rfl
  unfold swapsWith
  simp only [hb, ky, ha, Expr.pos, hl]
  rfl
theorem ps_setDc (hc : X.calm = true) (hN : X.N.Nodup) (hy : X.N[i]? = some y) (hyl : X.env.scope.names.lookup y = some .local)
    (hsw : swapsWith (.DictComp kx vx [⟨tg, iter, ifs, 0⟩] scope pos) (some (.Name y py)) spos.line X.env = pure true) (hi : PI X tg iter wi) (ok : BlkOk X.N X.env.scope scope own)
    (hg : ∀ (s : Shared) (H : Hp) (C : Addr) (cl : List (Str × Addr)) (fp : List Addr), PG (X.blk s H scope (compEnvC scope cl C X.env) fp) tg g) (ht : ∀ (s : Shared) (H : Hp) (C : Addr) (cl : List (Str × Addr)) (fp : List Addr), PTs (X.blk s H scope (compEnvC scope cl C X.env) fp) ifs tt)
    (hk : ∀ (s : Shared) (H : Hp) (C : Addr) (cl : List (Str × Addr)) (fp : List Addr), PE (X.blk s H scope (compEnvC scope cl C X.env) fp) kx tk)
    (he : ∀ (s : Shared) (H : Hp) (C : Addr) (cl : List (Str × Addr)) (fp : List Addr), PE (X.blk s H scope (compEnvC scope cl C X.env) fp) vx tv) (hs : ∀ x, foldedSetIterable iter X.env x = pure x := by intro _; rfl) :
    PS X (.Assign [.Name y py] (.DictComp kx vx [⟨tg, iter, ifs, 0⟩] scope pos) spos) (tAsg (tDc wi g tt tk tv (own.map (·.2))) (gName i)) := by
  refine ⟨fun pins s σ H D I h => ?_⟩
  rw [exec_Assign_Name_used _ _ _ _ hsw]
  refine wpAny_bind (wpAny_standAt (wpAny_bind ?_))
  show wpAny _ X.A (do let _ ← comprehension (.DictComp kx vx [⟨tg, iter, ifs, 0⟩] scope pos) scope X.env _ newDict false (eval iter X.env) (some (assign (.Name y py) X.env))) _ _ s
  have h : tDc wi g tt tk tv (own.map (·.2)) σ H (fun x H1 => gName i x σ H1 D.nx) := h
  refine wpAny_bind (thn (dc_core (Qf := fun _ s' => SP X pins D .next s') hc hN I hi ok hg ht hk he hs h fun L C s' m H' I' q hn f => ?_) fun _ s' hq => wpAny_pure (wpAny_pure hq))
  show wpAny _ _ (assign (.Name y py) X.env (.ref L)) _ _ _
  refine wpAny_assign_Name (store_ok2 (v := V.ref L) I' hN hy (.inl hyl) rfl (fun s2 I2 ⟨a, sb, ha⟩ => ?_) (.inr hyl))
  obtain ⟨f0, f1, f2, f3, f4, f5⟩ := f
  have away : C ≠ a := ha.elim (fun z => by rw [z]; exact f1) fun z e => f4 y a z e.symm
  exact ⟨m, hn.sameBut sb away, fun h3 sb3 => ⟨_, H', I2.turned (t' := s2.toks) (fun b o hb e => (sb3.2 b hb).trans e) f0 f1 f3 f4 f5, q⟩⟩
theorem dnd_setDc (hc : X.calm = true) (hN : X.N.Nodup) (hy : X.N[i]? = some y) (hyl : X.env.scope.names.lookup y = some .local)
    (hsw : swapsWith (.DictComp kx vx [⟨tg, iter, ifs, 0⟩] scope pos) (some (.Name y py)) spos.line X.env = pure true) (hi : PI X tg iter (tI X.K W it)) (ok : BlkOk X.N X.env.scope scope own) (hd : TgD X.K g dt js) (hj : ∀ j ∈ js, j ∈ own.map (·.2))
    (hg : ∀ (s : Shared) (H : Hp) (C : Addr) (cl : List (Str × Addr)) (fp : List Addr), PG (X.blk s H scope (compEnvC scope cl C X.env) fp) tg g) (ht : ∀ (s : Shared) (H : Hp) (C : Addr) (cl : List (Str × Addr)) (fp : List Addr), PTs (X.blk s H scope (compEnvC scope cl C X.env) fp) ifs (tT X.K W0 t))
    (hk : ∀ (s : Shared) (H : Hp) (C : Addr) (cl : List (Str × Addr)) (fp : List Addr), PE (X.blk s H scope (compEnvC scope cl C X.env) fp) kx (tE X.K W0 fk))
    (he : ∀ (s : Shared) (H : Hp) (C : Addr) (cl : List (Str × Addr)) (fp : List Addr), PE (X.blk s H scope (compEnvC scope cl C X.env) fp) vx (tE X.K W0 fv)) (hs : ∀ x, foldedSetIterable iter X.env x = pure x := by intro _; rfl) :
    PS X (.Assign [.Name y py] (.DictComp kx vx [⟨tg, iter, ifs, 0⟩] scope pos) spos) (tAsg (tND X.K W (xDc it dt t fk fv (own.map (·.2)))) (gName i)) :=
  (ps_setDc hc hN hy hyl hsw hi ok hg ht hk he hs).imp fun D σ H h => dc_dl hd hj h
/-- x = {..} that is not one's own -/
theorem asg_nd {X : Cx} {W : WX} {st : Stmt} {f : Dx} {g : TG} (h : PS X st (tAsg (tND X.K W f) g)) : PS X st (tAsg (tE X.K W (xD f)) g) := h.imp fun D σ H ⟨ρ, r, w, gd, s, q⟩ => ⟨ρ, r, w, gd, s, q.fst fun ds w1 r1 H1 _ t1 g1 q _ p n => by
  obtain ⟨xs, hp, rx⟩ := n.at_
  obtain ⟨t2, g2⟩ := tr_see g1 t1 n.fresh n.nv n.nm hp
  refine q _ r1 rfl (w1.see p (.dK xs)) H1 t2 g2 (.ref p) (.dic see_at ?_)
  exact rx.mono (fun a u e => by
    have hne : a ≠ p := by rintro rfl; rw [n.nv] at e; cases e
    show upd w1.v p _ a = some u
    rw [upd_ne hne]; exact e) (.refl _)⟩
end

/-! ### defaults -/
def xCallD (F : List D → Rs → Out D) (ds0 : List D) (f : Ax) : Ex := xCall (fun ds r => F (ds ++ ds0) r) f
section
variable {k : Nat} {f : Addr} {fd : FuncData} {ps : List Str} {n : Nat} {x : Str} {p pos : Pos} {e : Expr} {es : List Expr} {F : List D → Rs → Out D} {fa : Ax} {dvs : List V} {dd : List Value} {ds0 : List D}
theorem run_fnSD {σ : L2.St} {H : Hp} {s : Shared} {pins : List (Addr × Obj)} {sp : Sp} {CX : CXT} {E : L2.St → XK} {Q : VK} {us : List Value} {vs : List V} (F : FnOk X.prog X.w X.K X.mg X.base CX k f fd ps sp) (hr : Room k X.A) (hb : Binds X.K fd ps dd) (hd : Vals dvs dd) (hx : PassesAt CX X σ (E σ))
    (I : Inv X pins σ H s) (r : Vals vs us) (h : sp (vs ++ dvs) H Q (E σ)) : wpAny (model X.prog X.w) X.A (call (.ref f) us) (EP X pins σ Q) X.xe s := by
  have r2 : Vals (vs ++ dvs) (us ++ dd) := r.append hd
  have hl : (us ++ dd).length = ps.length := by rw [← r2.length]; exact F.len _ _ _ _ h
  refine wpAny_call (codeAny_mono (F.run X.A X.stack s H ⟨us, []⟩ (us ++ dd) (vs ++ dvs) Q (E σ) hr I.env0 (hb s us I.kIn hl) r2 h) fun r s' hq => ?_)
  cases r with
  | error e => exact hx pins H s e s' I hq
  | ok fl =>
    cases fl with
    | ret u => exact I.after hq
    | next => exact False.elim hq
    | brk => exact False.elim hq
    | cont => exact False.elim hq
theorem de_callD (G : FnOk X.prog X.w X.K X.mg X.base (L2.CX X.prog X.w) k f fd ps (spD X.K n F)) (hr : Room k X.A) (hg : Gl X x) (hm : X.mg x = some (.ref f)) (hk : PySem.W.keepIn X.K (.ref f) = true) (hb : Binds X.K fd ps dd) (hd : Vals dvs dd) (hd0 : ∀ m H, Rps X.K m H ds0 dvs) (tk : Takes X W)
    (ha : PA X (e :: es) (tA X.K W fa)) {j : Nat} (hn : ∀ ρ r ds r', fa ρ r = .ok ds r' → ds.length = j) (hj : j + ds0.length = n) (hdb : (x == ("__debug__" : Str)) = false := by decide) (he : starEach (e :: es) X.env = (false, eval e X.env) :: starEach es X.env := by rfl) (hpl : (backTo pos (starEach es X.env)).any (·.1) = false := by rfl) :
    PE X (.Call (.Name x p) (e :: es) [] pos) (tE X.K W (xCallD F ds0 fa)) := by
  have P : PE X (.Call (.Name x p) (e :: es) [] pos) (fun σ H Q => tA X.K W fa σ H fun vs H1 => spD X.K n F (vs ++ dvs) H1 Q (WE W σ)) := by
    refine ⟨fun pins s σ H Q I h => ?_⟩
    refine wpAny_Call_Name_kw (ld_glob I hg hm ?_ hdb)
    refine PySem.W.callWith_K (h₀ := X.base) I.ok.mod.kin hk (thn (ha.run pos pins s σ H _ I h) fun us s1 ⟨vs, H1, I1, r, q⟩ => ⟨I1.kIn, ?_⟩) he hpl
    exact run_fnSD (E := WE W) G hr hb hd (passAt tk σ) I1 r q
  exact P.imp fun σ H Q ⟨ρ, r, w, gd, s, h⟩ => by
    refine ⟨ρ, r, w, gd, s, ?_⟩
    have hl := hn ρ r
    unfold xCallD xCall at h
    revert h hl
    generalize fa ρ r = o
    intro h hl
    cases o with
    | ok ds r1 =>
      intro w1 H1 t1 g1 vs rvs
      refine after_fn (σ := σ) t1 g1 (rvs.append (hd0 _ _)) (by rw [List.length_append, hl ds r1 rfl]; exact hj) ?_
      have h' : After X.K W w H σ (F (ds ++ ds0) r1) (fun d w' _ H' => ∀ v, Rp X.K w'.m w'.v d v → Q v H') := h
      revert h'
      generalize F (ds ++ ds0) r1 = o2
      intro h'
      cases o2 with
      | ok d r2 => exact fun w2 H2 t2 g2 => h' w2 H2 (t1.trans t2) g2
      | exc c fs r2 => exact fun w2 H2 cls dd t2 g2 x => h' w2 H2 cls dd (t1.trans t2) g2 x
      | bad => exact h'
    | exc c fs r1 => exact h
    | bad => exact h
end
/-! ### a property -/
section
variable {k n : Nat} {g pp : Addr} {fd : FuncData} {ps : List Str} {F : List D → Rs → Out D} {x : Str} {pos : Pos} {e : Expr} {f : Ex}
/-- raises nothing -/
def noExc (o : Out D) : Out D := match o with
  | .exc _ _ _ => .bad
  | o => o
def xProp (c0 : Nat) (F : List D → Rs → Out D) (f : Ex) : Ex := fun ρ r => (f ρ r).bind fun a r1 => match insOf r1 a with
  | some (c, _) => if c = c0 then noExc (F [a] r1) else .bad
  | none => .bad
theorem de_prop (c0 : Nat) (cl : Cls X.K (clsA X.K c0)) (hp : PropOf X.K (clsA X.K c0) x pp g) (G : FnOk X.prog X.w X.K X.mg X.base (L2.CX X.prog X.w) k g fd ps (spD X.K 1 F)) (hr : Room (k + 1) X.A) (hb : Binds X.K fd ps []) (he : PE X e (tE X.K W f))
    (hx : Passes (L2.CX X.prog X.w) X.nox (fun _ _ _ => False)) (hab : attributeBase e x X.env (eval e X.env) = eval e X.env := by rfl) : PE X (.Attribute e x pos) (tE X.K W (xProp c0 F f)) :=
  (pe_prop he cl hp G hr hb .nil hx hab).imp fun σ H Q ⟨ρ, r, w, gd, s, h⟩ => ⟨ρ, r, w, gd, s, h.bind fun a w1 r1 H1 t1 g1 h1 v rv => by
    split at h1
    · rename_i c fs q
      split at h1
      · rename_i hc
        subst hc
        obtain ⟨p, dx, vs, e1, e2, e3, ru⟩ := ins_dl g1 rv q
        refine ⟨p, dx, _, e1, e2, rfl, [a], r1, w1, g1, by rw [← e1]; exact .one rv, ?_⟩
        revert h1
        generalize F [a] r1 = o
        intro h1
        cases o with
        | ok d r2 => exact fun w2 H2 t2 g2 => h1 w2 H2 t2 g2
        | exc c fs r2 => exact h1.elim
        | bad => exact h1
      · exact h1.elim
    · exact h1.elim⟩
end
end
/-! ### for over a range that hangs on own things -/
section
variable {X : Cx} {c : Sc} {pos : Pos}
def sForR1I (f : Ax) (tg : Tg) (body : Sx) : Sx := evI f fun ds ρ r => match ds with
  | [.int j] => if big j then forGo tg body (rng 0 j.toNat) ρ r else .bad
  | _ => .bad
theorem ds_forR1I {tgt a : Expr} {body : List Stmt} {f : Ax} {g : TG} {tg : Tg} {js : List Nat} {b : Sx} {rp rpos : Pos} (hp : PassesOwn (model X.prog X.w) X.A X.env X.xe) (hc : X.calm = true) (hgl : Gl X "range") (hm : X.mg "range" = none) (ha : PA X [a] (tA c.K c.W f)) (hg : PG X tgt g) (hd : TgD c.K g tg js) (hj : ∀ j ∈ js, j ∉ c.O) (hb : PSs X body (tS c b))
    (hs : starEach [a] X.env = [(false, eval a X.env)] := by rfl) (hs2 : ∀ x, foldedSetIterable (.Call (.Name "range" rp) [a] [] rpos) X.env x = pure x := by intro _; rfl) :
    PS X (.For tgt (.Call (.Name "range" rp) [a] [] rpos) body [] pos) (tS c (sForR1I f tg b)) :=
  (ps_for hp hc (pi_range1 hgl hm ha hs) hg hb hs2).imp fun D σ H ⟨ρ, r, lo, ⟨w, s⟩, h⟩ => ⟨ρ, r, visW w c.O ρ σ H, s.all.1, s.all.2.1, evI_dl s h fun ds r1 r2 w1 H1 t g1 s1 sT h1 vs rvs => by
    split at h1
    · rename_i j
      split at h1
      · rename_i hb
        cases rvs with
        | cons q1 q2 =>
          cases q1
          cases q2
          exact ⟨j, rfl, (big_of hb).1, (big_of hb).2, for_dl hd hj (fun _ _ _ h => h) (walks_rng (w := ⟨[], fun _ => none, fun _ => 0⟩) 0 _) (fun a o e => by cases e) (fun n a e => by simp at e) s1 h1⟩
      · exact h1.elim
    · exact h1.elim⟩
end
theorem clsA_eq {K : PySem.W.Frag} {c : Nat} {x : Str} {C : Addr} (h : clsNames.getD c "" = x) (a : PySem.W.nsIn K mainGlobals x = some (some (.ref C))) : clsA K c = C := by
  unfold clsA
  rw [h, a]
end DL

/-! DL21: an own thing that is not changed any more is shown, and its slot is read as any other. -/
namespace DL
open PySem L2
theorem SIw.frz {K : PySem.W.Frag} {E : Ent} {lo : Wd} {O O' : List Nat} {ρ : En} {r : Rs} {σ : St} {H : Hp} {w : Wd} (s : SIw K E lo O ρ r σ H w) {i : Nat} (hO : O' = O.filter (· != i)) : ∃ w', SIw K E lo O' ρ r σ H w' := by
  have hsub : ∀ j, j ∈ O' ↔ j ∈ O ∧ j ≠ i := fun j => by rw [hO, List.mem_filter]; simp
  have plain : (∀ d, ρ[i]? = some (some d) → i ∉ O) → SIw K E lo O' ρ r σ H w := fun hn => by
    refine ⟨s.tr, s.los, s.lop, s.gd, s.len, fun j d e hj => ?_, fun j d e hj => s.ow j d e ((hsub j).mp hj).1, fun a b e1 e2 p ha hb hab k1 k2 k3 => s.dj a b e1 e2 p ((hsub a).mp ha).1 ((hsub b).mp hb).1 hab k1 k2 k3⟩
    by_cases hij : j = i
    · subst hij; exact s.fr j d e (hn d e)
    · exact s.fr j d e fun z => hj ((hsub j).mpr ⟨z, hij⟩)
  by_cases hi : i ∈ O
  · cases e : ρ[i]? with
    | none => exact ⟨w, plain fun d z => by rw [e] at z; cases z⟩
    | some od =>
      cases od with
      | none => exact ⟨w, plain fun d z => by rw [e] at z; cases z⟩
      | some d =>
        obtain ⟨p, h1, _⟩ := s.ow i d e hi
        obtain ⟨w', s', rv⟩ := s.show_ hi e h1
        refine ⟨w', s'.tr, s'.los, s'.lop, s'.gd, s.len, fun j d' e' hj => ?_, fun j d' e' hj => ?_, fun a b e1 e2 p ha hb hab k1 k2 k3 => s.dj a b e1 e2 p ((hsub a).mp ha).1 ((hsub b).mp hb).1 hab k1 k2 k3⟩
        · by_cases hij : j = i
          · subst hij
            rw [e] at e'
            cases e'
            exact ⟨_, h1, rv⟩
          · exact s'.fr j d' (by rw [List.getElem?_set_ne (Ne.symm hij)]; exact e') fun z => hj ((hsub j).mpr ⟨z, hij⟩)
        · have hij : j ≠ i := ((hsub j).mp hj).2
          exact s'.ow j d' (by rw [List.getElem?_set_ne (Ne.symm hij)]; exact e') ((hsub j).mp hj).1
  · exact ⟨w, plain fun _ _ => hi⟩
theorem SIw.unfrz {K : PySem.W.Frag} {E : Ent} {lo : Wd} {O O' : List Nat} {ρ : En} {r : Rs} {σ : St} {H : Hp} {w : Wd} {i : Nat} (s : SIw K E lo O' ρ r σ H w) (hO : O' = O.filter (· != i)) : SIw K E lo O (ρ.set i none) r σ H w := by
  have hsub : ∀ j, j ∈ O' ↔ j ∈ O ∧ j ≠ i := fun j => by rw [hO, List.mem_filter]; simp
  have back : ∀ {j : Nat} {d : D}, (ρ.set i none)[j]? = some (some d) → ρ[j]? = some (some d) ∧ j ≠ i := fun {j d} q => by
    by_cases hj : i = j
    · subst hj
      by_cases hl : i < ρ.length
      · rw [List.getElem?_set_self hl] at q; cases q
      · rw [List.getElem?_eq_none (by simpa using hl)] at q; cases q
    · rw [List.getElem?_set_ne hj] at q
      exact ⟨q, fun z => hj z.symm⟩
  refine ⟨s.tr, s.los, s.lop, s.gd, by rw [List.length_set]; exact s.len, fun j d e hj => ?_, fun j d e hj => ?_, fun a b e1 e2 p ha hb hab k1 k2 k3 => ?_⟩
  · exact s.fr j d (back e).1 fun z => hj ((hsub j).mp z).1
  · exact s.ow j d (back e).1 ((hsub j).mpr ⟨hj, (back e).2⟩)
  · exact s.dj a b e1 e2 p ((hsub a).mpr ⟨ha, (back k1).2⟩) ((hsub b).mpr ⟨hb, (back k2).2⟩) hab (back k1).1 (back k2).1 k3
def SOut.forget (i : Nat) : SOut → SOut
  | .next ρ r => .next (ρ.set i none) r
  | .brk ρ r => .brk (ρ.set i none) r
  | .cont ρ r => .cont (ρ.set i none) r
  | .exc c fs ρ r => .exc c fs (ρ.set i none) r
  | o => o
/-- from here on the own thing of slot i is not changed -/
def sFrz (i : Nat) (g : Sx) : Sx := fun ρ r => (g ρ r).forget i
theorem dss_frz {X : Cx} {rest : List Stmt} {K : PySem.W.Frag} {W : WX} {E : Ent} {fr : Bool} {O : List Nat} {g : Sx} (i : Nat) (O' : List Nat) (h : PSs X rest (tS ⟨K, W, E, fr, O'⟩ g)) (hO : O' = O.filter (· != i) := by rfl) : PSs X rest (tS ⟨K, W, E, fr, O⟩ (sFrz i g)) :=
  h.imp fun D σ H ⟨ρ, r, lo, ⟨w, s⟩, h⟩ => by
    obtain ⟨w', s'⟩ := s.frz hO
    refine ⟨ρ, r, lo, ⟨w', s'⟩, ?_⟩
    unfold sFrz at h
    revert h
    generalize g ρ r = o
    intro h
    cases o with
    | next ρ1 r1 => exact fun σ H ⟨w, s⟩ => h σ H ⟨w, s.unfrz hO⟩
    | brk ρ1 r1 => exact fun σ H ⟨w, s⟩ => h σ H ⟨w, s.unfrz hO⟩
    | cont ρ1 r1 => exact fun σ H ⟨w, s⟩ => h σ H ⟨w, s.unfrz hO⟩
    | ret d r1 => exact h
    | exc x fs ρ1 r1 => exact fun σ H cls dd ⟨w, s⟩ e => h σ H cls dd ⟨w, s.unfrz hO⟩ e
    | bad => exact h
end DL

/-! DL22: a conditional as a test; a new dict handed back. -/
namespace DL
open PySem L2
section
variable {X : Cx} {W : WX}
def xTIf (t f g : Tx) : Tx := fun ρ r => (t ρ r).bind fun b r1 => if b = true then f ρ r1 else g ρ r1
theorem dt_if {c a b : Expr} {pos : Pos} {t f g : Tx} (hc : PT X c (tT X.K W t)) (ha : PT X a (tT X.K W f)) (hb : PT X b (tT X.K W g)) : PT X (.IfExp c a b pos) (tT X.K W (xTIf t f g)) := by
  refine ⟨fun pins s σ H Q I ⟨ρ, r, w, gd, sl, h⟩ => ?_⟩
  show wpAny _ _ (do if ← isTrue c X.env (eval c X.env) then isTrue a X.env (eval a X.env) else isTrue b X.env (eval b X.env)) _ _ _
  refine wpAny_bind (thn (hc.run pins s σ H (fun d H1 => if d = true then tT X.K W f σ H1 Q else tT X.K W g σ H1 Q) I ⟨ρ, r, w, gd, sl, h.bind fun d w1 r1 H1 t1 g1 h1 => ?_⟩) fun d s1 ⟨H1, I1, q1⟩ => ?_)
  · cases d with
    | true => exact ⟨ρ, r1, w1, g1, sl.mono t1, h1⟩
    | false => exact ⟨ρ, r1, w1, g1, sl.mono t1, h1⟩
  · cases d with
    | true => exact ha.run pins s1 σ H1 Q I1 q1
    | false => exact hb.run pins s1 σ H1 Q I1 q1
end
section
variable {X : Cx} {c : Sc} {st : Stmt}
def sRetD (O : List Nat) (f : Dx) : Sx := evF O f fun ds _ r => .ret (.dic ds) r
theorem ds_retND {f : Dx} (h : PS X st (tRet (tND c.K c.W f))) : PS X st (tS c (sRetD c.O f)) :=
  h.imp fun D σ H ⟨ρ, r, lo, ⟨w, s⟩, h⟩ => ⟨wipeE ρ c.O, r, w, s.gd, s.slots, evF_dl s h fun ds r1 w1 H1 t s1 h1 p n => by
    obtain ⟨w', t', g', q⟩ := postD_newD (fr := c.fr) s1.tr s1.gd ⟨s.tr.fresh n.fresh, n.nv, n.nm, n.at_⟩
    exact h1 w' H1 _ t' g' q⟩
end
end DL

namespace Law
open PySem L2 DL
def excs : List Nat := [0, 1, 2, 3, 4, 5, 6, 7, 8, 9, 10, 11]
def k_BASIC : D := (.tup [(.str "holds"), (.str "same")])
def k_BINDERS : D := (.tup [(.str "all"), (.str "some")])
def k_CAPITAL : D := (.str "ABCDEFGHIJKLMNOPQRSTUVWXYZ")
def k_DIGITS : D := (.str "0123456789")
def k_DIGITS_names : D := (.str "0123456789")
def k_END : D := (.str "")
def k_FAULT : D := (.str "!")
def k_KINDS : D := (.tup [(.str "listed"), (.str "prefix"), (.str "single"), (.str "linked")])
def k_LONGEST : D := (.int 12)
def k_MARKS : D := (.str "(),.=")
def k_MOST_ARGUMENTS : D := (.int 3)
def k_MOST_DIGITS : D := (.int 6)
def k_OTHER : List (Str × D) := [("and", (.str "or")), ("or", (.str "and")), ("all", (.str "some")), ("some", (.str "all"))]
def k_PAIRS : D := (.tup [(.str "and"), (.str "or"), (.str "implies"), (.str "iff")])
def k_RESERVED : D := (.tup [(.str "all"), (.str "some"), (.str "not"), (.str "and"), (.str "or"), (.str "implies"), (.str "iff"), (.str "true"), (.str "false")])
def k_SMALL : D := (.str "abcdefghijklmnopqrstuvwxyz")
def k_TOP : D := (.tup [(.str "")])
def k_UNFOLDED : D := (.tup [(.str "implies"), (.str "iff"), (.str "not")])
def b_answers_decided_clauses (fuel : Nat) (C : Nat → List D → Rs → Out D) : Sx :=
    (sRetN [] (xLc (xItems (xCall (C 355) (xCons (xFld 19 5 (xVar 0)) xNil))) (gNm 1) xYes (xIx (xFld 19 5 (xVar 0)) (xVar 1)) [1]))
def b_answers_decided_origins (fuel : Nat) (C : Nat → List D → Rs → Out D) : Sx :=
    (sRetN [] (xLc (xItems (xCall (C 355) (xCons (xFld 19 5 (xVar 0)) xNil))) (gNm 1) xYes (xIx (xFld 19 6 (xVar 0)) (xVar 1)) [1]))
def b_answers_is_world_of (fuel : Nat) (C : Nat → List D → Rs → Out D) : Sx :=
    (sSeq (sIfF [] (xB (xOp dNe (xFld 13 0 (xFld 15 0 (xVar 0))) (xFld 13 0 (xFld 14 0 (xVar 1))))) (sRet false [] (xC (.bl false))) sNext)
    (sRet false [] (xAndV (xOp dEq (xFld 13 1 (xFld 15 0 (xVar 0))) (xFld 13 1 (xFld 14 0 (xVar 1)))) (xCall (C 476) (xCons (xVar 0) (xCons (xVar 1) xNil))))))
def b_answers_shows_no_world (fuel : Nat) (C : Nat → List D → Rs → Out D) : Sx :=
    (sSeq (sIfF [] (xB (xOp dEq (xIx (xVar 1) (xC (.int 0))) (xC (.str "cases")))) (sRet false [] (xAndV (xCall (C 530) (xCons (xVar 0) xNil)) (xCall (C 137) (xCons (xVar 0) (xCons (xIx (xVar 1) (xC (.int 1))) xNil))))) sNext)
    (sSeq (sAsg [] (gNm 2) (xCall (C 207) (xCons (xVar 0) xNil)))
    (sSeq (sAsg [] (gNm 3) (xCall (C 101) (xCons (xVar 2) xNil)))
    (sSeq (sIfF [] (xB (xOp dEq (xIx (xVar 1) (xC (.int 0))) (xC (.str "lines")))) (sRet false [] (xCall (C 300) (xCons (xCall (C 197) (xCons (xFld 19 1 (xVar 2)) xNil)) (xCons (xVar 3) (xCons (xIx (xVar 1) (xC (.int 1))) xNil))))) sNext)
    (sSeq (sAsg [] (gNm 4) (xCall (C 455) (xCons (xFld 19 1 (xVar 2)) (xCons (xVar 3) (xCons (xIx (xVar 1) (xC (.int 1))) (xCons (xIx (xVar 1) (xC (.int 2))) xNil))))))
    (sSeq (sIfF [] (xB (xOp dEq (xVar 4) (xC (.str "beyond")))) (sSeq (sAsg [] (gNm 5) (xCall (C 288) (xCons (xVar 0) xNil)))
    (sRet false [] (xAndV (xOp dIsNot (xVar 5) (xC .non)) (xOp dGe (xIx (xVar 1) (xC (.int 1))) (xVar 5))))) sNext)
    (sRet false [] (xOp dEq (xVar 4) (xC (.str "closed"))))))))))
def b_answers_shows_none_smaller (fuel : Nat) (C : Nat → List D → Rs → Out D) : Sx :=
    (sSeq (sIfF [] (xB (xOp dEq (xFld 15 1 (xVar 1)) (xC (.int 1)))) (sRet false [] (xOp dIs (xVar 2) (xC .non))) sNext)
    (sSeq (sIfF [] (xB (xOp dIs (xVar 2) (xC .non))) (sRet false [] (xC (.bl false))) sNext)
    (sSeq (sIfF [] (xB (xOp dEq (xIx (xVar 2) (xC (.int 0))) (xC (.str "cases")))) (sRet false [] (xAndV (xCall (C 530) (xCons (xVar 0) xNil)) (xCall (C 138) (xCons (xVar 0) (xCons (xFld 15 1 (xVar 1)) (xCons (xIx (xVar 2) (xC (.int 1))) xNil)))))) sNext)
    (sSeq (sIfF [] (xOr (xB (xOp dNe (xIx (xVar 2) (xC (.int 0))) (xC (.str "tree")))) (xB (xOp dNe (xIx (xVar 2) (xC (.int 1))) (xOp dSub (xFld 15 1 (xVar 1)) (xC (.int 1)))))) (sRet false [] (xC (.bl false))) sNext)
    (sSeq (sAsg [] (gNm 3) (xCall (C 207) (xCons (xVar 0) xNil)))
    (sRet false [] (xOp dNe (xCall (C 455) (xCons (xFld 19 1 (xVar 3)) (xCons (xCall (C 101) (xCons (xVar 3) xNil)) (xCons (xIx (xVar 2) (xC (.int 1))) (xCons (xIx (xVar 2) (xC (.int 2))) xNil))))) (xC (.str "wrong")))))))))
def b_benches_replay (fuel : Nat) (C : Nat → List D → Rs → Out D) : Sx :=
    (sSeq (sAsg [] (gNm 2) (xNewR 28 (C 107) (xCons (xVar 0) xNil)))
    (sSeq (sFor [] (xItems (xVar 1)) (gNm 3) (sIfF [] (xB (xOp dEq (xIx (xVar 3) (xC (.int 0))) (xC (.str "add")))) (sExp [] (xMeth 28 (C 111) (xVar 2) (xCons (xIx (xVar 3) (xC (.int 1))) (xCons (xIx (xVar 3) (xC (.int 2))) xNil)))) (sIfF [] (xB (xOp dEq (xIx (xVar 3) (xC (.int 0))) (xC (.str "drop")))) (sExp [] (xMeth 28 (C 117) (xVar 2) (xCons (xIx (xVar 3) (xC (.int 1))) xNil))) (sExp [] (xMeth 28 (C 507) (xVar 2) (xCons (xIx (xVar 3) (xC (.int 1))) (xCons (xIx (xVar 3) (xC (.int 2))) (xCons (xIx (xVar 3) (xC (.int 3))) xNil))))))))
    (sRet false [] (xVar 2))))
def b_books_Book_with_sentence_v1 (fuel : Nat) (C : Nat → List D → Rs → Out D) : Sx :=
    (sRet false [] (xNewF 14 (C 123) (xCons (xFld 14 0 (xVar 0)) (xCons (xOp dAdd (xFld 14 1 (xVar 0)) (xTup (xCons (xVar 1) xNil))) xNil))))
def b_books_Book_without (fuel : Nat) (C : Nat → List D → Rs → Out D) : Sx :=
    (sRet false [] (xNewF 14 (C 123) (xCons (xFld 14 0 (xVar 0)) (xCons (xOp dAdd (xSl (xFld 14 1 (xVar 0)) xNoP (xPart (xVar 1))) (xSl (xFld 14 1 (xVar 0)) (xPart (xOp dAdd (xVar 1) (xC (.int 1)))) xNoP)) xNil))))
def b_books_Signature___init__ (fuel : Nat) (C : Nat → List D → Rs → Out D) : Sx :=
    (sSeq (sSetF [] 13 0 (xVar 0) (xCB cTuple (xCons (xL (xLc (xItems (xVar 1)) (gTp 2 (gCons' (gNm 3) (gCons' (gNm 4) gNil'))) xYes (xTup (xCons (xVar 3) (xCons (xVar 4) xNil))) [3, 4])) xNil)))
    (sSeq (sSetF [] 13 1 (xVar 0) (xCB cTuple (xCons (xL (xLc (xItems (xVar 2)) (gTp 2 (gCons' (gNm 3) (gCons' (gNm 4) gNil'))) xYes (xTup (xCons (xVar 3) (xCons (xVar 4) xNil))) [3, 4])) xNil)))
    (sSeq (sSetF [] 13 2 (xVar 0) (xResD xDNew))
    (sFor [] (xItems (xOp dAdd (xFld 13 0 (xVar 0)) (xFld 13 1 (xVar 0)))) (gTp 2 (gCons' (gNm 3) (gCons' (gNm 4) gNil'))) (sSeq (sAsg [] (gNm 5) (xOp dLt (xCB cLen (xCons (xFld 13 2 (xVar 0)) xNil)) (xCB cLen (xCons (xFld 13 0 (xVar 0)) xNil))))
    (sSeq (sIfF [] (xOr (xDIn (xVar 3) (xFld 13 2 (xVar 0))) (xNot (xTIf (xTr (xVar 5)) (xTr (xCall (C 313) (xCons (xVar 3) xNil))) (xTr (xCall (C 312) (xCons (xVar 3) xNil)))))) (sRaise 1) sNext)
    (sSeq (sIfF [] (xNot (xCh dLe dLe (xC (.int 0)) (xVar 4) (xC k_MOST_ARGUMENTS))) (sRaise 2) sNext)
    (sDSetR [] (xFld 13 2 (xVar 0)) (xVar 3) (xVar 4)))))))))
def b_books_Signature_arity (fuel : Nat) (C : Nat → List D → Rs → Out D) : Sx :=
    (sSeq (sIfF [] (xNot (xDIn (xVar 1) (xFld 13 2 (xVar 0)))) (sRaise 3) sNext)
    (sRet false [] (xDGet (xFld 13 2 (xVar 0)) (xVar 1))))
def b_books_Signature_check_sentence_v1 (fuel : Nat) (C : Nat → List D → Rs → Out D) : Sx :=
    (sIfF [] (xB (xOp dIn (xIx (xVar 1) (xC (.int 0))) (xC k_BINDERS))) (sSeq (sIfF [] (xOr (xNot (xTr (xCall (C 313) (xCons (xIx (xVar 1) (xC (.int 1))) xNil)))) (xTr (xMeth 13 (C 132) (xVar 0) (xCons (xIx (xVar 1) (xC (.int 1))) xNil)))) (sRaise 5) sNext)
    (sExp [] (xMeth 13 (C 511) (xVar 0) (xCons (xIx (xVar 1) (xC (.int 2))) (xCons (xOp dAdd (xCB cTuple (xCons (xVar 2) xNil)) (xTup (xCons (xIx (xVar 1) (xC (.int 1))) xNil))) xNil))))) (sIfF [] (xOr (xB (xOp dEq (xIx (xVar 1) (xC (.int 0))) (xC (.str "not")))) (xB (xOp dIn (xIx (xVar 1) (xC (.int 0))) (xC k_PAIRS)))) (sFor [] (xItems (xSl (xVar 1) (xPart (xC (.int 1))) xNoP)) (gNm 3) (sExp [] (xMeth 13 (C 511) (xVar 0) (xCons (xVar 3) (xCons (xVar 2) xNil))))) (sSeq (sIfF [] (xB (xOp dEq (xIx (xVar 1) (xC (.int 0))) (xC (.str "holds")))) (sSeq (sAsg [] (gNm 4) (xIx (xVar 1) (xC (.int 1))))
    (sIfF [] (xOr (xNot (xTr (xCall (C 312) (xCons (xIx (xVar 4) (xC (.int 0))) xNil)))) (xOr (xNot (xTr (xMeth 13 (C 132) (xVar 0) (xCons (xIx (xVar 4) (xC (.int 0))) xNil)))) (xB (xOp dNe (xDGet (xFld 13 2 (xVar 0)) (xIx (xVar 4) (xC (.int 0)))) (xOp dSub (xCB cLen (xCons (xVar 4) xNil)) (xC (.int 1))))))) (sRaise 5) sNext)) sNext)
    (sFor [] (xItems (xCall (C 368) (xCons (xVar 1) xNil))) (gNm 5) (sExp [] (xMeth 13 (C 512) (xVar 0) (xCons (xVar 5) (xCons (xVar 2) xNil))))))))
def b_books_Signature_check_term_v1 (fuel : Nat) (C : Nat → List D → Rs → Out D) : Sx :=
    (sSeq (sIfF [] (xTr (xCall (C 426) (xCons (xVar 1) xNil))) (sSeq (sIfF [] (xOr (xB (xOp dNotIn (xVar 1) (xVar 2))) (xOr (xTr (xMeth 13 (C 132) (xVar 0) (xCons (xVar 1) xNil))) (xNot (xTr (xCall (C 313) (xCons (xVar 1) xNil)))))) (sRaise 4) sNext)
    (fun _ r => .ret .non r)) sNext)
    (sSeq (sIfF [] (xOr (xNot (xTr (xCall (C 313) (xCons (xIx (xVar 1) (xC (.int 0))) xNil)))) (xOr (xNot (xTr (xMeth 13 (C 132) (xVar 0) (xCons (xIx (xVar 1) (xC (.int 0))) xNil)))) (xB (xOp dNe (xDGet (xFld 13 2 (xVar 0)) (xIx (xVar 1) (xC (.int 0)))) (xOp dSub (xCB cLen (xCons (xVar 1) xNil)) (xC (.int 1))))))) (sRaise 4) sNext)
    (sFor [] (xItems (xSl (xVar 1) (xPart (xC (.int 1))) xNoP)) (gNm 3) (sExp [] (xMeth 13 (C 512) (xVar 0) (xCons (xVar 3) (xCons (xVar 2) xNil)))))))
def b_books_Signature_constants_v1 (fuel : Nat) (C : Nat → List D → Rs → Out D) : Sx :=
    (sRetN [] (xLc (xItems (xFld 13 0 (xVar 0))) (gTp 2 (gCons' (gNm 1) (gCons' (gNm 2) gNil'))) (xB (xOp dEq (xVar 2) (xC (.int 0)))) (xVar 1) [1, 2]))
def b_books_Signature_extended_v1 (fuel : Nat) (C : Nat → List D → Rs → Out D) : Sx :=
    (sRet false [] (xNewF 13 (C 126) (xCons (xOp dAdd (xFld 13 0 (xVar 0)) (xCB cTuple (xCons (xVar 1) xNil))) (xCons (xFld 13 1 (xVar 0)) xNil))))
def b_books_Signature_has (fuel : Nat) (C : Nat → List D → Rs → Out D) : Sx :=
    (sRet false [] (xV (xDIn (xVar 1) (xFld 13 2 (xVar 0)))))
def b_casepapers_case_paper (fuel : Nat) (C : Nat → List D → Rs → Out D) : Sx :=
    (sRet false [] (xCall (C 139) (xCons (xVar 0) (xCons (xC .non) xNil))))
def b_casepapers_cases_before_paper (fuel : Nat) (C : Nat → List D → Rs → Out D) : Sx :=
    (sRet false [] (xCall (C 139) (xCons (xVar 0) (xCons (xVar 1) xNil))))
def b_casepapers_judge_cases (fuel : Nat) (C : Nat → List D → Rs → Out D) : Sx :=
    (sRet false [] (xCall (C 136) (xCons (xVar 0) (xCons (xC .non) (xCons (xVar 1) xNil)))))
def b_casepapers_judge_cases_before (fuel : Nat) (C : Nat → List D → Rs → Out D) : Sx :=
    (sRet false [] (xCall (C 136) (xCons (xVar 0) (xCons (xVar 1) (xCons (xVar 2) xNil)))))
def b_choices_rows_of_things (fuel : Nat) (C : Nat → List D → Rs → Out D) : Sx :=
    (sSeq (sAsg [] (gNm 2) (xLst (xCons (xTup xNil) xNil)))
    (sSeq (sFor [] (xRng1 (xCons (xVar 1) xNil)) (gNm 3) (sAsg [] (gNm 2) (xL (xLc2 (xItems (xVar 2)) (gNm 4) (xRng1 (xCons (xVar 0) xNil)) (gNm 5) xYes (xOp dAdd (xVar 4) (xTup (xCons (xVar 5) xNil))) [4, 5] [5]))))
    (sRet false [] (xVar 2))))
def b_choices_with (fuel : Nat) (C : Nat → List D → Rs → Out D) : Sx :=
    (sSeq (sFor [] (xItems (xFld 19 3 (xVar 1))) (gTp 4 (gCons' (gNm 2) (gCons' (gNm 3) (gCons' (gNm 4) (gCons' (gNm 5) gNil'))))) (sSeq (sAsg [] (gNm 6) (xMeth 13 (C 514) (xFld 15 0 (xVar 0)) (xCons (xLst (xCons (xTup (xCons (xVar 2) (xCons (xCB cLen (xCons (xVar 3) xNil)) xNil))) xNil)) xNil)))
    (sAsg [] (gNm 0) (xCall (C 290) (xCons (xVar 0) (xCons (xVar 6) (xCons (xD (xDisp [((xVar 2), (xCall (C 140) (xCons (xVar 0) (xCons (xVar 3) (xCons (xVar 4) (xCons (xVar 5) xNil))))))])) xNil)))))))
    (sRet false [] (xVar 0)))
def b_clauseorders_bag_of (fuel : Nat) (C : Nat → List D → Rs → Out D) : Sx :=
    (sSeq (sAsg [] (gTp 3 (gCons' (gNm 2) (gCons' (gNm 3) (gCons' (gNm 4) gNil')))) (xVar 1))
    (sSeq (sIfF [] (xTr (xMeth 16 (C 316) (xVar 0) (xCons (xVar 4) (xCons (xVar 3) xNil)))) (sPar [] 3 4 (xCons (xVar 4) (xCons (xVar 3) xNil))) sNext)
    (sRet false [] (xIf (xTr (xVar 2)) (xTup (xCons (xVar 3) (xCons (xVar 4) xNil))) (xTup (xCons (xVar 3) (xCons (xVar 3) (xCons (xVar 4) (xCons (xVar 4) xNil)))))))))
def b_clauseorders_compare_numbers (fuel : Nat) (C : Nat → List D → Rs → Out D) : Sx :=
    (sSeq (sIfF [] (xB (xOp dEq (xVar 0) (xVar 1))) (sRet false [] (xC (.int 0))) sNext)
    (sRet false [] (xIf (xB (xOp dGt (xVar 0) (xVar 1))) (xC (.int 1)) (xNeg (xC (.int 1))))))
def b_clauseorders_descending (fuel : Nat) (C : Nat → List D → Rs → Out D) : Sx :=
    (sSeq (sAsgN [2] 2 (xLst' xNil))
    (sSeq (sFor [2] (xItems (xVar 1)) (gNm 3) (sSeq (sAsg [2] (gNm 4) (xC (.int 0)))
    (sSeq (whileGo (xAnd (xB (xOp dLt (xVar 4) (xCB cLen (xCons (xVar 2) xNil)))) (xB (xOp dEq (xCall (C 147) (xCons (xVar 0) (xCons (xIx (xVar 2) (xVar 4)) (xCons (xVar 3) xNil)))) (xC (.int 1))))) (sAug 4 (fun i j => i + j) (xC (.int 1))) fuel)
    (isOwnL 2 (sIns [2] 2 (xCons (xVar 4) (xCons (xVar 3) xNil)))))))
    (sRetO 2)))
def b_clauseorders_greater_side (fuel : Nat) (C : Nat → List D → Rs → Out D) : Sx :=
    (sSeq (sAsg [] (gNm 2) (xMeth 16 (C 315) (xVar 0) (xCons (xIx (xVar 1) (xC (.int 1))) (xCons (xIx (xVar 1) (xC (.int 2))) xNil))))
    (sSeq (sIfF [] (xB (xOp dEq (xVar 2) (xC (.int 0)))) (sRet false [] (xC .non)) sNext)
    (sRet false [] (xIf (xB (xOp dEq (xVar 2) (xC (.int 1)))) (xC (.int 0)) (xC (.int 1))))))
def b_clauseorders_greatest_index (fuel : Nat) (C : Nat → List D → Rs → Out D) : Sx :=
    (sSeq (sAsg [] (gNm 2) (xC .non))
    (sSeq (sFor [] (xRng1 (xCons (xCB cLen (xCons (xVar 1) xNil)) xNil)) (gNm 3) (sIfF [] (xOr (xB (xOp dIs (xVar 2) (xC .non))) (xB (xOp dEq (xCall (C 147) (xCons (xVar 0) (xCons (xIx (xVar 1) (xVar 3)) (xCons (xIx (xVar 1) (xVar 2)) xNil)))) (xC (.int 1))))) (sAsg [] (gNm 2) (xVar 3)) sNext))
    (sRet false [] (xVar 2))))
def b_clauses_always_true (fuel : Nat) (C : Nat → List D → Rs → Out D) : Sx :=
    (sSeq (sFor [] (xItems (xVar 0)) (gNm 1) (sSeq (sIfF [] (xAnd (xTr (xIx (xVar 1) (xC (.int 0)))) (xB (xOp dEq (xIx (xVar 1) (xC (.int 1))) (xIx (xVar 1) (xC (.int 2)))))) (sRet false [] (xC (.bl true))) sNext)
    (sIfF [] (xAnd (xTr (xIx (xVar 1) (xC (.int 0)))) (xB (xOp dIn (xCall (C 164) (xCons (xVar 1) xNil)) (xVar 0)))) (sRet false [] (xC (.bl true))) sNext)))
    (sRet false [] (xC (.bl false))))
def b_clauses_clause_text (fuel : Nat) (C : Nat → List D → Rs → Out D) : Sx :=
    (sSeq (sIfF [] (xNot (xTr (xVar 0))) (sRet false [] (xC (.str "false"))) sNext)
    (sRet false [] (xJoin (xC (.str " or ")) (xCons (xL (xLc (xItems (xVar 0)) (gNm 1) xYes (xCall (C 161) (xCons (xVar 1) xNil)) [1])) xNil))))
def b_clauses_clause_unknowns (fuel : Nat) (C : Nat → List D → Rs → Out D) : Sx :=
    (sSeq (sAsgN [1] 1 (xLst' xNil))
    (sSeq (sFor [1] (xItems (xVar 0)) (gNm 2) (sFor [1] (xItems (xSl (xVar 2) (xPart (xC (.int 1))) xNoP)) (gNm 3) (sFor [1] (xItems (xCall (C 433) (xCons (xVar 3) xNil))) (gNm 4) (sIf (xB (xOp dNotIn (xVar 4) (xVar 1))) (isOwnL 1 (sApp [1] 1 (xCons (xVar 4) xNil))) sNext))))
    (sFrz 1
    (sRet false [] (xVar 1)))))
def b_clauses_fill_clause (fuel : Nat) (C : Nat → List D → Rs → Out D) : Sx :=
    (sRet false [] (xCall (C 162) (xCons (xL (xLc (xItems (xVar 0)) (gNm 2) xYes (xCall (C 157) (xCons (xVar 2) (xCons (xVar 1) xNil))) [2])) xNil)))
def b_clauses_fill_literal (fuel : Nat) (C : Nat → List D → Rs → Out D) : Sx :=
    (sRet false [] (xCall (C 163) (xCons (xIx (xVar 0) (xC (.int 0))) (xCons (xCall (C 423) (xCons (xIx (xVar 0) (xC (.int 1))) (xCons (xVar 1) xNil))) (xCons (xCall (C 423) (xCons (xIx (xVar 0) (xC (.int 2))) (xCons (xVar 1) xNil))) xNil)))))
def b_clauses_is_ground (fuel : Nat) (C : Nat → List D → Rs → Out D) : Sx :=
    (sRet false [] (xNotV (xCall (C 155) (xCons (xVar 0) xNil))))
def b_clauses_is_literal (fuel : Nat) (C : Nat → List D → Rs → Out D) : Sx :=
    (sSeq (sIfF [] (xTr (xCall (C 424) (xCons (xIx (xVar 0) (xC (.int 1))) xNil))) (sRet false [] (xAndV (xOp dEq (xIx (xVar 0) (xC (.int 2))) (xC k_TOP)) (xCall (C 425) (xCons (xOp dAdd (xTup (xCons (xC (.str "f")) xNil)) (xSl (xIx (xVar 0) (xC (.int 1))) (xPart (xC (.int 1))) xNoP)) xNil)))) sNext)
    (sRet false [] (xAndV (xCall (C 425) (xCons (xIx (xVar 0) (xC (.int 1))) xNil)) (xCall (C 425) (xCons (xIx (xVar 0) (xC (.int 2))) xNil)))))
def b_clauses_literal_places (fuel : Nat) (C : Nat → List D → Rs → Out D) : Sx :=
    (sRetN [] (xLc2 (xItems (xTup (xCons (xC (.int 0)) (xCons (xC (.int 1)) xNil)))) (gNm 1) (xItems (xCall (C 429) (xCons (xIx (xVar 0) (xOp dAdd (xVar 1) (xC (.int 1)))) xNil))) (gNm 2) xYes (xOp dAdd (xTup (xCons (xVar 1) xNil)) (xVar 2)) [1, 2] [2]))
def b_clauses_literal_text (fuel : Nat) (C : Nat → List D → Rs → Out D) : Sx :=
    (sSeq (sAsg [] (gTp 3 (gCons' (gNm 1) (gCons' (gNm 2) (gCons' (gNm 3) gNil')))) (xVar 0))
    (sSeq (sIfF [] (xTr (xCall (C 424) (xCons (xVar 2) xNil))) (sRet false [] (xIf (xTr (xVar 1)) (xCall (C 432) (xCons (xVar 2) xNil)) (xOp dAdd (xC (.str "not ")) (xCall (C 432) (xCons (xVar 2) xNil))))) sNext)
    (sRet false [] (xOp dAdd (xOp dAdd (xCall (C 432) (xCons (xVar 2) xNil)) (xIf (xTr (xVar 1)) (xC (.str " = ")) (xC (.str " != ")))) (xCall (C 432) (xCons (xVar 3) xNil))))))
def b_clauses_make_clause (fuel : Nat) (C : Nat → List D → Rs → Out D) : Sx :=
    (sSeq (sAsg [] (gNm 1) (xD (xDc (xItems (xVar 0)) (gNm 2) xYes (xCall (C 161) (xCons (xVar 2) xNil)) (xVar 2) [2])))
    (sRet false [] (xCB cTuple (xCons (xL (xLc (xItems (xL (xSort (xCons (xVar 1) xNil)))) (gNm 3) xYes (xDGet (xVar 1) (xVar 3)) [3])) xNil))))
def b_clauses_make_literal (fuel : Nat) (C : Nat → List D → Rs → Out D) : Sx :=
    (sSeq (sIfF [] (xOr (xB (xOp dEq (xVar 1) (xC k_TOP))) (xAnd (xB (xOp dNe (xVar 2) (xC k_TOP))) (xB (xOp dLt (xCall (C 432) (xCons (xVar 2) xNil)) (xCall (C 432) (xCons (xVar 1) xNil)))))) (sPar [] 1 2 (xCons (xVar 2) (xCons (xVar 1) xNil))) sNext)
    (sRet false [] (xTup (xCons (xVar 0) (xCons (xVar 1) (xCons (xVar 2) xNil))))))
def b_clauses_opposite (fuel : Nat) (C : Nat → List D → Rs → Out D) : Sx :=
    (sRet false [] (xTup (xCons (xNotV (xIx (xVar 0) (xC (.int 0)))) (xCons (xIx (xVar 0) (xC (.int 1))) (xCons (xIx (xVar 0) (xC (.int 2))) xNil)))))
def b_deciders_rounds_enough (fuel : Nat) (C : Nat → List D → Rs → Out D) : Sx :=
    (sSeq (sAsg [] (gNm 2) (xCall (C 288) (xCons (xVar 0) xNil)))
    (sSeq (sIfF [] (xB (xOp dIs (xVar 2) (xC .non))) (sRaise 10) sNext)
    (sSeq (sAsg [] (gNm 3) (xCall (C 207) (xCons (xVar 0) xNil)))
    (sSeq (sAsg [] (gNm 4) (xC (.int 0)))
    (sSeq (sFor [] (xRng2 (xCons (xC (.int 1)) (xCons (xOp dAdd (xVar 2) (xC (.int 1))) xNil))) (gNm 5) (sAug 4 (fun i j => i + j) (xCall (C 524) (xCons (xFld 19 1 (xVar 3)) (xCons (xVar 5) xNil)))))
    (sRet false [] (xOp dMul (xOp dAdd (xOp dDiv (xVar 4) (xIx (xVar 1) (xC (.int 0)))) (xC (.int 1))) (xOp dAdd (xIx (xVar 1) (xC (.int 0))) (xIx (xVar 1) (xC (.int 1)))))))))))
def b_fillings_closed_terms (fuel : Nat) (C : Nat → List D → Rs → Out D) : Sx :=
    (sSeq (sAsgN [2, 5, 7] 2 (xLc (xItems (xMeth 13 (C 513) (xVar 0) xNil)) (gNm 3) xYes (xTup (xCons (xVar 3) xNil)) [3]))
    (sSeq (sFor [2, 5, 7] (xRng1 (xCons (xVar 1) xNil)) (gNm 4) (sSeq (sAsgNI 5 (xListN (xCons (xVar 2) xNil)))
    (sSeq (sFor [2, 5, 7] (xItems (xFld 13 0 (xVar 0))) (gTp 2 (gCons' (gNm 3) (gCons' (gNm 6) gNil'))) (sIfF [2, 5, 7] (xB (xOp dGt (xVar 6) (xC (.int 0)))) (sSeq (sAsgNI 7 (xLc (xItems (xCall (C 199) (xCons (xVar 2) (xCons (xVar 6) xNil)))) (gNm 8) xYes (xOp dAdd (xTup (xCons (xVar 3) xNil)) (xVar 8)) [8]))
    (sFrz 7
    (isOwnL 5 (sExtI 5 (xLc (xItems (xVar 7)) (gNm 9) (xB (xOp dNotIn (xVar 9) (xVar 2))) (xVar 9) [9]))))) sNext))
    (sMove 2 5))))
    (sRetO 2)))
def b_fillings_named_signature (fuel : Nat) (C : Nat → List D → Rs → Out D) : Sx :=
    (sSeq (sIfF [] (xTr (xMeth 13 (C 513) (xVar 0) xNil)) (sRet false [] (xVar 0)) sNext)
    (sSeq (sAsg [] (gNm 1) (xL (xLc (xItems (xOp dAdd (xFld 13 0 (xVar 0)) (xFld 13 1 (xVar 0)))) (gTp 2 (gCons' (gNm 2) (gCons' (gNm 3) gNil'))) xYes (xVar 2) [2, 3])))
    (sRet false [] (xMeth 13 (C 514) (xVar 0) (xCons (xLst (xCons (xTup (xCons (xCall (C 310) (xCons (xC (.str "c")) (xCons (xVar 1) xNil))) (xCons (xC (.int 0)) xNil))) xNil)) xNil)))))
def b_fillings_power (fuel : Nat) (C : Nat → List D → Rs → Out D) : Sx :=
    (sSeq (sAsg [] (gNm 2) (xC (.int 1)))
    (sSeq (sFor [] (xRng1 (xCons (xVar 1) xNil)) (gNm 3) (sAsg [] (gNm 2) (xOp dMul (xVar 2) (xVar 0))))
    (sRet false [] (xVar 2))))
def b_fillings_rows_of (fuel : Nat) (C : Nat → List D → Rs → Out D) : Sx :=
    (sSeq (sAsg [] (gNm 2) (xLst (xCons (xTup xNil) xNil)))
    (sSeq (sFor [] (xRng1 (xCons (xVar 1) xNil)) (gNm 3) (sAsg [] (gNm 2) (xL (xLc2 (xItems (xVar 2)) (gNm 4) (xItems (xVar 0)) (gNm 5) xYes (xOp dAdd (xVar 4) (xTup (xCons (xVar 5) xNil))) [4, 5] [5]))))
    (sRet false [] (xVar 2))))
def b_forms_Form___init__ (fuel : Nat) (C : Nat → List D → Rs → Out D) : Sx :=
    (sSeq (sSetF [3, 6] 19 0 (xVar 0) (xVar 1))
    (sSeq (sSetF [3, 6] 19 1 (xVar 0) (xFld 14 0 (xVar 1)))
    (sSeq (sSetF [3, 6] 19 2 (xVar 0) (xTup xNil))
    (sSeq (sSetF [3, 6] 19 3 (xVar 0) (xTup xNil))
    (sSeq (sAsg [3, 6] (gNm 2) (xCall (C 212) (xCons (xVar 1) xNil)))
    (sSeq (sAsgN [3, 6] 3 (xLst' xNil))
    (sSeq (sFor [3, 6] (xRng1 (xCons (xCB cLen (xCons (xFld 14 1 (xVar 1)) xNil)) xNil)) (gNm 4) (sSeq (sAsg [3, 6] (gNm 5) (xMeth 19 (C 205) (xVar 0) (xCons (xVar 4) (xCons (xIx (xFld 14 1 (xVar 1)) (xVar 4)) xNil))))
    (sSeq (sAsg [3, 6] (gNm 5) (xMeth 19 (C 203) (xVar 0) (xCons (xVar 4) (xCons (xVar 5) (xCons (xVar 2) xNil)))))
    (sSeq (sAsg [3, 6] (gNm 5) (xMeth 19 (C 202) (xVar 0) (xCons (xVar 4) (xCons (xVar 5) (xCons (xVar 2) xNil)))))
    (isOwnL 3 (sApp [3, 6] 3 (xCons (xMeth 19 (C 204) (xVar 0) (xCons (xVar 4) (xCons (xVar 5) xNil))) xNil)))))))
    (sFrz 3
    (sSeq (sSetF [6] 19 4 (xVar 0) (xCB cTuple (xCons (xVar 3) xNil)))
    (sSeq (sAsgN [6] 6 (xLc2 (xRng1 (xCons (xCB cLen (xCons (xVar 3) xNil)) xNil)) (gNm 4) (xItems (xCall (C 213) (xCons (xIx (xVar 3) (xVar 4)) xNil))) (gNm 7) xYes (xTup (xCons (xVar 7) (xCons (xVar 4) xNil))) [4, 7] [7]))
    (sFrz 6
    (sSeq (sSetF [] 19 5 (xVar 0) (xCB cTuple (xCons (xL (xLc (xItems (xVar 6)) (gTp 2 (gCons' (gNm 7) (gCons' (gNm 4) gNil'))) xYes (xVar 7) [7, 4])) xNil)))
    (sSetF [] 19 6 (xVar 0) (xCB cTuple (xCons (xL (xLc (xItems (xVar 6)) (gTp 2 (gCons' (gNm 7) (gCons' (gNm 4) gNil'))) xYes (xVar 4) [7, 4])) xNil)))))))))))))))
def b_forms_Form__set_apart (fuel : Nat) (C : Nat → List D → Rs → Out D) : Sx :=
    (sSeq (sFor [3] (xItems (xCall (C 377) (xCons (xVar 2) xNil))) (gNm 4) (sIfF [3] (xB (xOp dIn (xIx (xCall (C 376) (xCons (xVar 2) (xCons (xVar 4) xNil))) (xC (.int 0))) (xC k_BINDERS))) (sSeq (isOwnL 3 (sAppI 3 (xCons (xCall (C 310) (xCons (xC (.str "x")) (xCons (xVar 3) xNil))) xNil)))
    (sAsgI (gNm 2) (xMeth 19 (C 206) (xVar 0) (xCons (xVar 1) (xCons (xC (.str "apart")) (xCons (xVar 2) (xCons (xVar 4) (xCons (xIx (xVar 3) (xNeg (xC (.int 1)))) xNil)))))))) sNext))
    (sRet false [3] (xVar 2)))
def b_forms_Form__step (fuel : Nat) (C : Nat → List D → Rs → Out D) : Sx :=
    (sSeq (sAsg [] (gNm 6) (xCall (C 390) (xCons (xVar 2) (xCons (xVar 3) (xCons (xVar 4) (xCons (xVar 5) xNil))))))
    (sSeq (sSetF [] 19 2 (xVar 0) (xOp dAdd (xFld 19 2 (xVar 0)) (xTup (xCons (xTup (xCons (xVar 1) (xCons (xVar 2) (xCons (xVar 4) (xCons (xVar 5) (xCons (xVar 6) xNil)))))) xNil))))
    (sRet false [] (xVar 6))))
def b_forms_form_of (fuel : Nat) (C : Nat → List D → Rs → Out D) : Sx :=
    (sRet false [] (xNewF 19 (C 200) (xCons (xVar 0) xNil)))
def b_forms_is_all (fuel : Nat) (C : Nat → List D → Rs → Out D) : Sx :=
    (sRet false [] (xOp dEq (xIx (xVar 0) (xC (.int 0))) (xC (.str "all"))))
def b_forms_is_some (fuel : Nat) (C : Nat → List D → Rs → Out D) : Sx :=
    (sRet false [] (xOp dEq (xIx (xVar 0) (xC (.int 0))) (xC (.str "some"))))
def b_forms_literal_of (fuel : Nat) (C : Nat → List D → Rs → Out D) : Sx :=
    (sSeq (sAsg [] (gNm 1) (xOp dNe (xIx (xVar 0) (xC (.int 0))) (xC (.str "not"))))
    (sSeq (sAsg [] (gNm 2) (xIf (xTr (xVar 1)) (xVar 0) (xIx (xVar 0) (xC (.int 1)))))
    (sSeq (sIfF [] (xB (xOp dEq (xIx (xVar 2) (xC (.int 0))) (xC (.str "holds")))) (sRet false [] (xCall (C 163) (xCons (xVar 1) (xCons (xIx (xVar 2) (xC (.int 1))) (xCons (xC k_TOP) xNil))))) sNext)
    (sSeq (sIfF [] (xB (xOp dEq (xIx (xVar 2) (xC (.int 0))) (xC (.str "same")))) (sRet false [] (xCall (C 163) (xCons (xVar 1) (xCons (xIx (xVar 2) (xC (.int 1))) (xCons (xIx (xVar 2) (xC (.int 2))) xNil))))) sNext)
    (sRaise 5)))))
def b_forms_literal_rows (fuel : Nat) (C : Nat → List D → Rs → Out D) : Sx :=
    (sSeq (sIfF [] (xB (xOp dEq (xIx (xVar 0) (xC (.int 0))) (xC (.str "and")))) (sRet false [] (xOp dAdd (xCall (C 211) (xCons (xIx (xVar 0) (xC (.int 1))) xNil)) (xCall (C 211) (xCons (xIx (xVar 0) (xC (.int 2))) xNil)))) sNext)
    (sSeq (sIfF [] (xB (xOp dEq (xIx (xVar 0) (xC (.int 0))) (xC (.str "or")))) (sSeq (sPar [] 1 2 (xCons (xCall (C 211) (xCons (xIx (xVar 0) (xC (.int 1))) xNil)) (xCons (xCall (C 211) (xCons (xIx (xVar 0) (xC (.int 2))) xNil)) xNil)))
    (sRetN [] (xLc2 (xItems (xVar 1)) (gNm 3) (xItems (xVar 2)) (gNm 4) xYes (xOp dAdd (xVar 3) (xVar 4)) [3, 4] [4]))) sNext)
    (sRetN [] (xLst' (xCons (xLst (xCons (xCall (C 210) (xCons (xVar 0) xNil)) xNil)) xNil)))))
def b_forms_names_in (fuel : Nat) (C : Nat → List D → Rs → Out D) : Sx :=
    (sSeq (sAsgN [1] 1 (xLc (xItems (xOp dAdd (xFld 13 0 (xFld 14 0 (xVar 0))) (xFld 13 1 (xFld 14 0 (xVar 0))))) (gTp 2 (gCons' (gNm 2) (gCons' (gNm 3) gNil'))) xYes (xVar 2) [2, 3]))
    (sSeq (sFor [1] (xItems (xFld 14 1 (xVar 0))) (gNm 4) (isOwnL 1 (sExt [1] 1 (xCons (xCall (C 370) (xCons (xVar 4) xNil)) xNil))))
    (sRetO 1)))
def b_going_count_worlds (fuel : Nat) (C : Nat → List D → Rs → Out D) : Sx :=
    (sSeq (sAsg [] (gNm 2) (xC (.int 1)))
    (sSeq (sFor [] (xItems (xCall (C 491) (xCons (xVar 0) xNil))) (gTp 2 (gCons' (gNm 3) (gCons' (gNm 4) gNil'))) (sFor [] (xRng1 (xCons (xCall (C 497) (xCons (xVar 1) (xCons (xVar 4) xNil))) xNil)) (gNm 5) (sAsg [] (gNm 2) (xOp dMul (xVar 2) (xCall (C 217) (xCons (xVar 3) (xCons (xVar 1) xNil)))))))
    (sRet false [] (xVar 2))))
def b_going_entry_choices (fuel : Nat) (C : Nat → List D → Rs → Out D) : Sx :=
    (sRet false [] (xIf (xTr (xCall (C 494) (xCons (xVar 0) xNil))) (xVar 1) (xC (.int 2))))
def b_going_world_number (fuel : Nat) (C : Nat → List D → Rs → Out D) : Sx :=
    (sSeq (sAsg [] (gNm 1) (xC (.int 0)))
    (sSeq (sFor [] (xItems (xCall (C 491) (xCons (xFld 15 0 (xVar 0)) xNil))) (gTp 2 (gCons' (gNm 2) (gCons' (gNm 3) gNil'))) (sFor [] (xItems (xMeth 15 (C 487) (xVar 0) (xCons (xVar 2) xNil))) (gNm 4) (sAsg [] (gNm 1) (xOp dAdd (xOp dMul (xVar 1) (xCall (C 217) (xCons (xVar 2) (xCons (xFld 15 1 (xVar 0)) xNil)))) (xCB cInt (xCons (xVar 4) xNil))))))
    (sRet false [] (xVar 1))))
def b_groundworlds_rows_of_things (fuel : Nat) (C : Nat → List D → Rs → Out D) : Sx :=
    (sSeq (sAsg [] (gNm 2) (xLst (xCons (xTup xNil) xNil)))
    (sSeq (sFor [] (xRng1 (xCons (xVar 1) xNil)) (gNm 3) (sAsg [] (gNm 2) (xL (xLc2 (xItems (xVar 2)) (gNm 4) (xRng1 (xCons (xVar 0) xNil)) (gNm 5) xYes (xOp dAdd (xVar 4) (xTup (xCons (xVar 5) xNil))) [4, 5] [5]))))
    (sRet false [] (xVar 2))))
def b_groundworlds_rule_made (fuel : Nat) (C : Nat → List D → Rs → Out D) : Sx :=
    (sSeq (sIfF [] (xOr (xNot (xTr (xVar 2))) (xTr (xCall (C 358) (xCons (xVar 1) (xCons (xVar 2) xNil))))) (sRet false [] (xC .non)) sNext)
    (sSeq (sAsg [] (gNm 3) (xCall (C 151) (xCons (xVar 0) (xCons (xVar 2) xNil))))
    (sSeq (sAsg [] (gNm 4) (xIx (xVar 2) (xVar 3)))
    (sSeq (sIfF [] (xNot (xTr (xIx (xVar 4) (xC (.int 0))))) (sRet false [] (xC .non)) sNext)
    (sSeq (sAsg [] (gNm 5) (xCall (C 150) (xCons (xVar 0) (xCons (xVar 4) xNil))))
    (sSeq (sAsg [] (gNm 6) (xTup (xCons (xIx (xVar 4) (xOp dAdd (xC (.int 1)) (xVar 5))) (xCons (xIx (xVar 4) (xOp dSub (xC (.int 2)) (xVar 5))) xNil))))
    (sSeq (sAsg [] (gNm 7) (xL (xLc (xRng1 (xCons (xCB cLen (xCons (xVar 2) xNil)) xNil)) (gNm 8) (xB (xOp dNe (xVar 8) (xVar 3))) (xIx (xVar 2) (xVar 8)) [8])))
    (sSeq (sIfF [] (xOr (xB (xOp dNe (xCall (C 357) (xCons (xVar 1) (xCons (xIx (xVar 6) (xC (.int 0))) xNil))) (xIx (xVar 6) (xC (.int 0))))) (xTr (xCall (C 358) (xCons (xOp dAdd (xVar 1) (xLst (xCons (xVar 6) xNil))) (xCons (xVar 7) xNil))))) (sRet false [] (xC .non)) sNext)
    (sRet false [] (xVar 6))))))))))
def b_groundworlds_rules_of (fuel : Nat) (C : Nat → List D → Rs → Out D) : Sx :=
    (sSeq (sAsgN [2] 2 (xLst' xNil))
    (sSeq (sFor [2] (xItems (xCall (C 152) (xCons (xVar 0) (xCons (xVar 1) xNil)))) (gNm 3) (sSeq (sAsgI (gNm 4) (xCall (C 223) (xCons (xVar 0) (xCons (xVar 2) (xCons (xVar 3) xNil)))))
    (sIfF [2] (xB (xOp dIsNot (xVar 4) (xC .non))) (isOwnL 2 (sApp [2] 2 (xCons (xVar 4) xNil))) sNext)))
    (sRetO 2)))
def b_groundworlds_table_of (fuel : Nat) (C : Nat → List D → Rs → Out D) : Sx :=
    (sSeq (sAsgN [4] 4 (xLst' xNil))
    (sSeq (sFor [4] (xItems (xCall (C 222) (xCons (xCB cLen (xCons (xVar 1) xNil)) (xCons (xVar 3) xNil)))) (gNm 5) (isOwnL 4 (sApp [4] 4 (xCons (xCall (C 357) (xCons (xVar 0) (xCons (xOp dAdd (xTup (xCons (xVar 2) xNil)) (xCB cTuple (xCons (xL (xLc (xItems (xVar 5)) (gNm 6) xYes (xIx (xVar 1) (xVar 6)) [6])) xNil))) xNil))) xNil))))
    (sFrz 4
    (sRet false [] (xVar 4)))))
def b_groundworlds_world_of (fuel : Nat) (C : Nat → List D → Rs → Out D) : Sx :=
    (sSeq (sAsg [8] (gNm 3) (xCall (C 224) (xCons (xVar 1) (xCons (xVar 2) xNil))))
    (sSeq (sAsg [8] (gNm 4) (xCall (C 323) (xCons (xVar 1) (xCons (xL (xLc (xItems (xCall (C 221) (xCons (xVar 2) xNil))) (gNm 5) xYes (xCall (C 357) (xCons (xVar 3) (xCons (xVar 5) xNil))) [5])) xNil))))
    (sSeq (sIfF [8] (xNot (xTr (xVar 4))) (sAsg [8] (gNm 4) (xLst (xCons (xTup (xCons (xIx (xMeth 13 (C 513) (xVar 0) xNil) (xC (.int 0))) xNil)) xNil))) sNext)
    (sSeq (sAsg [8] (gNm 6) (xD (xDc (xRng1 (xCons (xCB cLen (xCons (xVar 4) xNil)) xNil)) (gNm 7) xYes (xCall (C 432) (xCons (xIx (xVar 4) (xVar 7)) xNil)) (xVar 7) [7])))
    (sSeq (sAsgD [8] 8 xDNew)
    (sSeq (sFor [8] (xItems (xFld 13 0 (xVar 0))) (gTp 2 (gCons' (gNm 9) (gCons' (gNm 10) gNil'))) (isOwnD 8 (sDPut' [8] 8 (xVar 9) (xL (xLc (xItems (xCall (C 225) (xCons (xVar 3) (xCons (xVar 4) (xCons (xVar 9) (xCons (xVar 10) xNil)))))) (gNm 5) xYes (xDGet2 (xVar 6) (xCall (C 432) (xCons (xVar 5) xNil)) (xC (.int 0))) [5])))))
    (sSeq (sFor [8] (xItems (xFld 13 1 (xVar 0))) (gTp 2 (gCons' (gNm 9) (gCons' (gNm 10) gNil'))) (isOwnD 8 (sDPut' [8] 8 (xVar 9) (xL (xLc (xItems (xCall (C 225) (xCons (xVar 3) (xCons (xVar 4) (xCons (xVar 9) (xCons (xVar 10) xNil)))))) (gNm 11) xYes (xOp dEq (xVar 11) (xC k_TOP)) [11])))))
    (sFrz 8
    (sRet false [] (xTup (xCons (xNewF 15 (C 483) (xCons (xVar 0) (xCons (xCB cLen (xCons (xVar 4) xNil)) (xCons (xVar 8) xNil)))) (xCons (xVar 4) xNil))))))))))))
def b_growing_Branch_closed (fuel : Nat) (C : Nat → List D → Rs → Out D) : Sx :=
    (sSeq (sAsg [] (gNm 1) (xIf (xTr (xFld 21 5 (xVar 0))) (xLst (xCons (xTup (xCons (xC (.str "beyond")) xNil)) xNil)) (xLst xNil)))
    (sRet false [] (xTup (xCons (xC (.str "cell")) (xCons (xIx (xFld 21 2 (xVar 0)) (xC (.int 0))) (xCons (xIx (xFld 21 2 (xVar 0)) (xC (.int 1))) (xCons (xCB cTuple (xCons (xOp dAdd (xFld 21 4 (xVar 0)) (xVar 1)) xNil)) xNil)))))))
def b_growing_Grower___init__ (fuel : Nat) (C : Nat → List D → Rs → Out D) : Sx :=
    (sSeq (sSetF [] 22 0 (xVar 0) (xVar 3))
    (sSeq (sSetF [] 22 1 (xVar 0) (xC (.int 0)))
    (sSeq (sSetF [] 22 2 (xVar 0) (xC .non))
    (sSeq (sSetF [] 22 3 (xVar 0) (xC .non))
    (sSeq (sSetF [] 22 4 (xVar 0) (xC (.bl false)))
    (sSeq (sSetF [] 22 5 (xVar 0) (xCB cTuple (xCons (xVar 2) xNil)))
    (sSeq (sSetF [] 22 6 (xVar 0) (xL (xLc (xItems (xFld 22 5 (xVar 0))) (gNm 6) xYes (xCall (C 155) (xCons (xVar 6) xNil)) [6])))
    (sSeq (sSetF [] 22 7 (xVar 0) (xCB cTuple (xCons (xVar 4) xNil)))
    (sSeq (sSetF [] 22 8 (xVar 0) (xVar 5))
    (sSeq (sSetF [] 22 9 (xVar 0) (xNewF 20 (C 324) (xCons (xVar 1) (xCons (xFld 22 5 (xVar 0)) xNil))))
    (sSeq (sSetF [] 22 10 (xVar 0) (xRes (xLst' xNil)))
    (sSetF [] 22 11 (xVar 0) (xC (.bl false))))))))))))))
def b_growing_Grower__read_new (fuel : Nat) (C : Nat → List D → Rs → Out D) : Sx :=
    (sSeq (sAsgN [2] 2 (xLst' xNil))
    (sSeq (sFor [2] (xRng1 (xCons (xCB cLen (xCons (xFld 22 5 (xVar 0)) xNil)) xNil)) (gNm 3) (sFor [2] (xItems (xCall (C 334) (xCons (xFld 20 1 (xVar 1)) (xCons (xCB cLen (xCons (xIx (xFld 22 6 (xVar 0)) (xVar 3)) xNil)) xNil)))) (gNm 4) (sIfF [2] (xB (xOp dIn (xOp dSub (xFld 20 1 (xVar 1)) (xC (.int 1))) (xVar 4))) (isOwnL 2 (sExt [2] 2 (xCons (xMeth 22 (C 233) (xVar 0) (xCons (xVar 1) (xCons (xVar 3) (xCons (xVar 4) xNil)))) xNil))) sNext)))
    (sFrz 2
    (sRet false [] (xVar 2)))))
def b_growing_Grower_has_ended (fuel : Nat) (C : Nat → List D → Rs → Out D) : Sx :=
    (sRet false [] (xOrV (xOp dIsNot (xFld 22 2 (xVar 0)) (xC .non)) (xOp dIsNot (xFld 22 3 (xVar 0)) (xC .non))))
def b_growing_filled_world (fuel : Nat) (C : Nat → List D → Rs → Out D) : Sx :=
    (sSeq (sAsgD [1] 1 xDNew)
    (sSeq (sFor [1] (xItems (xOp dAdd (xFld 13 0 (xFld 20 0 (xVar 0))) (xFld 13 1 (xFld 20 0 (xVar 0))))) (gTp 2 (gCons' (gNm 2) (gCons' (gNm 3) gNil'))) (sSeq (sAsg [1] (gNm 4) (xIf (xTr (xCall (C 312) (xCons (xVar 2) xNil))) (xC (.bl false)) (xC (.int 0))))
    (sSeq (sAsg [1] (gNm 5) (xCall (C 334) (xCons (xFld 20 1 (xVar 0)) (xCons (xVar 3) xNil))))
    (isOwnD 1 (sDPut' [1] 1 (xVar 2) (xL (xLc (xItems (xVar 5)) (gNm 6) xYes (xDGet2 (xFld 20 2 (xVar 0)) (xTup (xCons (xVar 2) (xCons (xVar 6) xNil))) (xVar 4)) [6])))))))
    (sFrz 1
    (sRet false [] (xNewF 15 (C 483) (xCons (xFld 20 0 (xVar 0)) (xCons (xFld 20 1 (xVar 0)) (xCons (xVar 1) xNil))))))))
def b_growing_most_nodes (fuel : Nat) (C : Nat → List D → Rs → Out D) : Sx :=
    (sSeq (sAsg [] (gNm 2) (xC (.int 0)))
    (sSeq (sFor [] (xItems (xOp dAdd (xFld 13 0 (xVar 0)) (xFld 13 1 (xVar 0)))) (gTp 2 (gCons' (gNm 3) (gCons' (gNm 4) gNil'))) (sAug 2 (fun i j => i + j) (xCB cLen (xCons (xCall (C 334) (xCons (xVar 1) (xCons (xVar 4) xNil))) xNil))))
    (sSeq (sAsg [] (gNm 5) (xC (.int 1)))
    (sSeq (sFor [] (xRng1 (xCons (xOp dAdd (xVar 2) (xC (.int 1))) xNil)) (gNm 6) (sAsg [] (gNm 5) (xOp dMul (xVar 5) (xOp dAdd (xVar 1) (xC (.int 1))))))
    (sRet false [] (xVar 5))))))
def b_hearts_Heart___init__ (fuel : Nat) (C : Nat → List D → Rs → Out D) : Sx :=
    (sSeq (sSetF [] 23 0 (xVar 0) (xVar 1))
    (sSeq (sSetF [] 23 1 (xVar 0) (xVar 2))
    (sSeq (sSetF [] 23 2 (xVar 0) (xCB cTuple (xCons (xVar 3) xNil)))
    (sSeq (sSetF [] 23 3 (xVar 0) (xRes (xLst' xNil)))
    (sSeq (sSetF [] 23 4 (xVar 0) (xRes (xLst' xNil)))
    (sSeq (sSetF [] 23 5 (xVar 0) (xRes (xLst' xNil)))
    (sSeq (sSetF [] 23 6 (xVar 0) (xRes (xLst' xNil)))
    (sSeq (sSetF [] 23 7 (xVar 0) (xC (.int 0)))
    (sSeq (sSetF [] 23 8 (xVar 0) (xC .non))
    (sSeq (sSetF [] 23 9 (xVar 0) (xRes (xLst' xNil)))
    (sSeq (sSetF [] 23 10 (xVar 0) (xRes (xLst' xNil)))
    (sSetF [] 23 11 (xVar 0) (xResD xDNew)))))))))))))
def b_hearts_Heart_add (fuel : Nat) (C : Nat → List D → Rs → Out D) : Sx :=
    (sSeq (sIfF [] (xNot (xTr (xCall (C 158) (xCons (xVar 1) xNil)))) (sRaise 7) sNext)
    (sSeq (sExp [] (xAppR (xFld 23 5 (xVar 0)) (xCons (xMeth 23 (C 249) (xVar 0) (xCons (xVar 1) (xCons (xTup (xCons (xC (.str "given")) (xCons (xCB cLen (xCons (xFld 23 3 (xVar 0)) xNil)) xNil))) xNil))) xNil)))
    (sExp [] (xAppR (xFld 23 3 (xVar 0)) (xCons (xVar 1) xNil)))))
def b_hearts_Heart_has_ended (fuel : Nat) (C : Nat → List D → Rs → Out D) : Sx :=
    (sRet false [] (xOrV (xOp dIsNot (xFld 23 8 (xVar 0)) (xC .non)) (xNotV (xFld 23 5 (xVar 0)))))
def b_hearts_Heart_infer (fuel : Nat) (C : Nat → List D → Rs → Out D) : Sx :=
    (sIfF [] (xNot (xDIn (xCall (C 154) (xCons (xVar 1) xNil)) (xFld 23 11 (xVar 0)))) (sExp [] (xAppR (xFld 23 5 (xVar 0)) (xCons (xMeth 23 (C 249) (xVar 0) (xCons (xVar 1) (xCons (xVar 2) xNil))) xNil))) sNext)
def b_hearts_Heart_infer_join (fuel : Nat) (C : Nat → List D → Rs → Out D) : Sx :=
    (sSeq (sAsg [] (gNm 5) (xIx (xIx (xFld 23 4 (xVar 0)) (xVar 1)) (xC (.int 0))))
    (sSeq (sAsg [] (gNm 6) (xIx (xIx (xFld 23 4 (xVar 0)) (xVar 3)) (xC (.int 0))))
    (sSeq (sAsg [] (gNm 7) (xCall (C 262) (xCons (xFld 23 1 (xVar 0)) (xCons (xVar 5) (xCons (xVar 2) (xCons (xVar 6) (xCons (xVar 4) xNil)))))))
    (sIfF [] (xB (xOp dIsNot (xVar 7) (xC .non))) (sSeq (sAsg [] (gNm 8) (xCall (C 422) (xCons (xVar 5) (xCons (xIx (xVar 7) (xC (.int 0))) (xCons (xIx (xVar 7) (xC (.int 1))) (xCons (xVar 6) (xCons (xIx (xVar 7) (xC (.int 2))) (xCons (xIx (xVar 7) (xC (.int 3))) xNil))))))))
    (sExp [] (xMeth 23 (C 244) (xVar 0) (xCons (xVar 8) (xCons (xTup (xCons (xC (.str "replace")) (xCons (xVar 1) (xCons (xIx (xVar 7) (xC (.int 0))) (xCons (xIx (xVar 7) (xC (.int 1))) (xCons (xVar 3) (xCons (xIx (xVar 7) (xC (.int 2))) (xCons (xIx (xVar 7) (xC (.int 3))) xNil)))))))) xNil))))) sNext))))
def b_hearts_Heart_kept_clauses_v1 (fuel : Nat) (C : Nat → List D → Rs → Out D) : Sx :=
    (sRetN [] (xListN (xCons (xFld 23 9 (xVar 0)) xNil)))
def b_hearts_Heart_least_row (fuel : Nat) (C : Nat → List D → Rs → Out D) : Sx :=
    (sSeq (whileGoF [] (xNot (xTr (xCall (C 263) (xCons (xFld 23 9 (xVar 0)) (xCons (xIx (xIx (xFld 23 4 (xVar 0)) (xVar 1)) (xC (.int 0))) xNil))))) (sSeq (sAsg [] (gNm 2) (xIx (xIx (xFld 23 4 (xVar 0)) (xVar 1)) (xC (.int 0))))
    (sSeq (sAsg [] (gNm 3) (xCall (C 265) (xCons (xFld 23 1 (xVar 0)) (xCons (xFld 23 9 (xVar 0)) (xCons (xVar 2) xNil)))))
    (sSeq (sIfF [] (xB (xOp dIs (xVar 3) (xC .non))) (sRet false [] (xVar 1)) sNext)
    (sSeq (sAsg [] (gNm 4) (xTup (xCons (xC (.str "drop")) (xCons (xVar 1) xNil))))
    (sSeq (sIfF [] (xB (xOp dEq (xIx (xVar 3) (xC (.int 0))) (xC (.str "replace")))) (sAsg [] (gNm 4) (xTup (xCons (xC (.str "replace")) (xCons (xIx (xFld 23 6 (xVar 0)) (xIx (xVar 3) (xC (.int 1)))) (xCons (xC (.int 0)) (xCons (xIx (xVar 3) (xC (.int 2))) (xCons (xVar 1) (xCons (xIx (xVar 3) (xC (.int 3))) (xCons (xIx (xVar 3) (xC (.int 4))) xNil))))))))) sNext)
    (sAsg [] (gNm 1) (xMeth 23 (C 249) (xVar 0) (xCons (xCall (C 266) (xCons (xFld 23 9 (xVar 0)) (xCons (xVar 2) (xCons (xVar 3) xNil)))) (xCons (xVar 4) xNil))))))))) fuel)
    (sRet false [] (xC .non)))
def b_hearts_Heart_put (fuel : Nat) (C : Nat → List D → Rs → Out D) : Sx :=
    (sSeq (sExp [] (xAppR (xFld 23 4 (xVar 0)) (xCons (xTup (xCons (xVar 1) (xCons (xVar 2) xNil))) xNil)))
    (sSeq (sDSetR [] (xFld 23 11 (xVar 0)) (xCall (C 154) (xCons (xVar 1) xNil)) (xC (.bl true)))
    (sRet false [] (xOp dSub (xCB cLen (xCons (xFld 23 4 (xVar 0)) xNil)) (xC (.int 1))))))
def b_hearts_saturate (fuel : Nat) (C : Nat → List D → Rs → Out D) : Sx :=
    (sSeq (sAsg [] (gNm 4) (xNewR 23 (C 241) (xCons (xVar 0) (xCons (xVar 1) (xCons (xVar 3) xNil)))))
    (sSeq (sFor [] (xItems (xVar 2)) (gNm 5) (sExp [] (xMeth 23 (C 242) (xVar 4) (xCons (xVar 5) xNil))))
    (sSeq (whileGoF [] (xNot (xTr (xMeth 23 (C 243) (xVar 4) xNil))) (sExp [] (xMeth 23 (C 250) (xVar 4) xNil)) fuel)
    (sRet false [] (xVar 4)))))
def b_inferring_can_drop (fuel : Nat) (C : Nat → List D → Rs → Out D) : Sx :=
    (sSeq (sFor [] (xItems (xVar 0)) (gNm 1) (sIfF [] (xAnd (xNot (xTr (xIx (xVar 1) (xC (.int 0))))) (xB (xOp dEq (xIx (xVar 1) (xC (.int 1))) (xIx (xVar 1) (xC (.int 2)))))) (sRet false [] (xC (.bl true))) sNext))
    (sRet false [] (xC (.bl false))))
def b_inferring_covered (fuel : Nat) (C : Nat → List D → Rs → Out D) : Sx :=
    (sSeq (whileGoF [] (xNot (xTr (xCall (C 263) (xCons (xVar 1) (xCons (xVar 2) xNil))))) (sSeq (sAsg [] (gNm 3) (xCall (C 265) (xCons (xVar 0) (xCons (xVar 1) (xCons (xVar 2) xNil)))))
    (sSeq (sIfF [] (xB (xOp dIs (xVar 3) (xC .non))) (sRet false [] (xC (.bl false))) sNext)
    (sAsg [] (gNm 2) (xCall (C 266) (xCons (xVar 1) (xCons (xVar 2) (xCons (xVar 3) xNil))))))) fuel)
    (sRet false [] (xC (.bl true))))
def b_inferring_first_place (fuel : Nat) (C : Nat → List D → Rs → Out D) : Sx :=
    (sSeq (sIfF [] (xB (xOp dEq (xVar 0) (xVar 1))) (sRet false [] (xTup xNil)) sNext)
    (sSeq (sFor [] (xRng2 (xCons (xC (.int 1)) (xCons (xCB cLen (xCons (xVar 0) xNil)) xNil))) (gNm 2) (sSeq (sAsg [] (gNm 3) (xCall (C 256) (xCons (xIx (xVar 0) (xVar 2)) (xCons (xVar 1) xNil))))
    (sIfF [] (xB (xOp dIsNot (xVar 3) (xC .non))) (sRet false [] (xOp dAdd (xTup (xCons (xOp dSub (xVar 2) (xC (.int 1))) xNil)) (xVar 3))) sNext)))
    (sRet false [] (xC .non))))
def b_inferring_head_of (fuel : Nat) (C : Nat → List D → Rs → Out D) : Sx :=
    (sSeq (sAsg [] (gNm 2) (xCall (C 151) (xCons (xVar 0) (xCons (xVar 1) xNil))))
    (sSeq (sIfF [] (xB (xOp dIs (xVar 2) (xC .non))) (sRet false [] (xC .non)) sNext)
    (sSeq (sAsg [] (gNm 3) (xCall (C 150) (xCons (xVar 0) (xCons (xIx (xVar 1) (xVar 2)) xNil))))
    (sRet false [] (xIf (xB (xOp dIs (xVar 3) (xC .non))) (xC .non) (xTup (xCons (xVar 2) (xCons (xVar 3) xNil))))))))
def b_inferring_holds_all (fuel : Nat) (C : Nat → List D → Rs → Out D) : Sx :=
    (sSeq (sFor [] (xItems (xVar 1)) (gNm 2) (sIfF [] (xB (xOp dNotIn (xVar 2) (xVar 0))) (sRet false [] (xC (.bl false))) sNext))
    (sRet false [] (xC (.bl true))))
def b_inferring_join (fuel : Nat) (C : Nat → List D → Rs → Out D) : Sx :=
    (sSeq (sAsg [] (gNm 3) (xCall (C 257) (xCons (xVar 0) (xCons (xVar 1) xNil))))
    (sSeq (sAsg [] (gNm 4) (xCall (C 257) (xCons (xVar 0) (xCons (xVar 2) xNil))))
    (sSeq (sIfF [] (xOr (xB (xOp dIs (xVar 3) (xC .non))) (xB (xOp dIs (xVar 4) (xC .non)))) (sRet false [] (xC .non)) sNext)
    (sRet false [] (xCall (C 262) (xCons (xVar 0) (xCons (xVar 1) (xCons (xVar 3) (xCons (xVar 2) (xCons (xVar 4) xNil))))))))))
def b_inferring_join_heads (fuel : Nat) (C : Nat → List D → Rs → Out D) : Sx :=
    (sSeq (sAsg [] (gNm 5) (xIx (xVar 1) (xIx (xVar 2) (xC (.int 0)))))
    (sSeq (sAsg [] (gNm 6) (xIx (xVar 3) (xIx (xVar 4) (xC (.int 0)))))
    (sSeq (sIfF [] (xNot (xTr (xIx (xVar 5) (xC (.int 0))))) (sRet false [] (xC .non)) sNext)
    (sSeq (sAsg [] (gNm 7) (xCall (C 256) (xCons (xIx (xVar 6) (xOp dAdd (xC (.int 1)) (xIx (xVar 4) (xC (.int 1))))) (xCons (xIx (xVar 5) (xOp dAdd (xC (.int 1)) (xIx (xVar 2) (xC (.int 1))))) xNil))))
    (sSeq (sIfF [] (xOr (xB (xOp dIs (xVar 7) (xC .non))) (xB (xOp dNe (xCall (C 147) (xCons (xVar 0) (xCons (xVar 5) (xCons (xVar 6) xNil)))) (xNeg (xC (.int 1)))))) (sRet false [] (xC .non)) sNext)
    (sRet false [] (xTup (xCons (xIx (xVar 2) (xC (.int 0))) (xCons (xIx (xVar 2) (xC (.int 1))) (xCons (xIx (xVar 4) (xC (.int 0))) (xCons (xOp dAdd (xTup (xCons (xIx (xVar 4) (xC (.int 1))) xNil)) (xVar 7)) xNil)))))))))))
def b_inferring_needless (fuel : Nat) (C : Nat → List D → Rs → Out D) : Sx :=
    (sSeq (sFor [] (xItems (xVar 0)) (gNm 2) (sIfF [] (xTr (xCall (C 258) (xCons (xVar 1) (xCons (xVar 2) xNil)))) (sRet false [] (xC (.bl true))) sNext))
    (sRet false [] (xCall (C 153) (xCons (xVar 1) xNil))))
def b_inferring_place_in_clause (fuel : Nat) (C : Nat → List D → Rs → Out D) : Sx :=
    (sSeq (sFor [] (xRng1 (xCons (xCB cLen (xCons (xVar 0) xNil)) xNil)) (gNm 2) (sFor [] (xItems (xTup (xCons (xC (.int 0)) (xCons (xC (.int 1)) xNil)))) (gNm 3) (sSeq (sAsg [] (gNm 4) (xCall (C 256) (xCons (xIx (xIx (xVar 0) (xVar 2)) (xOp dAdd (xC (.int 1)) (xVar 3))) (xCons (xVar 1) xNil))))
    (sIfF [] (xB (xOp dIsNot (xVar 4) (xC .non))) (sRet false [] (xTup (xCons (xVar 2) (xCons (xOp dAdd (xTup (xCons (xVar 3) xNil)) (xVar 4)) xNil)))) sNext))))
    (sRet false [] (xC .non)))
def b_inferring_simpler (fuel : Nat) (C : Nat → List D → Rs → Out D) : Sx :=
    (sSeq (sIfF [] (xTr (xCall (C 253) (xCons (xVar 2) xNil))) (sRet false [] (xTup (xCons (xC (.str "drop")) xNil))) sNext)
    (sSeq (sFor [] (xRng1 (xCons (xCB cLen (xCons (xVar 1) xNil)) xNil)) (gNm 3) (sSeq (sAsg [] (gNm 4) (xIx (xVar 1) (xVar 3)))
    (sIfF [] (xAnd (xB (xOp dEq (xCB cLen (xCons (xVar 4) xNil)) (xC (.int 1)))) (xTr (xIx (xIx (xVar 4) (xC (.int 0))) (xC (.int 0))))) (sSeq (sAsg [] (gNm 5) (xCall (C 150) (xCons (xVar 0) (xCons (xIx (xVar 4) (xC (.int 0))) xNil))))
    (sSeq (sAsg [] (gNm 6) (xIf (xB (xOp dIs (xVar 5) (xC .non))) (xC .non) (xCall (C 264) (xCons (xVar 2) (xCons (xIx (xIx (xVar 4) (xC (.int 0))) (xOp dAdd (xC (.int 1)) (xVar 5))) xNil)))))
    (sIfF [] (xAnd (xB (xOp dIsNot (xVar 6) (xC .non))) (xB (xOp dEq (xCall (C 146) (xCons (xVar 0) (xCons (xVar 4) (xCons (xVar 2) xNil)))) (xNeg (xC (.int 1)))))) (sRet false [] (xTup (xCons (xC (.str "replace")) (xCons (xVar 3) (xCons (xVar 5) (xCons (xIx (xVar 6) (xC (.int 0))) (xCons (xIx (xVar 6) (xC (.int 1))) xNil))))))) sNext))) sNext)))
    (sRet false [] (xC .non))))
def b_inferring_simplify (fuel : Nat) (C : Nat → List D → Rs → Out D) : Sx :=
    (sSeq (sIfF [] (xB (xOp dEq (xIx (xVar 2) (xC (.int 0))) (xC (.str "drop")))) (sRet false [] (xCall (C 415) (xCons (xVar 1) xNil))) sNext)
    (sRet false [] (xCall (C 422) (xCons (xIx (xVar 0) (xIx (xVar 2) (xC (.int 1)))) (xCons (xC (.int 0)) (xCons (xIx (xVar 2) (xC (.int 2))) (xCons (xVar 1) (xCons (xIx (xVar 2) (xC (.int 3))) (xCons (xIx (xVar 2) (xC (.int 4))) xNil)))))))))
def b_kinds_above_arity (fuel : Nat) (C : Nat → List D → Rs → Out D) : Sx :=
    (sRetN [] (xLc (xItems (xVar 0)) (gTp 2 (gCons' (gNm 3) (gCons' (gNm 4) gNil'))) (xAnd (xB (xOp dGt (xVar 4) (xVar 2))) (xB (xOp dIn (xVar 3) (xVar 1)))) (xVar 3) [3, 4]))
def b_kinds_enough (fuel : Nat) (C : Nat → List D → Rs → Out D) : Sx :=
    (sSeq (sIfF [] (xB (xOp dNotIn (xVar 1) (xCall (C 278) (xCons (xVar 0) xNil)))) (sRaise 10) sNext)
    (sRet false [] (xCall (C 285) (xCons (xVar 0) (xCons (xVar 1) xNil)))))
def b_kinds_function_names (fuel : Nat) (C : Nat → List D → Rs → Out D) : Sx :=
    (sSeq (sIfF [1] (xTr (xCall (C 426) (xCons (xVar 0) xNil))) (sRetN [1] (xLst' xNil)) sNext)
    (sSeq (sAsgN [1] 1 (xLst' (xCons (xIx (xVar 0) (xC (.int 0))) xNil)))
    (sSeq (sFor [1] (xItems (xSl (xVar 0) (xPart (xC (.int 1))) xNoP)) (gNm 2) (isOwnL 1 (sExt [1] 1 (xCons (xCall (C 270) (xCons (xVar 2) xNil)) xNil))))
    (sFrz 1
    (sRet false [] (xVar 1))))))
def b_kinds_has_some_in_all (fuel : Nat) (C : Nat → List D → Rs → Out D) : Sx :=
    (sSeq (sIfF [] (xAnd (xTr (xVar 1)) (xB (xOp dEq (xIx (xVar 0) (xC (.int 0))) (xC (.str "some"))))) (sRet false [] (xC (.bl true))) sNext)
    (sSeq (sFor [] (xItems (xCall (C 371) (xCons (xVar 0) xNil))) (gNm 2) (sIfF [] (xTr (xCall (C 272) (xCons (xVar 2) (xCons (xOrV (xVar 1) (xOp dEq (xIx (xVar 0) (xC (.int 0))) (xC (.str "all")))) xNil)))) (sRet false [] (xC (.bl true))) sNext))
    (sRet false [] (xC (.bl false)))))
def b_kinds_is_linked (fuel : Nat) (C : Nat → List D → Rs → Out D) : Sx :=
    (sSeq (sIfF [] (xTr (xCall (C 267) (xCons (xFld 13 0 (xFld 14 0 (xVar 0))) (xCons (xCall (C 282) (xCons (xVar 0) xNil)) (xCons (xC (.int 0)) xNil))))) (sRet false [] (xC (.bl false))) sNext)
    (sSeq (sFor [] (xItems (xFld 14 1 (xVar 0))) (gNm 1) (sSeq (sAsg [] (gNm 2) (xCall (C 386) (xCons (xVar 1) xNil)))
    (sIfF [] (xAnd (xNot (xTr (xCall (C 275) (xCons (xVar 2) xNil)))) (xNot (xTr (xCall (C 273) (xCons (xVar 2) xNil))))) (sRet false [] (xC (.bl false))) sNext)))
    (sRet false [] (xC (.bl true)))))
def b_kinds_is_positive (fuel : Nat) (C : Nat → List D → Rs → Out D) : Sx :=
    (sSeq (sIfF [] (xB (xOp dEq (xIx (xVar 0) (xC (.int 0))) (xC (.str "not")))) (sRet false [] (xAndV (xOp dEq (xIx (xIx (xVar 0) (xC (.int 1))) (xC (.int 0))) (xC (.str "holds"))) (xOp dLe (xCB cLen (xCons (xIx (xIx (xVar 0) (xC (.int 1))) (xC (.int 1))) xNil)) (xC (.int 2))))) sNext)
    (sSeq (sFor [] (xItems (xCall (C 371) (xCons (xVar 0) xNil))) (gNm 1) (sIfF [] (xNot (xTr (xCall (C 275) (xCons (xVar 1) xNil)))) (sRet false [] (xC (.bl false))) sNext))
    (sRet false [] (xC (.bl true)))))
def b_kinds_is_prefix (fuel : Nat) (C : Nat → List D → Rs → Out D) : Sx :=
    (sSeq (sFor [] (xItems (xCall (C 287) (xCons (xVar 0) xNil))) (gNm 1) (sIfF [] (xAnd (xNot (xTr (xCall (C 426) (xCons (xVar 1) xNil)))) (xTr (xCall (C 433) (xCons (xVar 1) xNil)))) (sRet false [] (xC (.bl false))) sNext))
    (sSeq (sFor [] (xItems (xFld 14 1 (xVar 0))) (gNm 2) (sIfF [] (xTr (xCall (C 272) (xCons (xCall (C 386) (xCons (xVar 2) xNil)) (xCons (xC (.bl false)) xNil)))) (sRet false [] (xC (.bl false))) sNext))
    (sRet false [] (xC (.bl true)))))
def b_kinds_is_single (fuel : Nat) (C : Nat → List D → Rs → Out D) : Sx :=
    (sSeq (sAsg [] (gNm 1) (xCall (C 282) (xCons (xVar 0) xNil)))
    (sSeq (sAsg [] (gNm 2) (xFld 14 0 (xVar 0)))
    (sRet false [] (xAndV (xNotV (xCall (C 267) (xCons (xFld 13 1 (xVar 2)) (xCons (xVar 1) (xCons (xC (.int 1)) xNil))))) (xNotV (xCall (C 267) (xCons (xFld 13 0 (xVar 2)) (xCons (xVar 1) (xCons (xC (.int 0)) xNil)))))))))
def b_kinds_kinds_of (fuel : Nat) (C : Nat → List D → Rs → Out D) : Sx :=
    (sSeq (sAsgD [1] 1 (xDisp [((xC (.str "listed")), (xOp dIsNot (xCall (C 279) (xCons (xVar 0) xNil)) (xC .non))), ((xC (.str "prefix")), (xCall (C 276) (xCons (xVar 0) xNil)))]))
    (sSeq (isOwnD 1 (sDPut' [1] 1 (xC (.str "single")) (xCall (C 277) (xCons (xVar 0) xNil))))
    (sSeq (isOwnD 1 (sDPut' [1] 1 (xC (.str "linked")) (xCall (C 274) (xCons (xVar 0) xNil))))
    (sFrz 1
    (sRetN [] (xLc (xItems (xC k_KINDS)) (gNm 2) (xTr (xDGet (xVar 1) (xVar 2))) (xVar 2) [2]))))))
def b_kinds_many_some (fuel : Nat) (C : Nat → List D → Rs → Out D) : Sx :=
    (sRet false [] (xOp dAdd (xCB cSum (xCons (xL (xLc (xItems (xCall (C 371) (xCons (xVar 0) xNil))) (gNm 1) xYes (xCall (C 281) (xCons (xVar 1) xNil)) [1])) xNil)) (xIf (xB (xOp dEq (xIx (xVar 0) (xC (.int 0))) (xC (.str "some")))) (xC (.int 1)) (xC (.int 0)))))
def b_kinds_names_in (fuel : Nat) (C : Nat → List D → Rs → Out D) : Sx :=
    (sSeq (sAsgD [1] 1 xDNew)
    (sSeq (sFor [1] (xItems (xFld 14 1 (xVar 0))) (gNm 2) (sFor [1] (xItems (xCall (C 369) (xCons (xVar 2) xNil))) (gNm 3) (sSeq (sIfF [1] (xB (xOp dEq (xIx (xVar 3) (xC (.int 0))) (xC (.str "holds")))) (isOwnD 1 (sDPut' [1] 1 (xIx (xIx (xVar 3) (xC (.int 1))) (xC (.int 0))) (xC (.bl true)))) sNext)
    (sFor [1] (xItems (xCall (C 368) (xCons (xVar 3) xNil))) (gNm 4) (sFor [1] (xItems (xCall (C 270) (xCons (xVar 4) xNil))) (gNm 5) (isOwnD 1 (sDPut' [1] 1 (xVar 5) (xC (.bl true)))))))))
    (sSeq (sAsg [1] (gNm 6) (xFld 14 0 (xVar 0)))
    (sFrz 1
    (sRetN [] (xLc (xItems (xOp dAdd (xFld 13 0 (xVar 6)) (xFld 13 1 (xVar 6)))) (gTp 2 (gCons' (gNm 5) (gCons' (gNm 7) gNil'))) (xDIn (xVar 5) (xVar 1)) (xVar 5) [5, 7]))))))
def b_kinds_of_arity (fuel : Nat) (C : Nat → List D → Rs → Out D) : Sx :=
    (sRetN [] (xLc (xItems (xVar 0)) (gTp 2 (gCons' (gNm 3) (gCons' (gNm 4) gNil'))) (xAnd (xB (xOp dEq (xVar 4) (xVar 2))) (xB (xOp dIn (xVar 3) (xVar 1)))) (xVar 3) [3, 4]))
def b_kinds_or_parts (fuel : Nat) (C : Nat → List D → Rs → Out D) : Sx :=
    (sSeq (sIfF [] (xB (xOp dNe (xIx (xVar 0) (xC (.int 0))) (xC (.str "or")))) (sRetN [] (xLst' (xCons (xVar 0) xNil))) sNext)
    (sRet false [] (xOp dAdd (xCall (C 284) (xCons (xIx (xVar 0) (xC (.int 1))) xNil)) (xCall (C 284) (xCons (xIx (xVar 0) (xC (.int 2))) xNil)))))
def b_kinds_size_for (fuel : Nat) (C : Nat → List D → Rs → Out D) : Sx :=
    (sSeq (sIfF [] (xB (xOp dEq (xVar 1) (xC (.str "listed")))) (sRet false [] (xIx (xCall (C 279) (xCons (xVar 0) xNil)) (xC (.int 1)))) sNext)
    (sSeq (sIfF [] (xB (xOp dEq (xVar 1) (xC (.str "prefix")))) (sRet false [] (xCB cMax2 (xCons (xC (.int 1)) (xCons (xOp dAdd (xCB cLen (xCons (xCall (C 271) (xCons (xVar 0) xNil)) xNil)) (xCB cSum (xCons (xL (xLc (xItems (xFld 14 1 (xVar 0))) (gNm 2) xYes (xCall (C 281) (xCons (xCall (C 386) (xCons (xVar 2) xNil)) xNil)) [2])) xNil))) xNil)))) sNext)
    (sSeq (sAsg [] (gNm 3) (xCall (C 282) (xCons (xVar 0) xNil)))
    (sSeq (sAsg [] (gNm 4) (xCall (C 286) (xCons (xCall (C 283) (xCons (xFld 13 1 (xFld 14 0 (xVar 0))) (xCons (xVar 3) (xCons (xC (.int 1)) xNil)))) xNil)))
    (sSeq (sIfF [] (xB (xOp dEq (xVar 1) (xC (.str "single")))) (sRet false [] (xCB cMax2 (xCons (xC (.int 1)) (xCons (xOp dAdd (xCB cLen (xCons (xCall (C 283) (xCons (xFld 13 0 (xFld 14 0 (xVar 0))) (xCons (xVar 3) (xCons (xC (.int 0)) xNil)))) xNil)) (xOp dMul (xCall (C 268) (xCons (xVar 0) xNil)) (xVar 4))) xNil)))) sNext)
    (sRet false [] (xVar 4)))))))
def b_kinds_sort_count (fuel : Nat) (C : Nat → List D → Rs → Out D) : Sx :=
    (sSeq (sAsg [] (gNm 1) (xC (.int 1)))
    (sSeq (sFor [] (xItems (xVar 0)) (gNm 2) (sAsg [] (gNm 1) (xOp dMul (xVar 1) (xC (.int 2)))))
    (sRet false [] (xVar 1))))
def b_kinds_terms_in (fuel : Nat) (C : Nat → List D → Rs → Out D) : Sx :=
    (sSeq (sAsgN [1] 1 (xLst' xNil))
    (sSeq (sFor [1] (xItems (xFld 14 1 (xVar 0))) (gNm 2) (sFor [1] (xItems (xCall (C 369) (xCons (xVar 2) xNil))) (gNm 3) (isOwnL 1 (sExt [1] 1 (xCons (xCall (C 368) (xCons (xVar 3) xNil)) xNil)))))
    (sFrz 1
    (sRet false [] (xVar 1)))))
def b_likeness_alike (fuel : Nat) (C : Nat → List D → Rs → Out D) : Sx :=
    (sSeq (sIfF [] (xOr (xNot (xTr (xCall (C 295) (xCons (xVar 0) (xCons (xVar 1) xNil))))) (xB (xOp dNe (xFld 15 1 (xVar 0)) (xFld 15 1 (xVar 1))))) (sRet false [] (xC (.bl false))) sNext)
    (sRet false [] (xOp dEq (xCall (C 219) (xCons (xCall (C 291) (xCons (xVar 0) xNil)) xNil)) (xCall (C 219) (xCons (xCall (C 291) (xCons (xVar 1) xNil)) xNil)))))
def b_likeness_expanded (fuel : Nat) (C : Nat → List D → Rs → Out D) : Sx :=
    (sSeq (sAsgD [3] 3 (xDCopy (xCons (xVar 2) xNil)))
    (sSeq (sFor [3] (xItems (xCall (C 491) (xCons (xFld 15 0 (xVar 0)) xNil))) (gTp 2 (gCons' (gNm 4) (gCons' (gNm 5) gNil'))) (sSeq (sIfF [3] (xOr (xDIn (xVar 4) (xVar 2)) (xOr (xNot (xTr (xMeth 13 (C 132) (xVar 1) (xCons (xVar 4) xNil)))) (xB (xOp dNe (xMeth 13 (C 127) (xVar 1) (xCons (xVar 4) xNil)) (xVar 5))))) (sRaise 8) sNext)
    (isOwnD 3 (sDPut' [3] 3 (xVar 4) (xMeth 15 (C 487) (xVar 0) (xCons (xVar 4) xNil))))))
    (sFrz 3
    (sRet false [] (xNewF 15 (C 483) (xCons (xVar 1) (xCons (xFld 15 1 (xVar 0)) (xCons (xVar 3) xNil))))))))
def b_likeness_orders_of (fuel : Nat) (C : Nat → List D → Rs → Out D) : Sx :=
    (sSeq (sIfF [1] (xNot (xTr (xVar 0))) (sRetN [1] (xLst' (xCons (xTup xNil) xNil))) sNext)
    (sSeq (sAsgN [1] 1 (xLst' xNil))
    (sSeq (sFor [1] (xItems (xVar 0)) (gNm 2) (sSeq (sAsg [1] (gNm 3) (xL (xLc (xItems (xVar 0)) (gNm 4) (xB (xOp dNe (xVar 4) (xVar 2))) (xVar 4) [4])))
    (isOwnL 1 (sExtN [1] 1 (xLc (xItems (xCall (C 292) (xCons (xVar 3) xNil))) (gNm 5) xYes (xOp dAdd (xTup (xCons (xVar 2) xNil)) (xVar 5)) [5])))))
    (sFrz 1
    (sRet false [] (xVar 1))))))
def b_likeness_reduct (fuel : Nat) (C : Nat → List D → Rs → Out D) : Sx :=
    (sSeq (sAsgD [2] 2 xDNew)
    (sSeq (sFor [2] (xItems (xCall (C 491) (xCons (xVar 1) xNil))) (gTp 2 (gCons' (gNm 3) (gCons' (gNm 4) gNil'))) (sSeq (sIfF [2] (xOr (xNot (xTr (xMeth 13 (C 132) (xFld 15 0 (xVar 0)) (xCons (xVar 3) xNil)))) (xB (xOp dNe (xMeth 13 (C 127) (xFld 15 0 (xVar 0)) (xCons (xVar 3) xNil)) (xVar 4)))) (sRaise 8) sNext)
    (isOwnD 2 (sDPut' [2] 2 (xVar 3) (xMeth 15 (C 487) (xVar 0) (xCons (xVar 3) xNil))))))
    (sFrz 2
    (sRet false [] (xNewF 15 (C 483) (xCons (xVar 1) (xCons (xFld 15 1 (xVar 0)) (xCons (xVar 2) xNil))))))))
def b_likeness_same_signature (fuel : Nat) (C : Nat → List D → Rs → Out D) : Sx :=
    (sRet false [] (xOp dEq (xCall (C 491) (xCons (xFld 15 0 (xVar 0)) xNil)) (xCall (C 491) (xCons (xFld 15 0 (xVar 1)) xNil))))
def b_lines_check_literal (fuel : Nat) (C : Nat → List D → Rs → Out D) : Sx :=
    (sFor [] (xItems (xSl (xVar 1) (xPart (xC (.int 1))) xNoP)) (gNm 2) (sIfF [] (xTr (xCall (C 424) (xCons (xVar 2) xNil))) (sSeq (sIfF [] (xOr (xNot (xTr (xMeth 13 (C 132) (xVar 0) (xCons (xIx (xVar 2) (xC (.int 0))) xNil)))) (xB (xOp dNe (xMeth 13 (C 127) (xVar 0) (xCons (xIx (xVar 2) (xC (.int 0))) xNil)) (xOp dSub (xCB cLen (xCons (xVar 2) xNil)) (xC (.int 1)))))) (sRaise 4) sNext)
    (sFor [] (xItems (xSl (xVar 2) (xPart (xC (.int 1))) xNoP)) (gNm 3) (sExp [] (xMeth 13 (C 512) (xVar 0) (xCons (xVar 3) (xCons (xCall (C 433) (xCons (xVar 3) xNil)) xNil)))))) (sIfF [] (xB (xOp dNe (xVar 2) (xC k_TOP))) (sExp [] (xMeth 13 (C 512) (xVar 0) (xCons (xVar 2) (xCons (xCall (C 433) (xCons (xVar 2) xNil)) xNil)))) sNext)))
def b_lines_judge (fuel : Nat) (C : Nat → List D → Rs → Out D) : Sx :=
    (sSeq (sIfF [] (xOr (xNot (xTr (xVar 2))) (xB (xOp dNe (xIx (xIx (xVar 2) (xNeg (xC (.int 1)))) (xC (.int 0))) (xTup xNil)))) (sRet false [] (xC (.bl false))) sNext)
    (sRet false [] (xOp dIs (xCall (C 298) (xCons (xVar 0) (xCons (xVar 1) (xCons (xVar 2) xNil)))) (xC .non))))
def b_lines_made_by (fuel : Nat) (C : Nat → List D → Rs → Out D) : Sx :=
    (sSeq (sFor [] (xItems (xCall (C 303) (xCons (xVar 3) xNil))) (gNm 4) (sIfF [] (xNot (xCh dLe dLt (xC (.int 0)) (xVar 4) (xCB cLen (xCons (xVar 2) xNil)))) (sRaise 7) sNext))
    (sSeq (sIfF [] (xB (xOp dEq (xIx (xVar 3) (xC (.int 0))) (xC (.str "given")))) (sSeq (sIfF [] (xNot (xCh dLe dLt (xC (.int 0)) (xIx (xVar 3) (xC (.int 1))) (xCB cLen (xCons (xVar 1) xNil)))) (sRaise 7) sNext)
    (sRet false [] (xIx (xVar 1) (xIx (xVar 3) (xC (.int 1)))))) sNext)
    (sSeq (sIfF [] (xB (xOp dEq (xIx (xVar 3) (xC (.int 0))) (xC (.str "fill")))) (sSeq (sFor [] (xItems (xIx (xVar 3) (xC (.int 2)))) (gNm 5) (sExp [] (xMeth 13 (C 512) (xVar 0) (xCons (xIx (xVar 5) (xC (.int 1))) (xCons (xCall (C 433) (xCons (xIx (xVar 5) (xC (.int 1))) xNil)) xNil)))))
    (sRet false [] (xCall (C 418) (xCons (xIx (xIx (xVar 2) (xIx (xVar 3) (xC (.int 1)))) (xC (.int 0))) (xCons (xIx (xVar 3) (xC (.int 2))) xNil))))) sNext)
    (sSeq (sIfF [] (xB (xOp dEq (xIx (xVar 3) (xC (.int 0))) (xC (.str "replace")))) (sSeq (sPar [] 6 7 (xCons (xIx (xIx (xVar 2) (xIx (xVar 3) (xC (.int 1)))) (xC (.int 0))) (xCons (xIx (xIx (xVar 2) (xIx (xVar 3) (xC (.int 4)))) (xC (.int 0))) xNil)))
    (sRet false [] (xCall (C 422) (xCons (xVar 6) (xCons (xIx (xVar 3) (xC (.int 2))) (xCons (xIx (xVar 3) (xC (.int 3))) (xCons (xVar 7) (xCons (xIx (xVar 3) (xC (.int 5))) (xCons (xIx (xVar 3) (xC (.int 6))) xNil))))))))) sNext)
    (sSeq (sIfF [] (xB (xOp dEq (xIx (xVar 3) (xC (.int 0))) (xC (.str "drop")))) (sRet false [] (xCall (C 415) (xCons (xIx (xIx (xVar 2) (xIx (xVar 3) (xC (.int 1)))) (xC (.int 0))) xNil))) sNext)
    (sSeq (sIfF [] (xB (xOp dEq (xIx (xVar 3) (xC (.int 0))) (xC (.str "factor")))) (sRet false [] (xCall (C 417) (xCons (xIx (xIx (xVar 2) (xIx (xVar 3) (xC (.int 1)))) (xC (.int 0))) (xCons (xIx (xVar 3) (xC (.int 2))) (xCons (xIx (xVar 3) (xC (.int 3))) (xCons (xIx (xVar 3) (xC (.int 4))) (xCons (xIx (xVar 3) (xC (.int 5))) xNil))))))) sNext)
    (sSeq (sExp [] (xCall (C 296) (xCons (xVar 0) (xCons (xIx (xVar 3) (xC (.int 1))) xNil))))
    (sRet false [] (xCall (C 416) (xCons (xIx (xVar 3) (xC (.int 1))) xNil))))))))))
def b_lines_renumbered (fuel : Nat) (C : Nat → List D → Rs → Out D) : Sx :=
    (sSeq (sIfF [] (xB (xOp dEq (xIx (xVar 0) (xC (.int 0))) (xC (.str "replace")))) (sRet false [] (xTup (xCons (xC (.str "replace")) (xCons (xIx (xVar 1) (xIx (xVar 0) (xC (.int 1)))) (xCons (xIx (xVar 0) (xC (.int 2))) (xCons (xIx (xVar 0) (xC (.int 3))) (xCons (xIx (xVar 1) (xIx (xVar 0) (xC (.int 4)))) (xCons (xIx (xVar 0) (xC (.int 5))) (xCons (xIx (xVar 0) (xC (.int 6))) xNil))))))))) sNext)
    (sSeq (sIfF [] (xB (xOp dIn (xIx (xVar 0) (xC (.int 0))) (xTup (xCons (xC (.str "fill")) (xCons (xC (.str "drop")) (xCons (xC (.str "factor")) xNil)))))) (sRet false [] (xOp dAdd (xTup (xCons (xIx (xVar 0) (xC (.int 0))) (xCons (xIx (xVar 1) (xIx (xVar 0) (xC (.int 1)))) xNil))) (xSl (xVar 0) (xPart (xC (.int 2))) xNoP))) sNext)
    (sRet false [] (xVar 0))))
def b_lines_sources (fuel : Nat) (C : Nat → List D → Rs → Out D) : Sx :=
    (sSeq (sIfF [] (xB (xOp dEq (xIx (xVar 0) (xC (.int 0))) (xC (.str "replace")))) (sRetN [] (xLst' (xCons (xIx (xVar 0) (xC (.int 1))) (xCons (xIx (xVar 0) (xC (.int 4))) xNil)))) sNext)
    (sSeq (sIfF [] (xB (xOp dIn (xIx (xVar 0) (xC (.int 0))) (xTup (xCons (xC (.str "fill")) (xCons (xC (.str "drop")) (xCons (xC (.str "factor")) xNil)))))) (sRetN [] (xLst' (xCons (xIx (xVar 0) (xC (.int 1))) xNil))) sNext)
    (sRetN [] (xLst' xNil))))
def b_matching_match_literal (fuel : Nat) (C : Nat → List D → Rs → Out D) : Sx :=
    (sSeq (sAsgN [3] 3 (xLst' xNil))
    (sSeq (sIfF [3] (xB (xOp dNe (xIx (xVar 0) (xC (.int 0))) (xIx (xVar 1) (xC (.int 0))))) (sRetO 3) sNext)
    (sSeq (sFor [3] (xItems (xTup (xCons (xTup (xCons (xIx (xVar 1) (xC (.int 1))) (xCons (xIx (xVar 1) (xC (.int 2))) xNil))) (xCons (xTup (xCons (xIx (xVar 1) (xC (.int 2))) (xCons (xIx (xVar 1) (xC (.int 1))) xNil))) xNil)))) (gTp 2 (gCons' (gNm 4) (gCons' (gNm 5) gNil'))) (sSeq (sAsg [3] (gNm 6) (xCall (C 305) (xCons (xIx (xVar 0) (xC (.int 1))) (xCons (xVar 4) (xCons (xVar 2) xNil)))))
    (sIfF [3] (xB (xOp dIsNot (xVar 6) (xC .non))) (sSeq (sAsg [3] (gNm 6) (xCall (C 305) (xCons (xIx (xVar 0) (xC (.int 2))) (xCons (xVar 5) (xCons (xVar 6) xNil)))))
    (sIf (xAnd (xB (xOp dIsNot (xVar 6) (xC .non))) (xB (xOp dNotIn (xVar 6) (xVar 3)))) (isOwnL 3 (sApp [3] 3 (xCons (xVar 6) xNil))) sNext)) sNext)))
    (sFrz 3
    (sRet false [] (xVar 3))))))
def b_matching_subsumes (fuel : Nat) (C : Nat → List D → Rs → Out D) : Sx :=
    (sRetD [] (xCallND (C 306) (xCons (xVar 0) (xCons (xVar 1) (xCons (xD xDNew) xNil)))))
def b_matching_variants (fuel : Nat) (C : Nat → List D → Rs → Out D) : Sx :=
    (sRet false [] (xAndV (xOp dIsNot (xCall (C 307) (xCons (xVar 0) (xCons (xVar 1) xNil))) (xC .non)) (xOp dIsNot (xCall (C 307) (xCons (xVar 1) (xCons (xVar 0) xNil))) (xC .non))))
def b_names_fresh_name (fuel : Nat) (C : Nat → List D → Rs → Out D) : Sx :=
    (sSeq (sAsg [] (gNm 2) (xC (.int 1)))
    (sSeq (whileGoF [] (xB (xOp dIn (xOp dAdd (xVar 0) (xCB cStr (xCons (xVar 2) xNil))) (xVar 1))) (sAug 2 (fun i j => i + j) (xC (.int 1))) fuel)
    (sRet false [] (xOp dAdd (xVar 0) (xCB cStr (xCons (xVar 2) xNil))))))
def b_names_has_name_signs (fuel : Nat) (C : Nat → List D → Rs → Out D) : Sx :=
    (sSeq (sIfF [] (xNot (xCh dLe dLe (xC (.int 1)) (xCB cLen (xCons (xVar 0) xNil)) (xC k_LONGEST))) (sRet false [] (xC (.bl false))) sNext)
    (sSeq (sFor [] (xItems (xVar 0)) (gNm 1) (sIfF [] (xAnd (xB (xOp dNotIn (xVar 1) (xC k_SMALL))) (xAnd (xB (xOp dNotIn (xVar 1) (xC k_CAPITAL))) (xB (xOp dNotIn (xVar 1) (xC k_DIGITS))))) (sRet false [] (xC (.bl false))) sNext))
    (sRet false [] (xC (.bl true)))))
def b_names_has_name_signs_v1 (fuel : Nat) (C : Nat → List D → Rs → Out D) : Sx :=
    (sSeq (sIfF [] (xNot (xCh dLe dLe (xC (.int 1)) (xCB cLen (xCons (xVar 0) xNil)) (xC k_LONGEST))) (sRet false [] (xC (.bl false))) sNext)
    (sSeq (sFor [] (xItems (xVar 0)) (gNm 1) (sIfF [] (xAnd (xB (xOp dNotIn (xVar 1) (xC k_SMALL))) (xAnd (xB (xOp dNotIn (xVar 1) (xC k_CAPITAL))) (xB (xOp dNotIn (xVar 1) (xC k_DIGITS_names))))) (sRet false [] (xC (.bl false))) sNext))
    (sRet false [] (xC (.bl true)))))
def b_names_is_capital_name (fuel : Nat) (C : Nat → List D → Rs → Out D) : Sx :=
    (sRet false [] (xAndV (xCall (C 311) (xCons (xVar 0) xNil)) (xOp dIn (xIx (xVar 0) (xC (.int 0))) (xC k_CAPITAL))))
def b_names_is_small_name (fuel : Nat) (C : Nat → List D → Rs → Out D) : Sx :=
    (sRet false [] (xAndV (xCall (C 311) (xCons (xVar 0) xNil)) (xAndV (xOp dIn (xIx (xVar 0) (xC (.int 0))) (xC k_SMALL)) (xOp dNotIn (xVar 0) (xC k_RESERVED)))))
def b_orders_Order_compare (fuel : Nat) (C : Nat → List D → Rs → Out D) : Sx :=
    (sSeq (sIfF [] (xB (xOp dEq (xVar 1) (xVar 2))) (sRet false [] (xC (.int 0))) sNext)
    (sSeq (sIfF [] (xTr (xMeth 16 (C 316) (xVar 0) (xCons (xVar 1) (xCons (xVar 2) xNil)))) (sRet false [] (xC (.int 1))) sNext)
    (sRet false [] (xIf (xTr (xMeth 16 (C 316) (xVar 0) (xCons (xVar 2) (xCons (xVar 1) xNil)))) (xNeg (xC (.int 1))) (xC .non)))))
def b_orders_occurrences (fuel : Nat) (C : Nat → List D → Rs → Out D) : Sx :=
    (sSeq (sIfF [1] (xTr (xCall (C 426) (xCons (xVar 0) xNil))) (sRetN [1] (xLst' (xCons (xVar 0) xNil))) sNext)
    (sSeq (sAsgN [1] 1 (xLst' xNil))
    (sSeq (sFor [1] (xItems (xSl (xVar 0) (xPart (xC (.int 1))) xNoP)) (gNm 2) (isOwnL 1 (sExtN [1] 1 (xCallN (C 320) (xCons (xVar 2) xNil)))))
    (sRetO 1))))
def b_orders_place_among (fuel : Nat) (C : Nat → List D → Rs → Out D) : Sx :=
    (sSeq (sAsg [] (gNm 3) (xC (.int 0)))
    (sSeq (sAsg [] (gNm 4) (xCB cLen (xCons (xVar 1) xNil)))
    (sSeq (whileGoF [] (xB (xOp dLt (xVar 3) (xVar 4))) (sSeq (sAsg [] (gNm 5) (xOp dDiv (xOp dAdd (xVar 3) (xVar 4)) (xC (.int 2))))
    (sIfF [] (xTr (xMeth 16 (C 316) (xVar 0) (xCons (xVar 2) (xCons (xIx (xVar 1) (xVar 5)) xNil)))) (sAsg [] (gNm 3) (xOp dAdd (xVar 5) (xC (.int 1)))) (sAsg [] (gNm 4) (xVar 5)))) fuel)
    (sRet false [] (xVar 3)))))
def b_orders_sorted_terms (fuel : Nat) (C : Nat → List D → Rs → Out D) : Sx :=
    (sSeq (sAsgN [2] 2 (xLst' xNil))
    (sSeq (sFor [2] (xItems (xVar 1)) (gNm 3) (sSeq (sAsgI (gNm 4) (xCall (C 321) (xCons (xVar 0) (xCons (xVar 2) (xCons (xVar 3) xNil)))))
    (sIf (xOr (xB (xOp dEq (xVar 4) (xCB cLen (xCons (xVar 2) xNil)))) (xB (xOp dNe (xIx (xVar 2) (xVar 4)) (xVar 3)))) (isOwnL 2 (sIns [2] 2 (xCons (xVar 4) (xCons (xVar 3) xNil)))) sNext)))
    (sRetO 2)))
def b_partial_Partial___init__ (fuel : Nat) (C : Nat → List D → Rs → Out D) : Sx :=
    (sSeq (sSetF [] 20 0 (xVar 0) (xVar 1))
    (sSeq (sSetF [] 20 1 (xVar 0) (xC (.int 1)))
    (sSeq (sSetF [] 20 2 (xVar 0) (xResD xDNew))
    (sSeq (sAsg [] (gNm 3) (xCall (C 332) (xCons (xVar 1) (xCons (xVar 2) xNil))))
    (sIfF [] (xB (xOp dIsNot (xVar 3) (xC .non))) (sDSetR [] (xFld 20 2 (xVar 0)) (xTup (xCons (xVar 3) (xCons (xTup xNil) xNil))) (xC (.int 0))) sNext)))))
def b_partial_Partial_is_free (fuel : Nat) (C : Nat → List D → Rs → Out D) : Sx :=
    (sSeq (sAsg [] (gTp 2 (gCons' (gNm 2) (gCons' (gNm 3) gNil'))) (xVar 1))
    (sSeq (sIfF [] (xOr (xNot (xTr (xMeth 13 (C 132) (xFld 20 0 (xVar 0)) (xCons (xVar 2) xNil)))) (xOr (xB (xOp dNe (xMeth 13 (C 127) (xFld 20 0 (xVar 0)) (xCons (xVar 2) xNil)) (xCB cLen (xCons (xVar 3) xNil)))) (xDIn (xVar 1) (xFld 20 2 (xVar 0))))) (sRet false [] (xC (.bl false))) sNext)
    (sRet false [] (xCB cAll (xCons (xL (xLc (xItems (xVar 3)) (gNm 4) xYes (xV (xCh dLe dLt (xC (.int 0)) (xVar 4) (xFld 20 1 (xVar 0)))) [4])) xNil)))))
def b_partial_Partial_read_clause (fuel : Nat) (C : Nat → List D → Rs → Out D) : Sx :=
    (sSeq (sAsgN [3] 3 (xLst' xNil))
    (sSeq (sFor [3] (xItems (xVar 1)) (gNm 4) (sSeq (sAsg [3] (gTp 2 (gCons' (gNm 5) (gCons' (gNm 6) gNil'))) (xMeth 20 (C 328) (xVar 0) (xCons (xVar 4) (xCons (xVar 2) xNil))))
    (sSeq (sIfF [3] (xAnd (xB (xOp dEq (xVar 5) (xC (.str "is")))) (xTr (xVar 6))) (sRet false [3] (xTup (xCons (xVar 5) (xCons (xC (.bl true)) xNil)))) sNext)
    (sIf (xAnd (xB (xOp dEq (xVar 5) (xC (.str "blocked")))) (xB (xOp dNotIn (xVar 6) (xVar 3)))) (isOwnL 3 (sApp [3] 3 (xCons (xVar 6) xNil))) sNext))))
    (sFrz 3
    (sSeq (sIfF [] (xTr (xVar 3)) (sRet false [] (xTup (xCons (xC (.str "blocked")) (xCons (xCB cTuple (xCons (xVar 3) xNil)) xNil)))) sNext)
    (sRet false [] (xTup (xCons (xC (.str "is")) (xCons (xC (.bl false)) xNil))))))))
def b_partial_Partial_read_literal (fuel : Nat) (C : Nat → List D → Rs → Out D) : Sx :=
    (sSeq (sAsgN [3] 3 (xLst' xNil))
    (sSeq (sFor [3] (xItems (xSl (xVar 1) (xPart (xC (.int 1))) xNoP)) (gNm 4) (sSeq (sAsg [3] (gTp 2 (gCons' (gNm 5) (gCons' (gNm 6) gNil'))) (xIf (xB (xOp dEq (xVar 4) (xC k_TOP))) (xTup (xCons (xC (.str "is")) (xCons (xC (.bl true)) xNil))) (xMeth 20 (C 329) (xVar 0) (xCons (xVar 4) (xCons (xVar 2) xNil)))))
    (sSeq (sIfF [3] (xB (xOp dEq (xVar 5) (xC (.str "blocked")))) (sRet false [3] (xTup (xCons (xVar 5) (xCons (xVar 6) xNil)))) sNext)
    (isOwnL 3 (sApp [3] 3 (xCons (xVar 6) xNil))))))
    (sFrz 3
    (sRet false [] (xTup (xCons (xC (.str "is")) (xCons (xOp dEq (xOp dEq (xIx (xVar 3) (xC (.int 0))) (xIx (xVar 3) (xC (.int 1)))) (xIx (xVar 1) (xC (.int 0)))) xNil)))))))
def b_partial_Partial_read_term (fuel : Nat) (C : Nat → List D → Rs → Out D) : Sx :=
    (sSeq (sIfF [3] (xTr (xCall (C 426) (xCons (xVar 1) xNil))) (sRet false [3] (xTup (xCons (xC (.str "is")) (xCons (xDGet (xVar 2) (xVar 1)) xNil)))) sNext)
    (sSeq (sAsgN [3] 3 (xLst' xNil))
    (sSeq (sFor [3] (xItems (xSl (xVar 1) (xPart (xC (.int 1))) xNoP)) (gNm 4) (sSeq (sAsg [3] (gTp 2 (gCons' (gNm 5) (gCons' (gNm 6) gNil'))) (xMeth 20 (C 329) (xVar 0) (xCons (xVar 4) (xCons (xVar 2) xNil))))
    (sSeq (sIfF [3] (xB (xOp dEq (xVar 5) (xC (.str "blocked")))) (sRet false [3] (xTup (xCons (xVar 5) (xCons (xVar 6) xNil)))) sNext)
    (isOwnL 3 (sApp [3] 3 (xCons (xVar 6) xNil))))))
    (sFrz 3
    (sSeq (sAsg [] (gNm 7) (xTup (xCons (xIx (xVar 1) (xC (.int 0))) (xCons (xCB cTuple (xCons (xVar 3) xNil)) xNil))))
    (sSeq (sIfF [] (xDIn (xVar 7) (xFld 20 2 (xVar 0))) (sRet false [] (xTup (xCons (xC (.str "is")) (xCons (xDGet (xFld 20 2 (xVar 0)) (xVar 7)) xNil)))) sNext)
    (sRet false [] (xTup (xCons (xC (.str "blocked")) (xCons (xVar 7) xNil))))))))))
def b_partial_first_constant (fuel : Nat) (C : Nat → List D → Rs → Out D) : Sx :=
    (sSeq (sFor [] (xItems (xMeth 13 (C 513) (xVar 0) xNil)) (gNm 2) (sFor [] (xItems (xVar 1)) (gNm 3) (sFor [] (xItems (xVar 3)) (gNm 4) (sIfF [] (xOr (xTr (xCall (C 335) (xCons (xVar 2) (xCons (xIx (xVar 4) (xC (.int 1))) xNil)))) (xTr (xCall (C 335) (xCons (xVar 2) (xCons (xIx (xVar 4) (xC (.int 2))) xNil))))) (sRet false [] (xVar 2)) sNext))))
    (sRet false [] (xC .non)))
def b_partial_rows_of_things (fuel : Nat) (C : Nat → List D → Rs → Out D) : Sx :=
    (sSeq (sAsg [] (gNm 2) (xLst (xCons (xTup xNil) xNil)))
    (sSeq (sFor [] (xRng1 (xCons (xVar 1) xNil)) (gNm 3) (sAsg [] (gNm 2) (xL (xLc2 (xItems (xVar 2)) (gNm 4) (xRng1 (xCons (xVar 0) xNil)) (gNm 5) xYes (xOp dAdd (xVar 4) (xTup (xCons (xVar 5) xNil))) [4, 5] [5]))))
    (sRet false [] (xVar 2))))
def b_partial_stands_in (fuel : Nat) (C : Nat → List D → Rs → Out D) : Sx :=
    (sSeq (sIfF [] (xTr (xCall (C 426) (xCons (xVar 1) xNil))) (sRet false [] (xC (.bl false))) sNext)
    (sRet false [] (xOrV (xOp dEq (xIx (xVar 1) (xC (.int 0))) (xVar 0)) (xCB cAny (xCons (xL (xLc (xItems (xSl (xVar 1) (xPart (xC (.int 1))) xNoP)) (gNm 2) xYes (xCall (C 335) (xCons (xVar 0) (xCons (xVar 2) xNil))) [2])) xNil)))))
def b_questions_independent (fuel : Nat) (C : Nat → List D → Rs → Out D) : Sx :=
    (sSeq (sAsg [] (gNm 3) (xMeth 14 (C 125) (xVar 0) (xCons (xVar 1) xNil)))
    (sSeq (sAsg [] (gNm 4) (xIx (xFld 14 1 (xVar 0)) (xVar 1)))
    (sSeq (sAsg [] (gNm 5) (xLst (xCons (xIx (xCall (C 336) (xCons (xVar 3) (xCons (xVar 4) (xCons (xVar 2) xNil)))) (xC (.int 0))) (xCons (xIx (xCall (C 336) (xCons (xVar 3) (xCons (xTup (xCons (xC (.str "not")) (xCons (xVar 4) xNil))) (xCons (xVar 2) xNil)))) (xC (.int 0))) xNil))))
    (sSeq (sIfF [] (xB (xOp dIn (xC (.str "yes")) (xVar 5))) (sRet false [] (xC (.str "no"))) sNext)
    (sRet false [] (xIf (xB (xOp dIn (xC (.str "open")) (xVar 5))) (xC (.str "open")) (xC (.str "yes"))))))))
def b_questions_part_of_book (fuel : Nat) (C : Nat → List D → Rs → Out D) : Sx :=
    (sRet false [] (xNewF 14 (C 123) (xCons (xFld 14 0 (xVar 0)) (xCons (xL (xLc (xItems (xVar 1)) (gNm 2) xYes (xIx (xFld 14 1 (xVar 0)) (xVar 2)) [2])) xNil))))
def b_reading_Reader_take_arguments (fuel : Nat) (C : Nat → List D → Rs → Out D) : Sx :=
    (sSeq (sAsgN [2] 2 (xLst' xNil))
    (sSeq (sFor [2] (xRng1 (xCons (xVar 1) xNil)) (gNm 3) (sSeq (sExp [2] (xMeth 18 (C 362) (xVar 0) (xCons (xIf (xB (xOp dEq (xVar 3) (xC (.int 0)))) (xTup (xCons (xC (.str "(")) xNil)) (xTup (xCons (xC (.str ",")) xNil))) xNil)))
    (isOwnL 2 (sApp [2] 2 (xCons (xMeth 18 (C 350) (xVar 0) xNil) xNil)))))
    (sSeq (sIfF [2] (xB (xOp dGt (xVar 1) (xC (.int 0)))) (sExp [2] (xMeth 18 (C 362) (xVar 0) (xCons (xTup (xCons (xC (.str ")")) xNil)) xNil))) sNext)
    (sFrz 2
    (sRet false [] (xCB cTuple (xCons (xVar 2) xNil)))))))
def b_reading_Reader_take_equation_v1 (fuel : Nat) (C : Nat → List D → Rs → Out D) : Sx :=
    (sSeq (sAsg [] (gNm 1) (xMeth 18 (C 350) (xVar 0) xNil))
    (sSeq (sAsg [] (gNm 2) (xMeth 18 (C 362) (xVar 0) (xCons (xTup (xCons (xC (.str "=")) (xCons (xC (.str "!=")) xNil))) xNil)))
    (sRet false [] (xTup (xCons (xOp dEq (xVar 2) (xC (.str "="))) (xCons (xVar 1) (xCons (xMeth 18 (C 350) (xVar 0) xNil) xNil)))))))
def b_reading_read_term (fuel : Nat) (C : Nat → List D → Rs → Out D) : Sx :=
    (sSeq (sAsg [] (gNm 3) (xNewR 18 (C 342) (xCons (xCall (C 366) (xCons (xVar 0) xNil)) (xCons (xVar 1) (xCons (xVar 2) xNil)))))
    (sSeq (sAsg [] (gNm 4) (xMeth 18 (C 350) (xVar 3) xNil))
    (sSeq (sExp [] (xMeth 18 (C 362) (xVar 3) (xCons (xTup (xCons (xC k_END) xNil)) xNil)))
    (sRet false [] (xVar 4)))))
def b_reducing_is_needless (fuel : Nat) (C : Nat → List D → Rs → Out D) : Sx :=
    (sSeq (sAsg [] (gNm 2) (xIx (xVar 0) (xVar 1)))
    (sSeq (sIfF [] (xTr (xCall (C 153) (xCons (xVar 2) xNil))) (sRet false [] (xC (.bl true))) sNext)
    (sSeq (sFor [] (xRng1 (xCons (xCB cLen (xCons (xVar 0) xNil)) xNil)) (gNm 3) (sIfF [] (xAnd (xB (xOp dNe (xVar 3) (xVar 1))) (xB (xOp dIsNot (xCall (C 307) (xCons (xIx (xVar 0) (xVar 3)) (xCons (xVar 2) xNil))) (xC .non)))) (sIfF [] (xOr (xB (xOp dLt (xVar 3) (xVar 1))) (xB (xOp dIs (xCall (C 307) (xCons (xVar 2) (xCons (xIx (xVar 0) (xVar 3)) xNil))) (xC .non)))) (sRet false [] (xC (.bl true))) sNext) sNext))
    (sRet false [] (xC (.bl false))))))
def b_reducing_needed_clauses (fuel : Nat) (C : Nat → List D → Rs → Out D) : Sx :=
    (sRetN [] (xLc (xRng1 (xCons (xCB cLen (xCons (xVar 0) xNil)) xNil)) (gNm 1) (xNot (xTr (xCall (C 354) (xCons (xVar 0) (xCons (xVar 1) xNil))))) (xVar 1) [1]))
def b_rewriting_literal_true_by (fuel : Nat) (C : Nat → List D → Rs → Out D) : Sx :=
    (sRet false [] (xOp dEq (xOp dEq (xCall (C 357) (xCons (xVar 0) (xCons (xIx (xVar 1) (xC (.int 1))) xNil))) (xCall (C 357) (xCons (xVar 0) (xCons (xIx (xVar 1) (xC (.int 2))) xNil)))) (xIx (xVar 1) (xC (.int 0)))))
def b_rewriting_normal (fuel : Nat) (C : Nat → List D → Rs → Out D) : Sx :=
    (sSeq (sAsg [] (gNm 1) (xOp dAdd (xTup (xCons (xIx (xVar 1) (xC (.int 0))) xNil)) (xCB cTuple (xCons (xL (xLc (xItems (xSl (xVar 1) (xPart (xC (.int 1))) xNoP)) (gNm 2) xYes (xCall (C 357) (xCons (xVar 0) (xCons (xVar 2) xNil))) [2])) xNil))))
    (sSeq (sFor [] (xItems (xVar 0)) (gTp 2 (gCons' (gNm 3) (gCons' (gNm 4) gNil'))) (sIfF [] (xB (xOp dEq (xVar 3) (xVar 1))) (sRet false [] (xCall (C 357) (xCons (xVar 0) (xCons (xVar 4) xNil)))) sNext))
    (sRet false [] (xVar 1))))
def b_rewriting_true_by (fuel : Nat) (C : Nat → List D → Rs → Out D) : Sx :=
    (sSeq (sFor [] (xItems (xVar 1)) (gNm 2) (sIfF [] (xTr (xCall (C 356) (xCons (xVar 0) (xCons (xVar 2) xNil)))) (sRet false [] (xC (.bl true))) sNext))
    (sRet false [] (xC (.bl false))))
def b_scanning_Words___init__ (fuel : Nat) (C : Nat → List D → Rs → Out D) : Sx :=
    (sSeq (sSetF [] 17 0 (xVar 0) (xVar 1))
    (sSetF [] 17 1 (xVar 0) (xC (.int 0))))
def b_scanning_Words_present (fuel : Nat) (C : Nat → List D → Rs → Out D) : Sx :=
    (sRet false [] (xIx (xIx (xFld 17 0 (xVar 0)) (xFld 17 1 (xVar 0))) (xC (.int 0))))
def b_scanning_is_name_sign (fuel : Nat) (C : Nat → List D → Rs → Out D) : Sx :=
    (sRet false [] (xOrV (xOp dIn (xVar 0) (xC k_SMALL)) (xOrV (xOp dIn (xVar 0) (xC k_CAPITAL)) (xOp dIn (xVar 0) (xC k_DIGITS)))))
def b_scanning_is_name_sign_v1 (fuel : Nat) (C : Nat → List D → Rs → Out D) : Sx :=
    (sRet false [] (xOrV (xOp dIn (xVar 0) (xC k_SMALL)) (xOrV (xOp dIn (xVar 0) (xC k_CAPITAL)) (xOp dIn (xVar 0) (xC k_DIGITS_names)))))
def b_scanning_line_words (fuel : Nat) (C : Nat → List D → Rs → Out D) : Sx :=
    (sSeq (sAsgN [2] 2 (xLst' xNil))
    (sSeq (sAsg [2] (gNm 3) (xC (.int 0)))
    (sSeq (whileGoF [2] (xB (xOp dLt (xVar 3) (xCB cLen (xCons (xVar 0) xNil)))) (sSeq (sAsg [2] (gNm 4) (xCall (C 367) (xCons (xVar 0) (xCons (xVar 3) xNil))))
    (sIfF [2] (xB (xOp dGt (xVar 4) (xVar 3))) (sSeq (isOwnL 2 (sApp [2] 2 (xCons (xTup (xCons (xSl (xVar 0) (xPart (xVar 3)) (xPart (xVar 4))) (xCons (xVar 1) (xCons (xOp dAdd (xVar 3) (xC (.int 1))) xNil)))) xNil)))
    (sAsg [2] (gNm 3) (xVar 4))) (sIfF [2] (xB (xOp dEq (xIx (xVar 0) (xVar 3)) (xC (.str " ")))) (sAug 3 (fun i j => i + j) (xC (.int 1))) (sSeq (isOwnL 2 (sApp [2] 2 (xCons (xTup (xCons (xC k_FAULT) (xCons (xVar 1) (xCons (xOp dAdd (xVar 3) (xC (.int 1))) xNil)))) xNil)))
    (sRetO 2))))) fuel)
    (sSeq (isOwnL 2 (sApp [2] 2 (xCons (xTup (xCons (xC k_END) (xCons (xVar 1) (xCons (xOp dAdd (xCB cLen (xCons (xVar 0) xNil)) (xC (.int 1))) xNil)))) xNil)))
    (sFrz 2
    (sRet false [] (xVar 2)))))))
def b_scanning_word_end (fuel : Nat) (C : Nat → List D → Rs → Out D) : Sx :=
    (sSeq (sAsg [] (gNm 2) (xVar 1))
    (sSeq (whileGoF [] (xAnd (xB (xOp dLt (xVar 2) (xCB cLen (xCons (xVar 0) xNil)))) (xTr (xCall (C 363) (xCons (xIx (xVar 0) (xVar 2)) xNil)))) (sAug 2 (fun i j => i + j) (xC (.int 1))) fuel)
    (sSeq (sIfF [] (xB (xOp dGt (xVar 2) (xVar 1))) (sRet false [] (xVar 2)) sNext)
    (sSeq (sIfF [] (xB (xOp dIn (xIx (xVar 0) (xVar 1)) (xC k_MARKS))) (sRet false [] (xOp dAdd (xVar 1) (xC (.int 1)))) sNext)
    (sSeq (sIfF [] (xB (xOp dEq (xSl (xVar 0) (xPart (xVar 1)) (xPart (xOp dAdd (xVar 1) (xC (.int 2))))) (xC (.str "!=")))) (sRet false [] (xOp dAdd (xVar 1) (xC (.int 2)))) sNext)
    (sRet false [] (xVar 1)))))))
def b_sentences_atom_terms (fuel : Nat) (C : Nat → List D → Rs → Out D) : Sx :=
    (sSeq (sIfF [] (xB (xOp dEq (xIx (xVar 0) (xC (.int 0))) (xC (.str "holds")))) (sRet false [] (xSl (xIx (xVar 0) (xC (.int 1))) (xPart (xC (.int 1))) xNoP)) sNext)
    (sRet false [] (xSl (xVar 0) (xPart (xC (.int 1))) xNoP)))
def b_sentences_atoms_in (fuel : Nat) (C : Nat → List D → Rs → Out D) : Sx :=
    (sSeq (sIfF [1] (xB (xOp dIn (xIx (xVar 0) (xC (.int 0))) (xTup (xCons (xC (.str "holds")) (xCons (xC (.str "same")) xNil))))) (sRetN [1] (xLst' (xCons (xVar 0) xNil))) sNext)
    (sSeq (sAsgN [1] 1 (xLst' xNil))
    (sSeq (sFor [1] (xItems (xCall (C 371) (xCons (xVar 0) xNil))) (gNm 2) (isOwnL 1 (sExt [1] 1 (xCons (xCall (C 369) (xCons (xVar 2) xNil)) xNil))))
    (sFrz 1
    (sRet false [] (xVar 1))))))
def b_sentences_children (fuel : Nat) (C : Nat → List D → Rs → Out D) : Sx :=
    (sSeq (sIfF [] (xB (xOp dEq (xIx (xVar 0) (xC (.int 0))) (xC (.str "not")))) (sRet false [] (xTup (xCons (xIx (xVar 0) (xC (.int 1))) xNil))) sNext)
    (sSeq (sIfF [] (xB (xOp dIn (xIx (xVar 0) (xC (.int 0))) (xC k_PAIRS))) (sRet false [] (xTup (xCons (xIx (xVar 0) (xC (.int 1))) (xCons (xIx (xVar 0) (xC (.int 2))) xNil)))) sNext)
    (sSeq (sIfF [] (xB (xOp dIn (xIx (xVar 0) (xC (.int 0))) (xC k_BINDERS))) (sRet false [] (xTup (xCons (xIx (xVar 0) (xC (.int 2))) xNil))) sNext)
    (sRet false [] (xTup xNil)))))
def b_sentences_free_unknowns (fuel : Nat) (C : Nat → List D → Rs → Out D) : Sx :=
    (sSeq (sAsgN [1] 1 (xLst' xNil))
    (sSeq (sIfF [1] (xB (xOp dIn (xIx (xVar 0) (xC (.int 0))) (xTup (xCons (xC (.str "holds")) (xCons (xC (.str "same")) xNil))))) (sSeq (sFor [1] (xItems (xCall (C 368) (xCons (xVar 0) xNil))) (gNm 2) (sFor [1] (xItems (xCall (C 433) (xCons (xVar 2) xNil))) (gNm 3) (sIf (xB (xOp dNotIn (xVar 3) (xVar 1))) (isOwnL 1 (sApp [1] 1 (xCons (xVar 3) xNil))) sNext)))
    (sRetO 1)) sNext)
    (sSeq (sFor [1] (xItems (xCall (C 371) (xCons (xVar 0) xNil))) (gNm 4) (sFor [1] (xItems (xCall (C 373) (xCons (xVar 4) xNil))) (gNm 3) (sIf (xAnd (xB (xOp dNotIn (xVar 3) (xVar 1))) (xNot (xAnd (xB (xOp dIn (xIx (xVar 0) (xC (.int 0))) (xC k_BINDERS))) (xB (xOp dEq (xVar 3) (xIx (xVar 0) (xC (.int 1)))))))) (isOwnL 1 (sApp [1] 1 (xCons (xVar 3) xNil))) sNext)))
    (sRetO 1))))
def b_sentences_replace_sentence_at (fuel : Nat) (C : Nat → List D → Rs → Out D) : Sx :=
    (sSeq (sIfF [3] (xNot (xTr (xVar 1))) (sRet false [3] (xVar 2)) sNext)
    (sSeq (sAsgN [3] 3 (xListN (xCons (xCall (C 371) (xCons (xVar 0) xNil)) xNil)))
    (sSeq (sIf (xNot (xCh dLe dLt (xC (.int 0)) (xIx (xVar 1) (xC (.int 0))) (xCB cLen (xCons (xVar 3) xNil)))) (sRaise 6) sNext)
    (sSeq (isOwnL 3 (sSetOI 3 (xIx (xVar 1) (xC (.int 0))) (xCall (C 375) (xCons (xIx (xVar 3) (xIx (xVar 1) (xC (.int 0)))) (xCons (xSl (xVar 1) (xPart (xC (.int 1))) xNoP) (xCons (xVar 2) xNil))))))
    (sFrz 3
    (sRet false [] (xCall (C 378) (xCons (xVar 0) (xCons (xVar 3) xNil)))))))))
def b_sentences_sentence_at (fuel : Nat) (C : Nat → List D → Rs → Out D) : Sx :=
    (sSeq (sFor [] (xItems (xVar 1)) (gNm 2) (sSeq (sAsg [] (gNm 3) (xCall (C 371) (xCons (xVar 0) xNil)))
    (sSeq (sIfF [] (xNot (xCh dLe dLt (xC (.int 0)) (xVar 2) (xCB cLen (xCons (xVar 3) xNil)))) (sRaise 6) sNext)
    (sAsg [] (gNm 0) (xIx (xVar 3) (xVar 2))))))
    (sRet false [] (xVar 0)))
def b_sentences_sentence_places (fuel : Nat) (C : Nat → List D → Rs → Out D) : Sx :=
    (sSeq (sAsgN [1] 1 (xLst' (xCons (xTup xNil) xNil)))
    (sSeq (sAsg [1] (gNm 2) (xCall (C 371) (xCons (xVar 0) xNil)))
    (sSeq (sFor [1] (xRng1 (xCons (xCB cLen (xCons (xVar 2) xNil)) xNil)) (gNm 3) (sFor [1] (xItems (xCall (C 377) (xCons (xIx (xVar 2) (xVar 3)) xNil))) (gNm 4) (isOwnL 1 (sApp [1] 1 (xCons (xOp dAdd (xTup (xCons (xVar 3) xNil)) (xVar 4)) xNil)))))
    (sFrz 1
    (sRet false [] (xVar 1))))))
def b_sentences_with_children (fuel : Nat) (C : Nat → List D → Rs → Out D) : Sx :=
    (sSeq (sIfF [] (xB (xOp dIn (xIx (xVar 0) (xC (.int 0))) (xC k_BINDERS))) (sRet false [] (xTup (xCons (xIx (xVar 0) (xC (.int 0))) (xCons (xIx (xVar 0) (xC (.int 1))) (xCons (xIx (xVar 1) (xC (.int 0))) xNil))))) sNext)
    (sSeq (sIfF [] (xOr (xB (xOp dEq (xIx (xVar 0) (xC (.int 0))) (xC (.str "not")))) (xB (xOp dIn (xIx (xVar 0) (xC (.int 0))) (xC k_PAIRS)))) (sRet false [] (xOp dAdd (xTup (xCons (xIx (xVar 0) (xC (.int 0))) xNil)) (xCB cTuple (xCons (xVar 1) xNil)))) sNext)
    (sRet false [] (xVar 0))))
def b_shaping_can_narrow (fuel : Nat) (C : Nat → List D → Rs → Out D) : Sx :=
    (sRet false [] (xOp dIsNot (xCall (C 384) (xCons (xVar 0) xNil)) (xC .non)))
def b_shaping_can_unfold (fuel : Nat) (C : Nat → List D → Rs → Out D) : Sx :=
    (sSeq (sIfF [] (xB (xOp dEq (xIx (xVar 0) (xC (.int 0))) (xC (.str "not")))) (sRet false [] (xOp dNotIn (xIx (xIx (xVar 0) (xC (.int 1))) (xC (.int 0))) (xC k_BASIC))) sNext)
    (sRet false [] (xOp dIn (xIx (xVar 0) (xC (.int 0))) (xC k_UNFOLDED))))
def b_shaping_changed_part (fuel : Nat) (C : Nat → List D → Rs → Out D) : Sx :=
    (sSeq (sIfF [] (xB (xOp dIn (xVar 0) (xC k_UNFOLDED))) (sRet false [] (xIf (xB (xOp dEq (xIx (xVar 1) (xC (.int 0))) (xVar 0))) (xCall (C 391) (xCons (xVar 1) xNil)) (xC .non))) sNext)
    (sSeq (sIfF [] (xB (xOp dEq (xVar 0) (xC (.str "narrow")))) (sRet false [] (xCall (C 384) (xCons (xVar 1) xNil))) sNext)
    (sSeq (sIfF [] (xB (xOp dEq (xVar 0) (xC (.str "apart")))) (sRet false [] (xCall (C 388) (xCons (xVar 1) (xCons (xVar 2) xNil)))) sNext)
    (sSeq (sIfF [] (xB (xOp dEq (xVar 0) (xC (.str "choose")))) (sRet false [] (xCall (C 382) (xCons (xVar 1) (xCons (xVar 2) xNil)))) sNext)
    (sRet false [] (xC .non))))))
def b_shaping_chosen_body (fuel : Nat) (C : Nat → List D → Rs → Out D) : Sx :=
    (sSeq (sIfF [] (xOr (xB (xOp dNe (xIx (xVar 0) (xC (.int 0))) (xC (.str "some")))) (xNot (xTr (xCall (C 313) (xCons (xVar 1) xNil))))) (sRet false [] (xC .non)) sNext)
    (sSeq (sAsg [] (gNm 2) (xCall (C 373) (xCons (xVar 0) xNil)))
    (sSeq (sAsg [] (gNm 3) (xCall (C 370) (xCons (xIx (xVar 0) (xC (.int 2))) xNil)))
    (sSeq (sIfF [] (xOr (xB (xOp dGt (xCB cLen (xCons (xVar 2) xNil)) (xC k_MOST_ARGUMENTS))) (xTr (xL (xLc (xItems (xOp dAdd (xLst (xCons (xIx (xVar 0) (xC (.int 1))) xNil)) (xVar 2))) (gNm 4) (xB (xOp dIn (xVar 4) (xVar 3))) (xVar 4) [4])))) (sRet false [] (xC .non)) sNext)
    (sRet false [] (xCall (C 372) (xCons (xIx (xVar 0) (xC (.int 2))) (xCons (xD (xDisp [((xIx (xVar 0) (xC (.int 1))), (xOp dAdd (xTup (xCons (xVar 1) xNil)) (xCB cTuple (xCons (xVar 2) xNil))))])) xNil))))))))
def b_shaping_narrowed (fuel : Nat) (C : Nat → List D → Rs → Out D) : Sx :=
    (sSeq (sIfF [] (xB (xOp dNotIn (xIx (xVar 0) (xC (.int 0))) (xC k_BINDERS))) (sRet false [] (xC .non)) sNext)
    (sSeq (sAsg [] (gTp 3 (gCons' (gNm 1) (gCons' (gNm 2) (gCons' (gNm 3) gNil')))) (xVar 0))
    (sSeq (sIfF [] (xB (xOp dNotIn (xVar 2) (xCall (C 373) (xCons (xVar 3) xNil)))) (sRet false [] (xVar 3)) sNext)
    (sSeq (sIfF [] (xB (xOp dNotIn (xIx (xVar 3) (xC (.int 0))) (xTup (xCons (xC (.str "and")) (xCons (xC (.str "or")) xNil))))) (sRet false [] (xC .non)) sNext)
    (sSeq (sAsg [] (gTp 3 (gCons' (gNm 4) (gCons' (gNm 5) (gCons' (gNm 6) gNil')))) (xVar 3))
    (sSeq (sIfF [] (xAnd (xB (xOp dEq (xVar 1) (xC (.str "all")))) (xB (xOp dEq (xVar 4) (xC (.str "and"))))) (sRet false [] (xTup (xCons (xC (.str "and")) (xCons (xTup (xCons (xC (.str "all")) (xCons (xVar 2) (xCons (xVar 5) xNil)))) (xCons (xTup (xCons (xC (.str "all")) (xCons (xVar 2) (xCons (xVar 6) xNil)))) xNil))))) sNext)
    (sSeq (sIfF [] (xB (xOp dNotIn (xVar 2) (xCall (C 373) (xCons (xVar 5) xNil)))) (sRet false [] (xTup (xCons (xVar 4) (xCons (xVar 5) (xCons (xTup (xCons (xVar 1) (xCons (xVar 2) (xCons (xVar 6) xNil)))) xNil))))) sNext)
    (sSeq (sIfF [] (xB (xOp dNotIn (xVar 2) (xCall (C 373) (xCons (xVar 6) xNil)))) (sRet false [] (xTup (xCons (xVar 4) (xCons (xTup (xCons (xVar 1) (xCons (xVar 2) (xCons (xVar 5) xNil)))) (xCons (xVar 6) xNil))))) sNext)
    (sRet false [] (xC .non))))))))))
def b_shaping_negation_form (fuel : Nat) (C : Nat → List D → Rs → Out D) : Sx :=
    (sRet false [] (xCall (C 389) (xCons (xVar 0) (xCons (xC (.bl true)) xNil))))
def b_shaping_renamed_binder (fuel : Nat) (C : Nat → List D → Rs → Out D) : Sx :=
    (sSeq (sIfF [] (xOr (xB (xOp dNotIn (xIx (xVar 0) (xC (.int 0))) (xC k_BINDERS))) (xNot (xTr (xCall (C 313) (xCons (xVar 1) xNil))))) (sRet false [] (xC .non)) sNext)
    (sSeq (sIfF [] (xOr (xB (xOp dIn (xVar 1) (xCall (C 370) (xCons (xVar 0) xNil)))) (xB (xOp dIn (xVar 1) (xCall (C 373) (xCons (xVar 0) xNil))))) (sRet false [] (xC .non)) sNext)
    (sRet false [] (xTup (xCons (xIx (xVar 0) (xC (.int 0))) (xCons (xVar 1) (xCons (xCall (C 372) (xCons (xIx (xVar 0) (xC (.int 2))) (xCons (xD (xDisp [((xIx (xVar 0) (xC (.int 1))), (xVar 1))])) xNil))) xNil)))))))
def b_shaping_signed_form (fuel : Nat) (C : Nat → List D → Rs → Out D) : Sx :=
    (sSeq (sAsg [] (gNm 2) (xIx (xVar 0) (xC (.int 0))))
    (sSeq (sIfF [] (xB (xOp dIn (xVar 2) (xC k_BASIC))) (sRet false [] (xIf (xTr (xVar 1)) (xVar 0) (xTup (xCons (xC (.str "not")) (xCons (xVar 0) xNil))))) sNext)
    (sSeq (sIfF [] (xB (xOp dEq (xVar 2) (xC (.str "not")))) (sRet false [] (xCall (C 389) (xCons (xIx (xVar 0) (xC (.int 1))) (xCons (xNotV (xVar 1)) xNil)))) sNext)
    (sSeq (sIfF [] (xB (xOp dIn (xVar 2) (xC k_BINDERS))) (sRet false [] (xTup (xCons (xIf (xTr (xVar 1)) (xVar 2) (xKD k_OTHER (xVar 2))) (xCons (xIx (xVar 0) (xC (.int 1))) (xCons (xCall (C 389) (xCons (xIx (xVar 0) (xC (.int 2))) (xCons (xVar 1) xNil))) xNil))))) sNext)
    (sSeq (sPar [] 3 4 (xCons (xIx (xVar 0) (xC (.int 1))) (xCons (xIx (xVar 0) (xC (.int 2))) xNil)))
    (sSeq (sIfF [] (xB (xOp dEq (xVar 2) (xC (.str "iff")))) (sSeq (sPar [] 5 6 (xCons (xTup (xCons (xC (.str "implies")) (xCons (xVar 3) (xCons (xVar 4) xNil)))) (xCons (xTup (xCons (xC (.str "implies")) (xCons (xVar 4) (xCons (xVar 3) xNil)))) xNil)))
    (sRet false [] (xTup (xCons (xIf (xTr (xVar 1)) (xC (.str "and")) (xC (.str "or"))) (xCons (xCall (C 389) (xCons (xVar 5) (xCons (xVar 1) xNil))) (xCons (xCall (C 389) (xCons (xVar 6) (xCons (xVar 1) xNil))) xNil)))))) sNext)
    (sSeq (sIfF [] (xB (xOp dEq (xVar 2) (xC (.str "implies")))) (sRet false [] (xTup (xCons (xIf (xTr (xVar 1)) (xC (.str "or")) (xC (.str "and"))) (xCons (xCall (C 389) (xCons (xVar 3) (xCons (xNotV (xVar 1)) xNil))) (xCons (xCall (C 389) (xCons (xVar 4) (xCons (xVar 1) xNil))) xNil))))) sNext)
    (sRet false [] (xTup (xCons (xIf (xTr (xVar 1)) (xVar 2) (xKD k_OTHER (xVar 2))) (xCons (xCall (C 389) (xCons (xVar 3) (xCons (xVar 1) xNil))) (xCons (xCall (C 389) (xCons (xVar 4) (xCons (xVar 1) xNil))) xNil))))))))))))
def b_shrinking_cut_world (fuel : Nat) (C : Nat → List D → Rs → Out D) : Sx :=
    (sSeq (sAsg [4] (gNm 2) (xD (xDc (xRng1 (xCons (xCB cLen (xCons (xVar 1) xNil)) xNil)) (gNm 3) xYes (xIx (xVar 1) (xVar 3)) (xVar 3) [3])))
    (sSeq (sAsgD [4] 4 xDNew)
    (sSeq (sFor [4] (xItems (xFld 13 0 (xFld 15 0 (xVar 0)))) (gTp 2 (gCons' (gNm 5) (gCons' (gNm 6) gNil'))) (isOwnD 4 (sDPut' [4] 4 (xVar 5) (xL (xLc (xItems (xCall (C 410) (xCons (xVar 1) (xCons (xVar 6) xNil)))) (gNm 7) xYes (xDGet2 (xVar 2) (xMeth 15 (C 489) (xVar 0) (xCons (xVar 5) (xCons (xVar 7) xNil))) (xC (.int 0))) [7])))))
    (sSeq (sFor [4] (xItems (xFld 13 1 (xFld 15 0 (xVar 0)))) (gTp 2 (gCons' (gNm 5) (gCons' (gNm 6) gNil'))) (isOwnD 4 (sDPut' [4] 4 (xVar 5) (xL (xLc (xItems (xCall (C 410) (xCons (xVar 1) (xCons (xVar 6) xNil)))) (gNm 7) xYes (xMeth 15 (C 486) (xVar 0) (xCons (xVar 5) (xCons (xVar 7) xNil))) [7])))))
    (sFrz 4
    (sRet false [] (xNewF 15 (C 483) (xCons (xFld 15 0 (xVar 0)) (xCons (xCB cLen (xCons (xVar 1) xNil)) (xCons (xVar 4) xNil))))))))))
def b_shrinking_shrink (fuel : Nat) (C : Nat → List D → Rs → Out D) : Sx :=
    (sSeq (sIfF [] (xB (xOp dNotIn (xVar 1) (xCall (C 278) (xCons (xVar 0) xNil)))) (sRaise 10) sNext)
    (sSeq (sIfF [] (xNot (xTr (xCall (C 476) (xCons (xVar 2) (xCons (xVar 0) xNil))))) (sRaise 8) sNext)
    (sSeq (sIfF [] (xB (xOp dEq (xVar 1) (xC (.str "prefix")))) (sRet false [] (xCall (C 392) (xCons (xVar 2) (xCons (xCall (C 394) (xCons (xVar 0) (xCons (xVar 2) xNil))) xNil)))) sNext)
    (sSeq (sIfF [] (xB (xOp dEq (xVar 1) (xC (.str "single")))) (sRet false [] (xCall (C 392) (xCons (xVar 2) (xCons (xCall (C 404) (xCons (xNewF 25 (C 397) (xCons (xVar 0) xNil)) (xCons (xVar 2) xNil))) xNil)))) sNext)
    (sSeq (sIfF [] (xB (xOp dEq (xVar 1) (xC (.str "linked")))) (sRet false [] (xCall (C 393) (xCons (xVar 2) (xCons (xCall (C 283) (xCons (xFld 13 1 (xFld 14 0 (xVar 0))) (xCons (xCall (C 282) (xCons (xVar 0) xNil)) (xCons (xC (.int 1)) xNil)))) xNil)))) sNext)
    (sRet false [] (xVar 2)))))))
def b_sorts_case_of (fuel : Nat) (C : Nat → List D → Rs → Out D) : Sx :=
    (sRet false [] (xCall (C 398) (xCons (xNewF 25 (C 397) (xCons (xVar 0) xNil)) (xCons (xVar 1) xNil))))
def b_sorts_case_size (fuel : Nat) (C : Nat → List D → Rs → Out D) : Sx :=
    (sRet false [] (xOp dAdd (xCB cLen (xCons (xIx (xVar 0) (xC (.int 2))) xNil)) (xCB cSum (xCons (xIx (xVar 0) (xC (.int 3))) xNil))))
def b_sorts_cases_of (fuel : Nat) (C : Nat → List D → Rs → Out D) : Sx :=
    (sRetN [] (xCallN (C 406) (xCons (xNewF 25 (C 397) (xCons (xVar 0) xNil)) xNil)))
def b_sorts_cell_count (fuel : Nat) (C : Nat → List D → Rs → Out D) : Sx :=
    (sSeq (sAsg [] (gNm 2) (xC (.int 1)))
    (sSeq (sFor [] (xRng1 (xCons (xVar 1) xNil)) (gNm 3) (sAsg [] (gNm 2) (xOp dMul (xVar 2) (xVar 0))))
    (sRet false [] (xVar 2))))
def b_sorts_has_digit (fuel : Nat) (C : Nat → List D → Rs → Out D) : Sx :=
    (sSeq (sFor [] (xRng1 (xCons (xVar 1) xNil)) (gNm 2) (sAsg [] (gNm 0) (xOp dDiv (xVar 0) (xC (.int 2)))))
    (sRet false [] (xOp dEq (xOp dMod (xCB cInt (xCons (xVar 0) xNil)) (xC (.int 2))) (xC (.int 1)))))
def b_sorts_rows_of (fuel : Nat) (C : Nat → List D → Rs → Out D) : Sx :=
    (sSeq (sAsg [] (gNm 2) (xLst (xCons (xTup xNil) xNil)))
    (sSeq (sFor [] (xRng1 (xCons (xVar 1) xNil)) (gNm 3) (sAsg [] (gNm 2) (xL (xLc2 (xItems (xVar 2)) (gNm 4) (xItems (xVar 0)) (gNm 5) xYes (xOp dAdd (xVar 4) (xTup (xCons (xVar 5) xNil))) [4, 5] [5]))))
    (sRet false [] (xVar 2))))
def b_sorts_small_world (fuel : Nat) (C : Nat → List D → Rs → Out D) : Sx :=
    (sRet false [] (xCall (C 414) (xCons (xNewF 25 (C 397) (xCons (xVar 0) xNil)) (xCons (xVar 1) xNil))))
def b_sorts_sort_of (fuel : Nat) (C : Nat → List D → Rs → Out D) : Sx :=
    (sSeq (sAsg [] (gNm 3) (xC (.int 0)))
    (sSeq (sFor [] (xItems (xVar 1)) (gNm 4) (sAsg [] (gNm 3) (xOp dAdd (xOp dMul (xC (.int 2)) (xVar 3)) (xIf (xTr (xMeth 15 (C 486) (xVar 0) (xCons (xVar 4) (xCons (xTup (xCons (xVar 2) xNil)) xNil)))) (xC (.int 1)) (xC (.int 0))))))
    (sRet false [] (xVar 3))))
def b_steps_drop_step (fuel : Nat) (C : Nat → List D → Rs → Out D) : Sx :=
    (sRet false [] (xCall (C 162) (xCons (xL (xLc (xItems (xVar 0)) (gNm 1) (xOr (xTr (xIx (xVar 1) (xC (.int 0)))) (xB (xOp dNe (xIx (xVar 1) (xC (.int 1))) (xIx (xVar 1) (xC (.int 2)))))) (xVar 1) [1])) xNil)))
def b_steps_either_step (fuel : Nat) (C : Nat → List D → Rs → Out D) : Sx :=
    (sSeq (sAsg [] (gNm 1) (xCall (C 163) (xCons (xIx (xVar 0) (xC (.int 0))) (xCons (xIx (xVar 0) (xC (.int 1))) (xCons (xIx (xVar 0) (xC (.int 2))) xNil)))))
    (sSeq (sIfF [] (xNot (xTr (xCall (C 159) (xCons (xVar 1) xNil)))) (sRaise 7) sNext)
    (sRet false [] (xCall (C 162) (xCons (xLst (xCons (xVar 1) (xCons (xCall (C 164) (xCons (xVar 1) xNil)) xNil))) xNil)))))
def b_steps_factor_step (fuel : Nat) (C : Nat → List D → Rs → Out D) : Sx :=
    (sSeq (sIfF [] (xB (xOp dEq (xVar 1) (xVar 3))) (sRaise 7) sNext)
    (sSeq (sAsg [] (gTp 2 (gCons' (gNm 5) (gCons' (gNm 6) gNil'))) (xCall (C 421) (xCons (xVar 0) (xCons (xVar 1) (xCons (xVar 2) xNil)))))
    (sSeq (sAsg [] (gTp 2 (gCons' (gNm 7) (gCons' (gNm 8) gNil'))) (xCall (C 421) (xCons (xVar 0) (xCons (xVar 3) (xCons (xVar 4) xNil)))))
    (sSeq (sIfF [] (xB (xOp dNe (xVar 5) (xVar 7))) (sRaise 7) sNext)
    (sRet false [] (xCall (C 162) (xCons (xOp dAdd (xCall (C 420) (xCons (xVar 0) (xCons (xVar 1) xNil))) (xLst (xCons (xCall (C 163) (xCons (xC (.bl false)) (xCons (xVar 6) (xCons (xVar 8) xNil)))) xNil))) xNil)))))))
def b_steps_fill_step (fuel : Nat) (C : Nat → List D → Rs → Out D) : Sx :=
    (sSeq (sAsgD [2] 2 xDNew)
    (sSeq (sFor [2] (xItems (xVar 1)) (gTp 2 (gCons' (gNm 3) (gCons' (gNm 4) gNil'))) (sSeq (sIf (xOr (xNot (xTr (xCall (C 426) (xCons (xVar 3) xNil)))) (xOr (xDIn (xVar 3) (xVar 2)) (xNot (xTr (xCall (C 425) (xCons (xVar 4) xNil)))))) (sRaise 7) sNext)
    (isOwnD 2 (sDPut' [2] 2 (xVar 3) (xVar 4)))))
    (sFrz 2
    (sRet false [] (xCall (C 156) (xCons (xVar 0) (xCons (xVar 2) xNil)))))))
def b_steps_literal_of (fuel : Nat) (C : Nat → List D → Rs → Out D) : Sx :=
    (sSeq (sIfF [] (xNot (xCh dLe dLt (xC (.int 0)) (xVar 1) (xCB cLen (xCons (xVar 0) xNil)))) (sRaise 7) sNext)
    (sRet false [] (xIx (xVar 0) (xVar 1))))
def b_steps_other_literals (fuel : Nat) (C : Nat → List D → Rs → Out D) : Sx :=
    (sRetN [] (xLc (xRng1 (xCons (xCB cLen (xCons (xVar 0) xNil)) xNil)) (gNm 2) (xB (xOp dNe (xVar 2) (xVar 1))) (xIx (xVar 0) (xVar 2)) [2]))
def b_steps_positive_sides (fuel : Nat) (C : Nat → List D → Rs → Out D) : Sx :=
    (sSeq (sAsg [] (gNm 3) (xCall (C 419) (xCons (xVar 0) (xCons (xVar 1) xNil))))
    (sSeq (sIfF [] (xOr (xNot (xTr (xIx (xVar 3) (xC (.int 0))))) (xOr (xB (xOp dNotIn (xVar 2) (xTup (xCons (xC (.int 0)) (xCons (xC (.int 1)) xNil))))) (xB (xOp dEq (xIx (xVar 3) (xOp dAdd (xC (.int 1)) (xVar 2))) (xC k_TOP))))) (sRaise 7) sNext)
    (sRet false [] (xTup (xCons (xIx (xVar 3) (xOp dAdd (xC (.int 1)) (xVar 2))) (xCons (xIx (xVar 3) (xOp dSub (xC (.int 2)) (xVar 2))) xNil))))))
def b_terms_fill_term (fuel : Nat) (C : Nat → List D → Rs → Out D) : Sx :=
    (sSeq (sIfF [] (xTr (xCall (C 426) (xCons (xVar 0) xNil))) (sRet false [] (xDGet2 (xVar 1) (xVar 0) (xVar 0))) sNext)
    (sRet false [] (xOp dAdd (xTup (xCons (xIx (xVar 0) (xC (.int 0))) xNil)) (xCB cTuple (xCons (xL (xLc (xItems (xSl (xVar 0) (xPart (xC (.int 1))) xNoP)) (gNm 2) xYes (xCall (C 423) (xCons (xVar 2) (xCons (xVar 1) xNil))) [2])) xNil)))))
def b_terms_is_atom (fuel : Nat) (C : Nat → List D → Rs → Out D) : Sx :=
    (sRet false [] (xAndV (xNotV (xCall (C 426) (xCons (xVar 0) xNil))) (xV (xCh dLe dLe (xC (.str "A")) (xSl (xIx (xVar 0) (xC (.int 0))) xNoP (xPart (xC (.int 1)))) (xC (.str "Z"))))))
def b_terms_is_plain (fuel : Nat) (C : Nat → List D → Rs → Out D) : Sx :=
    (sSeq (sIfF [] (xTr (xCall (C 426) (xCons (xVar 0) xNil))) (sRet false [] (xC (.bl true))) sNext)
    (sSeq (sIfF [] (xNot (xCh dLe dLe (xC (.str "a")) (xSl (xIx (xVar 0) (xC (.int 0))) xNoP (xPart (xC (.int 1)))) (xC (.str "z")))) (sRet false [] (xC (.bl false))) sNext)
    (sSeq (sFor [] (xItems (xSl (xVar 0) (xPart (xC (.int 1))) xNoP)) (gNm 1) (sIfF [] (xNot (xTr (xCall (C 425) (xCons (xVar 1) xNil)))) (sRet false [] (xC (.bl false))) sNext))
    (sRet false [] (xC (.bl true))))))
def b_terms_is_unknown (fuel : Nat) (C : Nat → List D → Rs → Out D) : Sx :=
    (sRet false [] (xCB cIsi (xCons (xVar 0) (xCons (xC (.ty "str")) xNil))))
def b_terms_part_at (fuel : Nat) (C : Nat → List D → Rs → Out D) : Sx :=
    (sSeq (sFor [] (xItems (xVar 1)) (gNm 2) (sSeq (sIfF [] (xOr (xTr (xCall (C 426) (xCons (xVar 0) xNil))) (xNot (xCh dLe dLt (xC (.int 0)) (xVar 2) (xOp dSub (xCB cLen (xCons (xVar 0) xNil)) (xC (.int 1)))))) (sRaise 6) sNext)
    (sAsg [] (gNm 0) (xIx (xVar 0) (xOp dAdd (xVar 2) (xC (.int 1)))))))
    (sRet false [] (xVar 0)))
def b_terms_parts_of (fuel : Nat) (C : Nat → List D → Rs → Out D) : Sx :=
    (sSeq (sAsgN [1] 1 (xLst' xNil))
    (sSeq (sFor [1] (xItems (xCall (C 429) (xCons (xVar 0) xNil))) (gNm 2) (sSeq (sAsg [1] (gNm 3) (xCall (C 427) (xCons (xVar 0) (xCons (xVar 2) xNil))))
    (sIf (xB (xOp dNotIn (xVar 3) (xVar 1))) (isOwnL 1 (sApp [1] 1 (xCons (xVar 3) xNil))) sNext)))
    (sFrz 1
    (sRet false [] (xVar 1)))))
def b_terms_places_of (fuel : Nat) (C : Nat → List D → Rs → Out D) : Sx :=
    (sSeq (sAsgN [1] 1 (xLst' (xCons (xTup xNil) xNil)))
    (sSeq (sIfF [1] (xNot (xTr (xCall (C 426) (xCons (xVar 0) xNil)))) (sFor [1] (xRng2 (xCons (xC (.int 1)) (xCons (xCB cLen (xCons (xVar 0) xNil)) xNil))) (gNm 2) (sFor [1] (xItems (xCall (C 429) (xCons (xIx (xVar 0) (xVar 2)) xNil))) (gNm 3) (isOwnL 1 (sApp [1] 1 (xCons (xOp dAdd (xTup (xCons (xOp dSub (xVar 2) (xC (.int 1))) xNil)) (xVar 3)) xNil))))) sNext)
    (sFrz 1
    (sRet false [] (xVar 1)))))
def b_terms_replace_at (fuel : Nat) (C : Nat → List D → Rs → Out D) : Sx :=
    (sSeq (sIfF [] (xNot (xTr (xVar 1))) (sRet false [] (xVar 2)) sNext)
    (sSeq (sAsg [] (gNm 3) (xIx (xVar 1) (xC (.int 0))))
    (sSeq (sIfF [] (xOr (xTr (xCall (C 426) (xCons (xVar 0) xNil))) (xNot (xCh dLe dLt (xC (.int 0)) (xVar 3) (xOp dSub (xCB cLen (xCons (xVar 0) xNil)) (xC (.int 1)))))) (sRaise 6) sNext)
    (sSeq (sAsg [] (gNm 4) (xCall (C 430) (xCons (xIx (xVar 0) (xOp dAdd (xVar 3) (xC (.int 1)))) (xCons (xSl (xVar 1) (xPart (xC (.int 1))) xNoP) (xCons (xVar 2) xNil)))))
    (sRet false [] (xOp dAdd (xOp dAdd (xSl (xVar 0) xNoP (xPart (xOp dAdd (xVar 3) (xC (.int 1))))) (xTup (xCons (xVar 4) xNil))) (xSl (xVar 0) (xPart (xOp dAdd (xVar 3) (xC (.int 2)))) xNoP)))))))
def b_terms_term_size (fuel : Nat) (C : Nat → List D → Rs → Out D) : Sx :=
    (sSeq (sIfF [] (xTr (xCall (C 426) (xCons (xVar 0) xNil))) (sRet false [] (xC (.int 1))) sNext)
    (sRet false [] (xOp dAdd (xC (.int 1)) (xCB cSum (xCons (xL (xLc (xItems (xSl (xVar 0) (xPart (xC (.int 1))) xNoP)) (gNm 1) xYes (xCall (C 431) (xCons (xVar 1) xNil)) [1])) xNil)))))
def b_terms_term_text (fuel : Nat) (C : Nat → List D → Rs → Out D) : Sx :=
    (sSeq (sIfF [] (xTr (xCall (C 426) (xCons (xVar 0) xNil))) (sRet false [] (xVar 0)) sNext)
    (sSeq (sIfF [] (xB (xOp dEq (xVar 0) (xC k_TOP))) (sRet false [] (xC (.str "true"))) sNext)
    (sSeq (sIfF [] (xB (xOp dEq (xCB cLen (xCons (xVar 0) xNil)) (xC (.int 1)))) (sRet false [] (xIx (xVar 0) (xC (.int 0)))) sNext)
    (sSeq (sAsg [] (gNm 1) (xJoin (xC (.str ", ")) (xCons (xL (xLc (xItems (xSl (xVar 0) (xPart (xC (.int 1))) xNoP)) (gNm 2) xYes (xCall (C 432) (xCons (xVar 2) xNil)) [2])) xNil)))
    (sRet false [] (xOp dAdd (xOp dAdd (xOp dAdd (xIx (xVar 0) (xC (.int 0))) (xC (.str "("))) (xVar 1)) (xC (.str ")"))))))))
def b_terms_unknowns_of (fuel : Nat) (C : Nat → List D → Rs → Out D) : Sx :=
    (sSeq (sIfF [1] (xTr (xCall (C 426) (xCons (xVar 0) xNil))) (sRetN [1] (xLst' (xCons (xVar 0) xNil))) sNext)
    (sSeq (sAsgN [1] 1 (xLst' xNil))
    (sSeq (sFor [1] (xItems (xSl (xVar 0) (xPart (xC (.int 1))) xNoP)) (gNm 2) (sFor [1] (xItems (xCall (C 433) (xCons (xVar 2) xNil))) (gNm 3) (sIf (xB (xOp dNotIn (xVar 3) (xVar 1))) (isOwnL 1 (sApp [1] 1 (xCons (xVar 3) xNil))) sNext)))
    (sFrz 1
    (sRet false [] (xVar 1))))))
def b_treelines_LineWriter_row_of (fuel : Nat) (C : Nat → List D → Rs → Out D) : Sx :=
    (sSeq (sIfF [] (xB (xOp dEq (xIx (xVar 3) (xC (.int 0))) (xC (.str "false")))) (sRet false [] (xMeth 31 (C 439) (xVar 0) (xCons (xVar 1) (xCons (xVar 2) (xCons (xVar 3) xNil))))) sNext)
    (sSeq (sAsg [] (gNm 4) (xTup (xCons (xIx (xVar 3) (xC (.int 1))) (xCons (xIx (xVar 3) (xC (.int 2))) xNil))))
    (sSeq (sAsg [] (gNm 5) (xOp dAdd (xTup (xCons (xIx (xVar 3) (xC (.int 1))) xNil)) (xCB cTuple (xCons (xL (xLc (xItems (xIx (xVar 3) (xC (.int 2)))) (gNm 6) xYes (xIx (xVar 2) (xVar 6)) [6])) xNil))))
    (sSeq (sIfF [] (xTr (xCall (C 424) (xCons (xVar 5) xNil))) (sSeq (sAsg [] (gNm 7) (xMeth 31 (C 438) (xVar 0) (xCons (xMeth 20 (C 331) (xVar 1) (xCons (xVar 4) (xCons (xC (.bl false)) xNil))) (xCons (xVar 2) (xCons (xIx (xIx (xVar 3) (xC (.int 3))) (xC (.int 0))) xNil)))))
    (sSeq (sAsg [] (gNm 8) (xCall (C 163) (xCons (xC (.bl true)) (xCons (xVar 5) (xCons (xC k_TOP) xNil)))))
    (sSeq (sIfF [] (xB (xOp dIn (xVar 8) (xMeth 31 (C 435) (xVar 0) (xCons (xVar 7) xNil)))) (sSeq (sAsg [] (gNm 9) (xMeth 31 (C 438) (xVar 0) (xCons (xMeth 20 (C 331) (xVar 1) (xCons (xVar 4) (xCons (xC (.bl true)) xNil))) (xCons (xVar 2) (xCons (xIx (xIx (xVar 3) (xC (.int 3))) (xC (.int 1))) xNil)))))
    (sAsg [] (gNm 7) (xMeth 31 (C 436) (xVar 0) (xCons (xVar 7) (xCons (xVar 8) (xCons (xC (.int 0)) (xCons (xVar 9) xNil))))))) sNext)
    (sRet false [] (xVar 7))))) sNext)
    (sSeq (sAsg [] (gNm 7) (xMeth 31 (C 438) (xVar 0) (xCons (xMeth 20 (C 331) (xVar 1) (xCons (xVar 4) (xCons (xFld 20 1 (xVar 1)) xNil))) (xCons (xOp dAdd (xVar 2) (xLst (xCons (xVar 5) xNil))) (xCons (xIx (xIx (xVar 3) (xC (.int 3))) (xNeg (xC (.int 1)))) xNil)))))
    (sSeq (sFor [] (xRng1 (xCons (xFld 20 1 (xVar 1)) xNil)) (gNm 6) (sSeq (sAsg [] (gNm 8) (xCall (C 163) (xCons (xC (.bl true)) (xCons (xVar 5) (xCons (xIx (xVar 2) (xVar 6)) xNil)))))
    (sIfF [] (xB (xOp dIn (xVar 8) (xMeth 31 (C 435) (xVar 0) (xCons (xVar 7) xNil)))) (sSeq (sAsg [] (gNm 9) (xMeth 31 (C 438) (xVar 0) (xCons (xMeth 20 (C 331) (xVar 1) (xCons (xVar 4) (xCons (xVar 6) xNil))) (xCons (xVar 2) (xCons (xIx (xIx (xVar 3) (xC (.int 3))) (xVar 6)) xNil)))))
    (sAsg [] (gNm 7) (xMeth 31 (C 436) (xVar 0) (xCons (xVar 7) (xCons (xVar 8) (xCons (xIf (xB (xOp dEq (xIx (xVar 8) (xC (.int 1))) (xVar 5))) (xC (.int 0)) (xC (.int 1))) (xCons (xVar 9) xNil))))))) sNext)))
    (sRet false [] (xVar 7))))))))
def b_treelines_LineWriter_without_drops (fuel : Nat) (C : Nat → List D → Rs → Out D) : Sx :=
    (sSeq (sAsg [] (gNm 2) (xCall (C 415) (xCons (xMeth 31 (C 435) (xVar 0) (xCons (xVar 1) xNil)) xNil)))
    (sRet false [] (xIf (xB (xOp dEq (xVar 2) (xMeth 31 (C 435) (xVar 0) (xCons (xVar 1) xNil)))) (xVar 1) (xMeth 31 (C 437) (xVar 0) (xCons (xVar 2) (xCons (xTup (xCons (xC (.str "drop")) (xCons (xVar 1) xNil))) xNil))))))
def b_treelines_first_name (fuel : Nat) (C : Nat → List D → Rs → Out D) : Sx :=
    (sSeq (sAsg [3] (gNm 2) (xCall (C 332) (xCons (xVar 0) (xCons (xVar 1) xNil))))
    (sSeq (sIfF [3] (xB (xOp dIsNot (xVar 2) (xC .non))) (sRet false [3] (xTup (xCons (xVar 2) xNil))) sNext)
    (sSeq (sAsgN [3] 3 (xLc (xItems (xOp dAdd (xFld 13 0 (xVar 0)) (xFld 13 1 (xVar 0)))) (gTp 2 (gCons' (gNm 4) (gCons' (gNm 5) gNil'))) xYes (xVar 4) [4, 5]))
    (sSeq (sFor [3] (xItems (xVar 1)) (gNm 6) (isOwnL 3 (sExt [3] 3 (xCons (xCall (C 155) (xCons (xVar 6) xNil)) xNil))))
    (sFrz 3
    (sRet false [] (xCall (C 310) (xCons (xC (.str "u")) (xCons (xVar 3) xNil)))))))))
def b_treelines_first_spot (fuel : Nat) (C : Nat → List D → Rs → Out D) : Sx :=
    (sSeq (sFor [] (xRng1 (xCons (xCB cLen (xCons (xVar 2) xNil)) xNil)) (gNm 3) (sSeq (sAsg [] (gNm 4) (xIx (xVar 2) (xVar 3)))
    (sFor [] (xItems (xCall (C 160) (xCons (xVar 4) xNil))) (gNm 5) (sSeq (sAsg [] (gNm 6) (xCall (C 427) (xCons (xIx (xVar 4) (xOp dAdd (xC (.int 1)) (xIx (xVar 5) (xC (.int 0))))) (xCons (xSl (xVar 5) (xPart (xC (.int 1))) xNoP) xNil))))
    (sSeq (sAsg [] (gNm 7) (xCall (C 445) (xCons (xVar 0) (xCons (xVar 1) (xCons (xVar 6) xNil)))))
    (sSeq (sAsg [] (gNm 8) (xAndV (xNotV (xIx (xVar 4) (xC (.int 0)))) (xAndV (xOp dEq (xCB cLen (xCons (xVar 5) xNil)) (xC (.int 1))) (xOp dEq (xIx (xVar 4) (xOp dSub (xC (.int 2)) (xIx (xVar 5) (xC (.int 0))))) (xVar 7)))))
    (sIfF [] (xAnd (xB (xOp dIsNot (xVar 7) (xC .non))) (xNot (xTr (xVar 8)))) (sRet false [] (xTup (xCons (xVar 3) (xCons (xVar 5) (xCons (xVar 6) (xCons (xVar 7) xNil)))))) sNext)))))))
    (sRet false [] (xC .non)))
def b_trees_cells_under (fuel : Nat) (C : Nat → List D → Rs → Out D) : Sx :=
    (sSeq (sIfF [3] (xOr (xTr (xCall (C 426) (xCons (xVar 1) xNil))) (xB (xOp dEq (xVar 1) (xC k_TOP)))) (sRetN [3] (xLst' xNil)) sNext)
    (sSeq (sAsgN [3] 3 (xLst' xNil))
    (sSeq (sFor [3] (xItems (xSl (xVar 1) (xPart (xC (.int 1))) xNoP)) (gNm 4) (isOwnL 3 (sExt [3] 3 (xCons (xCall (C 447) (xCons (xVar 0) (xCons (xVar 4) (xCons (xVar 2) xNil)))) xNil))))
    (sSeq (sAsg [3] (gNm 5) (xL (xLc (xItems (xSl (xVar 1) (xPart (xC (.int 1))) xNoP)) (gNm 4) xYes (xIx (xMeth 20 (C 329) (xVar 0) (xCons (xVar 4) (xCons (xVar 2) xNil))) (xC (.int 1))) [4])))
    (sFrz 3
    (sRet false [] (xOp dAdd (xVar 3) (xLst (xCons (xTup (xCons (xIx (xVar 1) (xC (.int 0))) (xCons (xCB cTuple (xCons (xVar 5) xNil)) xNil))) xNil)))))))))
def b_trees_cut_tree (fuel : Nat) (C : Nat → List D → Rs → Out D) : Sx :=
    (sRet false [] (xIx (xCall (C 449) (xCons (xNewF 20 (C 324) (xCons (xVar 0) (xCons (xVar 1) xNil))) (xCons (xVar 1) (xCons (xVar 2) xNil)))) (xC (.int 0))))
def b_trees_fault_below (fuel : Nat) (C : Nat → List D → Rs → Out D) : Sx :=
    (sSeq (sIfF [] (xB (xOp dEq (xIx (xVar 3) (xC (.int 0))) (xC (.str "false")))) (sRet false [] (xIf (xTr (xCall (C 454) (xCons (xVar 0) (xCons (xVar 1) (xCons (xVar 3) xNil))))) (xC .non) (xTup xNil))) sNext)
    (sSeq (sIfF [] (xB (xOp dNe (xIx (xVar 3) (xC (.int 0))) (xC (.str "cell")))) (sRet false [] (xTup xNil)) sNext)
    (sSeq (sAsg [] (gNm 4) (xTup (xCons (xIx (xVar 3) (xC (.int 1))) (xCons (xIx (xVar 3) (xC (.int 2))) xNil))))
    (sSeq (sIfF [] (xOr (xNot (xTr (xMeth 20 (C 326) (xVar 0) (xCons (xVar 4) xNil)))) (xB (xOp dNe (xCB cLen (xCons (xIx (xVar 3) (xC (.int 3))) xNil)) (xCB cLen (xCons (xMeth 20 (C 330) (xVar 0) (xCons (xVar 4) xNil)) xNil))))) (sRet false [] (xTup xNil)) sNext)
    (sSeq (sAsg [] (gNm 5) (xAndV (xOp dEq (xFld 20 1 (xVar 0)) (xVar 2)) (xNotV (xCall (C 312) (xCons (xIx (xVar 3) (xC (.int 1))) xNil)))))
    (sSeq (sFor [] (xRng1 (xCons (xCB cLen (xCons (xIx (xVar 3) (xC (.int 3))) xNil)) xNil)) (gNm 6) (sSeq (sAsg [] (gNm 7) (xIx (xIx (xVar 3) (xC (.int 3))) (xVar 6)))
    (sSeq (sIfF [] (xAnd (xTr (xVar 5)) (xB (xOp dEq (xVar 6) (xVar 2)))) (sAsg [] (gNm 8) (xIf (xB (xOp dEq (xIx (xVar 7) (xC (.int 0))) (xC (.str "beyond")))) (xC .non) (xTup xNil))) (sAsg [] (gNm 8) (xCall (C 451) (xCons (xMeth 20 (C 331) (xVar 0) (xCons (xVar 4) (xCons (xIx (xMeth 20 (C 330) (xVar 0) (xCons (xVar 4) xNil)) (xVar 6)) xNil))) (xCons (xVar 1) (xCons (xVar 2) (xCons (xVar 7) xNil)))))))
    (sIfF [] (xB (xOp dIsNot (xVar 8) (xC .non))) (sRet false [] (xOp dAdd (xTup (xCons (xVar 6) xNil)) (xVar 8))) sNext))))
    (sRet false [] (xC .non))))))))
def b_trees_first_fault (fuel : Nat) (C : Nat → List D → Rs → Out D) : Sx :=
    (sSeq (sIfF [] (xB (xOp dLt (xVar 2) (xC (.int 1)))) (sRet false [] (xTup xNil)) sNext)
    (sRet false [] (xCall (C 451) (xCons (xNewF 20 (C 324) (xCons (xVar 0) (xCons (xVar 1) xNil))) (xCons (xVar 1) (xCons (xVar 2) (xCons (xVar 3) xNil)))))))
def b_trees_judge_tree (fuel : Nat) (C : Nat → List D → Rs → Out D) : Sx :=
    (sSeq (sIfF [] (xB (xOp dIsNot (xCall (C 452) (xCons (xVar 0) (xCons (xVar 1) (xCons (xVar 2) (xCons (xVar 3) xNil))))) (xC .non))) (sRet false [] (xC (.str "wrong"))) sNext)
    (sRet false [] (xIf (xTr (xCall (C 453) (xCons (xVar 3) xNil))) (xC (.str "beyond")) (xC (.str "closed")))))
def b_treetext_TreeReader_next_is (fuel : Nat) (C : Nat → List D → Rs → Out D) : Sx :=
    (sRet false [] (xAndV (xOp dNe (xMeth 30 (C 461) (xVar 0) xNil) (xC (.str ""))) (xOp dIn (xMeth 30 (C 461) (xVar 0) xNil) (xVar 1))))
def b_treetext_TreeReader_take_depth (fuel : Nat) (C : Nat → List D → Rs → Out D) : Sx :=
    (sSeq (sAsg [] (gNm 2) (xC (.int 0)))
    (sSeq (whileGoF [] (xAnd (xB (xOp dLt (xVar 2) (xVar 1))) (xTr (xMeth 30 (C 460) (xVar 0) (xCons (xC (.str " ")) xNil)))) (sSeq (sExp [] (xMeth 30 (C 462) (xVar 0) (xCons (xC (.str "  ")) xNil)))
    (sAug 2 (fun i j => i + j) (xC (.int 1)))) fuel)
    (sSeq (sIfF [] (xOr (xB (xOp dEq (xVar 2) (xC (.int 0)))) (xTr (xMeth 30 (C 460) (xVar 0) (xCons (xC (.str " ")) xNil)))) (sExp [] (xMeth 30 (C 459) (xVar 0) xNil)) sNext)
    (sRet false [] (xVar 2)))))
def b_treetext_TreeReader_take_node (fuel : Nat) (C : Nat → List D → Rs → Out D) : Sx :=
    (sSeq (sIfF [] (xTr (xMeth 30 (C 460) (xVar 0) (xCons (xC (.str "b")) xNil))) (sSeq (sExp [] (xMeth 30 (C 462) (xVar 0) (xCons (xC (.str "beyond")) xNil)))
    (sAsg [] (gNm 1) (xTup (xCons (xC (.str "beyond")) xNil)))) (sIfF [] (xTr (xMeth 30 (C 460) (xVar 0) (xCons (xC (.str "f")) xNil))) (sSeq (sExp [] (xMeth 30 (C 462) (xVar 0) (xCons (xC (.str "false ")) xNil)))
    (sSeq (sAsg [] (gNm 2) (xMeth 30 (C 466) (xVar 0) xNil))
    (sAsg [] (gNm 1) (xTup (xCons (xC (.str "false")) (xCons (xVar 2) (xCons (xMeth 30 (C 467) (xVar 0) xNil) xNil))))))) (sSeq (sExp [] (xMeth 30 (C 462) (xVar 0) (xCons (xC (.str "cell ")) xNil)))
    (sSeq (sAsg [] (gNm 3) (xMeth 30 (C 464) (xVar 0) xNil))
    (sAsg [] (gNm 1) (xTup (xCons (xC (.str "cell")) (xCons (xVar 3) (xCons (xMeth 30 (C 467) (xVar 0) xNil) xNil)))))))))
    (sSeq (sIfF [] (xB (xOp dNotIn (xMeth 30 (C 461) (xVar 0) xNil) (xTup (xCons (xC (.str "")) (xCons (xC (.str "\n")) xNil))))) (sExp [] (xMeth 30 (C 459) (xVar 0) xNil)) sNext)
    (sRet false [] (xVar 1))))
def b_treetext_TreeReader_take_number (fuel : Nat) (C : Nat → List D → Rs → Out D) : Sx :=
    (sSeq (sAsg [] (gNm 1) (xOrV (xMeth 30 (C 468) (xVar 0) (xCons (xC (.str "0")) (xCons (xC (.int 1)) xNil))) (xMeth 30 (C 468) (xVar 0) (xCons (xC k_DIGITS) (xCons (xC k_MOST_DIGITS) xNil)))))
    (sSeq (sIfF [] (xB (xOp dEq (xVar 1) (xC (.str "")))) (sExp [] (xMeth 30 (C 459) (xVar 0) xNil)) sNext)
    (sRet false [] (xCB cInt (xCons (xVar 1) xNil)))))
def b_treetext_TreeReader_take_numbers (fuel : Nat) (C : Nat → List D → Rs → Out D) : Sx :=
    (sSeq (sAsgN [1] 1 (xLst' xNil))
    (sSeq (whileGoF [1] (xTr (xMeth 30 (C 460) (xVar 0) (xCons (xC (.str " ")) xNil))) (sSeq (sExp [1] (xMeth 30 (C 462) (xVar 0) (xCons (xC (.str " ")) xNil)))
    (isOwnL 1 (sApp [1] 1 (xCons (xMeth 30 (C 466) (xVar 0) xNil) xNil)))) fuel)
    (sFrz 1
    (sRet false [] (xCB cTuple (xCons (xVar 1) xNil))))))
def b_treetext_lines_below (fuel : Nat) (C : Nat → List D → Rs → Out D) : Sx :=
    (sSeq (sAsgN [2] 2 (xLst' (xCons (xOp dAdd (xVar 1) (xCall (C 471) (xCons (xVar 0) xNil))) xNil)))
    (sSeq (sIfF [2] (xB (xOp dEq (xIx (xVar 0) (xC (.int 0))) (xC (.str "cell")))) (sFor [2] (xItems (xIx (xVar 0) (xC (.int 3)))) (gNm 3) (isOwnL 2 (sExt [2] 2 (xCons (xCall (C 470) (xCons (xVar 3) (xCons (xOp dAdd (xVar 1) (xC (.str "  "))) xNil))) xNil)))) sNext)
    (sFrz 2
    (sRet false [] (xVar 2)))))
def b_treetext_node_text (fuel : Nat) (C : Nat → List D → Rs → Out D) : Sx :=
    (sSeq (sIfF [] (xB (xOp dEq (xIx (xVar 0) (xC (.int 0))) (xC (.str "beyond")))) (sRet false [] (xC (.str "beyond"))) sNext)
    (sRet false [] (xJoin (xC (.str " ")) (xCons (xOp dAdd (xLst (xCons (xIx (xVar 0) (xC (.int 0))) (xCons (xCB cStr (xCons (xIx (xVar 0) (xC (.int 1))) xNil)) xNil))) (xL (xLc (xItems (xIx (xVar 0) (xC (.int 2)))) (gNm 1) xYes (xCB cStr (xCons (xVar 1) xNil)) [1]))) xNil))))
def b_treetext_tree_text (fuel : Nat) (C : Nat → List D → Rs → Out D) : Sx :=
    (sRet false [] (xJoin (xC (.str "\n")) (xCons (xCall (C 470) (xCons (xVar 0) (xCons (xC (.str "")) xNil))) xNil)))
def b_truth_atom_true (fuel : Nat) (C : Nat → List D → Rs → Out D) : Sx :=
    (sRet false [] (xMeth 15 (C 486) (xVar 0) (xCons (xIx (xVar 1) (xC (.int 0))) (xCons (xL (xLc (xItems (xSl (xVar 1) (xPart (xC (.int 1))) xNoP)) (gNm 3) xYes (xCall (C 482) (xCons (xVar 0) (xCons (xVar 3) (xCons (xVar 2) xNil)))) [3])) xNil))))
def b_truth_binder_true (fuel : Nat) (C : Nat → List D → Rs → Out D) : Sx :=
    (sSeq (sAsg [6] (gTp 3 (gCons' (gNm 3) (gCons' (gNm 4) (gCons' (gNm 5) gNil')))) (xVar 1))
    (sSeq (sAsgD [6] 6 (xDCopy (xCons (xVar 2) xNil)))
    (sSeq (sFor [6] (xItems (xMeth 15 (C 488) (xVar 0) xNil)) (gNm 7) (sSeq (isOwnD 6 (sDPut' [6] 6 (xVar 4) (xVar 7)))
    (sIf (xB (xOp dEq (xCall (C 481) (xCons (xVar 0) (xCons (xVar 5) (xCons (xVar 6) xNil)))) (xOp dEq (xVar 3) (xC (.str "some"))))) (sRet false [6] (xOp dEq (xVar 3) (xC (.str "some")))) sNext)))
    (sRet false [6] (xOp dEq (xVar 3) (xC (.str "all")))))))
def b_truth_book_true (fuel : Nat) (C : Nat → List D → Rs → Out D) : Sx :=
    (sRet false [] (xCB cAll (xCons (xL (xLc (xItems (xFld 14 1 (xVar 1))) (gNm 2) xYes (xCallD (C 481) [.non] (xCons (xVar 0) (xCons (xVar 2) xNil))) [2])) xNil)))
def b_truth_clause_true (fuel : Nat) (C : Nat → List D → Rs → Out D) : Sx :=
    (sRet false [] (xOp dIs (xCall (C 479) (xCons (xVar 0) (xCons (xVar 1) xNil))) (xC .non)))
def b_truth_clauses_true (fuel : Nat) (C : Nat → List D → Rs → Out D) : Sx :=
    (sRet false [] (xCB cAll (xCons (xL (xLc (xItems (xVar 1)) (gNm 2) xYes (xCall (C 477) (xCons (xVar 0) (xCons (xVar 2) xNil))) [2])) xNil)))
def b_truth_literal_true (fuel : Nat) (C : Nat → List D → Rs → Out D) : Sx :=
    (sSeq (sAsg [] (gTp 3 (gCons' (gNm 3) (gCons' (gNm 4) (gCons' (gNm 5) gNil')))) (xVar 1))
    (sSeq (sIfF [] (xB (xOp dEq (xVar 5) (xC k_TOP))) (sRet false [] (xOp dEq (xOrV (xOp dEq (xVar 4) (xC k_TOP)) (xCall (C 474) (xCons (xVar 0) (xCons (xVar 4) (xCons (xVar 2) xNil))))) (xVar 3))) sNext)
    (sRet false [] (xOp dEq (xOp dEq (xCall (C 482) (xCons (xVar 0) (xCons (xVar 4) (xCons (xVar 2) xNil)))) (xCall (C 482) (xCons (xVar 0) (xCons (xVar 5) (xCons (xVar 2) xNil))))) (xVar 3)))))
def b_truth_sentence_true (fuel : Nat) (C : Nat → List D → Rs → Out D) : Sx :=
    (sSeq (sIfF [] (xB (xOp dIs (xVar 2) (xC .non))) (sAsg [] (gNm 2) (xD xDNew)) sNext)
    (sSeq (sAsg [] (gNm 3) (xIx (xVar 1) (xC (.int 0))))
    (sSeq (sIfF [] (xB (xOp dEq (xVar 3) (xC (.str "holds")))) (sRet false [] (xCall (C 474) (xCons (xVar 0) (xCons (xIx (xVar 1) (xC (.int 1))) (xCons (xVar 2) xNil))))) sNext)
    (sSeq (sIfF [] (xB (xOp dEq (xVar 3) (xC (.str "same")))) (sSeq (sAsg [] (gTp 2 (gCons' (gNm 4) (gCons' (gNm 5) gNil'))) (xCall (C 368) (xCons (xVar 1) xNil)))
    (sRet false [] (xOp dEq (xCall (C 482) (xCons (xVar 0) (xCons (xVar 4) (xCons (xVar 2) xNil)))) (xCall (C 482) (xCons (xVar 0) (xCons (xVar 5) (xCons (xVar 2) xNil))))))) sNext)
    (sSeq (sIfF [] (xB (xOp dEq (xVar 3) (xC (.str "not")))) (sRet false [] (xNotV (xCall (C 481) (xCons (xVar 0) (xCons (xIx (xVar 1) (xC (.int 1))) (xCons (xVar 2) xNil)))))) sNext)
    (sSeq (sIfF [] (xB (xOp dIn (xVar 3) (xC k_BINDERS))) (sRet false [] (xCall (C 475) (xCons (xVar 0) (xCons (xVar 1) (xCons (xVar 2) xNil))))) sNext)
    (sSeq (sAsg [] (gNm 6) (xCall (C 481) (xCons (xVar 0) (xCons (xIx (xVar 1) (xC (.int 1))) (xCons (xVar 2) xNil)))))
    (sSeq (sIfF [] (xAnd (xB (xOp dIn (xVar 3) (xTup (xCons (xC (.str "and")) (xCons (xC (.str "or")) xNil))))) (xB (xOp dEq (xVar 6) (xOp dEq (xVar 3) (xC (.str "or")))))) (sRet false [] (xVar 6)) sNext)
    (sSeq (sIfF [] (xAnd (xB (xOp dEq (xVar 3) (xC (.str "implies")))) (xNot (xTr (xVar 6)))) (sRet false [] (xC (.bl true))) sNext)
    (sSeq (sAsg [] (gNm 7) (xCall (C 481) (xCons (xVar 0) (xCons (xIx (xVar 1) (xC (.int 2))) (xCons (xVar 2) xNil)))))
    (sRet false [] (xIf (xB (xOp dEq (xVar 3) (xC (.str "iff")))) (xOp dEq (xVar 6) (xVar 7)) (xVar 7)))))))))))))
def b_truth_term_value (fuel : Nat) (C : Nat → List D → Rs → Out D) : Sx :=
    (sSeq (sIfF [] (xTr (xCall (C 426) (xCons (xVar 1) xNil))) (sRet false [] (xDGet (xVar 2) (xVar 1))) sNext)
    (sRet false [] (xMeth 15 (C 489) (xVar 0) (xCons (xIx (xVar 1) (xC (.int 0))) (xCons (xL (xLc (xItems (xSl (xVar 1) (xPart (xC (.int 1))) xNoP)) (gNm 3) xYes (xCall (C 482) (xCons (xVar 0) (xCons (xVar 3) (xCons (xVar 2) xNil)))) [3])) xNil)))))
def b_worlds_World___init__ (fuel : Nat) (C : Nat → List D → Rs → Out D) : Sx :=
    (sSeq (sIfF [] (xB (xOp dLt (xVar 2) (xC (.int 1)))) (sRaise 8) sNext)
    (sSeq (sSetF [] 15 0 (xVar 0) (xVar 1))
    (sSeq (sSetF [] 15 1 (xVar 0) (xVar 2))
    (sSeq (sSetF [] 15 2 (xVar 0) (xResD xDNew))
    (sSeq (sFor [] (xItems (xCall (C 491) (xCons (xVar 1) xNil))) (gTp 2 (gCons' (gNm 4) (gCons' (gNm 5) gNil'))) (sSeq (sIfF [] (xNot (xDIn (xVar 4) (xVar 3))) (sRaise 8) sNext)
    (sDSetR [] (xFld 15 2 (xVar 0)) (xVar 4) (xCall (C 492) (xCons (xVar 2) (xCons (xVar 4) (xCons (xVar 5) (xCons (xDGet (xVar 3) (xVar 4)) xNil))))))))
    (sIfF [] (xB (xOp dNe (xCB cLen (xCons (xVar 3) xNil)) (xCB cLen (xCons (xFld 15 2 (xVar 0)) xNil)))) (sRaise 8) sNext))))))
def b_worlds_World__entry (fuel : Nat) (C : Nat → List D → Rs → Out D) : Sx :=
    (sSeq (sIfF [] (xB (xOp dNe (xCB cLen (xCons (xVar 2) xNil)) (xMeth 13 (C 127) (xFld 15 0 (xVar 0)) (xCons (xVar 1) xNil)))) (sRaise 8) sNext)
    (sSeq (sFor [] (xItems (xVar 2)) (gNm 3) (sIfF [] (xNot (xCh dLe dLt (xC (.int 0)) (xVar 3) (xFld 15 1 (xVar 0)))) (sRaise 8) sNext))
    (sRet false [] (xIx (xDGet (xFld 15 2 (xVar 0)) (xVar 1)) (xCall (C 496) (xCons (xFld 15 1 (xVar 0)) (xCons (xVar 2) xNil)))))))
def b_worlds_World_holds (fuel : Nat) (C : Nat → List D → Rs → Out D) : Sx :=
    (sSeq (sIfF [] (xOr (xNot (xTr (xMeth 13 (C 132) (xFld 15 0 (xVar 0)) (xCons (xVar 1) xNil)))) (xTr (xCall (C 494) (xCons (xVar 1) xNil)))) (sRaise 3) sNext)
    (sRet false [] (xMeth 15 (C 484) (xVar 0) (xCons (xVar 1) (xCons (xVar 2) xNil)))))
def b_worlds_World_table (fuel : Nat) (C : Nat → List D → Rs → Out D) : Sx :=
    (sSeq (sIfF [] (xNot (xTr (xMeth 13 (C 132) (xFld 15 0 (xVar 0)) (xCons (xVar 1) xNil)))) (sRaise 3) sNext)
    (sRet false [] (xDGet (xFld 15 2 (xVar 0)) (xVar 1))))
def b_worlds_World_value (fuel : Nat) (C : Nat → List D → Rs → Out D) : Sx :=
    (sSeq (sIfF [] (xOr (xNot (xTr (xMeth 13 (C 132) (xFld 15 0 (xVar 0)) (xCons (xVar 1) xNil)))) (xNot (xTr (xCall (C 494) (xCons (xVar 1) xNil))))) (sRaise 3) sNext)
    (sRet false [] (xMeth 15 (C 484) (xVar 0) (xCons (xVar 1) (xCons (xVar 2) xNil)))))
def b_worlds_World_with_table (fuel : Nat) (C : Nat → List D → Rs → Out D) : Sx :=
    (sSeq (sIfF [3] (xNot (xTr (xMeth 13 (C 132) (xFld 15 0 (xVar 0)) (xCons (xVar 1) xNil)))) (sRaise 3) sNext)
    (sSeq (sAsgD [3] 3 (xDCopy (xCons (xFld 15 2 (xVar 0)) xNil)))
    (sSeq (isOwnD 3 (sDPut' [3] 3 (xVar 1) (xVar 2)))
    (sFrz 3
    (sRet false [] (xNewF 15 (C 483) (xCons (xFld 15 0 (xVar 0)) (xCons (xFld 15 1 (xVar 0)) (xCons (xVar 3) xNil)))))))))
def b_worlds_all_names (fuel : Nat) (C : Nat → List D → Rs → Out D) : Sx :=
    (sRet false [] (xOp dAdd (xFld 13 0 (xVar 0)) (xFld 13 1 (xVar 0))))
def b_worlds_checked_entries (fuel : Nat) (C : Nat → List D → Rs → Out D) : Sx :=
    (sSeq (sIfF [] (xB (xOp dNe (xCB cLen (xCons (xVar 3) xNil)) (xCall (C 497) (xCons (xVar 0) (xCons (xVar 2) xNil))))) (sRaise 8) sNext)
    (sSeq (sIfF [] (xTr (xCall (C 494) (xCons (xVar 1) xNil))) (sFor [] (xItems (xVar 3)) (gNm 4) (sIfF [] (xNot (xCh dLe dLt (xC (.int 0)) (xVar 4) (xVar 0))) (sRaise 8) sNext)) sNext)
    (sRet false [] (xCB cTuple (xCons (xVar 3) xNil)))))
def b_worlds_is_function (fuel : Nat) (C : Nat → List D → Rs → Out D) : Sx :=
    (sRet false [] (xV (xCh dLe dLe (xC (.str "a")) (xIx (xVar 0) (xC (.int 0))) (xC (.str "z")))))
def b_worlds_row_index (fuel : Nat) (C : Nat → List D → Rs → Out D) : Sx :=
    (sSeq (sAsg [] (gNm 2) (xC (.int 0)))
    (sSeq (sFor [] (xItems (xVar 1)) (gNm 3) (sAsg [] (gNm 2) (xOp dAdd (xOp dMul (xVar 2) (xVar 0)) (xVar 3))))
    (sRet false [] (xVar 2))))
def b_worlds_table_length (fuel : Nat) (C : Nat → List D → Rs → Out D) : Sx :=
    (sSeq (sAsg [] (gNm 2) (xC (.int 1)))
    (sSeq (sFor [] (xRng1 (xCons (xVar 1) xNil)) (gNm 3) (sAsg [] (gNm 2) (xOp dMul (xVar 2) (xVar 0))))
    (sRet false [] (xVar 2))))
def b_worlds_things_rows (fuel : Nat) (C : Nat → List D → Rs → Out D) : Sx :=
    (sRetN [] (xLc (xRng1 (xCons (xCall (C 497) (xCons (xVar 0) (xCons (xVar 1) xNil))) xNil)) (gNm 2) xYes (xCall (C 495) (xCons (xVar 0) (xCons (xVar 1) (xCons (xVar 2) xNil)))) [2]))
def b_writing_ends_open (fuel : Nat) (C : Nat → List D → Rs → Out D) : Sx :=
    (sSeq (sIfF [] (xB (xOp dEq (xIx (xVar 0) (xC (.int 0))) (xC (.str "not")))) (sRet false [] (xCall (C 501) (xCons (xIx (xVar 0) (xC (.int 1))) xNil))) sNext)
    (sRet false [] (xOp dIn (xIx (xVar 0) (xC (.int 0))) (xC k_BINDERS))))
def b_writing_equation_text (fuel : Nat) (C : Nat → List D → Rs → Out D) : Sx :=
    (sRet false [] (xOp dAdd (xOp dAdd (xCall (C 432) (xCons (xIx (xVar 0) (xC (.int 1))) xNil)) (xVar 1)) (xCall (C 432) (xCons (xIx (xVar 0) (xC (.int 2))) xNil))))
def b_writing_sentence_text (fuel : Nat) (C : Nat → List D → Rs → Out D) : Sx :=
    (sSeq (sAsg [] (gNm 1) (xIx (xVar 0) (xC (.int 0))))
    (sSeq (sIfF [] (xB (xOp dEq (xVar 1) (xC (.str "holds")))) (sRet false [] (xCall (C 432) (xCons (xIx (xVar 0) (xC (.int 1))) xNil))) sNext)
    (sSeq (sIfF [] (xB (xOp dEq (xVar 1) (xC (.str "same")))) (sRet false [] (xCall (C 502) (xCons (xVar 0) (xCons (xC (.str " = ")) xNil)))) sNext)
    (sSeq (sIfF [] (xAnd (xB (xOp dEq (xVar 1) (xC (.str "not")))) (xB (xOp dEq (xIx (xIx (xVar 0) (xC (.int 1))) (xC (.int 0))) (xC (.str "same"))))) (sRet false [] (xCall (C 502) (xCons (xIx (xVar 0) (xC (.int 1))) (xCons (xC (.str " != ")) xNil)))) sNext)
    (sSeq (sIfF [] (xB (xOp dEq (xVar 1) (xC (.str "not")))) (sRet false [] (xOp dAdd (xC (.str "not ")) (xCall (C 503) (xCons (xIx (xVar 0) (xC (.int 1))) xNil)))) sNext)
    (sSeq (sIfF [] (xB (xOp dIn (xVar 1) (xC k_BINDERS))) (sRet false [] (xOp dAdd (xOp dAdd (xOp dAdd (xOp dAdd (xVar 1) (xC (.str " "))) (xIx (xVar 0) (xC (.int 1)))) (xC (.str ". "))) (xCall (C 503) (xCons (xIx (xVar 0) (xC (.int 2))) xNil)))) sNext)
    (sSeq (sAsg [] (gNm 2) (xCall (C 503) (xCons (xIx (xVar 0) (xC (.int 1))) xNil)))
    (sSeq (sIfF [] (xTr (xCall (C 501) (xCons (xIx (xVar 0) (xC (.int 1))) xNil))) (sAsg [] (gNm 2) (xOp dAdd (xOp dAdd (xC (.str "(")) (xVar 2)) (xC (.str ")")))) sNext)
    (sRet false [] (xOp dAdd (xOp dAdd (xOp dAdd (xOp dAdd (xOp dAdd (xOp dAdd (xC (.str "(")) (xVar 2)) (xC (.str " "))) (xVar 1)) (xC (.str " "))) (xCall (C 503) (xCons (xIx (xVar 0) (xC (.int 2))) xNil))) (xC (.str ")"))))))))))))
/-- the program, by the depth of its calls; LW: the law's own defs -/
def prP (fuel : Nat) (LW : (Nat → List D → Rs → Out D) → Nat → List D → Rs → Out D) : Nat → Nat → List D → Rs → Out D
  | 0, _ => fun _ _ => .bad
  | n + 1, i => match i with
    | 101 => runF 2 (b_answers_decided_clauses fuel (prP fuel LW n))
    | 102 => runF 2 (b_answers_decided_origins fuel (prP fuel LW n))
    | 103 => runF 2 (b_answers_is_world_of fuel (prP fuel LW n))
    | 105 => runF 6 (b_answers_shows_no_world fuel (prP fuel LW n))
    | 106 => runF 4 (b_answers_shows_none_smaller fuel (prP fuel LW n))
    | 122 => runF 4 (b_benches_replay fuel (prP fuel LW n))
    | 510 => runF 2 (b_books_Book_with_sentence_v1 fuel (prP fuel LW n))
    | 125 => runF 2 (b_books_Book_without fuel (prP fuel LW n))
    | 126 => runF 6 (b_books_Signature___init__ fuel (prP fuel LW n))
    | 127 => runF 2 (b_books_Signature_arity fuel (prP fuel LW n))
    | 511 => runF 6 (b_books_Signature_check_sentence_v1 fuel (prP fuel LW n))
    | 512 => runF 4 (b_books_Signature_check_term_v1 fuel (prP fuel LW n))
    | 513 => runF 3 (b_books_Signature_constants_v1 fuel (prP fuel LW n))
    | 514 => runF 2 (b_books_Signature_extended_v1 fuel (prP fuel LW n))
    | 132 => runF 2 (b_books_Signature_has fuel (prP fuel LW n))
    | 133 => runF 1 (b_casepapers_case_paper fuel (prP fuel LW n))
    | 134 => runF 2 (b_casepapers_cases_before_paper fuel (prP fuel LW n))
    | 137 => runF 2 (b_casepapers_judge_cases fuel (prP fuel LW n))
    | 138 => runF 3 (b_casepapers_judge_cases_before fuel (prP fuel LW n))
    | 142 => runF 6 (b_choices_rows_of_things fuel (prP fuel LW n))
    | 143 => runF 7 (b_choices_with fuel (prP fuel LW n))
    | 144 => runF 5 (b_clauseorders_bag_of fuel (prP fuel LW n))
    | 148 => runF 2 (b_clauseorders_compare_numbers fuel (prP fuel LW n))
    | 149 => runF 5 (b_clauseorders_descending fuel (prP fuel LW n))
    | 150 => runF 3 (b_clauseorders_greater_side fuel (prP fuel LW n))
    | 151 => runF 4 (b_clauseorders_greatest_index fuel (prP fuel LW n))
    | 153 => runF 2 (b_clauses_always_true fuel (prP fuel LW n))
    | 154 => runF 2 (b_clauses_clause_text fuel (prP fuel LW n))
    | 155 => runF 5 (b_clauses_clause_unknowns fuel (prP fuel LW n))
    | 156 => runF 3 (b_clauses_fill_clause fuel (prP fuel LW n))
    | 157 => runF 2 (b_clauses_fill_literal fuel (prP fuel LW n))
    | 158 => runF 1 (b_clauses_is_ground fuel (prP fuel LW n))
    | 159 => runF 1 (b_clauses_is_literal fuel (prP fuel LW n))
    | 160 => runF 3 (b_clauses_literal_places fuel (prP fuel LW n))
    | 161 => runF 4 (b_clauses_literal_text fuel (prP fuel LW n))
    | 162 => runF 4 (b_clauses_make_clause fuel (prP fuel LW n))
    | 163 => runF 3 (b_clauses_make_literal fuel (prP fuel LW n))
    | 164 => runF 1 (b_clauses_opposite fuel (prP fuel LW n))
    | 175 => runF 6 (b_deciders_rounds_enough fuel (prP fuel LW n))
    | 195 => runF 10 (b_fillings_closed_terms fuel (prP fuel LW n))
    | 197 => runF 4 (b_fillings_named_signature fuel (prP fuel LW n))
    | 198 => runF 4 (b_fillings_power fuel (prP fuel LW n))
    | 199 => runF 6 (b_fillings_rows_of fuel (prP fuel LW n))
    | 200 => runF 8 (b_forms_Form___init__ fuel (prP fuel LW n))
    | 203 => runF 5 (b_forms_Form__set_apart fuel (prP fuel LW n))
    | 206 => runF 7 (b_forms_Form__step fuel (prP fuel LW n))
    | 207 => runF 1 (b_forms_form_of fuel (prP fuel LW n))
    | 208 => runF 1 (b_forms_is_all fuel (prP fuel LW n))
    | 209 => runF 1 (b_forms_is_some fuel (prP fuel LW n))
    | 210 => runF 3 (b_forms_literal_of fuel (prP fuel LW n))
    | 211 => runF 5 (b_forms_literal_rows fuel (prP fuel LW n))
    | 212 => runF 5 (b_forms_names_in fuel (prP fuel LW n))
    | 216 => runF 6 (b_going_count_worlds fuel (prP fuel LW n))
    | 217 => runF 2 (b_going_entry_choices fuel (prP fuel LW n))
    | 219 => runF 5 (b_going_world_number fuel (prP fuel LW n))
    | 222 => runF 6 (b_groundworlds_rows_of_things fuel (prP fuel LW n))
    | 223 => runF 9 (b_groundworlds_rule_made fuel (prP fuel LW n))
    | 224 => runF 5 (b_groundworlds_rules_of fuel (prP fuel LW n))
    | 225 => runF 7 (b_groundworlds_table_of fuel (prP fuel LW n))
    | 226 => runF 12 (b_groundworlds_world_of fuel (prP fuel LW n))
    | 228 => runF 2 (b_growing_Branch_closed fuel (prP fuel LW n))
    | 229 => runF 7 (b_growing_Grower___init__ fuel (prP fuel LW n))
    | 234 => runF 5 (b_growing_Grower__read_new fuel (prP fuel LW n))
    | 235 => runF 1 (b_growing_Grower_has_ended fuel (prP fuel LW n))
    | 237 => runF 7 (b_growing_filled_world fuel (prP fuel LW n))
    | 240 => runF 7 (b_growing_most_nodes fuel (prP fuel LW n))
    | 241 => runF 4 (b_hearts_Heart___init__ fuel (prP fuel LW n))
    | 242 => runF 2 (b_hearts_Heart_add fuel (prP fuel LW n))
    | 243 => runF 1 (b_hearts_Heart_has_ended fuel (prP fuel LW n))
    | 244 => runF 3 (b_hearts_Heart_infer fuel (prP fuel LW n))
    | 245 => runF 9 (b_hearts_Heart_infer_join fuel (prP fuel LW n))
    | 525 => runF 1 (b_hearts_Heart_kept_clauses_v1 fuel (prP fuel LW n))
    | 248 => runF 5 (b_hearts_Heart_least_row fuel (prP fuel LW n))
    | 249 => runF 3 (b_hearts_Heart_put fuel (prP fuel LW n))
    | 252 => runF 6 (b_hearts_saturate fuel (prP fuel LW n))
    | 253 => runF 2 (b_inferring_can_drop fuel (prP fuel LW n))
    | 254 => runF 4 (b_inferring_covered fuel (prP fuel LW n))
    | 256 => runF 4 (b_inferring_first_place fuel (prP fuel LW n))
    | 257 => runF 4 (b_inferring_head_of fuel (prP fuel LW n))
    | 258 => runF 3 (b_inferring_holds_all fuel (prP fuel LW n))
    | 261 => runF 5 (b_inferring_join fuel (prP fuel LW n))
    | 262 => runF 8 (b_inferring_join_heads fuel (prP fuel LW n))
    | 263 => runF 3 (b_inferring_needless fuel (prP fuel LW n))
    | 264 => runF 5 (b_inferring_place_in_clause fuel (prP fuel LW n))
    | 265 => runF 7 (b_inferring_simpler fuel (prP fuel LW n))
    | 266 => runF 3 (b_inferring_simplify fuel (prP fuel LW n))
    | 267 => runF 5 (b_kinds_above_arity fuel (prP fuel LW n))
    | 269 => runF 2 (b_kinds_enough fuel (prP fuel LW n))
    | 270 => runF 3 (b_kinds_function_names fuel (prP fuel LW n))
    | 272 => runF 3 (b_kinds_has_some_in_all fuel (prP fuel LW n))
    | 274 => runF 3 (b_kinds_is_linked fuel (prP fuel LW n))
    | 275 => runF 2 (b_kinds_is_positive fuel (prP fuel LW n))
    | 276 => runF 3 (b_kinds_is_prefix fuel (prP fuel LW n))
    | 277 => runF 3 (b_kinds_is_single fuel (prP fuel LW n))
    | 278 => runF 3 (b_kinds_kinds_of fuel (prP fuel LW n))
    | 281 => runF 2 (b_kinds_many_some fuel (prP fuel LW n))
    | 282 => runF 8 (b_kinds_names_in fuel (prP fuel LW n))
    | 283 => runF 5 (b_kinds_of_arity fuel (prP fuel LW n))
    | 284 => runF 1 (b_kinds_or_parts fuel (prP fuel LW n))
    | 285 => runF 5 (b_kinds_size_for fuel (prP fuel LW n))
    | 286 => runF 3 (b_kinds_sort_count fuel (prP fuel LW n))
    | 287 => runF 4 (b_kinds_terms_in fuel (prP fuel LW n))
    | 289 => runF 2 (b_likeness_alike fuel (prP fuel LW n))
    | 290 => runF 6 (b_likeness_expanded fuel (prP fuel LW n))
    | 292 => runF 6 (b_likeness_orders_of fuel (prP fuel LW n))
    | 293 => runF 5 (b_likeness_reduct fuel (prP fuel LW n))
    | 295 => runF 2 (b_likeness_same_signature fuel (prP fuel LW n))
    | 296 => runF 4 (b_lines_check_literal fuel (prP fuel LW n))
    | 300 => runF 3 (b_lines_judge fuel (prP fuel LW n))
    | 301 => runF 8 (b_lines_made_by fuel (prP fuel LW n))
    | 302 => runF 2 (b_lines_renumbered fuel (prP fuel LW n))
    | 303 => runF 1 (b_lines_sources fuel (prP fuel LW n))
    | 304 => runF 7 (b_matching_match_literal fuel (prP fuel LW n))
    | 307 => runF 2 (b_matching_subsumes fuel (prP fuel LW n))
    | 309 => runF 2 (b_matching_variants fuel (prP fuel LW n))
    | 310 => runF 3 (b_names_fresh_name fuel (prP fuel LW n))
    | 311 => runF 2 (b_names_has_name_signs fuel (prP fuel LW n))
    | 532 => runF 2 (b_names_has_name_signs_v1 fuel (prP fuel LW n))
    | 312 => runF 1 (b_names_is_capital_name fuel (prP fuel LW n))
    | 313 => runF 1 (b_names_is_small_name fuel (prP fuel LW n))
    | 315 => runF 3 (b_orders_Order_compare fuel (prP fuel LW n))
    | 320 => runF 3 (b_orders_occurrences fuel (prP fuel LW n))
    | 321 => runF 6 (b_orders_place_among fuel (prP fuel LW n))
    | 323 => runF 5 (b_orders_sorted_terms fuel (prP fuel LW n))
    | 324 => runF 4 (b_partial_Partial___init__ fuel (prP fuel LW n))
    | 326 => runF 5 (b_partial_Partial_is_free fuel (prP fuel LW n))
    | 327 => runF 7 (b_partial_Partial_read_clause fuel (prP fuel LW n))
    | 328 => runF 7 (b_partial_Partial_read_literal fuel (prP fuel LW n))
    | 329 => runF 8 (b_partial_Partial_read_term fuel (prP fuel LW n))
    | 332 => runF 5 (b_partial_first_constant fuel (prP fuel LW n))
    | 334 => runF 6 (b_partial_rows_of_things fuel (prP fuel LW n))
    | 335 => runF 3 (b_partial_stands_in fuel (prP fuel LW n))
    | 337 => runF 6 (b_questions_independent fuel (prP fuel LW n))
    | 340 => runF 3 (b_questions_part_of_book fuel (prP fuel LW n))
    | 343 => runF 4 (b_reading_Reader_take_arguments fuel (prP fuel LW n))
    | 539 => runF 3 (b_reading_Reader_take_equation_v1 fuel (prP fuel LW n))
    | 353 => runF 5 (b_reading_read_term fuel (prP fuel LW n))
    | 354 => runF 4 (b_reducing_is_needless fuel (prP fuel LW n))
    | 355 => runF 2 (b_reducing_needed_clauses fuel (prP fuel LW n))
    | 356 => runF 2 (b_rewriting_literal_true_by fuel (prP fuel LW n))
    | 357 => runF 5 (b_rewriting_normal fuel (prP fuel LW n))
    | 358 => runF 3 (b_rewriting_true_by fuel (prP fuel LW n))
    | 359 => runF 2 (b_scanning_Words___init__ fuel (prP fuel LW n))
    | 360 => runF 1 (b_scanning_Words_present fuel (prP fuel LW n))
    | 363 => runF 1 (b_scanning_is_name_sign fuel (prP fuel LW n))
    | 542 => runF 1 (b_scanning_is_name_sign_v1 fuel (prP fuel LW n))
    | 364 => runF 5 (b_scanning_line_words fuel (prP fuel LW n))
    | 367 => runF 3 (b_scanning_word_end fuel (prP fuel LW n))
    | 368 => runF 1 (b_sentences_atom_terms fuel (prP fuel LW n))
    | 369 => runF 3 (b_sentences_atoms_in fuel (prP fuel LW n))
    | 371 => runF 1 (b_sentences_children fuel (prP fuel LW n))
    | 373 => runF 5 (b_sentences_free_unknowns fuel (prP fuel LW n))
    | 375 => runF 4 (b_sentences_replace_sentence_at fuel (prP fuel LW n))
    | 376 => runF 4 (b_sentences_sentence_at fuel (prP fuel LW n))
    | 377 => runF 5 (b_sentences_sentence_places fuel (prP fuel LW n))
    | 378 => runF 2 (b_sentences_with_children fuel (prP fuel LW n))
    | 379 => runF 1 (b_shaping_can_narrow fuel (prP fuel LW n))
    | 380 => runF 1 (b_shaping_can_unfold fuel (prP fuel LW n))
    | 381 => runF 3 (b_shaping_changed_part fuel (prP fuel LW n))
    | 382 => runF 5 (b_shaping_chosen_body fuel (prP fuel LW n))
    | 384 => runF 7 (b_shaping_narrowed fuel (prP fuel LW n))
    | 386 => runF 1 (b_shaping_negation_form fuel (prP fuel LW n))
    | 388 => runF 2 (b_shaping_renamed_binder fuel (prP fuel LW n))
    | 389 => runF 7 (b_shaping_signed_form fuel (prP fuel LW n))
    | 392 => runF 8 (b_shrinking_cut_world fuel (prP fuel LW n))
    | 395 => runF 3 (b_shrinking_shrink fuel (prP fuel LW n))
    | 399 => runF 2 (b_sorts_case_of fuel (prP fuel LW n))
    | 400 => runF 1 (b_sorts_case_size fuel (prP fuel LW n))
    | 401 => runF 1 (b_sorts_cases_of fuel (prP fuel LW n))
    | 402 => runF 4 (b_sorts_cell_count fuel (prP fuel LW n))
    | 403 => runF 3 (b_sorts_has_digit fuel (prP fuel LW n))
    | 410 => runF 6 (b_sorts_rows_of fuel (prP fuel LW n))
    | 411 => runF 2 (b_sorts_small_world fuel (prP fuel LW n))
    | 413 => runF 5 (b_sorts_sort_of fuel (prP fuel LW n))
    | 415 => runF 2 (b_steps_drop_step fuel (prP fuel LW n))
    | 416 => runF 2 (b_steps_either_step fuel (prP fuel LW n))
    | 417 => runF 9 (b_steps_factor_step fuel (prP fuel LW n))
    | 418 => runF 5 (b_steps_fill_step fuel (prP fuel LW n))
    | 419 => runF 2 (b_steps_literal_of fuel (prP fuel LW n))
    | 420 => runF 3 (b_steps_other_literals fuel (prP fuel LW n))
    | 421 => runF 4 (b_steps_positive_sides fuel (prP fuel LW n))
    | 423 => runF 3 (b_terms_fill_term fuel (prP fuel LW n))
    | 424 => runF 1 (b_terms_is_atom fuel (prP fuel LW n))
    | 425 => runF 2 (b_terms_is_plain fuel (prP fuel LW n))
    | 426 => runF 1 (b_terms_is_unknown fuel (prP fuel LW n))
    | 427 => runF 3 (b_terms_part_at fuel (prP fuel LW n))
    | 428 => runF 4 (b_terms_parts_of fuel (prP fuel LW n))
    | 429 => runF 4 (b_terms_places_of fuel (prP fuel LW n))
    | 430 => runF 5 (b_terms_replace_at fuel (prP fuel LW n))
    | 431 => runF 2 (b_terms_term_size fuel (prP fuel LW n))
    | 432 => runF 3 (b_terms_term_text fuel (prP fuel LW n))
    | 433 => runF 4 (b_terms_unknowns_of fuel (prP fuel LW n))
    | 438 => runF 10 (b_treelines_LineWriter_row_of fuel (prP fuel LW n))
    | 441 => runF 3 (b_treelines_LineWriter_without_drops fuel (prP fuel LW n))
    | 442 => runF 7 (b_treelines_first_name fuel (prP fuel LW n))
    | 443 => runF 9 (b_treelines_first_spot fuel (prP fuel LW n))
    | 447 => runF 6 (b_trees_cells_under fuel (prP fuel LW n))
    | 450 => runF 3 (b_trees_cut_tree fuel (prP fuel LW n))
    | 451 => runF 9 (b_trees_fault_below fuel (prP fuel LW n))
    | 452 => runF 4 (b_trees_first_fault fuel (prP fuel LW n))
    | 455 => runF 4 (b_trees_judge_tree fuel (prP fuel LW n))
    | 460 => runF 2 (b_treetext_TreeReader_next_is fuel (prP fuel LW n))
    | 463 => runF 3 (b_treetext_TreeReader_take_depth fuel (prP fuel LW n))
    | 465 => runF 4 (b_treetext_TreeReader_take_node fuel (prP fuel LW n))
    | 466 => runF 2 (b_treetext_TreeReader_take_number fuel (prP fuel LW n))
    | 467 => runF 2 (b_treetext_TreeReader_take_numbers fuel (prP fuel LW n))
    | 470 => runF 4 (b_treetext_lines_below fuel (prP fuel LW n))
    | 471 => runF 2 (b_treetext_node_text fuel (prP fuel LW n))
    | 473 => runF 1 (b_treetext_tree_text fuel (prP fuel LW n))
    | 474 => runF 4 (b_truth_atom_true fuel (prP fuel LW n))
    | 475 => runF 8 (b_truth_binder_true fuel (prP fuel LW n))
    | 476 => runF 3 (b_truth_book_true fuel (prP fuel LW n))
    | 477 => runF 2 (b_truth_clause_true fuel (prP fuel LW n))
    | 478 => runF 3 (b_truth_clauses_true fuel (prP fuel LW n))
    | 480 => runF 6 (b_truth_literal_true fuel (prP fuel LW n))
    | 481 => runF 8 (b_truth_sentence_true fuel (prP fuel LW n))
    | 482 => runF 4 (b_truth_term_value fuel (prP fuel LW n))
    | 483 => runF 6 (b_worlds_World___init__ fuel (prP fuel LW n))
    | 484 => runF 4 (b_worlds_World__entry fuel (prP fuel LW n))
    | 486 => runF 3 (b_worlds_World_holds fuel (prP fuel LW n))
    | 487 => runF 2 (b_worlds_World_table fuel (prP fuel LW n))
    | 489 => runF 3 (b_worlds_World_value fuel (prP fuel LW n))
    | 490 => runF 4 (b_worlds_World_with_table fuel (prP fuel LW n))
    | 491 => runF 1 (b_worlds_all_names fuel (prP fuel LW n))
    | 492 => runF 5 (b_worlds_checked_entries fuel (prP fuel LW n))
    | 494 => runF 1 (b_worlds_is_function fuel (prP fuel LW n))
    | 496 => runF 4 (b_worlds_row_index fuel (prP fuel LW n))
    | 497 => runF 4 (b_worlds_table_length fuel (prP fuel LW n))
    | 498 => runF 3 (b_worlds_things_rows fuel (prP fuel LW n))
    | 501 => runF 1 (b_writing_ends_open fuel (prP fuel LW n))
    | 502 => runF 2 (b_writing_equation_text fuel (prP fuel LW n))
    | 503 => runF 3 (b_writing_sentence_text fuel (prP fuel LW n))
    | i => LW (prP fuel LW n) i
theorem e_answers_decided_clauses {fuel LW n} : prP fuel LW (n + 1) 101 = runF 2 (b_answers_decided_clauses fuel (prP fuel LW n)) := rfl
theorem e_answers_decided_origins {fuel LW n} : prP fuel LW (n + 1) 102 = runF 2 (b_answers_decided_origins fuel (prP fuel LW n)) := rfl
theorem e_answers_is_world_of {fuel LW n} : prP fuel LW (n + 1) 103 = runF 2 (b_answers_is_world_of fuel (prP fuel LW n)) := rfl
theorem e_answers_shows_no_world {fuel LW n} : prP fuel LW (n + 1) 105 = runF 6 (b_answers_shows_no_world fuel (prP fuel LW n)) := rfl
theorem e_answers_shows_none_smaller {fuel LW n} : prP fuel LW (n + 1) 106 = runF 4 (b_answers_shows_none_smaller fuel (prP fuel LW n)) := rfl
theorem e_benches_replay {fuel LW n} : prP fuel LW (n + 1) 122 = runF 4 (b_benches_replay fuel (prP fuel LW n)) := rfl
theorem e_books_Book_with_sentence_v1 {fuel LW n} : prP fuel LW (n + 1) 510 = runF 2 (b_books_Book_with_sentence_v1 fuel (prP fuel LW n)) := rfl
theorem e_books_Book_without {fuel LW n} : prP fuel LW (n + 1) 125 = runF 2 (b_books_Book_without fuel (prP fuel LW n)) := rfl
theorem e_books_Signature___init__ {fuel LW n} : prP fuel LW (n + 1) 126 = runF 6 (b_books_Signature___init__ fuel (prP fuel LW n)) := rfl
theorem e_books_Signature_arity {fuel LW n} : prP fuel LW (n + 1) 127 = runF 2 (b_books_Signature_arity fuel (prP fuel LW n)) := rfl
theorem e_books_Signature_check_sentence_v1 {fuel LW n} : prP fuel LW (n + 1) 511 = runF 6 (b_books_Signature_check_sentence_v1 fuel (prP fuel LW n)) := rfl
theorem e_books_Signature_check_term_v1 {fuel LW n} : prP fuel LW (n + 1) 512 = runF 4 (b_books_Signature_check_term_v1 fuel (prP fuel LW n)) := rfl
theorem e_books_Signature_constants_v1 {fuel LW n} : prP fuel LW (n + 1) 513 = runF 3 (b_books_Signature_constants_v1 fuel (prP fuel LW n)) := rfl
theorem e_books_Signature_extended_v1 {fuel LW n} : prP fuel LW (n + 1) 514 = runF 2 (b_books_Signature_extended_v1 fuel (prP fuel LW n)) := rfl
theorem e_books_Signature_has {fuel LW n} : prP fuel LW (n + 1) 132 = runF 2 (b_books_Signature_has fuel (prP fuel LW n)) := rfl
theorem e_casepapers_case_paper {fuel LW n} : prP fuel LW (n + 1) 133 = runF 1 (b_casepapers_case_paper fuel (prP fuel LW n)) := rfl
theorem e_casepapers_cases_before_paper {fuel LW n} : prP fuel LW (n + 1) 134 = runF 2 (b_casepapers_cases_before_paper fuel (prP fuel LW n)) := rfl
theorem e_casepapers_judge_cases {fuel LW n} : prP fuel LW (n + 1) 137 = runF 2 (b_casepapers_judge_cases fuel (prP fuel LW n)) := rfl
theorem e_casepapers_judge_cases_before {fuel LW n} : prP fuel LW (n + 1) 138 = runF 3 (b_casepapers_judge_cases_before fuel (prP fuel LW n)) := rfl
theorem e_choices_rows_of_things {fuel LW n} : prP fuel LW (n + 1) 142 = runF 6 (b_choices_rows_of_things fuel (prP fuel LW n)) := rfl
theorem e_choices_with {fuel LW n} : prP fuel LW (n + 1) 143 = runF 7 (b_choices_with fuel (prP fuel LW n)) := rfl
theorem e_clauseorders_bag_of {fuel LW n} : prP fuel LW (n + 1) 144 = runF 5 (b_clauseorders_bag_of fuel (prP fuel LW n)) := rfl
theorem e_clauseorders_compare_numbers {fuel LW n} : prP fuel LW (n + 1) 148 = runF 2 (b_clauseorders_compare_numbers fuel (prP fuel LW n)) := rfl
theorem e_clauseorders_descending {fuel LW n} : prP fuel LW (n + 1) 149 = runF 5 (b_clauseorders_descending fuel (prP fuel LW n)) := rfl
theorem e_clauseorders_greater_side {fuel LW n} : prP fuel LW (n + 1) 150 = runF 3 (b_clauseorders_greater_side fuel (prP fuel LW n)) := rfl
theorem e_clauseorders_greatest_index {fuel LW n} : prP fuel LW (n + 1) 151 = runF 4 (b_clauseorders_greatest_index fuel (prP fuel LW n)) := rfl
theorem e_clauses_always_true {fuel LW n} : prP fuel LW (n + 1) 153 = runF 2 (b_clauses_always_true fuel (prP fuel LW n)) := rfl
theorem e_clauses_clause_text {fuel LW n} : prP fuel LW (n + 1) 154 = runF 2 (b_clauses_clause_text fuel (prP fuel LW n)) := rfl
theorem e_clauses_clause_unknowns {fuel LW n} : prP fuel LW (n + 1) 155 = runF 5 (b_clauses_clause_unknowns fuel (prP fuel LW n)) := rfl
theorem e_clauses_fill_clause {fuel LW n} : prP fuel LW (n + 1) 156 = runF 3 (b_clauses_fill_clause fuel (prP fuel LW n)) := rfl
theorem e_clauses_fill_literal {fuel LW n} : prP fuel LW (n + 1) 157 = runF 2 (b_clauses_fill_literal fuel (prP fuel LW n)) := rfl
theorem e_clauses_is_ground {fuel LW n} : prP fuel LW (n + 1) 158 = runF 1 (b_clauses_is_ground fuel (prP fuel LW n)) := rfl
theorem e_clauses_is_literal {fuel LW n} : prP fuel LW (n + 1) 159 = runF 1 (b_clauses_is_literal fuel (prP fuel LW n)) := rfl
theorem e_clauses_literal_places {fuel LW n} : prP fuel LW (n + 1) 160 = runF 3 (b_clauses_literal_places fuel (prP fuel LW n)) := rfl
theorem e_clauses_literal_text {fuel LW n} : prP fuel LW (n + 1) 161 = runF 4 (b_clauses_literal_text fuel (prP fuel LW n)) := rfl
theorem e_clauses_make_clause {fuel LW n} : prP fuel LW (n + 1) 162 = runF 4 (b_clauses_make_clause fuel (prP fuel LW n)) := rfl
theorem e_clauses_make_literal {fuel LW n} : prP fuel LW (n + 1) 163 = runF 3 (b_clauses_make_literal fuel (prP fuel LW n)) := rfl
theorem e_clauses_opposite {fuel LW n} : prP fuel LW (n + 1) 164 = runF 1 (b_clauses_opposite fuel (prP fuel LW n)) := rfl
theorem e_deciders_rounds_enough {fuel LW n} : prP fuel LW (n + 1) 175 = runF 6 (b_deciders_rounds_enough fuel (prP fuel LW n)) := rfl
theorem e_fillings_closed_terms {fuel LW n} : prP fuel LW (n + 1) 195 = runF 10 (b_fillings_closed_terms fuel (prP fuel LW n)) := rfl
theorem e_fillings_named_signature {fuel LW n} : prP fuel LW (n + 1) 197 = runF 4 (b_fillings_named_signature fuel (prP fuel LW n)) := rfl
theorem e_fillings_power {fuel LW n} : prP fuel LW (n + 1) 198 = runF 4 (b_fillings_power fuel (prP fuel LW n)) := rfl
theorem e_fillings_rows_of {fuel LW n} : prP fuel LW (n + 1) 199 = runF 6 (b_fillings_rows_of fuel (prP fuel LW n)) := rfl
theorem e_forms_Form___init__ {fuel LW n} : prP fuel LW (n + 1) 200 = runF 8 (b_forms_Form___init__ fuel (prP fuel LW n)) := rfl
theorem e_forms_Form__set_apart {fuel LW n} : prP fuel LW (n + 1) 203 = runF 5 (b_forms_Form__set_apart fuel (prP fuel LW n)) := rfl
theorem e_forms_Form__step {fuel LW n} : prP fuel LW (n + 1) 206 = runF 7 (b_forms_Form__step fuel (prP fuel LW n)) := rfl
theorem e_forms_form_of {fuel LW n} : prP fuel LW (n + 1) 207 = runF 1 (b_forms_form_of fuel (prP fuel LW n)) := rfl
theorem e_forms_is_all {fuel LW n} : prP fuel LW (n + 1) 208 = runF 1 (b_forms_is_all fuel (prP fuel LW n)) := rfl
theorem e_forms_is_some {fuel LW n} : prP fuel LW (n + 1) 209 = runF 1 (b_forms_is_some fuel (prP fuel LW n)) := rfl
theorem e_forms_literal_of {fuel LW n} : prP fuel LW (n + 1) 210 = runF 3 (b_forms_literal_of fuel (prP fuel LW n)) := rfl
theorem e_forms_literal_rows {fuel LW n} : prP fuel LW (n + 1) 211 = runF 5 (b_forms_literal_rows fuel (prP fuel LW n)) := rfl
theorem e_forms_names_in {fuel LW n} : prP fuel LW (n + 1) 212 = runF 5 (b_forms_names_in fuel (prP fuel LW n)) := rfl
theorem e_going_count_worlds {fuel LW n} : prP fuel LW (n + 1) 216 = runF 6 (b_going_count_worlds fuel (prP fuel LW n)) := rfl
theorem e_going_entry_choices {fuel LW n} : prP fuel LW (n + 1) 217 = runF 2 (b_going_entry_choices fuel (prP fuel LW n)) := rfl
theorem e_going_world_number {fuel LW n} : prP fuel LW (n + 1) 219 = runF 5 (b_going_world_number fuel (prP fuel LW n)) := rfl
theorem e_groundworlds_rows_of_things {fuel LW n} : prP fuel LW (n + 1) 222 = runF 6 (b_groundworlds_rows_of_things fuel (prP fuel LW n)) := rfl
theorem e_groundworlds_rule_made {fuel LW n} : prP fuel LW (n + 1) 223 = runF 9 (b_groundworlds_rule_made fuel (prP fuel LW n)) := rfl
theorem e_groundworlds_rules_of {fuel LW n} : prP fuel LW (n + 1) 224 = runF 5 (b_groundworlds_rules_of fuel (prP fuel LW n)) := rfl
theorem e_groundworlds_table_of {fuel LW n} : prP fuel LW (n + 1) 225 = runF 7 (b_groundworlds_table_of fuel (prP fuel LW n)) := rfl
theorem e_groundworlds_world_of {fuel LW n} : prP fuel LW (n + 1) 226 = runF 12 (b_groundworlds_world_of fuel (prP fuel LW n)) := rfl
theorem e_growing_Branch_closed {fuel LW n} : prP fuel LW (n + 1) 228 = runF 2 (b_growing_Branch_closed fuel (prP fuel LW n)) := rfl
theorem e_growing_Grower___init__ {fuel LW n} : prP fuel LW (n + 1) 229 = runF 7 (b_growing_Grower___init__ fuel (prP fuel LW n)) := rfl
theorem e_growing_Grower__read_new {fuel LW n} : prP fuel LW (n + 1) 234 = runF 5 (b_growing_Grower__read_new fuel (prP fuel LW n)) := rfl
theorem e_growing_Grower_has_ended {fuel LW n} : prP fuel LW (n + 1) 235 = runF 1 (b_growing_Grower_has_ended fuel (prP fuel LW n)) := rfl
theorem e_growing_filled_world {fuel LW n} : prP fuel LW (n + 1) 237 = runF 7 (b_growing_filled_world fuel (prP fuel LW n)) := rfl
theorem e_growing_most_nodes {fuel LW n} : prP fuel LW (n + 1) 240 = runF 7 (b_growing_most_nodes fuel (prP fuel LW n)) := rfl
theorem e_hearts_Heart___init__ {fuel LW n} : prP fuel LW (n + 1) 241 = runF 4 (b_hearts_Heart___init__ fuel (prP fuel LW n)) := rfl
theorem e_hearts_Heart_add {fuel LW n} : prP fuel LW (n + 1) 242 = runF 2 (b_hearts_Heart_add fuel (prP fuel LW n)) := rfl
theorem e_hearts_Heart_has_ended {fuel LW n} : prP fuel LW (n + 1) 243 = runF 1 (b_hearts_Heart_has_ended fuel (prP fuel LW n)) := rfl
theorem e_hearts_Heart_infer {fuel LW n} : prP fuel LW (n + 1) 244 = runF 3 (b_hearts_Heart_infer fuel (prP fuel LW n)) := rfl
theorem e_hearts_Heart_infer_join {fuel LW n} : prP fuel LW (n + 1) 245 = runF 9 (b_hearts_Heart_infer_join fuel (prP fuel LW n)) := rfl
theorem e_hearts_Heart_kept_clauses_v1 {fuel LW n} : prP fuel LW (n + 1) 525 = runF 1 (b_hearts_Heart_kept_clauses_v1 fuel (prP fuel LW n)) := rfl
theorem e_hearts_Heart_least_row {fuel LW n} : prP fuel LW (n + 1) 248 = runF 5 (b_hearts_Heart_least_row fuel (prP fuel LW n)) := rfl
theorem e_hearts_Heart_put {fuel LW n} : prP fuel LW (n + 1) 249 = runF 3 (b_hearts_Heart_put fuel (prP fuel LW n)) := rfl
theorem e_hearts_saturate {fuel LW n} : prP fuel LW (n + 1) 252 = runF 6 (b_hearts_saturate fuel (prP fuel LW n)) := rfl
theorem e_inferring_can_drop {fuel LW n} : prP fuel LW (n + 1) 253 = runF 2 (b_inferring_can_drop fuel (prP fuel LW n)) := rfl
theorem e_inferring_covered {fuel LW n} : prP fuel LW (n + 1) 254 = runF 4 (b_inferring_covered fuel (prP fuel LW n)) := rfl
theorem e_inferring_first_place {fuel LW n} : prP fuel LW (n + 1) 256 = runF 4 (b_inferring_first_place fuel (prP fuel LW n)) := rfl
theorem e_inferring_head_of {fuel LW n} : prP fuel LW (n + 1) 257 = runF 4 (b_inferring_head_of fuel (prP fuel LW n)) := rfl
theorem e_inferring_holds_all {fuel LW n} : prP fuel LW (n + 1) 258 = runF 3 (b_inferring_holds_all fuel (prP fuel LW n)) := rfl
theorem e_inferring_join {fuel LW n} : prP fuel LW (n + 1) 261 = runF 5 (b_inferring_join fuel (prP fuel LW n)) := rfl
theorem e_inferring_join_heads {fuel LW n} : prP fuel LW (n + 1) 262 = runF 8 (b_inferring_join_heads fuel (prP fuel LW n)) := rfl
theorem e_inferring_needless {fuel LW n} : prP fuel LW (n + 1) 263 = runF 3 (b_inferring_needless fuel (prP fuel LW n)) := rfl
theorem e_inferring_place_in_clause {fuel LW n} : prP fuel LW (n + 1) 264 = runF 5 (b_inferring_place_in_clause fuel (prP fuel LW n)) := rfl
theorem e_inferring_simpler {fuel LW n} : prP fuel LW (n + 1) 265 = runF 7 (b_inferring_simpler fuel (prP fuel LW n)) := rfl
theorem e_inferring_simplify {fuel LW n} : prP fuel LW (n + 1) 266 = runF 3 (b_inferring_simplify fuel (prP fuel LW n)) := rfl
theorem e_kinds_above_arity {fuel LW n} : prP fuel LW (n + 1) 267 = runF 5 (b_kinds_above_arity fuel (prP fuel LW n)) := rfl
theorem e_kinds_enough {fuel LW n} : prP fuel LW (n + 1) 269 = runF 2 (b_kinds_enough fuel (prP fuel LW n)) := rfl
theorem e_kinds_function_names {fuel LW n} : prP fuel LW (n + 1) 270 = runF 3 (b_kinds_function_names fuel (prP fuel LW n)) := rfl
theorem e_kinds_has_some_in_all {fuel LW n} : prP fuel LW (n + 1) 272 = runF 3 (b_kinds_has_some_in_all fuel (prP fuel LW n)) := rfl
theorem e_kinds_is_linked {fuel LW n} : prP fuel LW (n + 1) 274 = runF 3 (b_kinds_is_linked fuel (prP fuel LW n)) := rfl
theorem e_kinds_is_positive {fuel LW n} : prP fuel LW (n + 1) 275 = runF 2 (b_kinds_is_positive fuel (prP fuel LW n)) := rfl
theorem e_kinds_is_prefix {fuel LW n} : prP fuel LW (n + 1) 276 = runF 3 (b_kinds_is_prefix fuel (prP fuel LW n)) := rfl
theorem e_kinds_is_single {fuel LW n} : prP fuel LW (n + 1) 277 = runF 3 (b_kinds_is_single fuel (prP fuel LW n)) := rfl
theorem e_kinds_kinds_of {fuel LW n} : prP fuel LW (n + 1) 278 = runF 3 (b_kinds_kinds_of fuel (prP fuel LW n)) := rfl
theorem e_kinds_many_some {fuel LW n} : prP fuel LW (n + 1) 281 = runF 2 (b_kinds_many_some fuel (prP fuel LW n)) := rfl
theorem e_kinds_names_in {fuel LW n} : prP fuel LW (n + 1) 282 = runF 8 (b_kinds_names_in fuel (prP fuel LW n)) := rfl
theorem e_kinds_of_arity {fuel LW n} : prP fuel LW (n + 1) 283 = runF 5 (b_kinds_of_arity fuel (prP fuel LW n)) := rfl
theorem e_kinds_or_parts {fuel LW n} : prP fuel LW (n + 1) 284 = runF 1 (b_kinds_or_parts fuel (prP fuel LW n)) := rfl
theorem e_kinds_size_for {fuel LW n} : prP fuel LW (n + 1) 285 = runF 5 (b_kinds_size_for fuel (prP fuel LW n)) := rfl
theorem e_kinds_sort_count {fuel LW n} : prP fuel LW (n + 1) 286 = runF 3 (b_kinds_sort_count fuel (prP fuel LW n)) := rfl
theorem e_kinds_terms_in {fuel LW n} : prP fuel LW (n + 1) 287 = runF 4 (b_kinds_terms_in fuel (prP fuel LW n)) := rfl
theorem e_likeness_alike {fuel LW n} : prP fuel LW (n + 1) 289 = runF 2 (b_likeness_alike fuel (prP fuel LW n)) := rfl
theorem e_likeness_expanded {fuel LW n} : prP fuel LW (n + 1) 290 = runF 6 (b_likeness_expanded fuel (prP fuel LW n)) := rfl
theorem e_likeness_orders_of {fuel LW n} : prP fuel LW (n + 1) 292 = runF 6 (b_likeness_orders_of fuel (prP fuel LW n)) := rfl
theorem e_likeness_reduct {fuel LW n} : prP fuel LW (n + 1) 293 = runF 5 (b_likeness_reduct fuel (prP fuel LW n)) := rfl
theorem e_likeness_same_signature {fuel LW n} : prP fuel LW (n + 1) 295 = runF 2 (b_likeness_same_signature fuel (prP fuel LW n)) := rfl
theorem e_lines_check_literal {fuel LW n} : prP fuel LW (n + 1) 296 = runF 4 (b_lines_check_literal fuel (prP fuel LW n)) := rfl
theorem e_lines_judge {fuel LW n} : prP fuel LW (n + 1) 300 = runF 3 (b_lines_judge fuel (prP fuel LW n)) := rfl
theorem e_lines_made_by {fuel LW n} : prP fuel LW (n + 1) 301 = runF 8 (b_lines_made_by fuel (prP fuel LW n)) := rfl
theorem e_lines_renumbered {fuel LW n} : prP fuel LW (n + 1) 302 = runF 2 (b_lines_renumbered fuel (prP fuel LW n)) := rfl
theorem e_lines_sources {fuel LW n} : prP fuel LW (n + 1) 303 = runF 1 (b_lines_sources fuel (prP fuel LW n)) := rfl
theorem e_matching_match_literal {fuel LW n} : prP fuel LW (n + 1) 304 = runF 7 (b_matching_match_literal fuel (prP fuel LW n)) := rfl
theorem e_matching_subsumes {fuel LW n} : prP fuel LW (n + 1) 307 = runF 2 (b_matching_subsumes fuel (prP fuel LW n)) := rfl
theorem e_matching_variants {fuel LW n} : prP fuel LW (n + 1) 309 = runF 2 (b_matching_variants fuel (prP fuel LW n)) := rfl
theorem e_names_fresh_name {fuel LW n} : prP fuel LW (n + 1) 310 = runF 3 (b_names_fresh_name fuel (prP fuel LW n)) := rfl
theorem e_names_has_name_signs {fuel LW n} : prP fuel LW (n + 1) 311 = runF 2 (b_names_has_name_signs fuel (prP fuel LW n)) := rfl
theorem e_names_has_name_signs_v1 {fuel LW n} : prP fuel LW (n + 1) 532 = runF 2 (b_names_has_name_signs_v1 fuel (prP fuel LW n)) := rfl
theorem e_names_is_capital_name {fuel LW n} : prP fuel LW (n + 1) 312 = runF 1 (b_names_is_capital_name fuel (prP fuel LW n)) := rfl
theorem e_names_is_small_name {fuel LW n} : prP fuel LW (n + 1) 313 = runF 1 (b_names_is_small_name fuel (prP fuel LW n)) := rfl
theorem e_orders_Order_compare {fuel LW n} : prP fuel LW (n + 1) 315 = runF 3 (b_orders_Order_compare fuel (prP fuel LW n)) := rfl
theorem e_orders_occurrences {fuel LW n} : prP fuel LW (n + 1) 320 = runF 3 (b_orders_occurrences fuel (prP fuel LW n)) := rfl
theorem e_orders_place_among {fuel LW n} : prP fuel LW (n + 1) 321 = runF 6 (b_orders_place_among fuel (prP fuel LW n)) := rfl
theorem e_orders_sorted_terms {fuel LW n} : prP fuel LW (n + 1) 323 = runF 5 (b_orders_sorted_terms fuel (prP fuel LW n)) := rfl
theorem e_partial_Partial___init__ {fuel LW n} : prP fuel LW (n + 1) 324 = runF 4 (b_partial_Partial___init__ fuel (prP fuel LW n)) := rfl
theorem e_partial_Partial_is_free {fuel LW n} : prP fuel LW (n + 1) 326 = runF 5 (b_partial_Partial_is_free fuel (prP fuel LW n)) := rfl
theorem e_partial_Partial_read_clause {fuel LW n} : prP fuel LW (n + 1) 327 = runF 7 (b_partial_Partial_read_clause fuel (prP fuel LW n)) := rfl
theorem e_partial_Partial_read_literal {fuel LW n} : prP fuel LW (n + 1) 328 = runF 7 (b_partial_Partial_read_literal fuel (prP fuel LW n)) := rfl
theorem e_partial_Partial_read_term {fuel LW n} : prP fuel LW (n + 1) 329 = runF 8 (b_partial_Partial_read_term fuel (prP fuel LW n)) := rfl
theorem e_partial_first_constant {fuel LW n} : prP fuel LW (n + 1) 332 = runF 5 (b_partial_first_constant fuel (prP fuel LW n)) := rfl
theorem e_partial_rows_of_things {fuel LW n} : prP fuel LW (n + 1) 334 = runF 6 (b_partial_rows_of_things fuel (prP fuel LW n)) := rfl
theorem e_partial_stands_in {fuel LW n} : prP fuel LW (n + 1) 335 = runF 3 (b_partial_stands_in fuel (prP fuel LW n)) := rfl
theorem e_questions_independent {fuel LW n} : prP fuel LW (n + 1) 337 = runF 6 (b_questions_independent fuel (prP fuel LW n)) := rfl
theorem e_questions_part_of_book {fuel LW n} : prP fuel LW (n + 1) 340 = runF 3 (b_questions_part_of_book fuel (prP fuel LW n)) := rfl
theorem e_reading_Reader_take_arguments {fuel LW n} : prP fuel LW (n + 1) 343 = runF 4 (b_reading_Reader_take_arguments fuel (prP fuel LW n)) := rfl
theorem e_reading_Reader_take_equation_v1 {fuel LW n} : prP fuel LW (n + 1) 539 = runF 3 (b_reading_Reader_take_equation_v1 fuel (prP fuel LW n)) := rfl
theorem e_reading_read_term {fuel LW n} : prP fuel LW (n + 1) 353 = runF 5 (b_reading_read_term fuel (prP fuel LW n)) := rfl
theorem e_reducing_is_needless {fuel LW n} : prP fuel LW (n + 1) 354 = runF 4 (b_reducing_is_needless fuel (prP fuel LW n)) := rfl
theorem e_reducing_needed_clauses {fuel LW n} : prP fuel LW (n + 1) 355 = runF 2 (b_reducing_needed_clauses fuel (prP fuel LW n)) := rfl
theorem e_rewriting_literal_true_by {fuel LW n} : prP fuel LW (n + 1) 356 = runF 2 (b_rewriting_literal_true_by fuel (prP fuel LW n)) := rfl
theorem e_rewriting_normal {fuel LW n} : prP fuel LW (n + 1) 357 = runF 5 (b_rewriting_normal fuel (prP fuel LW n)) := rfl
theorem e_rewriting_true_by {fuel LW n} : prP fuel LW (n + 1) 358 = runF 3 (b_rewriting_true_by fuel (prP fuel LW n)) := rfl
theorem e_scanning_Words___init__ {fuel LW n} : prP fuel LW (n + 1) 359 = runF 2 (b_scanning_Words___init__ fuel (prP fuel LW n)) := rfl
theorem e_scanning_Words_present {fuel LW n} : prP fuel LW (n + 1) 360 = runF 1 (b_scanning_Words_present fuel (prP fuel LW n)) := rfl
theorem e_scanning_is_name_sign {fuel LW n} : prP fuel LW (n + 1) 363 = runF 1 (b_scanning_is_name_sign fuel (prP fuel LW n)) := rfl
theorem e_scanning_is_name_sign_v1 {fuel LW n} : prP fuel LW (n + 1) 542 = runF 1 (b_scanning_is_name_sign_v1 fuel (prP fuel LW n)) := rfl
theorem e_scanning_line_words {fuel LW n} : prP fuel LW (n + 1) 364 = runF 5 (b_scanning_line_words fuel (prP fuel LW n)) := rfl
theorem e_scanning_word_end {fuel LW n} : prP fuel LW (n + 1) 367 = runF 3 (b_scanning_word_end fuel (prP fuel LW n)) := rfl
theorem e_sentences_atom_terms {fuel LW n} : prP fuel LW (n + 1) 368 = runF 1 (b_sentences_atom_terms fuel (prP fuel LW n)) := rfl
theorem e_sentences_atoms_in {fuel LW n} : prP fuel LW (n + 1) 369 = runF 3 (b_sentences_atoms_in fuel (prP fuel LW n)) := rfl
theorem e_sentences_children {fuel LW n} : prP fuel LW (n + 1) 371 = runF 1 (b_sentences_children fuel (prP fuel LW n)) := rfl
theorem e_sentences_free_unknowns {fuel LW n} : prP fuel LW (n + 1) 373 = runF 5 (b_sentences_free_unknowns fuel (prP fuel LW n)) := rfl
theorem e_sentences_replace_sentence_at {fuel LW n} : prP fuel LW (n + 1) 375 = runF 4 (b_sentences_replace_sentence_at fuel (prP fuel LW n)) := rfl
theorem e_sentences_sentence_at {fuel LW n} : prP fuel LW (n + 1) 376 = runF 4 (b_sentences_sentence_at fuel (prP fuel LW n)) := rfl
theorem e_sentences_sentence_places {fuel LW n} : prP fuel LW (n + 1) 377 = runF 5 (b_sentences_sentence_places fuel (prP fuel LW n)) := rfl
theorem e_sentences_with_children {fuel LW n} : prP fuel LW (n + 1) 378 = runF 2 (b_sentences_with_children fuel (prP fuel LW n)) := rfl
theorem e_shaping_can_narrow {fuel LW n} : prP fuel LW (n + 1) 379 = runF 1 (b_shaping_can_narrow fuel (prP fuel LW n)) := rfl
theorem e_shaping_can_unfold {fuel LW n} : prP fuel LW (n + 1) 380 = runF 1 (b_shaping_can_unfold fuel (prP fuel LW n)) := rfl
theorem e_shaping_changed_part {fuel LW n} : prP fuel LW (n + 1) 381 = runF 3 (b_shaping_changed_part fuel (prP fuel LW n)) := rfl
theorem e_shaping_chosen_body {fuel LW n} : prP fuel LW (n + 1) 382 = runF 5 (b_shaping_chosen_body fuel (prP fuel LW n)) := rfl
theorem e_shaping_narrowed {fuel LW n} : prP fuel LW (n + 1) 384 = runF 7 (b_shaping_narrowed fuel (prP fuel LW n)) := rfl
theorem e_shaping_negation_form {fuel LW n} : prP fuel LW (n + 1) 386 = runF 1 (b_shaping_negation_form fuel (prP fuel LW n)) := rfl
theorem e_shaping_renamed_binder {fuel LW n} : prP fuel LW (n + 1) 388 = runF 2 (b_shaping_renamed_binder fuel (prP fuel LW n)) := rfl
theorem e_shaping_signed_form {fuel LW n} : prP fuel LW (n + 1) 389 = runF 7 (b_shaping_signed_form fuel (prP fuel LW n)) := rfl
theorem e_shrinking_cut_world {fuel LW n} : prP fuel LW (n + 1) 392 = runF 8 (b_shrinking_cut_world fuel (prP fuel LW n)) := rfl
theorem e_shrinking_shrink {fuel LW n} : prP fuel LW (n + 1) 395 = runF 3 (b_shrinking_shrink fuel (prP fuel LW n)) := rfl
theorem e_sorts_case_of {fuel LW n} : prP fuel LW (n + 1) 399 = runF 2 (b_sorts_case_of fuel (prP fuel LW n)) := rfl
theorem e_sorts_case_size {fuel LW n} : prP fuel LW (n + 1) 400 = runF 1 (b_sorts_case_size fuel (prP fuel LW n)) := rfl
theorem e_sorts_cases_of {fuel LW n} : prP fuel LW (n + 1) 401 = runF 1 (b_sorts_cases_of fuel (prP fuel LW n)) := rfl
theorem e_sorts_cell_count {fuel LW n} : prP fuel LW (n + 1) 402 = runF 4 (b_sorts_cell_count fuel (prP fuel LW n)) := rfl
theorem e_sorts_has_digit {fuel LW n} : prP fuel LW (n + 1) 403 = runF 3 (b_sorts_has_digit fuel (prP fuel LW n)) := rfl
theorem e_sorts_rows_of {fuel LW n} : prP fuel LW (n + 1) 410 = runF 6 (b_sorts_rows_of fuel (prP fuel LW n)) := rfl
theorem e_sorts_small_world {fuel LW n} : prP fuel LW (n + 1) 411 = runF 2 (b_sorts_small_world fuel (prP fuel LW n)) := rfl
theorem e_sorts_sort_of {fuel LW n} : prP fuel LW (n + 1) 413 = runF 5 (b_sorts_sort_of fuel (prP fuel LW n)) := rfl
theorem e_steps_drop_step {fuel LW n} : prP fuel LW (n + 1) 415 = runF 2 (b_steps_drop_step fuel (prP fuel LW n)) := rfl
theorem e_steps_either_step {fuel LW n} : prP fuel LW (n + 1) 416 = runF 2 (b_steps_either_step fuel (prP fuel LW n)) := rfl
theorem e_steps_factor_step {fuel LW n} : prP fuel LW (n + 1) 417 = runF 9 (b_steps_factor_step fuel (prP fuel LW n)) := rfl
theorem e_steps_fill_step {fuel LW n} : prP fuel LW (n + 1) 418 = runF 5 (b_steps_fill_step fuel (prP fuel LW n)) := rfl
theorem e_steps_literal_of {fuel LW n} : prP fuel LW (n + 1) 419 = runF 2 (b_steps_literal_of fuel (prP fuel LW n)) := rfl
theorem e_steps_other_literals {fuel LW n} : prP fuel LW (n + 1) 420 = runF 3 (b_steps_other_literals fuel (prP fuel LW n)) := rfl
theorem e_steps_positive_sides {fuel LW n} : prP fuel LW (n + 1) 421 = runF 4 (b_steps_positive_sides fuel (prP fuel LW n)) := rfl
theorem e_terms_fill_term {fuel LW n} : prP fuel LW (n + 1) 423 = runF 3 (b_terms_fill_term fuel (prP fuel LW n)) := rfl
theorem e_terms_is_atom {fuel LW n} : prP fuel LW (n + 1) 424 = runF 1 (b_terms_is_atom fuel (prP fuel LW n)) := rfl
theorem e_terms_is_plain {fuel LW n} : prP fuel LW (n + 1) 425 = runF 2 (b_terms_is_plain fuel (prP fuel LW n)) := rfl
theorem e_terms_is_unknown {fuel LW n} : prP fuel LW (n + 1) 426 = runF 1 (b_terms_is_unknown fuel (prP fuel LW n)) := rfl
theorem e_terms_part_at {fuel LW n} : prP fuel LW (n + 1) 427 = runF 3 (b_terms_part_at fuel (prP fuel LW n)) := rfl
theorem e_terms_parts_of {fuel LW n} : prP fuel LW (n + 1) 428 = runF 4 (b_terms_parts_of fuel (prP fuel LW n)) := rfl
theorem e_terms_places_of {fuel LW n} : prP fuel LW (n + 1) 429 = runF 4 (b_terms_places_of fuel (prP fuel LW n)) := rfl
theorem e_terms_replace_at {fuel LW n} : prP fuel LW (n + 1) 430 = runF 5 (b_terms_replace_at fuel (prP fuel LW n)) := rfl
theorem e_terms_term_size {fuel LW n} : prP fuel LW (n + 1) 431 = runF 2 (b_terms_term_size fuel (prP fuel LW n)) := rfl
theorem e_terms_term_text {fuel LW n} : prP fuel LW (n + 1) 432 = runF 3 (b_terms_term_text fuel (prP fuel LW n)) := rfl
theorem e_terms_unknowns_of {fuel LW n} : prP fuel LW (n + 1) 433 = runF 4 (b_terms_unknowns_of fuel (prP fuel LW n)) := rfl
theorem e_treelines_LineWriter_row_of {fuel LW n} : prP fuel LW (n + 1) 438 = runF 10 (b_treelines_LineWriter_row_of fuel (prP fuel LW n)) := rfl
theorem e_treelines_LineWriter_without_drops {fuel LW n} : prP fuel LW (n + 1) 441 = runF 3 (b_treelines_LineWriter_without_drops fuel (prP fuel LW n)) := rfl
theorem e_treelines_first_name {fuel LW n} : prP fuel LW (n + 1) 442 = runF 7 (b_treelines_first_name fuel (prP fuel LW n)) := rfl
theorem e_treelines_first_spot {fuel LW n} : prP fuel LW (n + 1) 443 = runF 9 (b_treelines_first_spot fuel (prP fuel LW n)) := rfl
theorem e_trees_cells_under {fuel LW n} : prP fuel LW (n + 1) 447 = runF 6 (b_trees_cells_under fuel (prP fuel LW n)) := rfl
theorem e_trees_cut_tree {fuel LW n} : prP fuel LW (n + 1) 450 = runF 3 (b_trees_cut_tree fuel (prP fuel LW n)) := rfl
theorem e_trees_fault_below {fuel LW n} : prP fuel LW (n + 1) 451 = runF 9 (b_trees_fault_below fuel (prP fuel LW n)) := rfl
theorem e_trees_first_fault {fuel LW n} : prP fuel LW (n + 1) 452 = runF 4 (b_trees_first_fault fuel (prP fuel LW n)) := rfl
theorem e_trees_judge_tree {fuel LW n} : prP fuel LW (n + 1) 455 = runF 4 (b_trees_judge_tree fuel (prP fuel LW n)) := rfl
theorem e_treetext_TreeReader_next_is {fuel LW n} : prP fuel LW (n + 1) 460 = runF 2 (b_treetext_TreeReader_next_is fuel (prP fuel LW n)) := rfl
theorem e_treetext_TreeReader_take_depth {fuel LW n} : prP fuel LW (n + 1) 463 = runF 3 (b_treetext_TreeReader_take_depth fuel (prP fuel LW n)) := rfl
theorem e_treetext_TreeReader_take_node {fuel LW n} : prP fuel LW (n + 1) 465 = runF 4 (b_treetext_TreeReader_take_node fuel (prP fuel LW n)) := rfl
theorem e_treetext_TreeReader_take_number {fuel LW n} : prP fuel LW (n + 1) 466 = runF 2 (b_treetext_TreeReader_take_number fuel (prP fuel LW n)) := rfl
theorem e_treetext_TreeReader_take_numbers {fuel LW n} : prP fuel LW (n + 1) 467 = runF 2 (b_treetext_TreeReader_take_numbers fuel (prP fuel LW n)) := rfl
theorem e_treetext_lines_below {fuel LW n} : prP fuel LW (n + 1) 470 = runF 4 (b_treetext_lines_below fuel (prP fuel LW n)) := rfl
theorem e_treetext_node_text {fuel LW n} : prP fuel LW (n + 1) 471 = runF 2 (b_treetext_node_text fuel (prP fuel LW n)) := rfl
theorem e_treetext_tree_text {fuel LW n} : prP fuel LW (n + 1) 473 = runF 1 (b_treetext_tree_text fuel (prP fuel LW n)) := rfl
theorem e_truth_atom_true {fuel LW n} : prP fuel LW (n + 1) 474 = runF 4 (b_truth_atom_true fuel (prP fuel LW n)) := rfl
theorem e_truth_binder_true {fuel LW n} : prP fuel LW (n + 1) 475 = runF 8 (b_truth_binder_true fuel (prP fuel LW n)) := rfl
theorem e_truth_book_true {fuel LW n} : prP fuel LW (n + 1) 476 = runF 3 (b_truth_book_true fuel (prP fuel LW n)) := rfl
theorem e_truth_clause_true {fuel LW n} : prP fuel LW (n + 1) 477 = runF 2 (b_truth_clause_true fuel (prP fuel LW n)) := rfl
theorem e_truth_clauses_true {fuel LW n} : prP fuel LW (n + 1) 478 = runF 3 (b_truth_clauses_true fuel (prP fuel LW n)) := rfl
theorem e_truth_literal_true {fuel LW n} : prP fuel LW (n + 1) 480 = runF 6 (b_truth_literal_true fuel (prP fuel LW n)) := rfl
theorem e_truth_sentence_true {fuel LW n} : prP fuel LW (n + 1) 481 = runF 8 (b_truth_sentence_true fuel (prP fuel LW n)) := rfl
theorem e_truth_term_value {fuel LW n} : prP fuel LW (n + 1) 482 = runF 4 (b_truth_term_value fuel (prP fuel LW n)) := rfl
theorem e_worlds_World___init__ {fuel LW n} : prP fuel LW (n + 1) 483 = runF 6 (b_worlds_World___init__ fuel (prP fuel LW n)) := rfl
theorem e_worlds_World__entry {fuel LW n} : prP fuel LW (n + 1) 484 = runF 4 (b_worlds_World__entry fuel (prP fuel LW n)) := rfl
theorem e_worlds_World_holds {fuel LW n} : prP fuel LW (n + 1) 486 = runF 3 (b_worlds_World_holds fuel (prP fuel LW n)) := rfl
theorem e_worlds_World_table {fuel LW n} : prP fuel LW (n + 1) 487 = runF 2 (b_worlds_World_table fuel (prP fuel LW n)) := rfl
theorem e_worlds_World_value {fuel LW n} : prP fuel LW (n + 1) 489 = runF 3 (b_worlds_World_value fuel (prP fuel LW n)) := rfl
theorem e_worlds_World_with_table {fuel LW n} : prP fuel LW (n + 1) 490 = runF 4 (b_worlds_World_with_table fuel (prP fuel LW n)) := rfl
theorem e_worlds_all_names {fuel LW n} : prP fuel LW (n + 1) 491 = runF 1 (b_worlds_all_names fuel (prP fuel LW n)) := rfl
theorem e_worlds_checked_entries {fuel LW n} : prP fuel LW (n + 1) 492 = runF 5 (b_worlds_checked_entries fuel (prP fuel LW n)) := rfl
theorem e_worlds_is_function {fuel LW n} : prP fuel LW (n + 1) 494 = runF 1 (b_worlds_is_function fuel (prP fuel LW n)) := rfl
theorem e_worlds_row_index {fuel LW n} : prP fuel LW (n + 1) 496 = runF 4 (b_worlds_row_index fuel (prP fuel LW n)) := rfl
theorem e_worlds_table_length {fuel LW n} : prP fuel LW (n + 1) 497 = runF 4 (b_worlds_table_length fuel (prP fuel LW n)) := rfl
theorem e_worlds_things_rows {fuel LW n} : prP fuel LW (n + 1) 498 = runF 3 (b_worlds_things_rows fuel (prP fuel LW n)) := rfl
theorem e_writing_ends_open {fuel LW n} : prP fuel LW (n + 1) 501 = runF 1 (b_writing_ends_open fuel (prP fuel LW n)) := rfl
theorem e_writing_equation_text {fuel LW n} : prP fuel LW (n + 1) 502 = runF 2 (b_writing_equation_text fuel (prP fuel LW n)) := rfl
theorem e_writing_sentence_text {fuel LW n} : prP fuel LW (n + 1) 503 = runF 3 (b_writing_sentence_text fuel (prP fuel LW n)) := rfl
end Law

/-! ML1: mirrors are run from the outside in; what follows is kept shut (Tag). -/
namespace ML
open PySem L2 DL
universe u v
inductive Tag2 {α : Sort u} {β : Sort v} (a : α) (b : β) : Type where
  | mk
  | no
def Ev {α : Type} (o : Out α) (Q : α → Rs → Prop) (E : Nat → List (Str × Int) → Rs → Prop) (_ : Tag2 Q E) : Prop := match o with
  | .ok a r => Q a r
  | .exc c fs r => E c fs r
  | .bad => False
structure Ks where
  C : En → Rs → Prop
  B : En → Rs → Prop
  T : D → Rs → Prop
  E : Nat → List (Str × Int) → En → Rs → Prop
def Sv (o : SOut) (N : En → Rs → Prop) (k : Ks) (_ : Tag2 N k) : Prop := match o with
  | .next ρ r => N ρ r
  | .brk ρ r => k.B ρ r
  | .cont ρ r => k.C ρ r
  | .ret d r => k.T d r
  | .exc c fs ρ r => k.E c fs ρ r
  | .bad => False
def So {α : Type} (x : Option α) (Q : α → Prop) (_ : Tag2 Q Q) : Prop := match x with
  | some a => Q a
  | none => False
def SoP {α β : Type} (x : Option (α × β)) (Q : α → β → Prop) (_ : Tag2 Q Q) : Prop := match x with
  | some p => Q p.1 p.2
  | none => False
def Ck (c P : Prop) (_ : Tag2 P P) : Prop := c ∧ P
def Bif (b : Bool) (P Q : Prop) (_ : Tag2 P Q) : Prop := if b = true then P else Q
def GetE (ρ : En) (i : Nat) (Q : D → Prop) (_ : Tag2 Q Q) : Prop := match ρ[i]? with
  | some (some d) => Q d
  | _ => False
def SetE (ρ : En) (i : Nat) (d : D) (Q : En → Prop) (_ : Tag2 Q Q) : Prop := i < ρ.length ∧ Q (ρ.set i (some d))
def SetN (ρ : En) (i : Nat) (Q : En → Prop) (_ : Tag2 Q Q) : Prop := Q (ρ.set i none)
def Wp (ρ : En) (O : List Nat) (Q : En → Prop) (_ : Tag2 Q Q) : Prop := Q (wipeE ρ O)
def Ver (r r1 : Rs) (Q : Rs → Prop) (_ : Tag2 Q Q) : Prop := verOk r r1 = true ∧ Q (mixR r r1)
def Tgt (tg : Tg) (d : D) (ρ : En) (Q : En → Prop) (_ : Tag2 Q Q) : Prop := match tg d ρ with
  | some ρ' => Q ρ'
  | none => False
def Tgts (u : List D → En → Option En) (ds : List D) (ρ : En) (Q : En → Prop) (_ : Tag2 Q Q) : Prop := match u ds ρ with
  | some ρ' => Q ρ'
  | none => False
def AsL (d : D) (Q : List D → Prop) (_ : Tag2 Q Q) : Prop := match d with
  | .lst xs => Q xs
  | _ => False
def AsD (d : D) (Q : List (Key × D) → Prop) (_ : Tag2 Q Q) : Prop := match d with
  | .dic xs => Q xs
  | _ => False
def AsB (d : D) (Q : Bool → Prop) (_ : Tag2 Q Q) : Prop := match d with
  | .bl b => Q b
  | _ => False
def AsI (d : D) (Q : Int → Prop) (_ : Tag2 Q Q) : Prop := match d with
  | .int b => Q b
  | _ => False
def AsS (d : D) (Q : Str → Prop) (_ : Tag2 Q Q) : Prop := match d with
  | .str b => Q b
  | _ => False
def As1 (ds : List D) (Q : D → Prop) (_ : Tag2 Q Q) : Prop := match ds with
  | [d] => Q d
  | _ => False
def As2 (ds : List D) (Q : D → D → Prop) (_ : Tag2 Q Q) : Prop := match ds with
  | [d, e] => Q d e
  | _ => False
def Imm (d : D) (P : Prop) (_ : Tag2 P P) : Prop := d.imm = true ∧ P
def Imms (ds : List D) (P : Prop) (_ : Tag2 P P) : Prop := D.imms ds = true ∧ P
section
variable {α β : Type} {o : Out α} {Q : α → Rs → Prop} {E : Nat → List (Str × Int) → Rs → Prop} {t : Tag2 Q E}
theorem ev_congr {Q' : α → Rs → Prop} {t' : Tag2 Q' E} (h : ∀ a r, Q a r = Q' a r) : Ev o Q E t = Ev o Q' E t' := by
  have : Q = Q' := by funext a r; exact h a r
  subst this; rfl
theorem so_congr {x : Option α} {Q Q' : α → Prop} {t : Tag2 Q Q} {t' : Tag2 Q' Q'} (h : ∀ a, Q a = Q' a) : So x Q t = So x Q' t' := by
  have : Q = Q' := by funext a; exact h a
  subst this; rfl
theorem ev_bind {o : Out α} {k : α → Rs → Out β} {Q : β → Rs → Prop} {t : Tag2 Q E} : Ev (o.bind k) Q E t = Ev o (fun a r => Ev (k a r) Q E .mk) E .mk := by cases o <;> rfl
theorem ev_so {x : Option α} {r : Rs} : Ev (match x with | some d => .ok d r | none => .bad) Q E t = So x (fun d => Q d r) .mk := by cases x <;> rfl
theorem ev_ck {c : Prop} [Decidable c] : Ev (if c then o else .bad) Q E t = Ck c (Ev o Q E t) .mk := by
  unfold Ck
  by_cases h : c <;> simp [h, Ev]
theorem sv_ck {c : Prop} [Decidable c] {o : SOut} {N : En → Rs → Prop} {k : Ks} {t : Tag2 N k} : Sv (if c then o else .bad) N k t = Ck c (Sv o N k t) .mk := by
  unfold Ck
  by_cases h : c <;> simp [h, Sv]
end
section
variable {α : Type} {Q : α → Rs → Prop} {E : Nat → List (Str × Int) → Rs → Prop} {N : En → Rs → Prop} {k : Ks} {ρ : En} {r r1 : Rs} {f g h : Ex} {F G : D → D → Option D} {fa ga : Ax} {fl : Lx} {fd : Dx} {ft gt : Tx}
theorem ev_ok {a : α} {t : Tag2 Q E} : Ev (.ok a r) Q E t = Q a r := rfl
theorem ev_exc {c : Nat} {fs : List (Str × Int)} {t : Tag2 Q E} : Ev (α := α) (.exc c fs r) Q E t = E c fs r := rfl
theorem ev_var {i : Nat} {Q : D → Rs → Prop} {t : Tag2 Q E} : Ev (xVar i ρ r) Q E t = GetE ρ i (fun d => Q d r) .mk := by
  unfold xVar GetE; split <;> rename_i h <;> simp_all [Ev]
theorem ev_c {d : D} {Q : D → Rs → Prop} {t : Tag2 Q E} : Ev (xC d ρ r) Q E t = Q d r := rfl
theorem ev_op {Q : D → Rs → Prop} {t : Tag2 Q E} : Ev (xOp F f g ρ r) Q E t = Ev (f ρ r) (fun a r1 => Ev (g ρ r1) (fun b r2 => So (F a b) (fun d => Q d r2) .mk) E .mk) E .mk := by
  unfold xOp; rw [ev_bind]; refine ev_congr fun _ _ => ?_; rw [ev_bind]; refine ev_congr fun _ _ => ?_; rename_i a _ b _; cases F a b <;> rfl
theorem ev_ix {Q : D → Rs → Prop} {t : Tag2 Q E} : Ev (xIx f g ρ r) Q E t = Ev (f ρ r) (fun a r1 => Ev (g ρ r1) (fun b r2 => So (dIx r2 a b) (fun d => Q d r2) .mk) E .mk) E .mk := by
  unfold xIx; rw [ev_bind]; refine ev_congr fun _ _ => ?_; rw [ev_bind]; refine ev_congr fun _ _ => ?_; rename_i a _ b r2; cases dIx r2 a b <;> rfl
theorem ev_nop {Q : Option Int → Rs → Prop} {t : Tag2 Q E} : Ev (xNoP ρ r) Q E t = Q none r := rfl
theorem ev_part {Q : Option Int → Rs → Prop} {t : Tag2 Q E} : Ev (xPart f ρ r) Q E t = Ev (f ρ r) (fun d r1 => AsI d (fun i => Q (some i) r1) .mk) E .mk := by
  unfold xPart; rw [ev_bind]; refine ev_congr fun _ _ => ?_; rename_i d _; cases d <;> rfl
theorem ev_sl {lo hi : Ox} {Q : D → Rs → Prop} {t : Tag2 Q E} : Ev (xSl f lo hi ρ r) Q E t = Ev (f ρ r) (fun a r1 => Ev (lo ρ r1) (fun l r2 => Ev (hi ρ r2) (fun u r3 => So (dSl a l u) (fun d => Q d r3) .mk) E .mk) E .mk) E .mk := by
  unfold xSl; rw [ev_bind]; refine ev_congr fun _ _ => ?_; rw [ev_bind]; refine ev_congr fun _ _ => ?_; rw [ev_bind]; refine ev_congr fun _ _ => ?_; rename_i a _ b _ c _; cases dSl a b c <;> rfl
theorem ev_tr {Q : Bool → Rs → Prop} {t : Tag2 Q E} : Ev (xTr f ρ r) Q E t = Ev (f ρ r) (fun d r1 => So (truth r1 d) (fun b => Q b r1) .mk) E .mk := by
  unfold xTr; rw [ev_bind]; refine ev_congr fun _ _ => ?_; rename_i d r1; cases truth r1 d <;> rfl
theorem ev_b {Q : Bool → Rs → Prop} {t : Tag2 Q E} : Ev (xB f ρ r) Q E t = Ev (f ρ r) (fun d r1 => AsB d (fun b => Q b r1) .mk) E .mk := by
  unfold xB; rw [ev_bind]; refine ev_congr fun _ _ => ?_; rename_i d r1; cases d <;> rfl
theorem ev_ch {Q : Bool → Rs → Prop} {t : Tag2 Q E} : Ev (xCh F G f g h ρ r) Q E t = Ev (f ρ r) (fun a r1 => Ev (g ρ r1) (fun b r2 => So (F a b) (fun d => AsB d (fun x => Bif x (Ev (h ρ r2) (fun c r3 => So (G b c) (fun e => AsB e (fun y => Q y r3) .mk) .mk) E .mk) (Q false r2) .mk) .mk) .mk) E .mk) E .mk := by
  unfold xCh; rw [ev_bind]; refine ev_congr fun _ _ => ?_; rw [ev_bind]; refine ev_congr fun _ _ => ?_; rename_i a _ b r2
  cases e : F a b with
  | none => rfl
  | some d =>
    cases d <;> try rfl
    rename_i x
    cases x
    · rfl
    · refine Eq.trans (b := Ev (h ρ r2) (fun c r3 => Ev (match G b c with | some (.bl k) => .ok k r3 | _ => .bad) Q E t) E .mk) ev_bind (ev_congr (t' := .mk) fun c r3 => ?_)
      show Ev (match G b c with | some (.bl k) => .ok k r3 | _ => .bad) _ _ _ = So (G b c) _ _
      cases G b c with
      | none => rfl
      | some d => cases d <;> rfl
theorem ev_v {Q : D → Rs → Prop} {t : Tag2 Q E} : Ev (xV ft ρ r) Q E t = Ev (ft ρ r) (fun b r1 => Q (.bl b) r1) E .mk := by
  unfold xV; rw [ev_bind]; refine ev_congr fun _ _ => ?_; rfl
theorem ev_and {Q : Bool → Rs → Prop} {t : Tag2 Q E} : Ev (xAnd ft gt ρ r) Q E t = Ev (ft ρ r) (fun b r1 => Bif b (Ev (gt ρ r1) Q E t) (Q false r1) .mk) E .mk := by
  unfold xAnd; rw [ev_bind]; refine ev_congr fun _ _ => ?_; rename_i b _; cases b <;> rfl
theorem ev_or {Q : Bool → Rs → Prop} {t : Tag2 Q E} : Ev (xOr ft gt ρ r) Q E t = Ev (ft ρ r) (fun b r1 => Bif b (Q true r1) (Ev (gt ρ r1) Q E t) .mk) E .mk := by
  unfold xOr; rw [ev_bind]; refine ev_congr fun _ _ => ?_; rename_i b _; cases b <;> rfl
theorem ev_not {Q : Bool → Rs → Prop} {t : Tag2 Q E} : Ev (xNot ft ρ r) Q E t = Ev (ft ρ r) (fun b r1 => Q (!b) r1) E .mk := by
  unfold xNot; rw [ev_bind]; refine ev_congr fun _ _ => ?_; rfl
theorem ev_if {Q : D → Rs → Prop} {t : Tag2 Q E} : Ev (xIf ft f g ρ r) Q E t = Ev (ft ρ r) (fun b r1 => Bif b (Ev (f ρ r1) Q E t) (Ev (g ρ r1) Q E t) .mk) E .mk := by
  unfold xIf; rw [ev_bind]; refine ev_congr fun _ _ => ?_; rename_i b _; cases b <;> rfl
theorem ev_tif {f g : Tx} {Q : Bool → Rs → Prop} {t : Tag2 Q E} : Ev (xTIf ft f g ρ r) Q E t = Ev (ft ρ r) (fun b r1 => Bif b (Ev (f ρ r1) Q E t) (Ev (g ρ r1) Q E t) .mk) E .mk := by
  unfold xTIf; rw [ev_bind]; refine ev_congr fun _ _ => ?_; rename_i b _; cases b <;> rfl
theorem ev_andv {Q : D → Rs → Prop} {t : Tag2 Q E} : Ev (xAndV f g ρ r) Q E t = Ev (f ρ r) (fun d r1 => So (truth r1 d) (fun b => Bif b (Ev (g ρ r1) Q E t) (Q d r1) .mk) .mk) E .mk := by
  unfold xAndV; rw [ev_bind]; refine ev_congr fun _ _ => ?_; rename_i d r1; cases truth r1 d with | none => rfl | some b => cases b <;> rfl
theorem ev_orv {Q : D → Rs → Prop} {t : Tag2 Q E} : Ev (xOrV f g ρ r) Q E t = Ev (f ρ r) (fun d r1 => So (truth r1 d) (fun b => Bif b (Q d r1) (Ev (g ρ r1) Q E t) .mk) .mk) E .mk := by
  unfold xOrV; rw [ev_bind]; refine ev_congr fun _ _ => ?_; rename_i d r1; cases truth r1 d with | none => rfl | some b => cases b <;> rfl
theorem ev_notv {Q : D → Rs → Prop} {t : Tag2 Q E} : Ev (xNotV f ρ r) Q E t = Ev (f ρ r) (fun d r1 => So (truth r1 d) (fun b => Q (.bl (!b)) r1) .mk) E .mk := by
  unfold xNotV; rw [ev_bind]; refine ev_congr fun _ _ => ?_; rename_i d r1; cases truth r1 d with | none => rfl | some b => cases b <;> rfl
theorem ev_neg {Q : D → Rs → Prop} {t : Tag2 Q E} : Ev (xNeg f ρ r) Q E t = Ev (f ρ r) (fun d r1 => AsI d (fun i => Q (.int (-i)) r1) .mk) E .mk := by
  unfold xNeg; rw [ev_bind]; refine ev_congr fun _ _ => ?_; rename_i d _; cases d <;> rfl
theorem ev_nil {Q : List D → Rs → Prop} {t : Tag2 Q E} : Ev (xNil ρ r) Q E t = Q [] r := rfl
theorem ev_cons {Q : List D → Rs → Prop} {t : Tag2 Q E} : Ev (xCons f fa ρ r) Q E t = Ev (f ρ r) (fun d r1 => Ev (fa ρ r1) (fun ds r2 => Q (d :: ds) r2) E .mk) E .mk := by
  unfold xCons; rw [ev_bind]; refine ev_congr fun _ _ => ?_; rw [ev_bind]; refine ev_congr fun _ _ => ?_; rfl
theorem ev_tup {Q : D → Rs → Prop} {t : Tag2 Q E} : Ev (xTup fa ρ r) Q E t = Ev (fa ρ r) (fun ds r1 => Ck (ds.length ≤ lim) (Q (.tup ds) r1) .mk) E .mk := by
  unfold xTup; rw [ev_bind]; refine ev_congr fun _ _ => ?_; rw [ev_ck]; rfl
theorem ev_lst {Q : D → Rs → Prop} {t : Tag2 Q E} : Ev (xLst fa ρ r) Q E t = Ev (fa ρ r) (fun ds r1 => Ck (ds.length ≤ lim) (Q (.lst ds) r1) .mk) E .mk := by
  unfold xLst; rw [ev_bind]; refine ev_congr fun _ _ => ?_; rw [ev_ck]; rfl
theorem ev_lst' {Q : List D → Rs → Prop} {t : Tag2 Q E} : Ev (xLst' fa ρ r) Q E t = Ev (fa ρ r) (fun ds r1 => Ck (ds.length ≤ lim) (Q ds r1) .mk) E .mk := by
  unfold xLst'; rw [ev_bind]; refine ev_congr fun _ _ => ?_; rw [ev_ck]; rfl
theorem ev_cb {F : Rs → List D → Option D} {Q : D → Rs → Prop} {t : Tag2 Q E} : Ev (xCB F fa ρ r) Q E t = Ev (fa ρ r) (fun ds r1 => So (F r1 ds) (fun d => Q d r1) .mk) E .mk := by
  unfold xCB; rw [ev_bind]; refine ev_congr fun _ _ => ?_; rename_i ds r1; cases F r1 ds <;> rfl
theorem ev_call {F : List D → Rs → Out D} {Q : D → Rs → Prop} {t : Tag2 Q E} : Ev (xCall F fa ρ r) Q E t = Ev (fa ρ r) (fun ds r1 => Ev (F ds r1) Q E t) E .mk := by
  unfold xCall; rw [ev_bind]; refine ev_congr fun _ _ => ?_; rfl
theorem ev_calld {F : List D → Rs → Out D} {es : List D} {Q : D → Rs → Prop} {t : Tag2 Q E} : Ev (xCallD F es fa ρ r) Q E t = Ev (fa ρ r) (fun ds r1 => Ev (F (ds ++ es) r1) Q E t) E .mk := by
  unfold xCallD; rw [ev_call]
theorem ev_l {Q : D → Rs → Prop} {t : Tag2 Q E} : Ev (xL fl ρ r) Q E t = Ev (fl ρ r) (fun ds r1 => Q (.lst ds) r1) E .mk := by
  unfold xL; rw [ev_bind]; refine ev_congr fun _ _ => ?_; rfl
theorem ev_d {Q : D → Rs → Prop} {t : Tag2 Q E} : Ev (xD fd ρ r) Q E t = Ev (fd ρ r) (fun ds r1 => Q (.dic ds) r1) E .mk := by
  unfold xD; rw [ev_bind]; refine ev_congr fun _ _ => ?_; rfl
theorem ev_listn {Q : List D → Rs → Prop} {t : Tag2 Q E} : Ev (xListN fa ρ r) Q E t = Ev (fa ρ r) (fun ds r1 => So (cListN ds) (fun es => Q es r1) .mk) E .mk := by
  unfold xListN; rw [ev_bind]; refine ev_congr fun _ _ => ?_; rename_i ds r1; cases cListN ds <;> rfl
theorem ev_items {Q : List D → Rs → Prop} {t : Tag2 Q E} : Ev (xItems f ρ r) Q E t = Ev (f ρ r) (fun d r1 => So (items d) (fun es => Q es r1) .mk) E .mk := by
  unfold xItems; rw [ev_bind]; refine ev_congr fun _ _ => ?_; rename_i d r1; cases items d <;> rfl
theorem ev_rng1 {Q : List D → Rs → Prop} {t : Tag2 Q E} : Ev (xRng1 fa ρ r) Q E t = Ev (fa ρ r) (fun ds r1 => As1 ds (fun d => AsI d (fun j => Ck (big j = true) (Q (rng 0 j.toNat) r1) .mk) .mk) .mk) E .mk := by
  unfold xRng1; rw [ev_bind]; refine ev_congr fun _ _ => ?_; rename_i ds r1; match ds with
  | [] => rfl
  | [d] => (cases d <;> try rfl); rename_i j; exact ev_ck
  | d :: _ :: _ => cases d <;> rfl
theorem ev_rng2 {Q : List D → Rs → Prop} {t : Tag2 Q E} : Ev (xRng2 fa ρ r) Q E t = Ev (fa ρ r) (fun ds r1 => As2 ds (fun d e => AsI d (fun i => AsI e (fun j => Ck ((big i && big j) = true) (Q (rng i (j - i).toNat) r1) .mk) .mk) .mk) .mk) E .mk := by
  unfold xRng2; rw [ev_bind]; refine ev_congr fun _ _ => ?_; rename_i ds r1; match ds with
  | [] => rfl
  | [d] => cases d <;> rfl
  | [d, e] => (cases d <;> try rfl) <;> (cases e <;> try rfl); exact ev_ck
  | d :: e :: _ :: _ => cases d <;> (try rfl) <;> cases e <;> rfl
theorem ev_lc {tg : Tg} {vs : List Nat} {Q : List D → Rs → Prop} {t : Tag2 Q E} : Ev (xLc fl tg ft f vs ρ r) Q E t = Ev (fl ρ r) (fun ds r1 => Wp ρ vs (fun ρ' => SoP (lcGo tg ft f ρ' ds r1) (fun es r2 => Ck (es.length ≤ lim) (Q es r2) .mk) .mk) .mk) E .mk := by
  unfold xLc; rw [ev_bind]; refine ev_congr fun _ _ => ?_; rename_i ds r1; unfold Wp; dsimp only
  cases lcGo tg ft f (wipeE ρ vs) ds r1 with
  | none => rfl
  | some p => exact ev_ck
theorem ev_lc2 {tg tg2 : Tg} {it2 : Lx} {vs vs1 : List Nat} {Q : List D → Rs → Prop} {t : Tag2 Q E} : Ev (xLc2 fl tg it2 tg2 ft f vs vs1 ρ r) Q E t = Ev (fl ρ r) (fun ds r1 => Wp ρ vs (fun ρ' => SoP (lc2Go tg it2 tg2 ft f vs1 ρ' ds r1) (fun es r2 => Ck (es.length ≤ lim) (Q es r2) .mk) .mk) .mk) E .mk := by
  unfold xLc2; rw [ev_bind]; refine ev_congr fun _ _ => ?_; rename_i ds r1; unfold Wp; dsimp only
  cases lc2Go tg it2 tg2 ft f vs1 (wipeE ρ vs) ds r1 with
  | none => rfl
  | some p => exact ev_ck
theorem ev_dget {Q : D → Rs → Prop} {t : Tag2 Q E} : Ev (xDGet f g ρ r) Q E t = Ev (f ρ r) (fun a r1 => Ev (g ρ r1) (fun b r2 => So (dGet r2 a b) (fun o => So o (fun d => Q d r2) .mk) .mk) E .mk) E .mk := by
  unfold xDGet; rw [ev_bind]; refine ev_congr fun _ _ => ?_; rw [ev_bind]; refine ev_congr fun _ _ => ?_; rename_i a _ b r2; cases dGet r2 a b with | none => rfl | some o => cases o <;> rfl
theorem ev_dget1 {Q : D → Rs → Prop} {t : Tag2 Q E} : Ev (xDGet1 f g ρ r) Q E t = Ev (f ρ r) (fun a r1 => Ck (a.isD r1 = true) (Ev (g ρ r1) (fun b r2 => So (dGet r2 a b) (fun o => Q (o.getD .non) r2) .mk) E .mk) .mk) E .mk := by
  unfold xDGet1; rw [ev_bind]; refine ev_congr fun _ _ => ?_; rw [ev_ck, ev_bind]; unfold Ck; refine congrArg _ (ev_congr fun b r2 => ?_); rename_i a _; cases dGet r2 a b <;> rfl
theorem ev_dget2 {Q : D → Rs → Prop} {t : Tag2 Q E} : Ev (xDGet2 f g h ρ r) Q E t = Ev (f ρ r) (fun a r1 => Ck (a.isD r1 = true) (Ev (g ρ r1) (fun b r2 => Ev (h ρ r2) (fun c r3 => So (dGet r3 a b) (fun o => Q (o.getD c) r3) .mk) E .mk) E .mk) .mk) E .mk := by
  unfold xDGet2; rw [ev_bind]; refine ev_congr fun _ _ => ?_; rw [ev_ck, ev_bind]; unfold Ck; refine congrArg _ (ev_congr fun b r2 => ?_); rw [ev_bind]; refine ev_congr fun c r3 => ?_; rename_i a _; cases dGet r3 a b <;> rfl
theorem ev_din {Q : Bool → Rs → Prop} {t : Tag2 Q E} : Ev (xDIn f g ρ r) Q E t = Ev (f ρ r) (fun a r1 => Ev (g ρ r1) (fun b r2 => So (dGet r2 b a) (fun o => Q o.isSome r2) .mk) E .mk) E .mk := by
  unfold xDIn; rw [ev_bind]; refine ev_congr fun _ _ => ?_; rw [ev_bind]; refine ev_congr fun _ _ => ?_; rename_i a _ b r2; cases dGet r2 b a <;> rfl
theorem ev_kd {tab : List (Str × D)} {Q : D → Rs → Prop} {t : Tag2 Q E} : Ev (xKD tab g ρ r) Q E t = Ev (g ρ r) (fun b r1 => AsS b (fun x => So (tab.lookup x) (fun d => Q d r1) .mk) .mk) E .mk := by
  unfold xKD; rw [ev_bind]; refine ev_congr fun _ _ => ?_; rename_i d r1; cases d <;> try rfl
  rename_i x; show Ev (match tab.lookup x with | some d => .ok d r1 | none => .bad) Q E t = So (tab.lookup x) (fun d => Q d r1) .mk; cases tab.lookup x <;> rfl
theorem ev_dnew {Q : List (Key × D) → Rs → Prop} {t : Tag2 Q E} : Ev (xDNew ρ r) Q E t = Q [] r := rfl
theorem ev_yes {Q : Bool → Rs → Prop} {t : Tag2 Q E} : Ev (xYes ρ r) Q E t = Q true r := rfl
theorem ev_dcopy {Q : List (Key × D) → Rs → Prop} {t : Tag2 Q E} : Ev (xDCopy fa ρ r) Q E t = Ev (fa ρ r) (fun ds r1 => So (dicOf ds) (fun es => Q es r1) .mk) E .mk := by
  unfold xDCopy; rw [ev_bind]; refine ev_congr fun _ _ => ?_; rename_i ds r1; cases dicOf ds <;> rfl
theorem ev_ps0 {Q : List (Key × D) → Rs → Prop} {t : Tag2 Q E} : Ev (xPs [] ρ r) Q E t = Q [] r := rfl
theorem ev_ps1 {ps : List (Ex × Ex)} {Q : List (Key × D) → Rs → Prop} {t : Tag2 Q E} : Ev (xPs ((f, g) :: ps) ρ r) Q E t = Ev (f ρ r) (fun a r1 => Ev (g ρ r1) (fun b r2 => So (keyOf a) (fun k => Ev (xPs ps ρ r2) (fun l r3 => Q ((k, b) :: l) r3) E .mk) .mk) E .mk) E .mk := by
  unfold xPs; rw [ev_bind]; refine ev_congr fun _ _ => ?_; rw [ev_bind]; refine ev_congr fun _ _ => ?_; rename_i a _ b r2; cases keyOf a with | none => rfl | some k => exact ev_bind
theorem ev_disp {ps : List (Ex × Ex)} {Q : List (Key × D) → Rs → Prop} {t : Tag2 Q E} : Ev (xDisp ps ρ r) Q E t = Ev (xPs ps ρ r) (fun l r1 => Ck (l.length ≤ 15) (Q (mergeD [] l) r1) .mk) E .mk := by
  unfold xDisp; rw [ev_bind]; refine ev_congr fun _ _ => ?_; rw [ev_ck]; rfl
theorem ev_res {Q : D → Rs → Prop} {t : Tag2 Q E} : Ev (xRes fl ρ r) Q E t = Ev (fl ρ r) (fun ds r1 => Imms ds (Q (.loc r1.length) (r1 ++ [.lst ds])) .mk) E .mk := by
  unfold xRes; rw [ev_bind]; refine ev_congr fun _ _ => ?_; rw [ev_ck]; rfl
theorem ev_resd {Q : D → Rs → Prop} {t : Tag2 Q E} : Ev (xResD fd ρ r) Q E t = Ev (fd ρ r) (fun ds r1 => Ck (D.immk ds = true) (Q (.loc r1.length) (r1 ++ [.dic ds])) .mk) E .mk := by
  unfold xResD; rw [ev_bind]; refine ev_congr fun _ _ => ?_; rw [ev_ck]; rfl
theorem ev_fld {c i : Nat} {Q : D → Rs → Prop} {t : Tag2 Q E} : Ev (xFld c i f ρ r) Q E t = Ev (f ρ r) (fun a r1 => So (fldD r1 c i a) (fun d => Q d r1) .mk) E .mk := by
  unfold xFld; rw [ev_bind]; refine ev_congr fun _ _ => ?_; rename_i a r1; cases fldD r1 c i a <;> rfl
theorem ev_con {c : Nat} {d : D} {Q : D → Rs → Prop} {t : Tag2 Q E} : Ev (xCon c d f ρ r) Q E t = Ev (f ρ r) (fun a r1 => So (insOf r1 a) (fun p => Ck (p.1 = c) (Q d r1) .mk) .mk) E .mk := by
  unfold xCon; rw [ev_bind]; refine ev_congr fun _ _ => ?_; (rename_i a r1; cases insOf r1 a with | none => rfl | some p => exact ev_ck)
theorem ev_meth {c : Nat} {F : List D → Rs → Out D} {Q : D → Rs → Prop} {t : Tag2 Q E} : Ev (xMeth c F f fa ρ r) Q E t = Ev (f ρ r) (fun a r1 => So (insOf r1 a) (fun p => Ck (p.1 = c) (Ev (fa ρ r1) (fun ds r2 => Ev (F (a :: ds) r2) Q E t) E .mk) .mk) .mk) E .mk := by
  unfold xMeth; rw [ev_bind]; refine ev_congr fun _ _ => ?_; (rename_i a r1; cases insOf r1 a with | none => rfl | some p => exact ev_ck.trans (congrArg (fun z => Ck (p.1 = c) z .mk) ev_bind))
theorem ev_prop {c : Nat} {F : List D → Rs → Out D} {Q : D → Rs → Prop} {t : Tag2 Q E} : Ev (xProp c F f ρ r) Q E t = Ev (f ρ r) (fun a r1 => So (insOf r1 a) (fun p => Ck (p.1 = c) (Ev (noExc (F [a] r1)) Q E t) .mk) .mk) E .mk := by
  unfold xProp; rw [ev_bind]; refine ev_congr fun _ _ => ?_; (rename_i a r1; cases insOf r1 a with | none => rfl | some p => exact ev_ck)
theorem ev_newf {c : Nat} {F : List D → Rs → Out D} {Q : D → Rs → Prop} {t : Tag2 Q E} : Ev (xNewF c F fa ρ r) Q E t = Ev (fa ρ r) (fun ds r1 => Ev (kNewF r1.length (F (.loc r1.length :: ds) (r1 ++ [.obj 0 c []]))) Q E t) E .mk := by
  unfold xNewF; rw [ev_bind]; refine ev_congr fun _ _ => ?_; rfl
theorem ev_newr {c : Nat} {F : List D → Rs → Out D} {Q : D → Rs → Prop} {t : Tag2 Q E} : Ev (xNewR c F fa ρ r) Q E t = Ev (fa ρ r) (fun ds r1 => Ev (F (.loc r1.length :: ds) (r1 ++ [.obj 0 c []])) (fun d r2 => Ck (d = .non) (Q (.loc r1.length) r2) .mk) E .mk) E .mk := by
  unfold xNewR; rw [ev_bind]; refine ev_congr fun _ _ => ?_; rw [ev_bind]; refine ev_congr fun _ _ => ?_; (rename_i d r2; unfold Ck; cases d <;> simp [Ev])
theorem ev_calln {F : List D → Rs → Out D} {Q : List D → Rs → Prop} {t : Tag2 Q E} : Ev (xCallN F fa ρ r) Q E t = Ev (fa ρ r) (fun ds r1 => Ev (F ds r1) (fun d r2 => AsL d (fun es => Q es r2) .mk) E .mk) E .mk := by
  unfold xCallN; rw [ev_bind]; refine ev_congr fun _ _ => ?_; rw [ev_bind]; refine ev_congr fun _ _ => ?_; rename_i d r2; cases d <;> rfl
theorem ev_callnd {F : List D → Rs → Out D} {Q : List (Key × D) → Rs → Prop} {t : Tag2 Q E} : Ev (xCallND F fa ρ r) Q E t = Ev (fa ρ r) (fun ds r1 => Ev (F ds r1) (fun d r2 => AsD d (fun es => Q es r2) .mk) E .mk) E .mk := by
  unfold xCallND; rw [ev_bind]; refine ev_congr fun _ _ => ?_; rw [ev_bind]; refine ev_congr fun _ _ => ?_; rename_i d r2; cases d <;> rfl
theorem ev_sort {Q : List D → Rs → Prop} {t : Tag2 Q E} : Ev (xSort fa ρ r) Q E t = Ev (fa ρ r) (fun ds r1 => So (cSort ds) (fun es => Q es r1) .mk) E .mk := by
  unfold xSort; rw [ev_bind]; refine ev_congr fun _ _ => ?_; rename_i ds r1; cases cSort ds <;> rfl
theorem ev_join {Q : D → Rs → Prop} {t : Tag2 Q E} : Ev (xJoin f fa ρ r) Q E t = Ev (f ρ r) (fun a r1 => AsS a (fun x => Ev (fa ρ r1) (fun ds r2 => As1 ds (fun b => So (joinD x b) (fun d => Q d r2) .mk) .mk) E .mk) .mk) E .mk := by
  unfold xJoin; rw [ev_bind]; refine ev_congr fun _ _ => ?_; rename_i a r1; cases a <;> try rfl
  rename_i x
  refine Eq.trans (b := Ev (fa ρ r1) (fun ds r2 => Ev (match ds with | [b] => (match joinD x b with | some d => .ok d r2 | none => .bad) | _ => .bad) Q E t) E .mk) ev_bind (ev_congr (t' := .mk) fun ds r2 => ?_)
  match ds with
  | [] => rfl
  | [b] => show Ev (match joinD x b with | some d => .ok d r2 | none => .bad) Q E t = So (joinD x b) (fun d => Q d r2) .mk; cases joinD x b <;> rfl
  | _ :: _ :: _ => rfl
theorem ev_dc {tg : Tg} {vs : List Nat} {Q : List (Key × D) → Rs → Prop} {t : Tag2 Q E} : Ev (xDc fl tg ft f g vs ρ r) Q E t = Ev (fl ρ r) (fun ds r1 => Ck (ds.length < lim) (Wp ρ vs (fun ρ' => SoP (dcGo tg ft f g ρ' ds [] r1) (fun es r2 => Q es r2) .mk) .mk) .mk) E .mk := by
  unfold xDc; rw [ev_bind]; refine ev_congr fun _ _ => ?_; rename_i ds r1; rw [ev_ck]; unfold Ck Wp; refine congrArg _ ?_; dsimp only; cases dcGo tg ft f g (wipeE ρ vs) ds [] r1 <;> rfl
end
section
variable {α : Type} {N : En → Rs → Prop} {k : Ks} {t : Tag2 N k} {ρ : En} {r r1 : Rs} {f g : Ex} {fa : Ax} {fl : Lx} {fd : Dx} {ft : Tx} {a b : Sx} {O : List Nat} {i j : Nat} {tg : Tg}
theorem sv_next  : Sv (.next ρ r) N k t = N ρ r := rfl
theorem sv_brk  : Sv (.brk ρ r) N k t = k.B ρ r := rfl
theorem sv_cont  : Sv (.cont ρ r) N k t = k.C ρ r := rfl
theorem sv_ret {d : D} : Sv (.ret d r) N k t = k.T d r := rfl
theorem sv_exc {c : Nat} {fs : List (Str × Int)} : Sv (.exc c fs ρ r) N k t = k.E c fs ρ r := rfl
theorem sv_seq  : Sv (sSeq a b ρ r) N k t = Sv (a ρ r) (fun ρ r => Sv (b ρ r) N k t) k .mk := by
  unfold sSeq; cases a ρ r <;> rfl
theorem sv_nx  : Sv (sNext ρ r) N k t = N ρ r := rfl
theorem sv_bk  : Sv (sBrk ρ r) N k t = k.B ρ r := rfl
theorem sv_ct  : Sv (sCont ρ r) N k t = k.C ρ r := rfl
theorem sv_evF {f : En → Rs → Out α} {K : α → En → Rs → SOut} : Sv (evF O f K ρ r) N k t = Wp ρ O (fun ρ' => Ev (f ρ' r) (fun x r1 => Sv (K x ρ r1) N k t) (fun c fs r1 => k.E c fs ρ r1) .mk) .mk := by unfold evF Wp; dsimp only; cases f (wipeE ρ O) r <;> rfl
theorem sv_evI {f : En → Rs → Out α} {K : α → En → Rs → SOut} : Sv (evI f K ρ r) N k t = Ev (f ρ r) (fun x r1 => Ver r r1 (fun r2 => Sv (K x ρ r2) N k t) .mk) (fun c fs r1 => Ver r r1 (fun r2 => k.E c fs ρ r2) .mk) .mk := by
  unfold evI Ver
  cases f ρ r with
  | ok x r1 => exact (sv_ck (c := verOk r r1 = true))
  | exc c fs r1 =>
    show Sv (if verOk r r1 = true then _ else _) N k t = _
    by_cases h : verOk r r1 = true <;> simp [h, Sv, Ev]
  | bad => rfl
theorem sv_store {d : D} : Sv (kStore tg d ρ r) N k t = Tgt tg d ρ (fun ρ' => N ρ' r) .mk := by
  unfold kStore Tgt; cases tg d ρ <;> rfl
theorem sv_asg  : Sv (sAsg O tg f ρ r) N k t = Wp ρ O (fun ρ' => Ev (f ρ' r) (fun d r1 => Tgt tg d ρ (fun ρ2 => N ρ2 r1) .mk) (fun c fs r1 => k.E c fs ρ r1) .mk) .mk := by
  unfold sAsg; rw [sv_evF]; unfold Wp; exact ev_congr fun _ _ => sv_store
theorem sv_asgI  : Sv (sAsgI tg f ρ r) N k t = Ev (f ρ r) (fun d r1 => Ver r r1 (fun r2 => Imm d (Tgt tg d ρ (fun ρ2 => N ρ2 r2) .mk) .mk) .mk) (fun c fs r1 => Ver r r1 (fun r2 => k.E c fs ρ r2) .mk) .mk := by
  unfold sAsgI; rw [sv_evI]; refine ev_congr fun d r1 => ?_; unfold Ver Imm; simp only [sv_ck, sv_store, Ck]
theorem set_ck {d : D} : Sv (if i < ρ.length then .next (ρ.set i (some d)) r else .bad) N k t = SetE ρ i d (fun ρ' => N ρ' r) .mk := by
  rw [sv_ck]; rfl
theorem sv_own {ds : List D} : Sv (kOwn i ds ρ r) N k t = SetE ρ i (.lst ds) (fun ρ' => N ρ' r) .mk := by
  unfold kOwn; exact set_ck
theorem sv_ownD {ds : List (Key × D)} : Sv (kOwnD i ds ρ r) N k t = SetE ρ i (.dic ds) (fun ρ' => N ρ' r) .mk := by
  unfold kOwnD; exact set_ck
theorem sv_asgN  : Sv (sAsgN O i fl ρ r) N k t = Wp ρ O (fun ρ' => Ev (fl ρ' r) (fun ds r1 => SetE ρ i (.lst ds) (fun ρ2 => N ρ2 r1) .mk) (fun c fs r1 => k.E c fs ρ r1) .mk) .mk := by
  unfold sAsgN; rw [sv_evF]; unfold Wp; exact ev_congr fun _ _ => sv_own
theorem sv_asgD  : Sv (sAsgD O i fd ρ r) N k t = Wp ρ O (fun ρ' => Ev (fd ρ' r) (fun ds r1 => SetE ρ i (.dic ds) (fun ρ2 => N ρ2 r1) .mk) (fun c fs r1 => k.E c fs ρ r1) .mk) .mk := by
  unfold sAsgD; rw [sv_evF]; unfold Wp; exact ev_congr fun _ _ => sv_ownD
theorem sv_asgNI  : Sv (sAsgNI i fl ρ r) N k t = Ev (fl ρ r) (fun ds r1 => Ver r r1 (fun r2 => Imms ds (SetE ρ i (.lst ds) (fun ρ2 => N ρ2 r2) .mk) .mk) .mk) (fun c fs r1 => Ver r r1 (fun r2 => k.E c fs ρ r2) .mk) .mk := by
  unfold sAsgNI; rw [sv_evI]; refine ev_congr fun d r1 => ?_; unfold Ver Imms; simp only [sv_ck, sv_own, Ck]
theorem sv_exp  : Sv (sExp O f ρ r) N k t = Wp ρ O (fun ρ' => Ev (f ρ' r) (fun _ r1 => N ρ r1) (fun c fs r1 => k.E c fs ρ r1) .mk) .mk := by
  unfold sExp; rw [sv_evF]; rfl
theorem sv_sret  : Sv (sRet false O f ρ r) N k t = Wp ρ O (fun ρ' => Ev (f ρ' r) (fun d r1 => k.T d r1) (fun c fs r1 => k.E c fs ρ r1) .mk) .mk := by
  unfold sRet; rw [sv_evF]; unfold Wp; refine ev_congr fun d r1 => ?_; simp [Sv]
theorem sv_sretI  : Sv (sRetI f ρ r) N k t = Ev (f ρ r) (fun d r1 => Ver r r1 (fun r2 => Imm d (k.T d r2) .mk) .mk) (fun c fs r1 => Ver r r1 (fun r2 => k.E c fs ρ r2) .mk) .mk := by
  unfold sRetI; rw [sv_evI]; refine ev_congr fun d r1 => ?_; unfold Ver Imm; simp only [sv_ck, sv_ret, Ck]
theorem sv_sretN  : Sv (sRetN O fl ρ r) N k t = Wp ρ O (fun ρ' => Ev (fl ρ' r) (fun d r1 => k.T (.lst d) r1) (fun c fs r1 => k.E c fs ρ r1) .mk) .mk := by
  unfold sRetN; rw [sv_evF]; rfl
theorem sv_sretD  : Sv (sRetD O fd ρ r) N k t = Wp ρ O (fun ρ' => Ev (fd ρ' r) (fun d r1 => k.T (.dic d) r1) (fun c fs r1 => k.E c fs ρ r1) .mk) .mk := by
  unfold sRetD; rw [sv_evF]; rfl
theorem sv_sretNI  : Sv (sRetNI fl ρ r) N k t = Ev (fl ρ r) (fun d r1 => Ver r r1 (fun r2 => Imms d (k.T (.lst d) r2) .mk) .mk) (fun c fs r1 => Ver r r1 (fun r2 => k.E c fs ρ r2) .mk) .mk := by
  unfold sRetNI; rw [sv_evI]; refine ev_congr fun d r1 => ?_; unfold Ver Imms; simp only [sv_ck, sv_ret, Ck]
theorem sv_sretO  : Sv (sRetO i ρ r) N k t = GetE ρ i (fun d => AsL d (fun ds => k.T (.lst ds) r) .mk) .mk := by
  unfold sRetO GetE; cases e : ρ[i]? with | none => rfl | some o => cases o with | none => rfl | some d => cases d <;> rfl
theorem sv_sretOD  : Sv (sRetOD i ρ r) N k t = GetE ρ i (fun d => AsD d (fun ds => k.T (.dic ds) r) .mk) .mk := by
  unfold sRetOD GetE; cases e : ρ[i]? with | none => rfl | some o => cases o with | none => rfl | some d => cases d <;> rfl
theorem sv_retn  : Sv ((fun _ r => .ret .non r : Sx) ρ r) N k t = k.T .non r := rfl
theorem sv_move  : Sv (sMove i j ρ r) N k t = GetE ρ j (fun d => SetN ρ j (fun ρ1 => SetE ρ1 i d (fun ρ2 => N ρ2 r) .mk) .mk) .mk := by
  unfold sMove GetE SetN SetE
  cases e : ρ[j]? with
  | none => rfl
  | some o => cases o with
    | none => rfl
    | some d => exact (sv_ck (c := i < ρ.length)).trans (by unfold Ck; simp only [List.length_set]; rfl)
theorem sv_give  : Sv (sGive tg j ρ r) N k t = GetE ρ j (fun d => SetN ρ j (fun ρ1 => Tgt tg d ρ1 (fun ρ2 => N ρ2 r) .mk) .mk) .mk := by
  unfold sGive GetE SetN
  cases e : ρ[j]? with
  | none => rfl
  | some o => cases o with
    | none => rfl
    | some d => exact sv_store
theorem sv_isL  : Sv (isOwnL i a ρ r) N k t = GetE ρ i (fun d => AsL d (fun _ => Sv (a ρ r) N k t) .mk) .mk := by
  unfold isOwnL GetE; cases e : ρ[i]? with | none => rfl | some o => cases o with | none => rfl | some d => cases d <;> rfl
theorem sv_isD  : Sv (isOwnD i a ρ r) N k t = GetE ρ i (fun d => AsD d (fun _ => Sv (a ρ r) N k t) .mk) .mk := by
  unfold isOwnD GetE; cases e : ρ[i]? with | none => rfl | some o => cases o with | none => rfl | some d => cases d <;> rfl
theorem set_in {d z : D} {Q : En → Prop} {t : Tag2 Q Q} (e : ρ[i]? = some (some z)) : SetE ρ i d Q t = Q (ρ.set i (some d)) := by
  have hi : i < ρ.length := (List.getElem?_eq_some_iff.mp e).1
  unfold SetE; simp [hi]
theorem set_in' {d z : D} (e : ρ[i]? = some (some z)) : Sv (.next (ρ.set i (some d)) r) N k t = SetE ρ i d (fun ρ' => N ρ' r) .mk := (set_in (Q := fun ρ' => N ρ' r) (t := .mk) e).symm
theorem sv_kApp {ds : List D} : Sv (kApp i ds ρ r) N k t = As1 ds (fun d => GetE ρ i (fun z => AsL z (fun xs => Ck (xs.length < lim) (SetE ρ i (.lst (xs ++ [d])) (fun ρ' => N ρ' r) .mk) .mk) .mk) .mk) .mk := by
  unfold kApp GetE
  match ds with
  | [] => rfl
  | [d] =>
    show Sv (match [d], ρ[i]? with | [d], some (some (.lst xs)) => if xs.length < lim then .next (ρ.set i (some (.lst (xs ++ [d])))) r else .bad | _, _ => .bad) N k t = (match ρ[i]? with | some (some z) => AsL z _ .mk | _ => False)
    cases e : ρ[i]? with
    | none => rfl
    | some o => cases o with
      | none => rfl
      | some z =>
        cases z <;> try rfl
        rename_i xs
        refine sv_ck.trans ?_; exact congrArg (fun z => Ck (xs.length < lim) z .mk) (set_in' e)
  | _ :: _ :: _ => rfl
theorem sv_app  : Sv (sApp O i fa ρ r) N k t = Wp ρ O (fun ρ' => Ev (fa ρ' r) (fun ds r1 => Sv (kApp i ds ρ r1) N k t) (fun c fs r1 => k.E c fs ρ r1) .mk) .mk := sv_evF
theorem sv_appI  : Sv (sAppI i fa ρ r) N k t = Ev (fa ρ r) (fun ds r1 => Ver r r1 (fun r2 => Imms ds (Sv (kApp i ds ρ r2) N k t) .mk) .mk) (fun c fs r1 => Ver r r1 (fun r2 => k.E c fs ρ r2) .mk) .mk := by
  unfold sAppI; rw [sv_evI]; refine ev_congr fun d r1 => ?_; unfold Ver Imms; simp only [sv_ck, Ck]
theorem sv_kIns {j : Int} {d : D} : Sv (kIns i [.int j, d] ρ r) N k t = GetE ρ i (fun z => AsL z (fun xs => Ck (xs.length < lim ∧ 0 ≤ j ∧ big j = true) (SetE ρ i (.lst (xs.take j.toNat ++ [d] ++ xs.drop j.toNat)) (fun ρ' => N ρ' r) .mk) .mk) .mk) .mk := by
  unfold kIns GetE
  show Sv (match [D.int j, d], ρ[i]? with | [.int j, d], some (some (.lst xs)) => if xs.length < lim ∧ 0 ≤ j ∧ big j = true then .next (ρ.set i (some (.lst (xs.take j.toNat ++ [d] ++ xs.drop j.toNat)))) r else .bad | _, _ => .bad) N k t = (match ρ[i]? with | some (some z) => AsL z _ .mk | _ => False)
  cases e : ρ[i]? with
  | none => rfl
  | some o => cases o with
    | none => rfl
    | some z =>
      cases z <;> try rfl
      rename_i xs
      refine sv_ck.trans ?_; exact congrArg (fun z => Ck (xs.length < lim ∧ 0 ≤ j ∧ big j = true) z .mk) (set_in' e)
theorem sv_ins  : Sv (sIns O i fa ρ r) N k t = Wp ρ O (fun ρ' => Ev (fa ρ' r) (fun ds r1 => Sv (kIns i ds ρ r1) N k t) (fun c fs r1 => k.E c fs ρ r1) .mk) .mk := sv_evF
theorem sv_insI  : Sv (sInsI i fa ρ r) N k t = Ev (fa ρ r) (fun ds r1 => Ver r r1 (fun r2 => Imms ds (Sv (kIns i ds ρ r2) N k t) .mk) .mk) (fun c fs r1 => Ver r r1 (fun r2 => k.E c fs ρ r2) .mk) .mk := by
  unfold sInsI; rw [sv_evI]; refine ev_congr fun d r1 => ?_; unfold Ver Imms; simp only [sv_ck, Ck]
theorem sv_xt {es : List D} : Sv (match ρ[i]? with | some (some (.lst xs)) => if xs.length + es.length ≤ lim then .next (ρ.set i (some (.lst (xs ++ es)))) r else .bad | _ => .bad) N k t = GetE ρ i (fun z => AsL z (fun xs => Ck (xs.length + es.length ≤ lim) (SetE ρ i (.lst (xs ++ es)) (fun ρ' => N ρ' r) .mk) .mk) .mk) .mk := by
  unfold GetE
  cases e : ρ[i]? with
  | none => rfl
  | some o => cases o with
    | none => rfl
    | some z =>
      cases z <;> try rfl
      rename_i xs
      refine sv_ck.trans ?_; exact congrArg (fun z => Ck (xs.length + es.length ≤ lim) z .mk) (set_in' e)
theorem sv_extN  : Sv (sExtN O i fl ρ r) N k t = Wp ρ O (fun ρ' => Ev (fl ρ' r) (fun es r1 => GetE ρ i (fun z => AsL z (fun xs => Ck (xs.length + es.length ≤ lim) (SetE ρ i (.lst (xs ++ es)) (fun ρ' => N ρ' r1) .mk) .mk) .mk) .mk) (fun c fs r1 => k.E c fs ρ r1) .mk) .mk := by
  unfold sExtN; rw [sv_evF]; unfold Wp; exact ev_congr fun _ _ => sv_xt
theorem sv_extI  : Sv (sExtI i fl ρ r) N k t = Ev (fl ρ r) (fun es r1 => Ver r r1 (fun r2 => Imms es (GetE ρ i (fun z => AsL z (fun xs => Ck (xs.length + es.length ≤ lim) (SetE ρ i (.lst (xs ++ es)) (fun ρ' => N ρ' r2) .mk) .mk) .mk) .mk) .mk) .mk) (fun c fs r1 => Ver r r1 (fun r2 => k.E c fs ρ r2) .mk) .mk := by
  unfold sExtI; rw [sv_evI]; refine ev_congr fun d r1 => ?_; unfold Ver Imms; refine congrArg (fun z => verOk r r1 = true ∧ z) ?_; dsimp only; rw [sv_ck]; unfold Ck; refine congrArg (fun z => D.imms d = true ∧ z) ?_; exact sv_xt
theorem sv_ext  : Sv (sExt O i fa ρ r) N k t = Wp ρ O (fun ρ' => Ev (fa ρ' r) (fun ds r1 => As1 ds (fun d => AsL d (fun es => GetE ρ i (fun z => AsL z (fun xs => Ck (xs.length + es.length ≤ lim) (SetE ρ i (.lst (xs ++ es)) (fun ρ' => N ρ' r1) .mk) .mk) .mk) .mk) .mk) .mk) (fun c fs r1 => k.E c fs ρ r1) .mk) .mk := by
  unfold sExt; rw [sv_evF]; unfold Wp; refine ev_congr fun ds r1 => ?_
  unfold kExt
  match ds with
  | [] => rfl
  | [d] =>
    cases d <;> try rfl
    rename_i es
    show Sv (match [D.lst es], ρ[i]? with | [.lst es], some (some (.lst xs)) => if xs.length + es.length ≤ lim then .next (ρ.set i (some (.lst (xs ++ es)))) r1 else .bad | _, _ => .bad) N k t = GetE ρ i (fun z => AsL z (fun xs => Ck (xs.length + es.length ≤ lim) (SetE ρ i (.lst (xs ++ es)) (fun ρ' => N ρ' r1) .mk) .mk) .mk) .mk
    rw [← sv_xt (t := t)]
    cases e : ρ[i]? with
    | none => rfl
    | some o => cases o with
      | none => rfl
      | some z => cases z <;> rfl
  | d :: _ :: _ => cases d <;> rfl
theorem sv_if  : Sv (sIf ft a b ρ r) N k t = Ev (ft ρ r) (fun x r1 => Ver r r1 (fun r2 => Bif x (Sv (a ρ r2) N k t) (Sv (b ρ r2) N k t) .mk) .mk) (fun c fs r1 => Ver r r1 (fun r2 => k.E c fs ρ r2) .mk) .mk := by
  unfold sIf; rw [sv_evI]; refine ev_congr fun d r1 => ?_; unfold Ver; cases d <;> rfl
theorem sv_ifF  : Sv (sIfF O ft a b ρ r) N k t = Wp ρ O (fun ρ' => Ev (ft ρ' r) (fun x r1 => Bif x (Sv (a ρ r1) N k t) (Sv (b ρ r1) N k t) .mk) (fun c fs r1 => k.E c fs ρ r1) .mk) .mk := by
  unfold sIfF; rw [sv_evF]; unfold Wp; refine ev_congr fun d r1 => ?_; cases d <;> rfl
theorem sv_for  : Sv (sFor O fl tg a ρ r) N k t = Wp ρ O (fun ρ' => Ev (fl ρ' r) (fun ds r1 => Sv (forGo tg a ds ρ r1) N k t) (fun c fs r1 => k.E c fs ρ r1) .mk) .mk := sv_evF
theorem sv_forR1I  : Sv (sForR1I fa tg a ρ r) N k t = Ev (fa ρ r) (fun ds r1 => Ver r r1 (fun r2 => As1 ds (fun d => AsI d (fun j => Ck (big j = true) (Sv (forGo tg a (rng 0 j.toNat) ρ r2) N k t) .mk) .mk) .mk) .mk) (fun c fs r1 => Ver r r1 (fun r2 => k.E c fs ρ r2) .mk) .mk := by
  unfold sForR1I; rw [sv_evI]; refine ev_congr fun ds r1 => ?_; unfold Ver; refine congrArg _ ?_
  match ds with
  | [] => rfl
  | [d] => (cases d <;> try rfl); rename_i j; exact sv_ck
  | d :: _ :: _ => cases d <;> rfl
theorem sv_aug {op : Int → Int → Int} : Sv (sAug i op f ρ r) N k t = GetE ρ i (fun z => AsI z (fun x => Ev (f ρ r) (fun d r1 => Ver r r1 (fun r2 => AsI d (fun y => SetE ρ i (.int (op x y)) (fun ρ' => N ρ' r2) .mk) .mk) .mk) (fun c fs r1 => Ver r r1 (fun r2 => k.E c fs ρ r2) .mk) .mk) .mk) .mk := by
  unfold sAug GetE
  cases e : ρ[i]? with
  | none => rfl
  | some o => cases o with
    | none => rfl
    | some z =>
      cases z <;> try rfl
      rename_i x
      refine sv_evI.trans (ev_congr (t' := .mk) fun d r1 => ?_)
      unfold Ver kAug; refine congrArg _ ?_; dsimp only
      rw [e]
      cases d <;> try rfl
      exact set_in' e
theorem sv_par  : Sv (sPar O i j fa ρ r) N k t = Wp ρ O (fun ρ' => Ev (fa ρ' r) (fun ds r1 => As2 ds (fun x y => SetE ρ i x (fun ρ1 => SetE ρ1 j y (fun ρ2 => N ρ2 r1) .mk) .mk) .mk) (fun c fs r1 => k.E c fs ρ r1) .mk) .mk := by
  unfold sPar; rw [sv_evF]; unfold Wp; refine ev_congr fun ds r1 => ?_
  unfold kPar SetE
  match ds with
  | [] => rfl
  | [_] => rfl
  | [x, y] => show Sv (if i < ρ.length ∧ j < ρ.length then _ else _) N k t = (i < ρ.length ∧ j < (ρ.set i (some x)).length ∧ _); rw [sv_ck, List.length_set]; unfold Ck; simp only [Sv, and_assoc]
  | _ :: _ :: _ :: _ => rfl
theorem sv_raise  : Sv (sRaise i ρ r) N k t = k.E i [] ρ r := rfl
theorem sv_frz  : Sv (sFrz i a ρ r) N k t = Sv (a ρ r) (fun ρ r => SetN ρ i (fun ρ' => N ρ' r) .mk) ⟨fun ρ r => k.C (ρ.set i none) r, fun ρ r => k.B (ρ.set i none) r, k.T, fun c fs ρ r => k.E c fs (ρ.set i none) r⟩ .mk := by
  unfold sFrz; cases a ρ r <;> rfl
theorem sv_pop {K : D → En → Rs → SOut} : Sv (sPop i K ρ r) N k t = GetE ρ i (fun z => AsL z (fun xs => So xs[xs.length - 1]? (fun d => SetE ρ i (.lst xs.dropLast) (fun ρ' => Sv (K d ρ' r) N k t) .mk) .mk) .mk) .mk := by
  unfold sPop GetE
  cases e : ρ[i]? with
  | none => rfl
  | some o => cases o with
    | none => rfl
    | some z =>
      cases z <;> try rfl
      rename_i xs
      show Sv (match xs[xs.length - 1]? with | some d => K d (ρ.set i (some (.lst xs.dropLast))) r | none => .bad) N k t = So xs[xs.length - 1]? (fun d => SetE ρ i (.lst xs.dropLast) (fun ρ' => Sv (K d ρ' r) N k t) .mk) .mk
      cases xs[xs.length - 1]? with
      | none => rfl
      | some d => exact (set_in (Q := fun ρ' => Sv (K d ρ' r) N k t) (t := .mk) e).symm
theorem sv_kSetO {v : D} {x : Int} : Sv (kSetO i v (.int x) ρ r) N k t = GetE ρ i (fun z => AsL z (fun ds => So (ixN ds.length x) (fun n => SetE ρ i (.lst (ds.set n v)) (fun ρ' => N ρ' r) .mk) .mk) .mk) .mk := by
  unfold kSetO GetE
  show Sv (match D.int x, ρ[i]? with | .int j, some (some (.lst ds)) => (match ixN ds.length j with | some n => .next (ρ.set i (some (.lst (ds.set n v)))) r | none => .bad) | _, _ => .bad) N k t = (match ρ[i]? with | some (some z) => AsL z _ .mk | _ => False)
  cases e : ρ[i]? with
  | none => rfl
  | some o => cases o with
    | none => rfl
    | some z =>
      cases z <;> try rfl
      rename_i ds
      show Sv (match ixN ds.length x with | some n => .next (ρ.set i (some (.lst (ds.set n v)))) r | none => .bad) N k t = So (ixN ds.length x) (fun n => SetE ρ i (.lst (ds.set n v)) (fun ρ' => N ρ' r) .mk) .mk
      cases ixN ds.length x with
      | none => rfl
      | some n => exact set_in' e
theorem sv_setO  : Sv (sSetO O i f g ρ r) N k t = Wp ρ O (fun ρ' => Ev (g ρ' r) (fun v r1 => Ev (f ρ' r1) (fun x r2 => Sv (kSetO i v x ρ r2) N k t) (fun c fs r1 => k.E c fs ρ r1) .mk) (fun c fs r1 => k.E c fs ρ r1) .mk) .mk := by
  unfold sSetO; rw [sv_evF]; unfold Wp; refine ev_congr fun v r1 => ?_; rw [sv_evF]; rfl
theorem sv_kDPut {v x : D} : Sv (kDPut i v x ρ r) N k t = So (keyOf x) (fun key => GetE ρ i (fun z => AsD z (fun ds => Ck (ds.length < lim) (SetE ρ i (.dic (setK ds key v)) (fun ρ' => N ρ' r) .mk) .mk) .mk) .mk) .mk := by
  unfold kDPut GetE
  cases keyOf x with
  | none => rfl
  | some key =>
    show Sv (match some key, ρ[i]? with | some key, some (some (.dic kds)) => if kds.length < lim then .next (ρ.set i (some (.dic (setK kds key v)))) r else .bad | _, _ => .bad) N k t = (match ρ[i]? with | some (some z) => AsD z _ .mk | _ => False)
    cases e : ρ[i]? with
    | none => rfl
    | some o => cases o with
      | none => rfl
      | some z =>
        cases z <;> try rfl
        rename_i ds
        refine sv_ck.trans ?_; exact congrArg (fun z => Ck (ds.length < lim) z .mk) (set_in' e)
theorem sv_dput  : Sv (sDPut' O i f g ρ r) N k t = Wp ρ O (fun ρ' => Ev (g ρ' r) (fun v r1 => Ev (f ρ' r1) (fun x r2 => Sv (kDPut i v x ρ r2) N k t) (fun c fs r1 => k.E c fs ρ r1) .mk) (fun c fs r1 => k.E c fs ρ r1) .mk) .mk := by
  unfold sDPut'; rw [sv_evF]; unfold Wp; refine ev_congr fun v r1 => ?_; rw [sv_evF]; rfl
theorem ev_run {n : Nat} {ds : List D} {Q : D → Rs → Prop} {E : Nat → List (Str × Int) → Rs → Prop} {u : Tag2 Q E} : Ev (runF n a ds r) Q E u = Sv (a (ds.map some ++ List.replicate (n - ds.length) none) r) (fun _ r => Q .non r) ⟨fun _ _ => False, fun _ _ => False, fun d r => Q d r, fun c fs _ r => E c fs r⟩ .mk := by
  unfold runF; cases a (ds.map some ++ List.replicate (n - ds.length) none) r <;> rfl
end
section
variable {α : Type} {P P' : Prop} {b : Bool}
theorem bif_t {t : Tag2 P P'} : Bif true P P' t = P := by
  simp [Bif]
theorem bif_f {t : Tag2 P P'} : Bif false P P' t = P' := by
  simp [Bif]
theorem bif_nt {t : Tag2 P P'} : Bif (!true) P P' t = P' := by
  simp [Bif]
theorem bif_nf {t : Tag2 P P'} : Bif (!false) P P' t = P := by
  simp [Bif]
theorem bif_sn {t : Tag2 P P'} : Bif (Option.isSome (none : Option α)) P P' t = P' := by
  simp [Bif]
theorem bif_ss {x : α} {t : Tag2 P P'} : Bif (Option.isSome (some x)) P P' t = P := by
  simp [Bif]
theorem so_some {a : α} {Q : α → Prop} {t : Tag2 Q Q} : So (some a) Q t = Q a := rfl
theorem sop_some {β : Type} {a : α} {b : β} {Q : α → β → Prop} {t : Tag2 Q Q} : SoP (some (a, b)) Q t = Q a b := rfl
theorem ck_true {t : Tag2 P P} : Ck True P t = P := by
  simp [Ck]
theorem ck_tt {t : Tag2 P P} : Ck (true = true) P t = P := by
  simp [Ck]
theorem ck_eq {x : α} {t : Tag2 P P} : Ck (x = x) P t = P := by
  simp [Ck]
theorem ck_len0 {t : Tag2 P P} : Ck (List.length ([] : List α) ≤ lim) P t = P := by
  unfold Ck; simp
theorem ck_len1 {a0 : α} {t : Tag2 P P} : Ck (List.length [a0] ≤ lim) P t = P := (by unfold Ck; exact propext ⟨fun h => h.2, fun h => ⟨by show 1 ≤ 1000000; decide, h⟩⟩)
theorem ck_len2 {a0 a1 : α} {t : Tag2 P P} : Ck (List.length [a0, a1] ≤ lim) P t = P := (by unfold Ck; exact propext ⟨fun h => h.2, fun h => ⟨by show 2 ≤ 1000000; decide, h⟩⟩)
theorem ck_len3 {a0 a1 a2 : α} {t : Tag2 P P} : Ck (List.length [a0, a1, a2] ≤ lim) P t = P := (by unfold Ck; exact propext ⟨fun h => h.2, fun h => ⟨by show 3 ≤ 1000000; decide, h⟩⟩)
theorem ck_len4 {a0 a1 a2 a3 : α} {t : Tag2 P P} : Ck (List.length [a0, a1, a2, a3] ≤ lim) P t = P := (by unfold Ck; exact propext ⟨fun h => h.2, fun h => ⟨by show 4 ≤ 1000000; decide, h⟩⟩)
theorem ck_len5 {a0 a1 a2 a3 a4 : α} {t : Tag2 P P} : Ck (List.length [a0, a1, a2, a3, a4] ≤ lim) P t = P := (by unfold Ck; exact propext ⟨fun h => h.2, fun h => ⟨by show 5 ≤ 1000000; decide, h⟩⟩)
theorem ck_len6 {a0 a1 a2 a3 a4 a5 : α} {t : Tag2 P P} : Ck (List.length [a0, a1, a2, a3, a4, a5] ≤ lim) P t = P := (by unfold Ck; exact propext ⟨fun h => h.2, fun h => ⟨by show 6 ≤ 1000000; decide, h⟩⟩)
theorem ck_len7 {a0 a1 a2 a3 a4 a5 a6 : α} {t : Tag2 P P} : Ck (List.length [a0, a1, a2, a3, a4, a5, a6] ≤ lim) P t = P := (by unfold Ck; exact propext ⟨fun h => h.2, fun h => ⟨by show 7 ≤ 1000000; decide, h⟩⟩)
theorem ck_len8 {a0 a1 a2 a3 a4 a5 a6 a7 : α} {t : Tag2 P P} : Ck (List.length [a0, a1, a2, a3, a4, a5, a6, a7] ≤ lim) P t = P := (by unfold Ck; exact propext ⟨fun h => h.2, fun h => ⟨by show 8 ≤ 1000000; decide, h⟩⟩)
theorem ck_len9 {a0 a1 a2 a3 a4 a5 a6 a7 a8 : α} {t : Tag2 P P} : Ck (List.length [a0, a1, a2, a3, a4, a5, a6, a7, a8] ≤ lim) P t = P := (by unfold Ck; exact propext ⟨fun h => h.2, fun h => ⟨by show 9 ≤ 1000000; decide, h⟩⟩)
theorem ck_len10 {a0 a1 a2 a3 a4 a5 a6 a7 a8 a9 : α} {t : Tag2 P P} : Ck (List.length [a0, a1, a2, a3, a4, a5, a6, a7, a8, a9] ≤ lim) P t = P := (by unfold Ck; exact propext ⟨fun h => h.2, fun h => ⟨by show 10 ≤ 1000000; decide, h⟩⟩)
theorem ck_len11 {a0 a1 a2 a3 a4 a5 a6 a7 a8 a9 a10 : α} {t : Tag2 P P} : Ck (List.length [a0, a1, a2, a3, a4, a5, a6, a7, a8, a9, a10] ≤ lim) P t = P := (by unfold Ck; exact propext ⟨fun h => h.2, fun h => ⟨by show 11 ≤ 1000000; decide, h⟩⟩)
theorem ck_len12 {a0 a1 a2 a3 a4 a5 a6 a7 a8 a9 a10 a11 : α} {t : Tag2 P P} : Ck (List.length [a0, a1, a2, a3, a4, a5, a6, a7, a8, a9, a10, a11] ≤ lim) P t = P := (by unfold Ck; exact propext ⟨fun h => h.2, fun h => ⟨by show 12 ≤ 1000000; decide, h⟩⟩)
theorem ck_len13 {a0 a1 a2 a3 a4 a5 a6 a7 a8 a9 a10 a11 a12 : α} {t : Tag2 P P} : Ck (List.length [a0, a1, a2, a3, a4, a5, a6, a7, a8, a9, a10, a11, a12] ≤ lim) P t = P := (by unfold Ck; exact propext ⟨fun h => h.2, fun h => ⟨by show 13 ≤ 1000000; decide, h⟩⟩)
theorem ck_len14 {a0 a1 a2 a3 a4 a5 a6 a7 a8 a9 a10 a11 a12 a13 : α} {t : Tag2 P P} : Ck (List.length [a0, a1, a2, a3, a4, a5, a6, a7, a8, a9, a10, a11, a12, a13] ≤ lim) P t = P := (by unfold Ck; exact propext ⟨fun h => h.2, fun h => ⟨by show 14 ≤ 1000000; decide, h⟩⟩)
theorem ck_len15 {a0 a1 a2 a3 a4 a5 a6 a7 a8 a9 a10 a11 a12 a13 a14 : α} {t : Tag2 P P} : Ck (List.length [a0, a1, a2, a3, a4, a5, a6, a7, a8, a9, a10, a11, a12, a13, a14] ≤ lim) P t = P := (by unfold Ck; exact propext ⟨fun h => h.2, fun h => ⟨by show 15 ≤ 1000000; decide, h⟩⟩)
theorem ck_len16 {a0 a1 a2 a3 a4 a5 a6 a7 a8 a9 a10 a11 a12 a13 a14 a15 : α} {t : Tag2 P P} : Ck (List.length [a0, a1, a2, a3, a4, a5, a6, a7, a8, a9, a10, a11, a12, a13, a14, a15] ≤ lim) P t = P := (by unfold Ck; exact propext ⟨fun h => h.2, fun h => ⟨by show 16 ≤ 1000000; decide, h⟩⟩)
theorem ck_lt0 {t : Tag2 P P} : Ck (List.length ([] : List α) < lim) P t = P := (by unfold Ck; exact propext ⟨fun h => h.2, fun h => ⟨by show 0 < 1000000; decide, h⟩⟩)
theorem ck_15_0 {t : Tag2 P P} : Ck (List.length ([] : List α) ≤ 15) P t = P := by
  unfold Ck; simp
theorem ck_lt1 {a0 : α} {t : Tag2 P P} : Ck (List.length [a0] < lim) P t = P := (by unfold Ck; exact propext ⟨fun h => h.2, fun h => ⟨by show 1 < 1000000; decide, h⟩⟩)
theorem ck_15_1 {a0 : α} {t : Tag2 P P} : Ck (List.length [a0] ≤ 15) P t = P := by
  unfold Ck; simp
theorem ck_lt2 {a0 a1 : α} {t : Tag2 P P} : Ck (List.length [a0, a1] < lim) P t = P := (by unfold Ck; exact propext ⟨fun h => h.2, fun h => ⟨by show 2 < 1000000; decide, h⟩⟩)
theorem ck_15_2 {a0 a1 : α} {t : Tag2 P P} : Ck (List.length [a0, a1] ≤ 15) P t = P := by
  unfold Ck; simp
theorem ck_lt3 {a0 a1 a2 : α} {t : Tag2 P P} : Ck (List.length [a0, a1, a2] < lim) P t = P := (by unfold Ck; exact propext ⟨fun h => h.2, fun h => ⟨by show 3 < 1000000; decide, h⟩⟩)
theorem ck_15_3 {a0 a1 a2 : α} {t : Tag2 P P} : Ck (List.length [a0, a1, a2] ≤ 15) P t = P := by
  unfold Ck; simp
theorem ck_lt4 {a0 a1 a2 a3 : α} {t : Tag2 P P} : Ck (List.length [a0, a1, a2, a3] < lim) P t = P := (by unfold Ck; exact propext ⟨fun h => h.2, fun h => ⟨by show 4 < 1000000; decide, h⟩⟩)
theorem ck_15_4 {a0 a1 a2 a3 : α} {t : Tag2 P P} : Ck (List.length [a0, a1, a2, a3] ≤ 15) P t = P := by
  unfold Ck; simp
theorem ck_lt5 {a0 a1 a2 a3 a4 : α} {t : Tag2 P P} : Ck (List.length [a0, a1, a2, a3, a4] < lim) P t = P := (by unfold Ck; exact propext ⟨fun h => h.2, fun h => ⟨by show 5 < 1000000; decide, h⟩⟩)
theorem ck_15_5 {a0 a1 a2 a3 a4 : α} {t : Tag2 P P} : Ck (List.length [a0, a1, a2, a3, a4] ≤ 15) P t = P := by
  unfold Ck; simp
theorem ck_lt6 {a0 a1 a2 a3 a4 a5 : α} {t : Tag2 P P} : Ck (List.length [a0, a1, a2, a3, a4, a5] < lim) P t = P := (by unfold Ck; exact propext ⟨fun h => h.2, fun h => ⟨by show 6 < 1000000; decide, h⟩⟩)
theorem ck_15_6 {a0 a1 a2 a3 a4 a5 : α} {t : Tag2 P P} : Ck (List.length [a0, a1, a2, a3, a4, a5] ≤ 15) P t = P := by
  unfold Ck; simp
theorem ck_lt7 {a0 a1 a2 a3 a4 a5 a6 : α} {t : Tag2 P P} : Ck (List.length [a0, a1, a2, a3, a4, a5, a6] < lim) P t = P := (by unfold Ck; exact propext ⟨fun h => h.2, fun h => ⟨by show 7 < 1000000; decide, h⟩⟩)
theorem ck_15_7 {a0 a1 a2 a3 a4 a5 a6 : α} {t : Tag2 P P} : Ck (List.length [a0, a1, a2, a3, a4, a5, a6] ≤ 15) P t = P := by
  unfold Ck; simp
theorem ck_lt8 {a0 a1 a2 a3 a4 a5 a6 a7 : α} {t : Tag2 P P} : Ck (List.length [a0, a1, a2, a3, a4, a5, a6, a7] < lim) P t = P := (by unfold Ck; exact propext ⟨fun h => h.2, fun h => ⟨by show 8 < 1000000; decide, h⟩⟩)
theorem ck_15_8 {a0 a1 a2 a3 a4 a5 a6 a7 : α} {t : Tag2 P P} : Ck (List.length [a0, a1, a2, a3, a4, a5, a6, a7] ≤ 15) P t = P := by
  unfold Ck; simp
theorem ck_lt9 {a0 a1 a2 a3 a4 a5 a6 a7 a8 : α} {t : Tag2 P P} : Ck (List.length [a0, a1, a2, a3, a4, a5, a6, a7, a8] < lim) P t = P := (by unfold Ck; exact propext ⟨fun h => h.2, fun h => ⟨by show 9 < 1000000; decide, h⟩⟩)
theorem ck_15_9 {a0 a1 a2 a3 a4 a5 a6 a7 a8 : α} {t : Tag2 P P} : Ck (List.length [a0, a1, a2, a3, a4, a5, a6, a7, a8] ≤ 15) P t = P := by
  unfold Ck; simp
theorem ck_lt10 {a0 a1 a2 a3 a4 a5 a6 a7 a8 a9 : α} {t : Tag2 P P} : Ck (List.length [a0, a1, a2, a3, a4, a5, a6, a7, a8, a9] < lim) P t = P := (by unfold Ck; exact propext ⟨fun h => h.2, fun h => ⟨by show 10 < 1000000; decide, h⟩⟩)
theorem ck_15_10 {a0 a1 a2 a3 a4 a5 a6 a7 a8 a9 : α} {t : Tag2 P P} : Ck (List.length [a0, a1, a2, a3, a4, a5, a6, a7, a8, a9] ≤ 15) P t = P := by
  unfold Ck; simp
theorem ck_lt11 {a0 a1 a2 a3 a4 a5 a6 a7 a8 a9 a10 : α} {t : Tag2 P P} : Ck (List.length [a0, a1, a2, a3, a4, a5, a6, a7, a8, a9, a10] < lim) P t = P := (by unfold Ck; exact propext ⟨fun h => h.2, fun h => ⟨by show 11 < 1000000; decide, h⟩⟩)
theorem ck_15_11 {a0 a1 a2 a3 a4 a5 a6 a7 a8 a9 a10 : α} {t : Tag2 P P} : Ck (List.length [a0, a1, a2, a3, a4, a5, a6, a7, a8, a9, a10] ≤ 15) P t = P := by
  unfold Ck; simp
end
section
variable {ρ : En} {r r1 : Rs} {d : D} {ds : List D} {Q : En → Prop} {t : Tag2 Q Q}
theorem get_0 {Q : D → Prop} {t : Tag2 Q Q} : GetE (some d :: ρ) 0 Q t = Q d := rfl
theorem set_0 {y : Option D} : SetE (y :: ρ) 0 d Q t = Q (some d :: ρ) := by
  unfold SetE; simp
theorem setn_0 {y : Option D} : SetN (y :: ρ) 0 Q t = Q (none :: ρ) := rfl
theorem get_1 {x0 : Option D} {Q : D → Prop} {t : Tag2 Q Q} : GetE (x0 :: some d :: ρ) 1 Q t = Q d := rfl
theorem set_1 {x0 : Option D} {y : Option D} : SetE (x0 :: y :: ρ) 1 d Q t = Q (x0 :: some d :: ρ) := by
  unfold SetE; simp
theorem setn_1 {x0 : Option D} {y : Option D} : SetN (x0 :: y :: ρ) 1 Q t = Q (x0 :: none :: ρ) := rfl
theorem get_2 {x0 x1 : Option D} {Q : D → Prop} {t : Tag2 Q Q} : GetE (x0 :: x1 :: some d :: ρ) 2 Q t = Q d := rfl
theorem set_2 {x0 x1 : Option D} {y : Option D} : SetE (x0 :: x1 :: y :: ρ) 2 d Q t = Q (x0 :: x1 :: some d :: ρ) := by
  unfold SetE; simp
theorem setn_2 {x0 x1 : Option D} {y : Option D} : SetN (x0 :: x1 :: y :: ρ) 2 Q t = Q (x0 :: x1 :: none :: ρ) := rfl
theorem get_3 {x0 x1 x2 : Option D} {Q : D → Prop} {t : Tag2 Q Q} : GetE (x0 :: x1 :: x2 :: some d :: ρ) 3 Q t = Q d := rfl
theorem set_3 {x0 x1 x2 : Option D} {y : Option D} : SetE (x0 :: x1 :: x2 :: y :: ρ) 3 d Q t = Q (x0 :: x1 :: x2 :: some d :: ρ) := by
  unfold SetE; simp
theorem setn_3 {x0 x1 x2 : Option D} {y : Option D} : SetN (x0 :: x1 :: x2 :: y :: ρ) 3 Q t = Q (x0 :: x1 :: x2 :: none :: ρ) := rfl
theorem get_4 {x0 x1 x2 x3 : Option D} {Q : D → Prop} {t : Tag2 Q Q} : GetE (x0 :: x1 :: x2 :: x3 :: some d :: ρ) 4 Q t = Q d := rfl
theorem set_4 {x0 x1 x2 x3 : Option D} {y : Option D} : SetE (x0 :: x1 :: x2 :: x3 :: y :: ρ) 4 d Q t = Q (x0 :: x1 :: x2 :: x3 :: some d :: ρ) := by
  unfold SetE; simp
theorem setn_4 {x0 x1 x2 x3 : Option D} {y : Option D} : SetN (x0 :: x1 :: x2 :: x3 :: y :: ρ) 4 Q t = Q (x0 :: x1 :: x2 :: x3 :: none :: ρ) := rfl
theorem get_5 {x0 x1 x2 x3 x4 : Option D} {Q : D → Prop} {t : Tag2 Q Q} : GetE (x0 :: x1 :: x2 :: x3 :: x4 :: some d :: ρ) 5 Q t = Q d := rfl
theorem set_5 {x0 x1 x2 x3 x4 : Option D} {y : Option D} : SetE (x0 :: x1 :: x2 :: x3 :: x4 :: y :: ρ) 5 d Q t = Q (x0 :: x1 :: x2 :: x3 :: x4 :: some d :: ρ) := by
  unfold SetE; simp
theorem setn_5 {x0 x1 x2 x3 x4 : Option D} {y : Option D} : SetN (x0 :: x1 :: x2 :: x3 :: x4 :: y :: ρ) 5 Q t = Q (x0 :: x1 :: x2 :: x3 :: x4 :: none :: ρ) := rfl
theorem get_6 {x0 x1 x2 x3 x4 x5 : Option D} {Q : D → Prop} {t : Tag2 Q Q} : GetE (x0 :: x1 :: x2 :: x3 :: x4 :: x5 :: some d :: ρ) 6 Q t = Q d := rfl
theorem set_6 {x0 x1 x2 x3 x4 x5 : Option D} {y : Option D} : SetE (x0 :: x1 :: x2 :: x3 :: x4 :: x5 :: y :: ρ) 6 d Q t = Q (x0 :: x1 :: x2 :: x3 :: x4 :: x5 :: some d :: ρ) := by
  unfold SetE; simp
theorem setn_6 {x0 x1 x2 x3 x4 x5 : Option D} {y : Option D} : SetN (x0 :: x1 :: x2 :: x3 :: x4 :: x5 :: y :: ρ) 6 Q t = Q (x0 :: x1 :: x2 :: x3 :: x4 :: x5 :: none :: ρ) := rfl
theorem get_7 {x0 x1 x2 x3 x4 x5 x6 : Option D} {Q : D → Prop} {t : Tag2 Q Q} : GetE (x0 :: x1 :: x2 :: x3 :: x4 :: x5 :: x6 :: some d :: ρ) 7 Q t = Q d := rfl
theorem set_7 {x0 x1 x2 x3 x4 x5 x6 : Option D} {y : Option D} : SetE (x0 :: x1 :: x2 :: x3 :: x4 :: x5 :: x6 :: y :: ρ) 7 d Q t = Q (x0 :: x1 :: x2 :: x3 :: x4 :: x5 :: x6 :: some d :: ρ) := by
  unfold SetE; simp
theorem setn_7 {x0 x1 x2 x3 x4 x5 x6 : Option D} {y : Option D} : SetN (x0 :: x1 :: x2 :: x3 :: x4 :: x5 :: x6 :: y :: ρ) 7 Q t = Q (x0 :: x1 :: x2 :: x3 :: x4 :: x5 :: x6 :: none :: ρ) := rfl
theorem get_8 {x0 x1 x2 x3 x4 x5 x6 x7 : Option D} {Q : D → Prop} {t : Tag2 Q Q} : GetE (x0 :: x1 :: x2 :: x3 :: x4 :: x5 :: x6 :: x7 :: some d :: ρ) 8 Q t = Q d := rfl
theorem set_8 {x0 x1 x2 x3 x4 x5 x6 x7 : Option D} {y : Option D} : SetE (x0 :: x1 :: x2 :: x3 :: x4 :: x5 :: x6 :: x7 :: y :: ρ) 8 d Q t = Q (x0 :: x1 :: x2 :: x3 :: x4 :: x5 :: x6 :: x7 :: some d :: ρ) := by
  unfold SetE; simp
theorem setn_8 {x0 x1 x2 x3 x4 x5 x6 x7 : Option D} {y : Option D} : SetN (x0 :: x1 :: x2 :: x3 :: x4 :: x5 :: x6 :: x7 :: y :: ρ) 8 Q t = Q (x0 :: x1 :: x2 :: x3 :: x4 :: x5 :: x6 :: x7 :: none :: ρ) := rfl
theorem get_9 {x0 x1 x2 x3 x4 x5 x6 x7 x8 : Option D} {Q : D → Prop} {t : Tag2 Q Q} : GetE (x0 :: x1 :: x2 :: x3 :: x4 :: x5 :: x6 :: x7 :: x8 :: some d :: ρ) 9 Q t = Q d := rfl
theorem set_9 {x0 x1 x2 x3 x4 x5 x6 x7 x8 : Option D} {y : Option D} : SetE (x0 :: x1 :: x2 :: x3 :: x4 :: x5 :: x6 :: x7 :: x8 :: y :: ρ) 9 d Q t = Q (x0 :: x1 :: x2 :: x3 :: x4 :: x5 :: x6 :: x7 :: x8 :: some d :: ρ) := by
  unfold SetE; simp
theorem setn_9 {x0 x1 x2 x3 x4 x5 x6 x7 x8 : Option D} {y : Option D} : SetN (x0 :: x1 :: x2 :: x3 :: x4 :: x5 :: x6 :: x7 :: x8 :: y :: ρ) 9 Q t = Q (x0 :: x1 :: x2 :: x3 :: x4 :: x5 :: x6 :: x7 :: x8 :: none :: ρ) := rfl
theorem get_10 {x0 x1 x2 x3 x4 x5 x6 x7 x8 x9 : Option D} {Q : D → Prop} {t : Tag2 Q Q} : GetE (x0 :: x1 :: x2 :: x3 :: x4 :: x5 :: x6 :: x7 :: x8 :: x9 :: some d :: ρ) 10 Q t = Q d := rfl
theorem set_10 {x0 x1 x2 x3 x4 x5 x6 x7 x8 x9 : Option D} {y : Option D} : SetE (x0 :: x1 :: x2 :: x3 :: x4 :: x5 :: x6 :: x7 :: x8 :: x9 :: y :: ρ) 10 d Q t = Q (x0 :: x1 :: x2 :: x3 :: x4 :: x5 :: x6 :: x7 :: x8 :: x9 :: some d :: ρ) := by
  unfold SetE; simp
theorem setn_10 {x0 x1 x2 x3 x4 x5 x6 x7 x8 x9 : Option D} {y : Option D} : SetN (x0 :: x1 :: x2 :: x3 :: x4 :: x5 :: x6 :: x7 :: x8 :: x9 :: y :: ρ) 10 Q t = Q (x0 :: x1 :: x2 :: x3 :: x4 :: x5 :: x6 :: x7 :: x8 :: x9 :: none :: ρ) := rfl
theorem get_11 {x0 x1 x2 x3 x4 x5 x6 x7 x8 x9 x10 : Option D} {Q : D → Prop} {t : Tag2 Q Q} : GetE (x0 :: x1 :: x2 :: x3 :: x4 :: x5 :: x6 :: x7 :: x8 :: x9 :: x10 :: some d :: ρ) 11 Q t = Q d := rfl
theorem set_11 {x0 x1 x2 x3 x4 x5 x6 x7 x8 x9 x10 : Option D} {y : Option D} : SetE (x0 :: x1 :: x2 :: x3 :: x4 :: x5 :: x6 :: x7 :: x8 :: x9 :: x10 :: y :: ρ) 11 d Q t = Q (x0 :: x1 :: x2 :: x3 :: x4 :: x5 :: x6 :: x7 :: x8 :: x9 :: x10 :: some d :: ρ) := by
  unfold SetE; simp
theorem setn_11 {x0 x1 x2 x3 x4 x5 x6 x7 x8 x9 x10 : Option D} {y : Option D} : SetN (x0 :: x1 :: x2 :: x3 :: x4 :: x5 :: x6 :: x7 :: x8 :: x9 :: x10 :: y :: ρ) 11 Q t = Q (x0 :: x1 :: x2 :: x3 :: x4 :: x5 :: x6 :: x7 :: x8 :: x9 :: x10 :: none :: ρ) := rfl
theorem get_12 {x0 x1 x2 x3 x4 x5 x6 x7 x8 x9 x10 x11 : Option D} {Q : D → Prop} {t : Tag2 Q Q} : GetE (x0 :: x1 :: x2 :: x3 :: x4 :: x5 :: x6 :: x7 :: x8 :: x9 :: x10 :: x11 :: some d :: ρ) 12 Q t = Q d := rfl
theorem set_12 {x0 x1 x2 x3 x4 x5 x6 x7 x8 x9 x10 x11 : Option D} {y : Option D} : SetE (x0 :: x1 :: x2 :: x3 :: x4 :: x5 :: x6 :: x7 :: x8 :: x9 :: x10 :: x11 :: y :: ρ) 12 d Q t = Q (x0 :: x1 :: x2 :: x3 :: x4 :: x5 :: x6 :: x7 :: x8 :: x9 :: x10 :: x11 :: some d :: ρ) := by
  unfold SetE; simp
theorem setn_12 {x0 x1 x2 x3 x4 x5 x6 x7 x8 x9 x10 x11 : Option D} {y : Option D} : SetN (x0 :: x1 :: x2 :: x3 :: x4 :: x5 :: x6 :: x7 :: x8 :: x9 :: x10 :: x11 :: y :: ρ) 12 Q t = Q (x0 :: x1 :: x2 :: x3 :: x4 :: x5 :: x6 :: x7 :: x8 :: x9 :: x10 :: x11 :: none :: ρ) := rfl
theorem get_13 {x0 x1 x2 x3 x4 x5 x6 x7 x8 x9 x10 x11 x12 : Option D} {Q : D → Prop} {t : Tag2 Q Q} : GetE (x0 :: x1 :: x2 :: x3 :: x4 :: x5 :: x6 :: x7 :: x8 :: x9 :: x10 :: x11 :: x12 :: some d :: ρ) 13 Q t = Q d := rfl
theorem set_13 {x0 x1 x2 x3 x4 x5 x6 x7 x8 x9 x10 x11 x12 : Option D} {y : Option D} : SetE (x0 :: x1 :: x2 :: x3 :: x4 :: x5 :: x6 :: x7 :: x8 :: x9 :: x10 :: x11 :: x12 :: y :: ρ) 13 d Q t = Q (x0 :: x1 :: x2 :: x3 :: x4 :: x5 :: x6 :: x7 :: x8 :: x9 :: x10 :: x11 :: x12 :: some d :: ρ) := by
  unfold SetE; simp
theorem setn_13 {x0 x1 x2 x3 x4 x5 x6 x7 x8 x9 x10 x11 x12 : Option D} {y : Option D} : SetN (x0 :: x1 :: x2 :: x3 :: x4 :: x5 :: x6 :: x7 :: x8 :: x9 :: x10 :: x11 :: x12 :: y :: ρ) 13 Q t = Q (x0 :: x1 :: x2 :: x3 :: x4 :: x5 :: x6 :: x7 :: x8 :: x9 :: x10 :: x11 :: x12 :: none :: ρ) := rfl
theorem get_14 {x0 x1 x2 x3 x4 x5 x6 x7 x8 x9 x10 x11 x12 x13 : Option D} {Q : D → Prop} {t : Tag2 Q Q} : GetE (x0 :: x1 :: x2 :: x3 :: x4 :: x5 :: x6 :: x7 :: x8 :: x9 :: x10 :: x11 :: x12 :: x13 :: some d :: ρ) 14 Q t = Q d := rfl
theorem set_14 {x0 x1 x2 x3 x4 x5 x6 x7 x8 x9 x10 x11 x12 x13 : Option D} {y : Option D} : SetE (x0 :: x1 :: x2 :: x3 :: x4 :: x5 :: x6 :: x7 :: x8 :: x9 :: x10 :: x11 :: x12 :: x13 :: y :: ρ) 14 d Q t = Q (x0 :: x1 :: x2 :: x3 :: x4 :: x5 :: x6 :: x7 :: x8 :: x9 :: x10 :: x11 :: x12 :: x13 :: some d :: ρ) := by
  unfold SetE; simp
theorem setn_14 {x0 x1 x2 x3 x4 x5 x6 x7 x8 x9 x10 x11 x12 x13 : Option D} {y : Option D} : SetN (x0 :: x1 :: x2 :: x3 :: x4 :: x5 :: x6 :: x7 :: x8 :: x9 :: x10 :: x11 :: x12 :: x13 :: y :: ρ) 14 Q t = Q (x0 :: x1 :: x2 :: x3 :: x4 :: x5 :: x6 :: x7 :: x8 :: x9 :: x10 :: x11 :: x12 :: x13 :: none :: ρ) := rfl
theorem get_15 {x0 x1 x2 x3 x4 x5 x6 x7 x8 x9 x10 x11 x12 x13 x14 : Option D} {Q : D → Prop} {t : Tag2 Q Q} : GetE (x0 :: x1 :: x2 :: x3 :: x4 :: x5 :: x6 :: x7 :: x8 :: x9 :: x10 :: x11 :: x12 :: x13 :: x14 :: some d :: ρ) 15 Q t = Q d := rfl
theorem set_15 {x0 x1 x2 x3 x4 x5 x6 x7 x8 x9 x10 x11 x12 x13 x14 : Option D} {y : Option D} : SetE (x0 :: x1 :: x2 :: x3 :: x4 :: x5 :: x6 :: x7 :: x8 :: x9 :: x10 :: x11 :: x12 :: x13 :: x14 :: y :: ρ) 15 d Q t = Q (x0 :: x1 :: x2 :: x3 :: x4 :: x5 :: x6 :: x7 :: x8 :: x9 :: x10 :: x11 :: x12 :: x13 :: x14 :: some d :: ρ) := by
  unfold SetE; simp
theorem setn_15 {x0 x1 x2 x3 x4 x5 x6 x7 x8 x9 x10 x11 x12 x13 x14 : Option D} {y : Option D} : SetN (x0 :: x1 :: x2 :: x3 :: x4 :: x5 :: x6 :: x7 :: x8 :: x9 :: x10 :: x11 :: x12 :: x13 :: x14 :: y :: ρ) 15 Q t = Q (x0 :: x1 :: x2 :: x3 :: x4 :: x5 :: x6 :: x7 :: x8 :: x9 :: x10 :: x11 :: x12 :: x13 :: x14 :: none :: ρ) := rfl
theorem get_16 {x0 x1 x2 x3 x4 x5 x6 x7 x8 x9 x10 x11 x12 x13 x14 x15 : Option D} {Q : D → Prop} {t : Tag2 Q Q} : GetE (x0 :: x1 :: x2 :: x3 :: x4 :: x5 :: x6 :: x7 :: x8 :: x9 :: x10 :: x11 :: x12 :: x13 :: x14 :: x15 :: some d :: ρ) 16 Q t = Q d := rfl
theorem set_16 {x0 x1 x2 x3 x4 x5 x6 x7 x8 x9 x10 x11 x12 x13 x14 x15 : Option D} {y : Option D} : SetE (x0 :: x1 :: x2 :: x3 :: x4 :: x5 :: x6 :: x7 :: x8 :: x9 :: x10 :: x11 :: x12 :: x13 :: x14 :: x15 :: y :: ρ) 16 d Q t = Q (x0 :: x1 :: x2 :: x3 :: x4 :: x5 :: x6 :: x7 :: x8 :: x9 :: x10 :: x11 :: x12 :: x13 :: x14 :: x15 :: some d :: ρ) := by
  unfold SetE; simp
theorem setn_16 {x0 x1 x2 x3 x4 x5 x6 x7 x8 x9 x10 x11 x12 x13 x14 x15 : Option D} {y : Option D} : SetN (x0 :: x1 :: x2 :: x3 :: x4 :: x5 :: x6 :: x7 :: x8 :: x9 :: x10 :: x11 :: x12 :: x13 :: x14 :: x15 :: y :: ρ) 16 Q t = Q (x0 :: x1 :: x2 :: x3 :: x4 :: x5 :: x6 :: x7 :: x8 :: x9 :: x10 :: x11 :: x12 :: x13 :: x14 :: x15 :: none :: ρ) := rfl
theorem get_17 {x0 x1 x2 x3 x4 x5 x6 x7 x8 x9 x10 x11 x12 x13 x14 x15 x16 : Option D} {Q : D → Prop} {t : Tag2 Q Q} : GetE (x0 :: x1 :: x2 :: x3 :: x4 :: x5 :: x6 :: x7 :: x8 :: x9 :: x10 :: x11 :: x12 :: x13 :: x14 :: x15 :: x16 :: some d :: ρ) 17 Q t = Q d := rfl
theorem set_17 {x0 x1 x2 x3 x4 x5 x6 x7 x8 x9 x10 x11 x12 x13 x14 x15 x16 : Option D} {y : Option D} : SetE (x0 :: x1 :: x2 :: x3 :: x4 :: x5 :: x6 :: x7 :: x8 :: x9 :: x10 :: x11 :: x12 :: x13 :: x14 :: x15 :: x16 :: y :: ρ) 17 d Q t = Q (x0 :: x1 :: x2 :: x3 :: x4 :: x5 :: x6 :: x7 :: x8 :: x9 :: x10 :: x11 :: x12 :: x13 :: x14 :: x15 :: x16 :: some d :: ρ) := by
  unfold SetE; simp
theorem setn_17 {x0 x1 x2 x3 x4 x5 x6 x7 x8 x9 x10 x11 x12 x13 x14 x15 x16 : Option D} {y : Option D} : SetN (x0 :: x1 :: x2 :: x3 :: x4 :: x5 :: x6 :: x7 :: x8 :: x9 :: x10 :: x11 :: x12 :: x13 :: x14 :: x15 :: x16 :: y :: ρ) 17 Q t = Q (x0 :: x1 :: x2 :: x3 :: x4 :: x5 :: x6 :: x7 :: x8 :: x9 :: x10 :: x11 :: x12 :: x13 :: x14 :: x15 :: x16 :: none :: ρ) := rfl
theorem get_18 {x0 x1 x2 x3 x4 x5 x6 x7 x8 x9 x10 x11 x12 x13 x14 x15 x16 x17 : Option D} {Q : D → Prop} {t : Tag2 Q Q} : GetE (x0 :: x1 :: x2 :: x3 :: x4 :: x5 :: x6 :: x7 :: x8 :: x9 :: x10 :: x11 :: x12 :: x13 :: x14 :: x15 :: x16 :: x17 :: some d :: ρ) 18 Q t = Q d := rfl
theorem set_18 {x0 x1 x2 x3 x4 x5 x6 x7 x8 x9 x10 x11 x12 x13 x14 x15 x16 x17 : Option D} {y : Option D} : SetE (x0 :: x1 :: x2 :: x3 :: x4 :: x5 :: x6 :: x7 :: x8 :: x9 :: x10 :: x11 :: x12 :: x13 :: x14 :: x15 :: x16 :: x17 :: y :: ρ) 18 d Q t = Q (x0 :: x1 :: x2 :: x3 :: x4 :: x5 :: x6 :: x7 :: x8 :: x9 :: x10 :: x11 :: x12 :: x13 :: x14 :: x15 :: x16 :: x17 :: some d :: ρ) := by
  unfold SetE; simp
theorem setn_18 {x0 x1 x2 x3 x4 x5 x6 x7 x8 x9 x10 x11 x12 x13 x14 x15 x16 x17 : Option D} {y : Option D} : SetN (x0 :: x1 :: x2 :: x3 :: x4 :: x5 :: x6 :: x7 :: x8 :: x9 :: x10 :: x11 :: x12 :: x13 :: x14 :: x15 :: x16 :: x17 :: y :: ρ) 18 Q t = Q (x0 :: x1 :: x2 :: x3 :: x4 :: x5 :: x6 :: x7 :: x8 :: x9 :: x10 :: x11 :: x12 :: x13 :: x14 :: x15 :: x16 :: x17 :: none :: ρ) := rfl
theorem get_19 {x0 x1 x2 x3 x4 x5 x6 x7 x8 x9 x10 x11 x12 x13 x14 x15 x16 x17 x18 : Option D} {Q : D → Prop} {t : Tag2 Q Q} : GetE (x0 :: x1 :: x2 :: x3 :: x4 :: x5 :: x6 :: x7 :: x8 :: x9 :: x10 :: x11 :: x12 :: x13 :: x14 :: x15 :: x16 :: x17 :: x18 :: some d :: ρ) 19 Q t = Q d := rfl
theorem set_19 {x0 x1 x2 x3 x4 x5 x6 x7 x8 x9 x10 x11 x12 x13 x14 x15 x16 x17 x18 : Option D} {y : Option D} : SetE (x0 :: x1 :: x2 :: x3 :: x4 :: x5 :: x6 :: x7 :: x8 :: x9 :: x10 :: x11 :: x12 :: x13 :: x14 :: x15 :: x16 :: x17 :: x18 :: y :: ρ) 19 d Q t = Q (x0 :: x1 :: x2 :: x3 :: x4 :: x5 :: x6 :: x7 :: x8 :: x9 :: x10 :: x11 :: x12 :: x13 :: x14 :: x15 :: x16 :: x17 :: x18 :: some d :: ρ) := by
  unfold SetE; simp
theorem setn_19 {x0 x1 x2 x3 x4 x5 x6 x7 x8 x9 x10 x11 x12 x13 x14 x15 x16 x17 x18 : Option D} {y : Option D} : SetN (x0 :: x1 :: x2 :: x3 :: x4 :: x5 :: x6 :: x7 :: x8 :: x9 :: x10 :: x11 :: x12 :: x13 :: x14 :: x15 :: x16 :: x17 :: x18 :: y :: ρ) 19 Q t = Q (x0 :: x1 :: x2 :: x3 :: x4 :: x5 :: x6 :: x7 :: x8 :: x9 :: x10 :: x11 :: x12 :: x13 :: x14 :: x15 :: x16 :: x17 :: x18 :: none :: ρ) := rfl
theorem get_20 {x0 x1 x2 x3 x4 x5 x6 x7 x8 x9 x10 x11 x12 x13 x14 x15 x16 x17 x18 x19 : Option D} {Q : D → Prop} {t : Tag2 Q Q} : GetE (x0 :: x1 :: x2 :: x3 :: x4 :: x5 :: x6 :: x7 :: x8 :: x9 :: x10 :: x11 :: x12 :: x13 :: x14 :: x15 :: x16 :: x17 :: x18 :: x19 :: some d :: ρ) 20 Q t = Q d := rfl
theorem set_20 {x0 x1 x2 x3 x4 x5 x6 x7 x8 x9 x10 x11 x12 x13 x14 x15 x16 x17 x18 x19 : Option D} {y : Option D} : SetE (x0 :: x1 :: x2 :: x3 :: x4 :: x5 :: x6 :: x7 :: x8 :: x9 :: x10 :: x11 :: x12 :: x13 :: x14 :: x15 :: x16 :: x17 :: x18 :: x19 :: y :: ρ) 20 d Q t = Q (x0 :: x1 :: x2 :: x3 :: x4 :: x5 :: x6 :: x7 :: x8 :: x9 :: x10 :: x11 :: x12 :: x13 :: x14 :: x15 :: x16 :: x17 :: x18 :: x19 :: some d :: ρ) := by
  unfold SetE; simp
theorem setn_20 {x0 x1 x2 x3 x4 x5 x6 x7 x8 x9 x10 x11 x12 x13 x14 x15 x16 x17 x18 x19 : Option D} {y : Option D} : SetN (x0 :: x1 :: x2 :: x3 :: x4 :: x5 :: x6 :: x7 :: x8 :: x9 :: x10 :: x11 :: x12 :: x13 :: x14 :: x15 :: x16 :: x17 :: x18 :: x19 :: y :: ρ) 20 Q t = Q (x0 :: x1 :: x2 :: x3 :: x4 :: x5 :: x6 :: x7 :: x8 :: x9 :: x10 :: x11 :: x12 :: x13 :: x14 :: x15 :: x16 :: x17 :: x18 :: x19 :: none :: ρ) := rfl
theorem get_21 {x0 x1 x2 x3 x4 x5 x6 x7 x8 x9 x10 x11 x12 x13 x14 x15 x16 x17 x18 x19 x20 : Option D} {Q : D → Prop} {t : Tag2 Q Q} : GetE (x0 :: x1 :: x2 :: x3 :: x4 :: x5 :: x6 :: x7 :: x8 :: x9 :: x10 :: x11 :: x12 :: x13 :: x14 :: x15 :: x16 :: x17 :: x18 :: x19 :: x20 :: some d :: ρ) 21 Q t = Q d := rfl
theorem set_21 {x0 x1 x2 x3 x4 x5 x6 x7 x8 x9 x10 x11 x12 x13 x14 x15 x16 x17 x18 x19 x20 : Option D} {y : Option D} : SetE (x0 :: x1 :: x2 :: x3 :: x4 :: x5 :: x6 :: x7 :: x8 :: x9 :: x10 :: x11 :: x12 :: x13 :: x14 :: x15 :: x16 :: x17 :: x18 :: x19 :: x20 :: y :: ρ) 21 d Q t = Q (x0 :: x1 :: x2 :: x3 :: x4 :: x5 :: x6 :: x7 :: x8 :: x9 :: x10 :: x11 :: x12 :: x13 :: x14 :: x15 :: x16 :: x17 :: x18 :: x19 :: x20 :: some d :: ρ) := by
  unfold SetE; simp
theorem setn_21 {x0 x1 x2 x3 x4 x5 x6 x7 x8 x9 x10 x11 x12 x13 x14 x15 x16 x17 x18 x19 x20 : Option D} {y : Option D} : SetN (x0 :: x1 :: x2 :: x3 :: x4 :: x5 :: x6 :: x7 :: x8 :: x9 :: x10 :: x11 :: x12 :: x13 :: x14 :: x15 :: x16 :: x17 :: x18 :: x19 :: x20 :: y :: ρ) 21 Q t = Q (x0 :: x1 :: x2 :: x3 :: x4 :: x5 :: x6 :: x7 :: x8 :: x9 :: x10 :: x11 :: x12 :: x13 :: x14 :: x15 :: x16 :: x17 :: x18 :: x19 :: x20 :: none :: ρ) := rfl
theorem get_22 {x0 x1 x2 x3 x4 x5 x6 x7 x8 x9 x10 x11 x12 x13 x14 x15 x16 x17 x18 x19 x20 x21 : Option D} {Q : D → Prop} {t : Tag2 Q Q} : GetE (x0 :: x1 :: x2 :: x3 :: x4 :: x5 :: x6 :: x7 :: x8 :: x9 :: x10 :: x11 :: x12 :: x13 :: x14 :: x15 :: x16 :: x17 :: x18 :: x19 :: x20 :: x21 :: some d :: ρ) 22 Q t = Q d := rfl
theorem set_22 {x0 x1 x2 x3 x4 x5 x6 x7 x8 x9 x10 x11 x12 x13 x14 x15 x16 x17 x18 x19 x20 x21 : Option D} {y : Option D} : SetE (x0 :: x1 :: x2 :: x3 :: x4 :: x5 :: x6 :: x7 :: x8 :: x9 :: x10 :: x11 :: x12 :: x13 :: x14 :: x15 :: x16 :: x17 :: x18 :: x19 :: x20 :: x21 :: y :: ρ) 22 d Q t = Q (x0 :: x1 :: x2 :: x3 :: x4 :: x5 :: x6 :: x7 :: x8 :: x9 :: x10 :: x11 :: x12 :: x13 :: x14 :: x15 :: x16 :: x17 :: x18 :: x19 :: x20 :: x21 :: some d :: ρ) := by
  unfold SetE; simp
theorem setn_22 {x0 x1 x2 x3 x4 x5 x6 x7 x8 x9 x10 x11 x12 x13 x14 x15 x16 x17 x18 x19 x20 x21 : Option D} {y : Option D} : SetN (x0 :: x1 :: x2 :: x3 :: x4 :: x5 :: x6 :: x7 :: x8 :: x9 :: x10 :: x11 :: x12 :: x13 :: x14 :: x15 :: x16 :: x17 :: x18 :: x19 :: x20 :: x21 :: y :: ρ) 22 Q t = Q (x0 :: x1 :: x2 :: x3 :: x4 :: x5 :: x6 :: x7 :: x8 :: x9 :: x10 :: x11 :: x12 :: x13 :: x14 :: x15 :: x16 :: x17 :: x18 :: x19 :: x20 :: x21 :: none :: ρ) := rfl
theorem get_23 {x0 x1 x2 x3 x4 x5 x6 x7 x8 x9 x10 x11 x12 x13 x14 x15 x16 x17 x18 x19 x20 x21 x22 : Option D} {Q : D → Prop} {t : Tag2 Q Q} : GetE (x0 :: x1 :: x2 :: x3 :: x4 :: x5 :: x6 :: x7 :: x8 :: x9 :: x10 :: x11 :: x12 :: x13 :: x14 :: x15 :: x16 :: x17 :: x18 :: x19 :: x20 :: x21 :: x22 :: some d :: ρ) 23 Q t = Q d := rfl
theorem set_23 {x0 x1 x2 x3 x4 x5 x6 x7 x8 x9 x10 x11 x12 x13 x14 x15 x16 x17 x18 x19 x20 x21 x22 : Option D} {y : Option D} : SetE (x0 :: x1 :: x2 :: x3 :: x4 :: x5 :: x6 :: x7 :: x8 :: x9 :: x10 :: x11 :: x12 :: x13 :: x14 :: x15 :: x16 :: x17 :: x18 :: x19 :: x20 :: x21 :: x22 :: y :: ρ) 23 d Q t = Q (x0 :: x1 :: x2 :: x3 :: x4 :: x5 :: x6 :: x7 :: x8 :: x9 :: x10 :: x11 :: x12 :: x13 :: x14 :: x15 :: x16 :: x17 :: x18 :: x19 :: x20 :: x21 :: x22 :: some d :: ρ) := by
  unfold SetE; simp
theorem setn_23 {x0 x1 x2 x3 x4 x5 x6 x7 x8 x9 x10 x11 x12 x13 x14 x15 x16 x17 x18 x19 x20 x21 x22 : Option D} {y : Option D} : SetN (x0 :: x1 :: x2 :: x3 :: x4 :: x5 :: x6 :: x7 :: x8 :: x9 :: x10 :: x11 :: x12 :: x13 :: x14 :: x15 :: x16 :: x17 :: x18 :: x19 :: x20 :: x21 :: x22 :: y :: ρ) 23 Q t = Q (x0 :: x1 :: x2 :: x3 :: x4 :: x5 :: x6 :: x7 :: x8 :: x9 :: x10 :: x11 :: x12 :: x13 :: x14 :: x15 :: x16 :: x17 :: x18 :: x19 :: x20 :: x21 :: x22 :: none :: ρ) := rfl
theorem get_24 {x0 x1 x2 x3 x4 x5 x6 x7 x8 x9 x10 x11 x12 x13 x14 x15 x16 x17 x18 x19 x20 x21 x22 x23 : Option D} {Q : D → Prop} {t : Tag2 Q Q} : GetE (x0 :: x1 :: x2 :: x3 :: x4 :: x5 :: x6 :: x7 :: x8 :: x9 :: x10 :: x11 :: x12 :: x13 :: x14 :: x15 :: x16 :: x17 :: x18 :: x19 :: x20 :: x21 :: x22 :: x23 :: some d :: ρ) 24 Q t = Q d := rfl
theorem set_24 {x0 x1 x2 x3 x4 x5 x6 x7 x8 x9 x10 x11 x12 x13 x14 x15 x16 x17 x18 x19 x20 x21 x22 x23 : Option D} {y : Option D} : SetE (x0 :: x1 :: x2 :: x3 :: x4 :: x5 :: x6 :: x7 :: x8 :: x9 :: x10 :: x11 :: x12 :: x13 :: x14 :: x15 :: x16 :: x17 :: x18 :: x19 :: x20 :: x21 :: x22 :: x23 :: y :: ρ) 24 d Q t = Q (x0 :: x1 :: x2 :: x3 :: x4 :: x5 :: x6 :: x7 :: x8 :: x9 :: x10 :: x11 :: x12 :: x13 :: x14 :: x15 :: x16 :: x17 :: x18 :: x19 :: x20 :: x21 :: x22 :: x23 :: some d :: ρ) := by
  unfold SetE; simp
theorem setn_24 {x0 x1 x2 x3 x4 x5 x6 x7 x8 x9 x10 x11 x12 x13 x14 x15 x16 x17 x18 x19 x20 x21 x22 x23 : Option D} {y : Option D} : SetN (x0 :: x1 :: x2 :: x3 :: x4 :: x5 :: x6 :: x7 :: x8 :: x9 :: x10 :: x11 :: x12 :: x13 :: x14 :: x15 :: x16 :: x17 :: x18 :: x19 :: x20 :: x21 :: x22 :: x23 :: y :: ρ) 24 Q t = Q (x0 :: x1 :: x2 :: x3 :: x4 :: x5 :: x6 :: x7 :: x8 :: x9 :: x10 :: x11 :: x12 :: x13 :: x14 :: x15 :: x16 :: x17 :: x18 :: x19 :: x20 :: x21 :: x22 :: x23 :: none :: ρ) := rfl
theorem get_25 {x0 x1 x2 x3 x4 x5 x6 x7 x8 x9 x10 x11 x12 x13 x14 x15 x16 x17 x18 x19 x20 x21 x22 x23 x24 : Option D} {Q : D → Prop} {t : Tag2 Q Q} : GetE (x0 :: x1 :: x2 :: x3 :: x4 :: x5 :: x6 :: x7 :: x8 :: x9 :: x10 :: x11 :: x12 :: x13 :: x14 :: x15 :: x16 :: x17 :: x18 :: x19 :: x20 :: x21 :: x22 :: x23 :: x24 :: some d :: ρ) 25 Q t = Q d := rfl
theorem set_25 {x0 x1 x2 x3 x4 x5 x6 x7 x8 x9 x10 x11 x12 x13 x14 x15 x16 x17 x18 x19 x20 x21 x22 x23 x24 : Option D} {y : Option D} : SetE (x0 :: x1 :: x2 :: x3 :: x4 :: x5 :: x6 :: x7 :: x8 :: x9 :: x10 :: x11 :: x12 :: x13 :: x14 :: x15 :: x16 :: x17 :: x18 :: x19 :: x20 :: x21 :: x22 :: x23 :: x24 :: y :: ρ) 25 d Q t = Q (x0 :: x1 :: x2 :: x3 :: x4 :: x5 :: x6 :: x7 :: x8 :: x9 :: x10 :: x11 :: x12 :: x13 :: x14 :: x15 :: x16 :: x17 :: x18 :: x19 :: x20 :: x21 :: x22 :: x23 :: x24 :: some d :: ρ) := by
  unfold SetE; simp
theorem setn_25 {x0 x1 x2 x3 x4 x5 x6 x7 x8 x9 x10 x11 x12 x13 x14 x15 x16 x17 x18 x19 x20 x21 x22 x23 x24 : Option D} {y : Option D} : SetN (x0 :: x1 :: x2 :: x3 :: x4 :: x5 :: x6 :: x7 :: x8 :: x9 :: x10 :: x11 :: x12 :: x13 :: x14 :: x15 :: x16 :: x17 :: x18 :: x19 :: x20 :: x21 :: x22 :: x23 :: x24 :: y :: ρ) 25 Q t = Q (x0 :: x1 :: x2 :: x3 :: x4 :: x5 :: x6 :: x7 :: x8 :: x9 :: x10 :: x11 :: x12 :: x13 :: x14 :: x15 :: x16 :: x17 :: x18 :: x19 :: x20 :: x21 :: x22 :: x23 :: x24 :: none :: ρ) := rfl
theorem get_26 {x0 x1 x2 x3 x4 x5 x6 x7 x8 x9 x10 x11 x12 x13 x14 x15 x16 x17 x18 x19 x20 x21 x22 x23 x24 x25 : Option D} {Q : D → Prop} {t : Tag2 Q Q} : GetE (x0 :: x1 :: x2 :: x3 :: x4 :: x5 :: x6 :: x7 :: x8 :: x9 :: x10 :: x11 :: x12 :: x13 :: x14 :: x15 :: x16 :: x17 :: x18 :: x19 :: x20 :: x21 :: x22 :: x23 :: x24 :: x25 :: some d :: ρ) 26 Q t = Q d := rfl
theorem set_26 {x0 x1 x2 x3 x4 x5 x6 x7 x8 x9 x10 x11 x12 x13 x14 x15 x16 x17 x18 x19 x20 x21 x22 x23 x24 x25 : Option D} {y : Option D} : SetE (x0 :: x1 :: x2 :: x3 :: x4 :: x5 :: x6 :: x7 :: x8 :: x9 :: x10 :: x11 :: x12 :: x13 :: x14 :: x15 :: x16 :: x17 :: x18 :: x19 :: x20 :: x21 :: x22 :: x23 :: x24 :: x25 :: y :: ρ) 26 d Q t = Q (x0 :: x1 :: x2 :: x3 :: x4 :: x5 :: x6 :: x7 :: x8 :: x9 :: x10 :: x11 :: x12 :: x13 :: x14 :: x15 :: x16 :: x17 :: x18 :: x19 :: x20 :: x21 :: x22 :: x23 :: x24 :: x25 :: some d :: ρ) := by
  unfold SetE; simp
theorem setn_26 {x0 x1 x2 x3 x4 x5 x6 x7 x8 x9 x10 x11 x12 x13 x14 x15 x16 x17 x18 x19 x20 x21 x22 x23 x24 x25 : Option D} {y : Option D} : SetN (x0 :: x1 :: x2 :: x3 :: x4 :: x5 :: x6 :: x7 :: x8 :: x9 :: x10 :: x11 :: x12 :: x13 :: x14 :: x15 :: x16 :: x17 :: x18 :: x19 :: x20 :: x21 :: x22 :: x23 :: x24 :: x25 :: y :: ρ) 26 Q t = Q (x0 :: x1 :: x2 :: x3 :: x4 :: x5 :: x6 :: x7 :: x8 :: x9 :: x10 :: x11 :: x12 :: x13 :: x14 :: x15 :: x16 :: x17 :: x18 :: x19 :: x20 :: x21 :: x22 :: x23 :: x24 :: x25 :: none :: ρ) := rfl
theorem get_27 {x0 x1 x2 x3 x4 x5 x6 x7 x8 x9 x10 x11 x12 x13 x14 x15 x16 x17 x18 x19 x20 x21 x22 x23 x24 x25 x26 : Option D} {Q : D → Prop} {t : Tag2 Q Q} : GetE (x0 :: x1 :: x2 :: x3 :: x4 :: x5 :: x6 :: x7 :: x8 :: x9 :: x10 :: x11 :: x12 :: x13 :: x14 :: x15 :: x16 :: x17 :: x18 :: x19 :: x20 :: x21 :: x22 :: x23 :: x24 :: x25 :: x26 :: some d :: ρ) 27 Q t = Q d := rfl
theorem set_27 {x0 x1 x2 x3 x4 x5 x6 x7 x8 x9 x10 x11 x12 x13 x14 x15 x16 x17 x18 x19 x20 x21 x22 x23 x24 x25 x26 : Option D} {y : Option D} : SetE (x0 :: x1 :: x2 :: x3 :: x4 :: x5 :: x6 :: x7 :: x8 :: x9 :: x10 :: x11 :: x12 :: x13 :: x14 :: x15 :: x16 :: x17 :: x18 :: x19 :: x20 :: x21 :: x22 :: x23 :: x24 :: x25 :: x26 :: y :: ρ) 27 d Q t = Q (x0 :: x1 :: x2 :: x3 :: x4 :: x5 :: x6 :: x7 :: x8 :: x9 :: x10 :: x11 :: x12 :: x13 :: x14 :: x15 :: x16 :: x17 :: x18 :: x19 :: x20 :: x21 :: x22 :: x23 :: x24 :: x25 :: x26 :: some d :: ρ) := by
  unfold SetE; simp
theorem setn_27 {x0 x1 x2 x3 x4 x5 x6 x7 x8 x9 x10 x11 x12 x13 x14 x15 x16 x17 x18 x19 x20 x21 x22 x23 x24 x25 x26 : Option D} {y : Option D} : SetN (x0 :: x1 :: x2 :: x3 :: x4 :: x5 :: x6 :: x7 :: x8 :: x9 :: x10 :: x11 :: x12 :: x13 :: x14 :: x15 :: x16 :: x17 :: x18 :: x19 :: x20 :: x21 :: x22 :: x23 :: x24 :: x25 :: x26 :: y :: ρ) 27 Q t = Q (x0 :: x1 :: x2 :: x3 :: x4 :: x5 :: x6 :: x7 :: x8 :: x9 :: x10 :: x11 :: x12 :: x13 :: x14 :: x15 :: x16 :: x17 :: x18 :: x19 :: x20 :: x21 :: x22 :: x23 :: x24 :: x25 :: x26 :: none :: ρ) := rfl
theorem get_28 {x0 x1 x2 x3 x4 x5 x6 x7 x8 x9 x10 x11 x12 x13 x14 x15 x16 x17 x18 x19 x20 x21 x22 x23 x24 x25 x26 x27 : Option D} {Q : D → Prop} {t : Tag2 Q Q} : GetE (x0 :: x1 :: x2 :: x3 :: x4 :: x5 :: x6 :: x7 :: x8 :: x9 :: x10 :: x11 :: x12 :: x13 :: x14 :: x15 :: x16 :: x17 :: x18 :: x19 :: x20 :: x21 :: x22 :: x23 :: x24 :: x25 :: x26 :: x27 :: some d :: ρ) 28 Q t = Q d := rfl
theorem set_28 {x0 x1 x2 x3 x4 x5 x6 x7 x8 x9 x10 x11 x12 x13 x14 x15 x16 x17 x18 x19 x20 x21 x22 x23 x24 x25 x26 x27 : Option D} {y : Option D} : SetE (x0 :: x1 :: x2 :: x3 :: x4 :: x5 :: x6 :: x7 :: x8 :: x9 :: x10 :: x11 :: x12 :: x13 :: x14 :: x15 :: x16 :: x17 :: x18 :: x19 :: x20 :: x21 :: x22 :: x23 :: x24 :: x25 :: x26 :: x27 :: y :: ρ) 28 d Q t = Q (x0 :: x1 :: x2 :: x3 :: x4 :: x5 :: x6 :: x7 :: x8 :: x9 :: x10 :: x11 :: x12 :: x13 :: x14 :: x15 :: x16 :: x17 :: x18 :: x19 :: x20 :: x21 :: x22 :: x23 :: x24 :: x25 :: x26 :: x27 :: some d :: ρ) := by
  unfold SetE; simp
theorem setn_28 {x0 x1 x2 x3 x4 x5 x6 x7 x8 x9 x10 x11 x12 x13 x14 x15 x16 x17 x18 x19 x20 x21 x22 x23 x24 x25 x26 x27 : Option D} {y : Option D} : SetN (x0 :: x1 :: x2 :: x3 :: x4 :: x5 :: x6 :: x7 :: x8 :: x9 :: x10 :: x11 :: x12 :: x13 :: x14 :: x15 :: x16 :: x17 :: x18 :: x19 :: x20 :: x21 :: x22 :: x23 :: x24 :: x25 :: x26 :: x27 :: y :: ρ) 28 Q t = Q (x0 :: x1 :: x2 :: x3 :: x4 :: x5 :: x6 :: x7 :: x8 :: x9 :: x10 :: x11 :: x12 :: x13 :: x14 :: x15 :: x16 :: x17 :: x18 :: x19 :: x20 :: x21 :: x22 :: x23 :: x24 :: x25 :: x26 :: x27 :: none :: ρ) := rfl
theorem get_29 {x0 x1 x2 x3 x4 x5 x6 x7 x8 x9 x10 x11 x12 x13 x14 x15 x16 x17 x18 x19 x20 x21 x22 x23 x24 x25 x26 x27 x28 : Option D} {Q : D → Prop} {t : Tag2 Q Q} : GetE (x0 :: x1 :: x2 :: x3 :: x4 :: x5 :: x6 :: x7 :: x8 :: x9 :: x10 :: x11 :: x12 :: x13 :: x14 :: x15 :: x16 :: x17 :: x18 :: x19 :: x20 :: x21 :: x22 :: x23 :: x24 :: x25 :: x26 :: x27 :: x28 :: some d :: ρ) 29 Q t = Q d := rfl
theorem set_29 {x0 x1 x2 x3 x4 x5 x6 x7 x8 x9 x10 x11 x12 x13 x14 x15 x16 x17 x18 x19 x20 x21 x22 x23 x24 x25 x26 x27 x28 : Option D} {y : Option D} : SetE (x0 :: x1 :: x2 :: x3 :: x4 :: x5 :: x6 :: x7 :: x8 :: x9 :: x10 :: x11 :: x12 :: x13 :: x14 :: x15 :: x16 :: x17 :: x18 :: x19 :: x20 :: x21 :: x22 :: x23 :: x24 :: x25 :: x26 :: x27 :: x28 :: y :: ρ) 29 d Q t = Q (x0 :: x1 :: x2 :: x3 :: x4 :: x5 :: x6 :: x7 :: x8 :: x9 :: x10 :: x11 :: x12 :: x13 :: x14 :: x15 :: x16 :: x17 :: x18 :: x19 :: x20 :: x21 :: x22 :: x23 :: x24 :: x25 :: x26 :: x27 :: x28 :: some d :: ρ) := by
  unfold SetE; simp
theorem setn_29 {x0 x1 x2 x3 x4 x5 x6 x7 x8 x9 x10 x11 x12 x13 x14 x15 x16 x17 x18 x19 x20 x21 x22 x23 x24 x25 x26 x27 x28 : Option D} {y : Option D} : SetN (x0 :: x1 :: x2 :: x3 :: x4 :: x5 :: x6 :: x7 :: x8 :: x9 :: x10 :: x11 :: x12 :: x13 :: x14 :: x15 :: x16 :: x17 :: x18 :: x19 :: x20 :: x21 :: x22 :: x23 :: x24 :: x25 :: x26 :: x27 :: x28 :: y :: ρ) 29 Q t = Q (x0 :: x1 :: x2 :: x3 :: x4 :: x5 :: x6 :: x7 :: x8 :: x9 :: x10 :: x11 :: x12 :: x13 :: x14 :: x15 :: x16 :: x17 :: x18 :: x19 :: x20 :: x21 :: x22 :: x23 :: x24 :: x25 :: x26 :: x27 :: x28 :: none :: ρ) := rfl
theorem get_30 {x0 x1 x2 x3 x4 x5 x6 x7 x8 x9 x10 x11 x12 x13 x14 x15 x16 x17 x18 x19 x20 x21 x22 x23 x24 x25 x26 x27 x28 x29 : Option D} {Q : D → Prop} {t : Tag2 Q Q} : GetE (x0 :: x1 :: x2 :: x3 :: x4 :: x5 :: x6 :: x7 :: x8 :: x9 :: x10 :: x11 :: x12 :: x13 :: x14 :: x15 :: x16 :: x17 :: x18 :: x19 :: x20 :: x21 :: x22 :: x23 :: x24 :: x25 :: x26 :: x27 :: x28 :: x29 :: some d :: ρ) 30 Q t = Q d := rfl
theorem set_30 {x0 x1 x2 x3 x4 x5 x6 x7 x8 x9 x10 x11 x12 x13 x14 x15 x16 x17 x18 x19 x20 x21 x22 x23 x24 x25 x26 x27 x28 x29 : Option D} {y : Option D} : SetE (x0 :: x1 :: x2 :: x3 :: x4 :: x5 :: x6 :: x7 :: x8 :: x9 :: x10 :: x11 :: x12 :: x13 :: x14 :: x15 :: x16 :: x17 :: x18 :: x19 :: x20 :: x21 :: x22 :: x23 :: x24 :: x25 :: x26 :: x27 :: x28 :: x29 :: y :: ρ) 30 d Q t = Q (x0 :: x1 :: x2 :: x3 :: x4 :: x5 :: x6 :: x7 :: x8 :: x9 :: x10 :: x11 :: x12 :: x13 :: x14 :: x15 :: x16 :: x17 :: x18 :: x19 :: x20 :: x21 :: x22 :: x23 :: x24 :: x25 :: x26 :: x27 :: x28 :: x29 :: some d :: ρ) := by
  unfold SetE; simp
theorem setn_30 {x0 x1 x2 x3 x4 x5 x6 x7 x8 x9 x10 x11 x12 x13 x14 x15 x16 x17 x18 x19 x20 x21 x22 x23 x24 x25 x26 x27 x28 x29 : Option D} {y : Option D} : SetN (x0 :: x1 :: x2 :: x3 :: x4 :: x5 :: x6 :: x7 :: x8 :: x9 :: x10 :: x11 :: x12 :: x13 :: x14 :: x15 :: x16 :: x17 :: x18 :: x19 :: x20 :: x21 :: x22 :: x23 :: x24 :: x25 :: x26 :: x27 :: x28 :: x29 :: y :: ρ) 30 Q t = Q (x0 :: x1 :: x2 :: x3 :: x4 :: x5 :: x6 :: x7 :: x8 :: x9 :: x10 :: x11 :: x12 :: x13 :: x14 :: x15 :: x16 :: x17 :: x18 :: x19 :: x20 :: x21 :: x22 :: x23 :: x24 :: x25 :: x26 :: x27 :: x28 :: x29 :: none :: ρ) := rfl
theorem get_31 {x0 x1 x2 x3 x4 x5 x6 x7 x8 x9 x10 x11 x12 x13 x14 x15 x16 x17 x18 x19 x20 x21 x22 x23 x24 x25 x26 x27 x28 x29 x30 : Option D} {Q : D → Prop} {t : Tag2 Q Q} : GetE (x0 :: x1 :: x2 :: x3 :: x4 :: x5 :: x6 :: x7 :: x8 :: x9 :: x10 :: x11 :: x12 :: x13 :: x14 :: x15 :: x16 :: x17 :: x18 :: x19 :: x20 :: x21 :: x22 :: x23 :: x24 :: x25 :: x26 :: x27 :: x28 :: x29 :: x30 :: some d :: ρ) 31 Q t = Q d := rfl
theorem set_31 {x0 x1 x2 x3 x4 x5 x6 x7 x8 x9 x10 x11 x12 x13 x14 x15 x16 x17 x18 x19 x20 x21 x22 x23 x24 x25 x26 x27 x28 x29 x30 : Option D} {y : Option D} : SetE (x0 :: x1 :: x2 :: x3 :: x4 :: x5 :: x6 :: x7 :: x8 :: x9 :: x10 :: x11 :: x12 :: x13 :: x14 :: x15 :: x16 :: x17 :: x18 :: x19 :: x20 :: x21 :: x22 :: x23 :: x24 :: x25 :: x26 :: x27 :: x28 :: x29 :: x30 :: y :: ρ) 31 d Q t = Q (x0 :: x1 :: x2 :: x3 :: x4 :: x5 :: x6 :: x7 :: x8 :: x9 :: x10 :: x11 :: x12 :: x13 :: x14 :: x15 :: x16 :: x17 :: x18 :: x19 :: x20 :: x21 :: x22 :: x23 :: x24 :: x25 :: x26 :: x27 :: x28 :: x29 :: x30 :: some d :: ρ) := by
  unfold SetE; simp
theorem setn_31 {x0 x1 x2 x3 x4 x5 x6 x7 x8 x9 x10 x11 x12 x13 x14 x15 x16 x17 x18 x19 x20 x21 x22 x23 x24 x25 x26 x27 x28 x29 x30 : Option D} {y : Option D} : SetN (x0 :: x1 :: x2 :: x3 :: x4 :: x5 :: x6 :: x7 :: x8 :: x9 :: x10 :: x11 :: x12 :: x13 :: x14 :: x15 :: x16 :: x17 :: x18 :: x19 :: x20 :: x21 :: x22 :: x23 :: x24 :: x25 :: x26 :: x27 :: x28 :: x29 :: x30 :: y :: ρ) 31 Q t = Q (x0 :: x1 :: x2 :: x3 :: x4 :: x5 :: x6 :: x7 :: x8 :: x9 :: x10 :: x11 :: x12 :: x13 :: x14 :: x15 :: x16 :: x17 :: x18 :: x19 :: x20 :: x21 :: x22 :: x23 :: x24 :: x25 :: x26 :: x27 :: x28 :: x29 :: x30 :: none :: ρ) := rfl
theorem get_32 {x0 x1 x2 x3 x4 x5 x6 x7 x8 x9 x10 x11 x12 x13 x14 x15 x16 x17 x18 x19 x20 x21 x22 x23 x24 x25 x26 x27 x28 x29 x30 x31 : Option D} {Q : D → Prop} {t : Tag2 Q Q} : GetE (x0 :: x1 :: x2 :: x3 :: x4 :: x5 :: x6 :: x7 :: x8 :: x9 :: x10 :: x11 :: x12 :: x13 :: x14 :: x15 :: x16 :: x17 :: x18 :: x19 :: x20 :: x21 :: x22 :: x23 :: x24 :: x25 :: x26 :: x27 :: x28 :: x29 :: x30 :: x31 :: some d :: ρ) 32 Q t = Q d := rfl
theorem set_32 {x0 x1 x2 x3 x4 x5 x6 x7 x8 x9 x10 x11 x12 x13 x14 x15 x16 x17 x18 x19 x20 x21 x22 x23 x24 x25 x26 x27 x28 x29 x30 x31 : Option D} {y : Option D} : SetE (x0 :: x1 :: x2 :: x3 :: x4 :: x5 :: x6 :: x7 :: x8 :: x9 :: x10 :: x11 :: x12 :: x13 :: x14 :: x15 :: x16 :: x17 :: x18 :: x19 :: x20 :: x21 :: x22 :: x23 :: x24 :: x25 :: x26 :: x27 :: x28 :: x29 :: x30 :: x31 :: y :: ρ) 32 d Q t = Q (x0 :: x1 :: x2 :: x3 :: x4 :: x5 :: x6 :: x7 :: x8 :: x9 :: x10 :: x11 :: x12 :: x13 :: x14 :: x15 :: x16 :: x17 :: x18 :: x19 :: x20 :: x21 :: x22 :: x23 :: x24 :: x25 :: x26 :: x27 :: x28 :: x29 :: x30 :: x31 :: some d :: ρ) := by
  unfold SetE; simp
theorem setn_32 {x0 x1 x2 x3 x4 x5 x6 x7 x8 x9 x10 x11 x12 x13 x14 x15 x16 x17 x18 x19 x20 x21 x22 x23 x24 x25 x26 x27 x28 x29 x30 x31 : Option D} {y : Option D} : SetN (x0 :: x1 :: x2 :: x3 :: x4 :: x5 :: x6 :: x7 :: x8 :: x9 :: x10 :: x11 :: x12 :: x13 :: x14 :: x15 :: x16 :: x17 :: x18 :: x19 :: x20 :: x21 :: x22 :: x23 :: x24 :: x25 :: x26 :: x27 :: x28 :: x29 :: x30 :: x31 :: y :: ρ) 32 Q t = Q (x0 :: x1 :: x2 :: x3 :: x4 :: x5 :: x6 :: x7 :: x8 :: x9 :: x10 :: x11 :: x12 :: x13 :: x14 :: x15 :: x16 :: x17 :: x18 :: x19 :: x20 :: x21 :: x22 :: x23 :: x24 :: x25 :: x26 :: x27 :: x28 :: x29 :: x30 :: x31 :: none :: ρ) := rfl
theorem get_33 {x0 x1 x2 x3 x4 x5 x6 x7 x8 x9 x10 x11 x12 x13 x14 x15 x16 x17 x18 x19 x20 x21 x22 x23 x24 x25 x26 x27 x28 x29 x30 x31 x32 : Option D} {Q : D → Prop} {t : Tag2 Q Q} : GetE (x0 :: x1 :: x2 :: x3 :: x4 :: x5 :: x6 :: x7 :: x8 :: x9 :: x10 :: x11 :: x12 :: x13 :: x14 :: x15 :: x16 :: x17 :: x18 :: x19 :: x20 :: x21 :: x22 :: x23 :: x24 :: x25 :: x26 :: x27 :: x28 :: x29 :: x30 :: x31 :: x32 :: some d :: ρ) 33 Q t = Q d := rfl
theorem set_33 {x0 x1 x2 x3 x4 x5 x6 x7 x8 x9 x10 x11 x12 x13 x14 x15 x16 x17 x18 x19 x20 x21 x22 x23 x24 x25 x26 x27 x28 x29 x30 x31 x32 : Option D} {y : Option D} : SetE (x0 :: x1 :: x2 :: x3 :: x4 :: x5 :: x6 :: x7 :: x8 :: x9 :: x10 :: x11 :: x12 :: x13 :: x14 :: x15 :: x16 :: x17 :: x18 :: x19 :: x20 :: x21 :: x22 :: x23 :: x24 :: x25 :: x26 :: x27 :: x28 :: x29 :: x30 :: x31 :: x32 :: y :: ρ) 33 d Q t = Q (x0 :: x1 :: x2 :: x3 :: x4 :: x5 :: x6 :: x7 :: x8 :: x9 :: x10 :: x11 :: x12 :: x13 :: x14 :: x15 :: x16 :: x17 :: x18 :: x19 :: x20 :: x21 :: x22 :: x23 :: x24 :: x25 :: x26 :: x27 :: x28 :: x29 :: x30 :: x31 :: x32 :: some d :: ρ) := by
  unfold SetE; simp
theorem setn_33 {x0 x1 x2 x3 x4 x5 x6 x7 x8 x9 x10 x11 x12 x13 x14 x15 x16 x17 x18 x19 x20 x21 x22 x23 x24 x25 x26 x27 x28 x29 x30 x31 x32 : Option D} {y : Option D} : SetN (x0 :: x1 :: x2 :: x3 :: x4 :: x5 :: x6 :: x7 :: x8 :: x9 :: x10 :: x11 :: x12 :: x13 :: x14 :: x15 :: x16 :: x17 :: x18 :: x19 :: x20 :: x21 :: x22 :: x23 :: x24 :: x25 :: x26 :: x27 :: x28 :: x29 :: x30 :: x31 :: x32 :: y :: ρ) 33 Q t = Q (x0 :: x1 :: x2 :: x3 :: x4 :: x5 :: x6 :: x7 :: x8 :: x9 :: x10 :: x11 :: x12 :: x13 :: x14 :: x15 :: x16 :: x17 :: x18 :: x19 :: x20 :: x21 :: x22 :: x23 :: x24 :: x25 :: x26 :: x27 :: x28 :: x29 :: x30 :: x31 :: x32 :: none :: ρ) := rfl
theorem get_34 {x0 x1 x2 x3 x4 x5 x6 x7 x8 x9 x10 x11 x12 x13 x14 x15 x16 x17 x18 x19 x20 x21 x22 x23 x24 x25 x26 x27 x28 x29 x30 x31 x32 x33 : Option D} {Q : D → Prop} {t : Tag2 Q Q} : GetE (x0 :: x1 :: x2 :: x3 :: x4 :: x5 :: x6 :: x7 :: x8 :: x9 :: x10 :: x11 :: x12 :: x13 :: x14 :: x15 :: x16 :: x17 :: x18 :: x19 :: x20 :: x21 :: x22 :: x23 :: x24 :: x25 :: x26 :: x27 :: x28 :: x29 :: x30 :: x31 :: x32 :: x33 :: some d :: ρ) 34 Q t = Q d := rfl
theorem set_34 {x0 x1 x2 x3 x4 x5 x6 x7 x8 x9 x10 x11 x12 x13 x14 x15 x16 x17 x18 x19 x20 x21 x22 x23 x24 x25 x26 x27 x28 x29 x30 x31 x32 x33 : Option D} {y : Option D} : SetE (x0 :: x1 :: x2 :: x3 :: x4 :: x5 :: x6 :: x7 :: x8 :: x9 :: x10 :: x11 :: x12 :: x13 :: x14 :: x15 :: x16 :: x17 :: x18 :: x19 :: x20 :: x21 :: x22 :: x23 :: x24 :: x25 :: x26 :: x27 :: x28 :: x29 :: x30 :: x31 :: x32 :: x33 :: y :: ρ) 34 d Q t = Q (x0 :: x1 :: x2 :: x3 :: x4 :: x5 :: x6 :: x7 :: x8 :: x9 :: x10 :: x11 :: x12 :: x13 :: x14 :: x15 :: x16 :: x17 :: x18 :: x19 :: x20 :: x21 :: x22 :: x23 :: x24 :: x25 :: x26 :: x27 :: x28 :: x29 :: x30 :: x31 :: x32 :: x33 :: some d :: ρ) := by
  unfold SetE; simp
theorem setn_34 {x0 x1 x2 x3 x4 x5 x6 x7 x8 x9 x10 x11 x12 x13 x14 x15 x16 x17 x18 x19 x20 x21 x22 x23 x24 x25 x26 x27 x28 x29 x30 x31 x32 x33 : Option D} {y : Option D} : SetN (x0 :: x1 :: x2 :: x3 :: x4 :: x5 :: x6 :: x7 :: x8 :: x9 :: x10 :: x11 :: x12 :: x13 :: x14 :: x15 :: x16 :: x17 :: x18 :: x19 :: x20 :: x21 :: x22 :: x23 :: x24 :: x25 :: x26 :: x27 :: x28 :: x29 :: x30 :: x31 :: x32 :: x33 :: y :: ρ) 34 Q t = Q (x0 :: x1 :: x2 :: x3 :: x4 :: x5 :: x6 :: x7 :: x8 :: x9 :: x10 :: x11 :: x12 :: x13 :: x14 :: x15 :: x16 :: x17 :: x18 :: x19 :: x20 :: x21 :: x22 :: x23 :: x24 :: x25 :: x26 :: x27 :: x28 :: x29 :: x30 :: x31 :: x32 :: x33 :: none :: ρ) := rfl
theorem get_35 {x0 x1 x2 x3 x4 x5 x6 x7 x8 x9 x10 x11 x12 x13 x14 x15 x16 x17 x18 x19 x20 x21 x22 x23 x24 x25 x26 x27 x28 x29 x30 x31 x32 x33 x34 : Option D} {Q : D → Prop} {t : Tag2 Q Q} : GetE (x0 :: x1 :: x2 :: x3 :: x4 :: x5 :: x6 :: x7 :: x8 :: x9 :: x10 :: x11 :: x12 :: x13 :: x14 :: x15 :: x16 :: x17 :: x18 :: x19 :: x20 :: x21 :: x22 :: x23 :: x24 :: x25 :: x26 :: x27 :: x28 :: x29 :: x30 :: x31 :: x32 :: x33 :: x34 :: some d :: ρ) 35 Q t = Q d := rfl
theorem set_35 {x0 x1 x2 x3 x4 x5 x6 x7 x8 x9 x10 x11 x12 x13 x14 x15 x16 x17 x18 x19 x20 x21 x22 x23 x24 x25 x26 x27 x28 x29 x30 x31 x32 x33 x34 : Option D} {y : Option D} : SetE (x0 :: x1 :: x2 :: x3 :: x4 :: x5 :: x6 :: x7 :: x8 :: x9 :: x10 :: x11 :: x12 :: x13 :: x14 :: x15 :: x16 :: x17 :: x18 :: x19 :: x20 :: x21 :: x22 :: x23 :: x24 :: x25 :: x26 :: x27 :: x28 :: x29 :: x30 :: x31 :: x32 :: x33 :: x34 :: y :: ρ) 35 d Q t = Q (x0 :: x1 :: x2 :: x3 :: x4 :: x5 :: x6 :: x7 :: x8 :: x9 :: x10 :: x11 :: x12 :: x13 :: x14 :: x15 :: x16 :: x17 :: x18 :: x19 :: x20 :: x21 :: x22 :: x23 :: x24 :: x25 :: x26 :: x27 :: x28 :: x29 :: x30 :: x31 :: x32 :: x33 :: x34 :: some d :: ρ) := by
  unfold SetE; simp
theorem setn_35 {x0 x1 x2 x3 x4 x5 x6 x7 x8 x9 x10 x11 x12 x13 x14 x15 x16 x17 x18 x19 x20 x21 x22 x23 x24 x25 x26 x27 x28 x29 x30 x31 x32 x33 x34 : Option D} {y : Option D} : SetN (x0 :: x1 :: x2 :: x3 :: x4 :: x5 :: x6 :: x7 :: x8 :: x9 :: x10 :: x11 :: x12 :: x13 :: x14 :: x15 :: x16 :: x17 :: x18 :: x19 :: x20 :: x21 :: x22 :: x23 :: x24 :: x25 :: x26 :: x27 :: x28 :: x29 :: x30 :: x31 :: x32 :: x33 :: x34 :: y :: ρ) 35 Q t = Q (x0 :: x1 :: x2 :: x3 :: x4 :: x5 :: x6 :: x7 :: x8 :: x9 :: x10 :: x11 :: x12 :: x13 :: x14 :: x15 :: x16 :: x17 :: x18 :: x19 :: x20 :: x21 :: x22 :: x23 :: x24 :: x25 :: x26 :: x27 :: x28 :: x29 :: x30 :: x31 :: x32 :: x33 :: x34 :: none :: ρ) := rfl
theorem get_36 {x0 x1 x2 x3 x4 x5 x6 x7 x8 x9 x10 x11 x12 x13 x14 x15 x16 x17 x18 x19 x20 x21 x22 x23 x24 x25 x26 x27 x28 x29 x30 x31 x32 x33 x34 x35 : Option D} {Q : D → Prop} {t : Tag2 Q Q} : GetE (x0 :: x1 :: x2 :: x3 :: x4 :: x5 :: x6 :: x7 :: x8 :: x9 :: x10 :: x11 :: x12 :: x13 :: x14 :: x15 :: x16 :: x17 :: x18 :: x19 :: x20 :: x21 :: x22 :: x23 :: x24 :: x25 :: x26 :: x27 :: x28 :: x29 :: x30 :: x31 :: x32 :: x33 :: x34 :: x35 :: some d :: ρ) 36 Q t = Q d := rfl
theorem set_36 {x0 x1 x2 x3 x4 x5 x6 x7 x8 x9 x10 x11 x12 x13 x14 x15 x16 x17 x18 x19 x20 x21 x22 x23 x24 x25 x26 x27 x28 x29 x30 x31 x32 x33 x34 x35 : Option D} {y : Option D} : SetE (x0 :: x1 :: x2 :: x3 :: x4 :: x5 :: x6 :: x7 :: x8 :: x9 :: x10 :: x11 :: x12 :: x13 :: x14 :: x15 :: x16 :: x17 :: x18 :: x19 :: x20 :: x21 :: x22 :: x23 :: x24 :: x25 :: x26 :: x27 :: x28 :: x29 :: x30 :: x31 :: x32 :: x33 :: x34 :: x35 :: y :: ρ) 36 d Q t = Q (x0 :: x1 :: x2 :: x3 :: x4 :: x5 :: x6 :: x7 :: x8 :: x9 :: x10 :: x11 :: x12 :: x13 :: x14 :: x15 :: x16 :: x17 :: x18 :: x19 :: x20 :: x21 :: x22 :: x23 :: x24 :: x25 :: x26 :: x27 :: x28 :: x29 :: x30 :: x31 :: x32 :: x33 :: x34 :: x35 :: some d :: ρ) := by
  unfold SetE; simp
theorem setn_36 {x0 x1 x2 x3 x4 x5 x6 x7 x8 x9 x10 x11 x12 x13 x14 x15 x16 x17 x18 x19 x20 x21 x22 x23 x24 x25 x26 x27 x28 x29 x30 x31 x32 x33 x34 x35 : Option D} {y : Option D} : SetN (x0 :: x1 :: x2 :: x3 :: x4 :: x5 :: x6 :: x7 :: x8 :: x9 :: x10 :: x11 :: x12 :: x13 :: x14 :: x15 :: x16 :: x17 :: x18 :: x19 :: x20 :: x21 :: x22 :: x23 :: x24 :: x25 :: x26 :: x27 :: x28 :: x29 :: x30 :: x31 :: x32 :: x33 :: x34 :: x35 :: y :: ρ) 36 Q t = Q (x0 :: x1 :: x2 :: x3 :: x4 :: x5 :: x6 :: x7 :: x8 :: x9 :: x10 :: x11 :: x12 :: x13 :: x14 :: x15 :: x16 :: x17 :: x18 :: x19 :: x20 :: x21 :: x22 :: x23 :: x24 :: x25 :: x26 :: x27 :: x28 :: x29 :: x30 :: x31 :: x32 :: x33 :: x34 :: x35 :: none :: ρ) := rfl
theorem get_37 {x0 x1 x2 x3 x4 x5 x6 x7 x8 x9 x10 x11 x12 x13 x14 x15 x16 x17 x18 x19 x20 x21 x22 x23 x24 x25 x26 x27 x28 x29 x30 x31 x32 x33 x34 x35 x36 : Option D} {Q : D → Prop} {t : Tag2 Q Q} : GetE (x0 :: x1 :: x2 :: x3 :: x4 :: x5 :: x6 :: x7 :: x8 :: x9 :: x10 :: x11 :: x12 :: x13 :: x14 :: x15 :: x16 :: x17 :: x18 :: x19 :: x20 :: x21 :: x22 :: x23 :: x24 :: x25 :: x26 :: x27 :: x28 :: x29 :: x30 :: x31 :: x32 :: x33 :: x34 :: x35 :: x36 :: some d :: ρ) 37 Q t = Q d := rfl
theorem set_37 {x0 x1 x2 x3 x4 x5 x6 x7 x8 x9 x10 x11 x12 x13 x14 x15 x16 x17 x18 x19 x20 x21 x22 x23 x24 x25 x26 x27 x28 x29 x30 x31 x32 x33 x34 x35 x36 : Option D} {y : Option D} : SetE (x0 :: x1 :: x2 :: x3 :: x4 :: x5 :: x6 :: x7 :: x8 :: x9 :: x10 :: x11 :: x12 :: x13 :: x14 :: x15 :: x16 :: x17 :: x18 :: x19 :: x20 :: x21 :: x22 :: x23 :: x24 :: x25 :: x26 :: x27 :: x28 :: x29 :: x30 :: x31 :: x32 :: x33 :: x34 :: x35 :: x36 :: y :: ρ) 37 d Q t = Q (x0 :: x1 :: x2 :: x3 :: x4 :: x5 :: x6 :: x7 :: x8 :: x9 :: x10 :: x11 :: x12 :: x13 :: x14 :: x15 :: x16 :: x17 :: x18 :: x19 :: x20 :: x21 :: x22 :: x23 :: x24 :: x25 :: x26 :: x27 :: x28 :: x29 :: x30 :: x31 :: x32 :: x33 :: x34 :: x35 :: x36 :: some d :: ρ) := by
  unfold SetE; simp
theorem setn_37 {x0 x1 x2 x3 x4 x5 x6 x7 x8 x9 x10 x11 x12 x13 x14 x15 x16 x17 x18 x19 x20 x21 x22 x23 x24 x25 x26 x27 x28 x29 x30 x31 x32 x33 x34 x35 x36 : Option D} {y : Option D} : SetN (x0 :: x1 :: x2 :: x3 :: x4 :: x5 :: x6 :: x7 :: x8 :: x9 :: x10 :: x11 :: x12 :: x13 :: x14 :: x15 :: x16 :: x17 :: x18 :: x19 :: x20 :: x21 :: x22 :: x23 :: x24 :: x25 :: x26 :: x27 :: x28 :: x29 :: x30 :: x31 :: x32 :: x33 :: x34 :: x35 :: x36 :: y :: ρ) 37 Q t = Q (x0 :: x1 :: x2 :: x3 :: x4 :: x5 :: x6 :: x7 :: x8 :: x9 :: x10 :: x11 :: x12 :: x13 :: x14 :: x15 :: x16 :: x17 :: x18 :: x19 :: x20 :: x21 :: x22 :: x23 :: x24 :: x25 :: x26 :: x27 :: x28 :: x29 :: x30 :: x31 :: x32 :: x33 :: x34 :: x35 :: x36 :: none :: ρ) := rfl
theorem get_38 {x0 x1 x2 x3 x4 x5 x6 x7 x8 x9 x10 x11 x12 x13 x14 x15 x16 x17 x18 x19 x20 x21 x22 x23 x24 x25 x26 x27 x28 x29 x30 x31 x32 x33 x34 x35 x36 x37 : Option D} {Q : D → Prop} {t : Tag2 Q Q} : GetE (x0 :: x1 :: x2 :: x3 :: x4 :: x5 :: x6 :: x7 :: x8 :: x9 :: x10 :: x11 :: x12 :: x13 :: x14 :: x15 :: x16 :: x17 :: x18 :: x19 :: x20 :: x21 :: x22 :: x23 :: x24 :: x25 :: x26 :: x27 :: x28 :: x29 :: x30 :: x31 :: x32 :: x33 :: x34 :: x35 :: x36 :: x37 :: some d :: ρ) 38 Q t = Q d := rfl
theorem set_38 {x0 x1 x2 x3 x4 x5 x6 x7 x8 x9 x10 x11 x12 x13 x14 x15 x16 x17 x18 x19 x20 x21 x22 x23 x24 x25 x26 x27 x28 x29 x30 x31 x32 x33 x34 x35 x36 x37 : Option D} {y : Option D} : SetE (x0 :: x1 :: x2 :: x3 :: x4 :: x5 :: x6 :: x7 :: x8 :: x9 :: x10 :: x11 :: x12 :: x13 :: x14 :: x15 :: x16 :: x17 :: x18 :: x19 :: x20 :: x21 :: x22 :: x23 :: x24 :: x25 :: x26 :: x27 :: x28 :: x29 :: x30 :: x31 :: x32 :: x33 :: x34 :: x35 :: x36 :: x37 :: y :: ρ) 38 d Q t = Q (x0 :: x1 :: x2 :: x3 :: x4 :: x5 :: x6 :: x7 :: x8 :: x9 :: x10 :: x11 :: x12 :: x13 :: x14 :: x15 :: x16 :: x17 :: x18 :: x19 :: x20 :: x21 :: x22 :: x23 :: x24 :: x25 :: x26 :: x27 :: x28 :: x29 :: x30 :: x31 :: x32 :: x33 :: x34 :: x35 :: x36 :: x37 :: some d :: ρ) := by
  unfold SetE; simp
theorem setn_38 {x0 x1 x2 x3 x4 x5 x6 x7 x8 x9 x10 x11 x12 x13 x14 x15 x16 x17 x18 x19 x20 x21 x22 x23 x24 x25 x26 x27 x28 x29 x30 x31 x32 x33 x34 x35 x36 x37 : Option D} {y : Option D} : SetN (x0 :: x1 :: x2 :: x3 :: x4 :: x5 :: x6 :: x7 :: x8 :: x9 :: x10 :: x11 :: x12 :: x13 :: x14 :: x15 :: x16 :: x17 :: x18 :: x19 :: x20 :: x21 :: x22 :: x23 :: x24 :: x25 :: x26 :: x27 :: x28 :: x29 :: x30 :: x31 :: x32 :: x33 :: x34 :: x35 :: x36 :: x37 :: y :: ρ) 38 Q t = Q (x0 :: x1 :: x2 :: x3 :: x4 :: x5 :: x6 :: x7 :: x8 :: x9 :: x10 :: x11 :: x12 :: x13 :: x14 :: x15 :: x16 :: x17 :: x18 :: x19 :: x20 :: x21 :: x22 :: x23 :: x24 :: x25 :: x26 :: x27 :: x28 :: x29 :: x30 :: x31 :: x32 :: x33 :: x34 :: x35 :: x36 :: x37 :: none :: ρ) := rfl
theorem get_39 {x0 x1 x2 x3 x4 x5 x6 x7 x8 x9 x10 x11 x12 x13 x14 x15 x16 x17 x18 x19 x20 x21 x22 x23 x24 x25 x26 x27 x28 x29 x30 x31 x32 x33 x34 x35 x36 x37 x38 : Option D} {Q : D → Prop} {t : Tag2 Q Q} : GetE (x0 :: x1 :: x2 :: x3 :: x4 :: x5 :: x6 :: x7 :: x8 :: x9 :: x10 :: x11 :: x12 :: x13 :: x14 :: x15 :: x16 :: x17 :: x18 :: x19 :: x20 :: x21 :: x22 :: x23 :: x24 :: x25 :: x26 :: x27 :: x28 :: x29 :: x30 :: x31 :: x32 :: x33 :: x34 :: x35 :: x36 :: x37 :: x38 :: some d :: ρ) 39 Q t = Q d := rfl
theorem set_39 {x0 x1 x2 x3 x4 x5 x6 x7 x8 x9 x10 x11 x12 x13 x14 x15 x16 x17 x18 x19 x20 x21 x22 x23 x24 x25 x26 x27 x28 x29 x30 x31 x32 x33 x34 x35 x36 x37 x38 : Option D} {y : Option D} : SetE (x0 :: x1 :: x2 :: x3 :: x4 :: x5 :: x6 :: x7 :: x8 :: x9 :: x10 :: x11 :: x12 :: x13 :: x14 :: x15 :: x16 :: x17 :: x18 :: x19 :: x20 :: x21 :: x22 :: x23 :: x24 :: x25 :: x26 :: x27 :: x28 :: x29 :: x30 :: x31 :: x32 :: x33 :: x34 :: x35 :: x36 :: x37 :: x38 :: y :: ρ) 39 d Q t = Q (x0 :: x1 :: x2 :: x3 :: x4 :: x5 :: x6 :: x7 :: x8 :: x9 :: x10 :: x11 :: x12 :: x13 :: x14 :: x15 :: x16 :: x17 :: x18 :: x19 :: x20 :: x21 :: x22 :: x23 :: x24 :: x25 :: x26 :: x27 :: x28 :: x29 :: x30 :: x31 :: x32 :: x33 :: x34 :: x35 :: x36 :: x37 :: x38 :: some d :: ρ) := by
  unfold SetE; simp
theorem setn_39 {x0 x1 x2 x3 x4 x5 x6 x7 x8 x9 x10 x11 x12 x13 x14 x15 x16 x17 x18 x19 x20 x21 x22 x23 x24 x25 x26 x27 x28 x29 x30 x31 x32 x33 x34 x35 x36 x37 x38 : Option D} {y : Option D} : SetN (x0 :: x1 :: x2 :: x3 :: x4 :: x5 :: x6 :: x7 :: x8 :: x9 :: x10 :: x11 :: x12 :: x13 :: x14 :: x15 :: x16 :: x17 :: x18 :: x19 :: x20 :: x21 :: x22 :: x23 :: x24 :: x25 :: x26 :: x27 :: x28 :: x29 :: x30 :: x31 :: x32 :: x33 :: x34 :: x35 :: x36 :: x37 :: x38 :: y :: ρ) 39 Q t = Q (x0 :: x1 :: x2 :: x3 :: x4 :: x5 :: x6 :: x7 :: x8 :: x9 :: x10 :: x11 :: x12 :: x13 :: x14 :: x15 :: x16 :: x17 :: x18 :: x19 :: x20 :: x21 :: x22 :: x23 :: x24 :: x25 :: x26 :: x27 :: x28 :: x29 :: x30 :: x31 :: x32 :: x33 :: x34 :: x35 :: x36 :: x37 :: x38 :: none :: ρ) := rfl
theorem get_40 {x0 x1 x2 x3 x4 x5 x6 x7 x8 x9 x10 x11 x12 x13 x14 x15 x16 x17 x18 x19 x20 x21 x22 x23 x24 x25 x26 x27 x28 x29 x30 x31 x32 x33 x34 x35 x36 x37 x38 x39 : Option D} {Q : D → Prop} {t : Tag2 Q Q} : GetE (x0 :: x1 :: x2 :: x3 :: x4 :: x5 :: x6 :: x7 :: x8 :: x9 :: x10 :: x11 :: x12 :: x13 :: x14 :: x15 :: x16 :: x17 :: x18 :: x19 :: x20 :: x21 :: x22 :: x23 :: x24 :: x25 :: x26 :: x27 :: x28 :: x29 :: x30 :: x31 :: x32 :: x33 :: x34 :: x35 :: x36 :: x37 :: x38 :: x39 :: some d :: ρ) 40 Q t = Q d := rfl
theorem set_40 {x0 x1 x2 x3 x4 x5 x6 x7 x8 x9 x10 x11 x12 x13 x14 x15 x16 x17 x18 x19 x20 x21 x22 x23 x24 x25 x26 x27 x28 x29 x30 x31 x32 x33 x34 x35 x36 x37 x38 x39 : Option D} {y : Option D} : SetE (x0 :: x1 :: x2 :: x3 :: x4 :: x5 :: x6 :: x7 :: x8 :: x9 :: x10 :: x11 :: x12 :: x13 :: x14 :: x15 :: x16 :: x17 :: x18 :: x19 :: x20 :: x21 :: x22 :: x23 :: x24 :: x25 :: x26 :: x27 :: x28 :: x29 :: x30 :: x31 :: x32 :: x33 :: x34 :: x35 :: x36 :: x37 :: x38 :: x39 :: y :: ρ) 40 d Q t = Q (x0 :: x1 :: x2 :: x3 :: x4 :: x5 :: x6 :: x7 :: x8 :: x9 :: x10 :: x11 :: x12 :: x13 :: x14 :: x15 :: x16 :: x17 :: x18 :: x19 :: x20 :: x21 :: x22 :: x23 :: x24 :: x25 :: x26 :: x27 :: x28 :: x29 :: x30 :: x31 :: x32 :: x33 :: x34 :: x35 :: x36 :: x37 :: x38 :: x39 :: some d :: ρ) := by
  unfold SetE; simp
theorem setn_40 {x0 x1 x2 x3 x4 x5 x6 x7 x8 x9 x10 x11 x12 x13 x14 x15 x16 x17 x18 x19 x20 x21 x22 x23 x24 x25 x26 x27 x28 x29 x30 x31 x32 x33 x34 x35 x36 x37 x38 x39 : Option D} {y : Option D} : SetN (x0 :: x1 :: x2 :: x3 :: x4 :: x5 :: x6 :: x7 :: x8 :: x9 :: x10 :: x11 :: x12 :: x13 :: x14 :: x15 :: x16 :: x17 :: x18 :: x19 :: x20 :: x21 :: x22 :: x23 :: x24 :: x25 :: x26 :: x27 :: x28 :: x29 :: x30 :: x31 :: x32 :: x33 :: x34 :: x35 :: x36 :: x37 :: x38 :: x39 :: y :: ρ) 40 Q t = Q (x0 :: x1 :: x2 :: x3 :: x4 :: x5 :: x6 :: x7 :: x8 :: x9 :: x10 :: x11 :: x12 :: x13 :: x14 :: x15 :: x16 :: x17 :: x18 :: x19 :: x20 :: x21 :: x22 :: x23 :: x24 :: x25 :: x26 :: x27 :: x28 :: x29 :: x30 :: x31 :: x32 :: x33 :: x34 :: x35 :: x36 :: x37 :: x38 :: x39 :: none :: ρ) := rfl
theorem get_41 {x0 x1 x2 x3 x4 x5 x6 x7 x8 x9 x10 x11 x12 x13 x14 x15 x16 x17 x18 x19 x20 x21 x22 x23 x24 x25 x26 x27 x28 x29 x30 x31 x32 x33 x34 x35 x36 x37 x38 x39 x40 : Option D} {Q : D → Prop} {t : Tag2 Q Q} : GetE (x0 :: x1 :: x2 :: x3 :: x4 :: x5 :: x6 :: x7 :: x8 :: x9 :: x10 :: x11 :: x12 :: x13 :: x14 :: x15 :: x16 :: x17 :: x18 :: x19 :: x20 :: x21 :: x22 :: x23 :: x24 :: x25 :: x26 :: x27 :: x28 :: x29 :: x30 :: x31 :: x32 :: x33 :: x34 :: x35 :: x36 :: x37 :: x38 :: x39 :: x40 :: some d :: ρ) 41 Q t = Q d := rfl
theorem set_41 {x0 x1 x2 x3 x4 x5 x6 x7 x8 x9 x10 x11 x12 x13 x14 x15 x16 x17 x18 x19 x20 x21 x22 x23 x24 x25 x26 x27 x28 x29 x30 x31 x32 x33 x34 x35 x36 x37 x38 x39 x40 : Option D} {y : Option D} : SetE (x0 :: x1 :: x2 :: x3 :: x4 :: x5 :: x6 :: x7 :: x8 :: x9 :: x10 :: x11 :: x12 :: x13 :: x14 :: x15 :: x16 :: x17 :: x18 :: x19 :: x20 :: x21 :: x22 :: x23 :: x24 :: x25 :: x26 :: x27 :: x28 :: x29 :: x30 :: x31 :: x32 :: x33 :: x34 :: x35 :: x36 :: x37 :: x38 :: x39 :: x40 :: y :: ρ) 41 d Q t = Q (x0 :: x1 :: x2 :: x3 :: x4 :: x5 :: x6 :: x7 :: x8 :: x9 :: x10 :: x11 :: x12 :: x13 :: x14 :: x15 :: x16 :: x17 :: x18 :: x19 :: x20 :: x21 :: x22 :: x23 :: x24 :: x25 :: x26 :: x27 :: x28 :: x29 :: x30 :: x31 :: x32 :: x33 :: x34 :: x35 :: x36 :: x37 :: x38 :: x39 :: x40 :: some d :: ρ) := by
  unfold SetE; simp
theorem setn_41 {x0 x1 x2 x3 x4 x5 x6 x7 x8 x9 x10 x11 x12 x13 x14 x15 x16 x17 x18 x19 x20 x21 x22 x23 x24 x25 x26 x27 x28 x29 x30 x31 x32 x33 x34 x35 x36 x37 x38 x39 x40 : Option D} {y : Option D} : SetN (x0 :: x1 :: x2 :: x3 :: x4 :: x5 :: x6 :: x7 :: x8 :: x9 :: x10 :: x11 :: x12 :: x13 :: x14 :: x15 :: x16 :: x17 :: x18 :: x19 :: x20 :: x21 :: x22 :: x23 :: x24 :: x25 :: x26 :: x27 :: x28 :: x29 :: x30 :: x31 :: x32 :: x33 :: x34 :: x35 :: x36 :: x37 :: x38 :: x39 :: x40 :: y :: ρ) 41 Q t = Q (x0 :: x1 :: x2 :: x3 :: x4 :: x5 :: x6 :: x7 :: x8 :: x9 :: x10 :: x11 :: x12 :: x13 :: x14 :: x15 :: x16 :: x17 :: x18 :: x19 :: x20 :: x21 :: x22 :: x23 :: x24 :: x25 :: x26 :: x27 :: x28 :: x29 :: x30 :: x31 :: x32 :: x33 :: x34 :: x35 :: x36 :: x37 :: x38 :: x39 :: x40 :: none :: ρ) := rfl
theorem get_42 {x0 x1 x2 x3 x4 x5 x6 x7 x8 x9 x10 x11 x12 x13 x14 x15 x16 x17 x18 x19 x20 x21 x22 x23 x24 x25 x26 x27 x28 x29 x30 x31 x32 x33 x34 x35 x36 x37 x38 x39 x40 x41 : Option D} {Q : D → Prop} {t : Tag2 Q Q} : GetE (x0 :: x1 :: x2 :: x3 :: x4 :: x5 :: x6 :: x7 :: x8 :: x9 :: x10 :: x11 :: x12 :: x13 :: x14 :: x15 :: x16 :: x17 :: x18 :: x19 :: x20 :: x21 :: x22 :: x23 :: x24 :: x25 :: x26 :: x27 :: x28 :: x29 :: x30 :: x31 :: x32 :: x33 :: x34 :: x35 :: x36 :: x37 :: x38 :: x39 :: x40 :: x41 :: some d :: ρ) 42 Q t = Q d := rfl
theorem set_42 {x0 x1 x2 x3 x4 x5 x6 x7 x8 x9 x10 x11 x12 x13 x14 x15 x16 x17 x18 x19 x20 x21 x22 x23 x24 x25 x26 x27 x28 x29 x30 x31 x32 x33 x34 x35 x36 x37 x38 x39 x40 x41 : Option D} {y : Option D} : SetE (x0 :: x1 :: x2 :: x3 :: x4 :: x5 :: x6 :: x7 :: x8 :: x9 :: x10 :: x11 :: x12 :: x13 :: x14 :: x15 :: x16 :: x17 :: x18 :: x19 :: x20 :: x21 :: x22 :: x23 :: x24 :: x25 :: x26 :: x27 :: x28 :: x29 :: x30 :: x31 :: x32 :: x33 :: x34 :: x35 :: x36 :: x37 :: x38 :: x39 :: x40 :: x41 :: y :: ρ) 42 d Q t = Q (x0 :: x1 :: x2 :: x3 :: x4 :: x5 :: x6 :: x7 :: x8 :: x9 :: x10 :: x11 :: x12 :: x13 :: x14 :: x15 :: x16 :: x17 :: x18 :: x19 :: x20 :: x21 :: x22 :: x23 :: x24 :: x25 :: x26 :: x27 :: x28 :: x29 :: x30 :: x31 :: x32 :: x33 :: x34 :: x35 :: x36 :: x37 :: x38 :: x39 :: x40 :: x41 :: some d :: ρ) := by
  unfold SetE; simp
theorem setn_42 {x0 x1 x2 x3 x4 x5 x6 x7 x8 x9 x10 x11 x12 x13 x14 x15 x16 x17 x18 x19 x20 x21 x22 x23 x24 x25 x26 x27 x28 x29 x30 x31 x32 x33 x34 x35 x36 x37 x38 x39 x40 x41 : Option D} {y : Option D} : SetN (x0 :: x1 :: x2 :: x3 :: x4 :: x5 :: x6 :: x7 :: x8 :: x9 :: x10 :: x11 :: x12 :: x13 :: x14 :: x15 :: x16 :: x17 :: x18 :: x19 :: x20 :: x21 :: x22 :: x23 :: x24 :: x25 :: x26 :: x27 :: x28 :: x29 :: x30 :: x31 :: x32 :: x33 :: x34 :: x35 :: x36 :: x37 :: x38 :: x39 :: x40 :: x41 :: y :: ρ) 42 Q t = Q (x0 :: x1 :: x2 :: x3 :: x4 :: x5 :: x6 :: x7 :: x8 :: x9 :: x10 :: x11 :: x12 :: x13 :: x14 :: x15 :: x16 :: x17 :: x18 :: x19 :: x20 :: x21 :: x22 :: x23 :: x24 :: x25 :: x26 :: x27 :: x28 :: x29 :: x30 :: x31 :: x32 :: x33 :: x34 :: x35 :: x36 :: x37 :: x38 :: x39 :: x40 :: x41 :: none :: ρ) := rfl
theorem get_43 {x0 x1 x2 x3 x4 x5 x6 x7 x8 x9 x10 x11 x12 x13 x14 x15 x16 x17 x18 x19 x20 x21 x22 x23 x24 x25 x26 x27 x28 x29 x30 x31 x32 x33 x34 x35 x36 x37 x38 x39 x40 x41 x42 : Option D} {Q : D → Prop} {t : Tag2 Q Q} : GetE (x0 :: x1 :: x2 :: x3 :: x4 :: x5 :: x6 :: x7 :: x8 :: x9 :: x10 :: x11 :: x12 :: x13 :: x14 :: x15 :: x16 :: x17 :: x18 :: x19 :: x20 :: x21 :: x22 :: x23 :: x24 :: x25 :: x26 :: x27 :: x28 :: x29 :: x30 :: x31 :: x32 :: x33 :: x34 :: x35 :: x36 :: x37 :: x38 :: x39 :: x40 :: x41 :: x42 :: some d :: ρ) 43 Q t = Q d := rfl
theorem set_43 {x0 x1 x2 x3 x4 x5 x6 x7 x8 x9 x10 x11 x12 x13 x14 x15 x16 x17 x18 x19 x20 x21 x22 x23 x24 x25 x26 x27 x28 x29 x30 x31 x32 x33 x34 x35 x36 x37 x38 x39 x40 x41 x42 : Option D} {y : Option D} : SetE (x0 :: x1 :: x2 :: x3 :: x4 :: x5 :: x6 :: x7 :: x8 :: x9 :: x10 :: x11 :: x12 :: x13 :: x14 :: x15 :: x16 :: x17 :: x18 :: x19 :: x20 :: x21 :: x22 :: x23 :: x24 :: x25 :: x26 :: x27 :: x28 :: x29 :: x30 :: x31 :: x32 :: x33 :: x34 :: x35 :: x36 :: x37 :: x38 :: x39 :: x40 :: x41 :: x42 :: y :: ρ) 43 d Q t = Q (x0 :: x1 :: x2 :: x3 :: x4 :: x5 :: x6 :: x7 :: x8 :: x9 :: x10 :: x11 :: x12 :: x13 :: x14 :: x15 :: x16 :: x17 :: x18 :: x19 :: x20 :: x21 :: x22 :: x23 :: x24 :: x25 :: x26 :: x27 :: x28 :: x29 :: x30 :: x31 :: x32 :: x33 :: x34 :: x35 :: x36 :: x37 :: x38 :: x39 :: x40 :: x41 :: x42 :: some d :: ρ) := by
  unfold SetE; simp
theorem setn_43 {x0 x1 x2 x3 x4 x5 x6 x7 x8 x9 x10 x11 x12 x13 x14 x15 x16 x17 x18 x19 x20 x21 x22 x23 x24 x25 x26 x27 x28 x29 x30 x31 x32 x33 x34 x35 x36 x37 x38 x39 x40 x41 x42 : Option D} {y : Option D} : SetN (x0 :: x1 :: x2 :: x3 :: x4 :: x5 :: x6 :: x7 :: x8 :: x9 :: x10 :: x11 :: x12 :: x13 :: x14 :: x15 :: x16 :: x17 :: x18 :: x19 :: x20 :: x21 :: x22 :: x23 :: x24 :: x25 :: x26 :: x27 :: x28 :: x29 :: x30 :: x31 :: x32 :: x33 :: x34 :: x35 :: x36 :: x37 :: x38 :: x39 :: x40 :: x41 :: x42 :: y :: ρ) 43 Q t = Q (x0 :: x1 :: x2 :: x3 :: x4 :: x5 :: x6 :: x7 :: x8 :: x9 :: x10 :: x11 :: x12 :: x13 :: x14 :: x15 :: x16 :: x17 :: x18 :: x19 :: x20 :: x21 :: x22 :: x23 :: x24 :: x25 :: x26 :: x27 :: x28 :: x29 :: x30 :: x31 :: x32 :: x33 :: x34 :: x35 :: x36 :: x37 :: x38 :: x39 :: x40 :: x41 :: x42 :: none :: ρ) := rfl
theorem get_44 {x0 x1 x2 x3 x4 x5 x6 x7 x8 x9 x10 x11 x12 x13 x14 x15 x16 x17 x18 x19 x20 x21 x22 x23 x24 x25 x26 x27 x28 x29 x30 x31 x32 x33 x34 x35 x36 x37 x38 x39 x40 x41 x42 x43 : Option D} {Q : D → Prop} {t : Tag2 Q Q} : GetE (x0 :: x1 :: x2 :: x3 :: x4 :: x5 :: x6 :: x7 :: x8 :: x9 :: x10 :: x11 :: x12 :: x13 :: x14 :: x15 :: x16 :: x17 :: x18 :: x19 :: x20 :: x21 :: x22 :: x23 :: x24 :: x25 :: x26 :: x27 :: x28 :: x29 :: x30 :: x31 :: x32 :: x33 :: x34 :: x35 :: x36 :: x37 :: x38 :: x39 :: x40 :: x41 :: x42 :: x43 :: some d :: ρ) 44 Q t = Q d := rfl
theorem set_44 {x0 x1 x2 x3 x4 x5 x6 x7 x8 x9 x10 x11 x12 x13 x14 x15 x16 x17 x18 x19 x20 x21 x22 x23 x24 x25 x26 x27 x28 x29 x30 x31 x32 x33 x34 x35 x36 x37 x38 x39 x40 x41 x42 x43 : Option D} {y : Option D} : SetE (x0 :: x1 :: x2 :: x3 :: x4 :: x5 :: x6 :: x7 :: x8 :: x9 :: x10 :: x11 :: x12 :: x13 :: x14 :: x15 :: x16 :: x17 :: x18 :: x19 :: x20 :: x21 :: x22 :: x23 :: x24 :: x25 :: x26 :: x27 :: x28 :: x29 :: x30 :: x31 :: x32 :: x33 :: x34 :: x35 :: x36 :: x37 :: x38 :: x39 :: x40 :: x41 :: x42 :: x43 :: y :: ρ) 44 d Q t = Q (x0 :: x1 :: x2 :: x3 :: x4 :: x5 :: x6 :: x7 :: x8 :: x9 :: x10 :: x11 :: x12 :: x13 :: x14 :: x15 :: x16 :: x17 :: x18 :: x19 :: x20 :: x21 :: x22 :: x23 :: x24 :: x25 :: x26 :: x27 :: x28 :: x29 :: x30 :: x31 :: x32 :: x33 :: x34 :: x35 :: x36 :: x37 :: x38 :: x39 :: x40 :: x41 :: x42 :: x43 :: some d :: ρ) := by
  unfold SetE; simp
theorem setn_44 {x0 x1 x2 x3 x4 x5 x6 x7 x8 x9 x10 x11 x12 x13 x14 x15 x16 x17 x18 x19 x20 x21 x22 x23 x24 x25 x26 x27 x28 x29 x30 x31 x32 x33 x34 x35 x36 x37 x38 x39 x40 x41 x42 x43 : Option D} {y : Option D} : SetN (x0 :: x1 :: x2 :: x3 :: x4 :: x5 :: x6 :: x7 :: x8 :: x9 :: x10 :: x11 :: x12 :: x13 :: x14 :: x15 :: x16 :: x17 :: x18 :: x19 :: x20 :: x21 :: x22 :: x23 :: x24 :: x25 :: x26 :: x27 :: x28 :: x29 :: x30 :: x31 :: x32 :: x33 :: x34 :: x35 :: x36 :: x37 :: x38 :: x39 :: x40 :: x41 :: x42 :: x43 :: y :: ρ) 44 Q t = Q (x0 :: x1 :: x2 :: x3 :: x4 :: x5 :: x6 :: x7 :: x8 :: x9 :: x10 :: x11 :: x12 :: x13 :: x14 :: x15 :: x16 :: x17 :: x18 :: x19 :: x20 :: x21 :: x22 :: x23 :: x24 :: x25 :: x26 :: x27 :: x28 :: x29 :: x30 :: x31 :: x32 :: x33 :: x34 :: x35 :: x36 :: x37 :: x38 :: x39 :: x40 :: x41 :: x42 :: x43 :: none :: ρ) := rfl
theorem get_45 {x0 x1 x2 x3 x4 x5 x6 x7 x8 x9 x10 x11 x12 x13 x14 x15 x16 x17 x18 x19 x20 x21 x22 x23 x24 x25 x26 x27 x28 x29 x30 x31 x32 x33 x34 x35 x36 x37 x38 x39 x40 x41 x42 x43 x44 : Option D} {Q : D → Prop} {t : Tag2 Q Q} : GetE (x0 :: x1 :: x2 :: x3 :: x4 :: x5 :: x6 :: x7 :: x8 :: x9 :: x10 :: x11 :: x12 :: x13 :: x14 :: x15 :: x16 :: x17 :: x18 :: x19 :: x20 :: x21 :: x22 :: x23 :: x24 :: x25 :: x26 :: x27 :: x28 :: x29 :: x30 :: x31 :: x32 :: x33 :: x34 :: x35 :: x36 :: x37 :: x38 :: x39 :: x40 :: x41 :: x42 :: x43 :: x44 :: some d :: ρ) 45 Q t = Q d := rfl
theorem set_45 {x0 x1 x2 x3 x4 x5 x6 x7 x8 x9 x10 x11 x12 x13 x14 x15 x16 x17 x18 x19 x20 x21 x22 x23 x24 x25 x26 x27 x28 x29 x30 x31 x32 x33 x34 x35 x36 x37 x38 x39 x40 x41 x42 x43 x44 : Option D} {y : Option D} : SetE (x0 :: x1 :: x2 :: x3 :: x4 :: x5 :: x6 :: x7 :: x8 :: x9 :: x10 :: x11 :: x12 :: x13 :: x14 :: x15 :: x16 :: x17 :: x18 :: x19 :: x20 :: x21 :: x22 :: x23 :: x24 :: x25 :: x26 :: x27 :: x28 :: x29 :: x30 :: x31 :: x32 :: x33 :: x34 :: x35 :: x36 :: x37 :: x38 :: x39 :: x40 :: x41 :: x42 :: x43 :: x44 :: y :: ρ) 45 d Q t = Q (x0 :: x1 :: x2 :: x3 :: x4 :: x5 :: x6 :: x7 :: x8 :: x9 :: x10 :: x11 :: x12 :: x13 :: x14 :: x15 :: x16 :: x17 :: x18 :: x19 :: x20 :: x21 :: x22 :: x23 :: x24 :: x25 :: x26 :: x27 :: x28 :: x29 :: x30 :: x31 :: x32 :: x33 :: x34 :: x35 :: x36 :: x37 :: x38 :: x39 :: x40 :: x41 :: x42 :: x43 :: x44 :: some d :: ρ) := by
  unfold SetE; simp
theorem setn_45 {x0 x1 x2 x3 x4 x5 x6 x7 x8 x9 x10 x11 x12 x13 x14 x15 x16 x17 x18 x19 x20 x21 x22 x23 x24 x25 x26 x27 x28 x29 x30 x31 x32 x33 x34 x35 x36 x37 x38 x39 x40 x41 x42 x43 x44 : Option D} {y : Option D} : SetN (x0 :: x1 :: x2 :: x3 :: x4 :: x5 :: x6 :: x7 :: x8 :: x9 :: x10 :: x11 :: x12 :: x13 :: x14 :: x15 :: x16 :: x17 :: x18 :: x19 :: x20 :: x21 :: x22 :: x23 :: x24 :: x25 :: x26 :: x27 :: x28 :: x29 :: x30 :: x31 :: x32 :: x33 :: x34 :: x35 :: x36 :: x37 :: x38 :: x39 :: x40 :: x41 :: x42 :: x43 :: x44 :: y :: ρ) 45 Q t = Q (x0 :: x1 :: x2 :: x3 :: x4 :: x5 :: x6 :: x7 :: x8 :: x9 :: x10 :: x11 :: x12 :: x13 :: x14 :: x15 :: x16 :: x17 :: x18 :: x19 :: x20 :: x21 :: x22 :: x23 :: x24 :: x25 :: x26 :: x27 :: x28 :: x29 :: x30 :: x31 :: x32 :: x33 :: x34 :: x35 :: x36 :: x37 :: x38 :: x39 :: x40 :: x41 :: x42 :: x43 :: x44 :: none :: ρ) := rfl
theorem get_46 {x0 x1 x2 x3 x4 x5 x6 x7 x8 x9 x10 x11 x12 x13 x14 x15 x16 x17 x18 x19 x20 x21 x22 x23 x24 x25 x26 x27 x28 x29 x30 x31 x32 x33 x34 x35 x36 x37 x38 x39 x40 x41 x42 x43 x44 x45 : Option D} {Q : D → Prop} {t : Tag2 Q Q} : GetE (x0 :: x1 :: x2 :: x3 :: x4 :: x5 :: x6 :: x7 :: x8 :: x9 :: x10 :: x11 :: x12 :: x13 :: x14 :: x15 :: x16 :: x17 :: x18 :: x19 :: x20 :: x21 :: x22 :: x23 :: x24 :: x25 :: x26 :: x27 :: x28 :: x29 :: x30 :: x31 :: x32 :: x33 :: x34 :: x35 :: x36 :: x37 :: x38 :: x39 :: x40 :: x41 :: x42 :: x43 :: x44 :: x45 :: some d :: ρ) 46 Q t = Q d := rfl
theorem set_46 {x0 x1 x2 x3 x4 x5 x6 x7 x8 x9 x10 x11 x12 x13 x14 x15 x16 x17 x18 x19 x20 x21 x22 x23 x24 x25 x26 x27 x28 x29 x30 x31 x32 x33 x34 x35 x36 x37 x38 x39 x40 x41 x42 x43 x44 x45 : Option D} {y : Option D} : SetE (x0 :: x1 :: x2 :: x3 :: x4 :: x5 :: x6 :: x7 :: x8 :: x9 :: x10 :: x11 :: x12 :: x13 :: x14 :: x15 :: x16 :: x17 :: x18 :: x19 :: x20 :: x21 :: x22 :: x23 :: x24 :: x25 :: x26 :: x27 :: x28 :: x29 :: x30 :: x31 :: x32 :: x33 :: x34 :: x35 :: x36 :: x37 :: x38 :: x39 :: x40 :: x41 :: x42 :: x43 :: x44 :: x45 :: y :: ρ) 46 d Q t = Q (x0 :: x1 :: x2 :: x3 :: x4 :: x5 :: x6 :: x7 :: x8 :: x9 :: x10 :: x11 :: x12 :: x13 :: x14 :: x15 :: x16 :: x17 :: x18 :: x19 :: x20 :: x21 :: x22 :: x23 :: x24 :: x25 :: x26 :: x27 :: x28 :: x29 :: x30 :: x31 :: x32 :: x33 :: x34 :: x35 :: x36 :: x37 :: x38 :: x39 :: x40 :: x41 :: x42 :: x43 :: x44 :: x45 :: some d :: ρ) := by
  unfold SetE; simp
theorem setn_46 {x0 x1 x2 x3 x4 x5 x6 x7 x8 x9 x10 x11 x12 x13 x14 x15 x16 x17 x18 x19 x20 x21 x22 x23 x24 x25 x26 x27 x28 x29 x30 x31 x32 x33 x34 x35 x36 x37 x38 x39 x40 x41 x42 x43 x44 x45 : Option D} {y : Option D} : SetN (x0 :: x1 :: x2 :: x3 :: x4 :: x5 :: x6 :: x7 :: x8 :: x9 :: x10 :: x11 :: x12 :: x13 :: x14 :: x15 :: x16 :: x17 :: x18 :: x19 :: x20 :: x21 :: x22 :: x23 :: x24 :: x25 :: x26 :: x27 :: x28 :: x29 :: x30 :: x31 :: x32 :: x33 :: x34 :: x35 :: x36 :: x37 :: x38 :: x39 :: x40 :: x41 :: x42 :: x43 :: x44 :: x45 :: y :: ρ) 46 Q t = Q (x0 :: x1 :: x2 :: x3 :: x4 :: x5 :: x6 :: x7 :: x8 :: x9 :: x10 :: x11 :: x12 :: x13 :: x14 :: x15 :: x16 :: x17 :: x18 :: x19 :: x20 :: x21 :: x22 :: x23 :: x24 :: x25 :: x26 :: x27 :: x28 :: x29 :: x30 :: x31 :: x32 :: x33 :: x34 :: x35 :: x36 :: x37 :: x38 :: x39 :: x40 :: x41 :: x42 :: x43 :: x44 :: x45 :: none :: ρ) := rfl
theorem get_47 {x0 x1 x2 x3 x4 x5 x6 x7 x8 x9 x10 x11 x12 x13 x14 x15 x16 x17 x18 x19 x20 x21 x22 x23 x24 x25 x26 x27 x28 x29 x30 x31 x32 x33 x34 x35 x36 x37 x38 x39 x40 x41 x42 x43 x44 x45 x46 : Option D} {Q : D → Prop} {t : Tag2 Q Q} : GetE (x0 :: x1 :: x2 :: x3 :: x4 :: x5 :: x6 :: x7 :: x8 :: x9 :: x10 :: x11 :: x12 :: x13 :: x14 :: x15 :: x16 :: x17 :: x18 :: x19 :: x20 :: x21 :: x22 :: x23 :: x24 :: x25 :: x26 :: x27 :: x28 :: x29 :: x30 :: x31 :: x32 :: x33 :: x34 :: x35 :: x36 :: x37 :: x38 :: x39 :: x40 :: x41 :: x42 :: x43 :: x44 :: x45 :: x46 :: some d :: ρ) 47 Q t = Q d := rfl
theorem set_47 {x0 x1 x2 x3 x4 x5 x6 x7 x8 x9 x10 x11 x12 x13 x14 x15 x16 x17 x18 x19 x20 x21 x22 x23 x24 x25 x26 x27 x28 x29 x30 x31 x32 x33 x34 x35 x36 x37 x38 x39 x40 x41 x42 x43 x44 x45 x46 : Option D} {y : Option D} : SetE (x0 :: x1 :: x2 :: x3 :: x4 :: x5 :: x6 :: x7 :: x8 :: x9 :: x10 :: x11 :: x12 :: x13 :: x14 :: x15 :: x16 :: x17 :: x18 :: x19 :: x20 :: x21 :: x22 :: x23 :: x24 :: x25 :: x26 :: x27 :: x28 :: x29 :: x30 :: x31 :: x32 :: x33 :: x34 :: x35 :: x36 :: x37 :: x38 :: x39 :: x40 :: x41 :: x42 :: x43 :: x44 :: x45 :: x46 :: y :: ρ) 47 d Q t = Q (x0 :: x1 :: x2 :: x3 :: x4 :: x5 :: x6 :: x7 :: x8 :: x9 :: x10 :: x11 :: x12 :: x13 :: x14 :: x15 :: x16 :: x17 :: x18 :: x19 :: x20 :: x21 :: x22 :: x23 :: x24 :: x25 :: x26 :: x27 :: x28 :: x29 :: x30 :: x31 :: x32 :: x33 :: x34 :: x35 :: x36 :: x37 :: x38 :: x39 :: x40 :: x41 :: x42 :: x43 :: x44 :: x45 :: x46 :: some d :: ρ) := by
  unfold SetE; simp
theorem setn_47 {x0 x1 x2 x3 x4 x5 x6 x7 x8 x9 x10 x11 x12 x13 x14 x15 x16 x17 x18 x19 x20 x21 x22 x23 x24 x25 x26 x27 x28 x29 x30 x31 x32 x33 x34 x35 x36 x37 x38 x39 x40 x41 x42 x43 x44 x45 x46 : Option D} {y : Option D} : SetN (x0 :: x1 :: x2 :: x3 :: x4 :: x5 :: x6 :: x7 :: x8 :: x9 :: x10 :: x11 :: x12 :: x13 :: x14 :: x15 :: x16 :: x17 :: x18 :: x19 :: x20 :: x21 :: x22 :: x23 :: x24 :: x25 :: x26 :: x27 :: x28 :: x29 :: x30 :: x31 :: x32 :: x33 :: x34 :: x35 :: x36 :: x37 :: x38 :: x39 :: x40 :: x41 :: x42 :: x43 :: x44 :: x45 :: x46 :: y :: ρ) 47 Q t = Q (x0 :: x1 :: x2 :: x3 :: x4 :: x5 :: x6 :: x7 :: x8 :: x9 :: x10 :: x11 :: x12 :: x13 :: x14 :: x15 :: x16 :: x17 :: x18 :: x19 :: x20 :: x21 :: x22 :: x23 :: x24 :: x25 :: x26 :: x27 :: x28 :: x29 :: x30 :: x31 :: x32 :: x33 :: x34 :: x35 :: x36 :: x37 :: x38 :: x39 :: x40 :: x41 :: x42 :: x43 :: x44 :: x45 :: x46 :: none :: ρ) := rfl
theorem wp_nil  : Wp ρ [] Q t = Q ρ := rfl
theorem wp_cons {v : Nat} {vs : List Nat} : Wp ρ (v :: vs) Q t = Wp ρ vs (fun ρ' => SetN ρ' v Q t) .mk := rfl
theorem ver_self {Q : Rs → Prop} {t : Tag2 Q Q} : Ver r r Q t = Q r := by
  unfold Ver; rw [verOk_self, mixR_self]; simp
theorem tgt_nm {i : Nat} : Tgt (gNm i) d ρ Q t = SetE ρ i d Q t := by
  unfold Tgt gNm SetE; by_cases h : i < ρ.length <;> simp [h]
theorem tgt_tup1 {u : List D → En → Option En} {a0 : D} : Tgt (gTp 1 u) (.tup [a0]) ρ Q t = Tgts u [a0] ρ Q t := by
  unfold Tgt Tgts gTp; simp
theorem tgt_lst1 {u : List D → En → Option En} {a0 : D} : Tgt (gLs 1 u) (.lst [a0]) ρ Q t = Tgts u [a0] ρ Q t := by
  unfold Tgt Tgts gLs; simp
theorem tgt_tup2 {u : List D → En → Option En} {a0 a1 : D} : Tgt (gTp 2 u) (.tup [a0, a1]) ρ Q t = Tgts u [a0, a1] ρ Q t := by
  unfold Tgt Tgts gTp; simp
theorem tgt_lst2 {u : List D → En → Option En} {a0 a1 : D} : Tgt (gLs 2 u) (.lst [a0, a1]) ρ Q t = Tgts u [a0, a1] ρ Q t := by
  unfold Tgt Tgts gLs; simp
theorem tgt_tup3 {u : List D → En → Option En} {a0 a1 a2 : D} : Tgt (gTp 3 u) (.tup [a0, a1, a2]) ρ Q t = Tgts u [a0, a1, a2] ρ Q t := by
  unfold Tgt Tgts gTp; simp
theorem tgt_lst3 {u : List D → En → Option En} {a0 a1 a2 : D} : Tgt (gLs 3 u) (.lst [a0, a1, a2]) ρ Q t = Tgts u [a0, a1, a2] ρ Q t := by
  unfold Tgt Tgts gLs; simp
theorem tgt_tup4 {u : List D → En → Option En} {a0 a1 a2 a3 : D} : Tgt (gTp 4 u) (.tup [a0, a1, a2, a3]) ρ Q t = Tgts u [a0, a1, a2, a3] ρ Q t := by
  unfold Tgt Tgts gTp; simp
theorem tgt_lst4 {u : List D → En → Option En} {a0 a1 a2 a3 : D} : Tgt (gLs 4 u) (.lst [a0, a1, a2, a3]) ρ Q t = Tgts u [a0, a1, a2, a3] ρ Q t := by
  unfold Tgt Tgts gLs; simp
theorem tgt_tup5 {u : List D → En → Option En} {a0 a1 a2 a3 a4 : D} : Tgt (gTp 5 u) (.tup [a0, a1, a2, a3, a4]) ρ Q t = Tgts u [a0, a1, a2, a3, a4] ρ Q t := by
  unfold Tgt Tgts gTp; simp
theorem tgt_lst5 {u : List D → En → Option En} {a0 a1 a2 a3 a4 : D} : Tgt (gLs 5 u) (.lst [a0, a1, a2, a3, a4]) ρ Q t = Tgts u [a0, a1, a2, a3, a4] ρ Q t := by
  unfold Tgt Tgts gLs; simp
theorem tgt_tup6 {u : List D → En → Option En} {a0 a1 a2 a3 a4 a5 : D} : Tgt (gTp 6 u) (.tup [a0, a1, a2, a3, a4, a5]) ρ Q t = Tgts u [a0, a1, a2, a3, a4, a5] ρ Q t := by
  unfold Tgt Tgts gTp; simp
theorem tgt_lst6 {u : List D → En → Option En} {a0 a1 a2 a3 a4 a5 : D} : Tgt (gLs 6 u) (.lst [a0, a1, a2, a3, a4, a5]) ρ Q t = Tgts u [a0, a1, a2, a3, a4, a5] ρ Q t := by
  unfold Tgt Tgts gLs; simp
theorem tgts_nil  : Tgts gNil' [] ρ Q t = Q ρ := rfl
theorem tgts_cons {tg : Tg} {u : List D → En → Option En} : Tgts (gCons' tg u) (d :: ds) ρ Q t = Tgt tg d ρ (fun ρ1 => Tgts u ds ρ1 Q t) .mk := by
  unfold Tgts Tgt; show (match (tg d ρ).bind fun ρ1 => u ds ρ1 with | some ρ' => Q ρ' | none => False) = _; cases tg d ρ <;> rfl
theorem as_l {Q : List D → Prop} {t : Tag2 Q Q} : AsL (.lst ds) Q t = Q ds := rfl
theorem as_d {kds : List (Key × D)} {Q : List (Key × D) → Prop} {t : Tag2 Q Q} : AsD (.dic kds) Q t = Q kds := rfl
theorem as_b {b : Bool} {Q : Bool → Prop} {t : Tag2 Q Q} : AsB (.bl b) Q t = Q b := rfl
theorem as_i {b : Int} {Q : Int → Prop} {t : Tag2 Q Q} : AsI (.int b) Q t = Q b := rfl
theorem as_s {b : Str} {Q : Str → Prop} {t : Tag2 Q Q} : AsS (.str b) Q t = Q b := rfl
theorem as_1 {Q : D → Prop} {t : Tag2 Q Q} : As1 [d] Q t = Q d := rfl
theorem as_2 {e : D} {Q : D → D → Prop} {t : Tag2 Q Q} : As2 [d, e] Q t = Q d e := rfl
theorem imm_int {i : Int} {P : Prop} {t : Tag2 P P} : Imm (.int i) P t = P := by
  unfold Imm D.imm; simp
theorem imm_str {i : Str} {P : Prop} {t : Tag2 P P} : Imm (.str i) P t = P := by
  unfold Imm D.imm; simp
theorem imm_bl {i : Bool} {P : Prop} {t : Tag2 P P} : Imm (.bl i) P t = P := by
  unfold Imm D.imm; simp
theorem imm_non {P : Prop} {t : Tag2 P P} : Imm (.non) P t = P := by
  unfold Imm D.imm; simp
theorem imm_loc {i : Nat} {P : Prop} {t : Tag2 P P} : Imm (.loc i) P t = P := by
  unfold Imm D.imm; simp
theorem imm_tup {P : Prop} {t : Tag2 P P} : Imm (.tup ds) P t = Imms ds P t := by
  unfold Imm Imms; rw [D.imm]
theorem imms_nil {P : Prop} {t : Tag2 P P} : Imms [] P t = P := by
  unfold Imms D.imms; simp
theorem imms_cons {P : Prop} {t : Tag2 P P} : Imms (d :: ds) P t = Imm d (Imms ds P t) .mk := by
  unfold Imms Imm; rw [D.imms, Bool.and_eq_true, and_assoc]
end
section
variable {Q : D → Prop} {t : Tag2 Q Q} {i j : Int} {r : Rs} {ds es : List D} {x y : Str} {p q : Bool}
theorem so_add  : So (dAdd (.int i) (.int j)) Q t = Q (.int (i + j)) := rfl
theorem so_sub  : So (dSub (.int i) (.int j)) Q t = Q (.int (i - j)) := rfl
theorem so_lt  : So (dLt (.int i) (.int j)) Q t = Q (.bl (decide (i < j))) := rfl
theorem so_le  : So (dLe (.int i) (.int j)) Q t = Q (.bl (decide (i ≤ j))) := rfl
theorem so_gt  : So (dGt (.int i) (.int j)) Q t = Q (.bl (decide (j < i))) := rfl
theorem so_ge  : So (dGe (.int i) (.int j)) Q t = Q (.bl (decide (j ≤ i))) := rfl
theorem so_if {α : Type} {Q : α → Prop} {t : Tag2 Q Q} {c : Prop} [Decidable c] {a : α} : So (if c then some a else none) Q t = Ck c (Q a) .mk := by
  unfold Ck; by_cases h : c <;> simp [h, So]
theorem so_mul  : So (dMul (.int i) (.int j)) Q t = Ck ((small i || small j) = true) (Q (.int (i * j))) .mk := so_if
theorem so_mod  : So (dMod (.int i) (.int j)) Q t = Ck (0 < j) (Q (.int (i % j))) .mk := so_if
theorem so_div  : So (dDiv (.int i) (.int j)) Q t = Ck (0 < j ∧ j < 1073741824) (Q (.int (i / j))) .mk := so_if
theorem so_addT  : So (dAdd (.tup ds) (.tup es)) Q t = Ck (ds.length + es.length ≤ lim) (Q (.tup (ds ++ es))) .mk := so_if
theorem so_addL  : So (dAdd (.lst ds) (.lst es)) Q t = Ck (ds.length + es.length ≤ lim) (Q (.lst (ds ++ es))) .mk := so_if
theorem so_addS  : So (dAdd (.str x) (.str y)) Q t = Ck (x.length + y.length ≤ lim) (Q (.str (x ++ y))) .mk := so_if
theorem so_ixL  : So (dIx r (.lst ds) (.int i)) Q t = So (atI ds i) Q t := rfl
theorem so_ixT  : So (dIx r (.tup ds) (.int i)) Q t = So (atI ds i) Q t := rfl
theorem so_slL {a b : Option Int} : So (dSl (.lst ds) a b) Q t = Q (.lst (cutA ds a b)) := rfl
theorem so_slT {a b : Option Int} : So (dSl (.tup ds) a b) Q t = Q (.tup (cutA ds a b)) := rfl
theorem so_len1  : So (cLen r [.lst ds]) Q t = Q (.int ds.length) := rfl
theorem so_len2  : So (cLen r [.tup ds]) Q t = Q (.int ds.length) := rfl
theorem so_len3 {ns : List Int} : So (cLen r [.scr ns]) Q t = Q (.int ns.length) := rfl
theorem so_len4  : So (cLen r [.str x]) Q t = Ck (x.length ≤ lim) (Q (.int x.length)) .mk := so_if
theorem so_len5 {kds : List (Key × D)} : So (cLen r [.dic kds]) Q t = Q (.int kds.length) := rfl
theorem so_abs  : So (cAbs r [.int i]) Q t = Q (.int (if i < 0 then -i else i)) := rfl
theorem so_int  : So (cInt r [.int i]) Q t = Q (.int i) := rfl
theorem so_intb  : So (cInt r [.bl p]) Q t = Q (.int (if p then 1 else 0)) := rfl
theorem so_list1  : So (cList r [.lst ds]) Q t = Q (.lst ds) := rfl
theorem so_list2  : So (cList r [.tup ds]) Q t = Q (.lst ds) := rfl
theorem so_tuple1  : So (cTuple r [.lst ds]) Q t = Q (.tup ds) := rfl
theorem so_tuple2  : So (cTuple r [.tup ds]) Q t = Q (.tup ds) := rfl
theorem so_max2  : So (cMax2 r [.int i, .int j]) Q t = Q (.int (if j > i then j else i)) := rfl
theorem so_min2  : So (cMin2 r [.int i, .int j]) Q t = Q (.int (if j < i then j else i)) := rfl
theorem so_str  : So (cStr r [.int i]) Q t = Ck (big i = true) (Q (.str (toString i))) .mk := so_if
theorem so_isL  : So (cIsi r [.lst ds, .ty "list"]) Q t = Q (.bl true) := rfl
theorem so_isT  : So (cIsi r [.tup ds, .ty "tuple"]) Q t = Q (.bl true) := rfl
theorem so_isN {d : D} : So (dIs d .non) Q t = Q (.bl d.isN) := by
  cases d <;> rfl
theorem so_isnN {d : D} : So (dIsNot d .non) Q t = Q (.bl (!d.isN)) := by
  cases d <;> rfl
theorem so_isb  : So (dIs (.bl p) (.bl q)) Q t = Q (.bl (decide (p = q))) := rfl
theorem so_isnb  : So (dIsNot (.bl p) (.bl q)) Q t = Q (.bl (!decide (p = q))) := rfl
end
section
variable {i : Int} {r : Rs} {ds : List D} {p : Bool} {Q : List D → Prop} {t : Tag2 Q Q} {Q' : Bool → Prop} {t' : Tag2 Q' Q'}
theorem so_listn1  : So (cListN [.lst ds]) Q t = Q ds := rfl
theorem so_listn2  : So (cListN [.tup ds]) Q t = Q ds := rfl
theorem so_it1  : So (items (.lst ds)) Q t = Q ds := rfl
theorem so_it2  : So (items (.tup ds)) Q t = Q ds := rfl
theorem tr_b  : So (truth r (.bl p)) Q' t' = Q' p := rfl
theorem tr_i  : So (truth r (.int i)) Q' t' = Q' (i != 0) := rfl
theorem tr_l  : So (truth r (.lst ds)) Q' t' = Q' (!ds.isEmpty) := rfl
theorem tr_t  : So (truth r (.tup ds)) Q' t' = Q' (!ds.isEmpty) := rfl
theorem tr_n  : So (truth r .non) Q' t' = Q' false := rfl
theorem keyof_s {x : Str} {K : Key → Prop} {u : Tag2 K K} : So (keyOf (.str x)) K u = K (.inr x) := rfl
theorem keyof_i {K : Key → Prop} {u : Tag2 K K} : So (keyOf (.int i)) K u = K (.inl i) := rfl
end
section
variable {Q : D → Prop} {t : Tag2 Q Q} {r : Rs} {c i : Nat} {fs : List D}
theorem fld_ins  : So (fldD r c i (.ins c fs)) Q t = So fs[i]? Q t := by
  unfold fldD insOf; simp
theorem ins_ins {K : Nat × List D → Prop} {u : Tag2 K K} : So (insOf r (.ins c fs)) K u = K (c, fs) := rfl
theorem soix_0 {y : D} {ds : List D} : So (y :: ds : List D)[0]? Q t = Q y := rfl
theorem soix_1 {x0 : D} {y : D} {ds : List D} : So (x0 :: y :: ds : List D)[1]? Q t = Q y := rfl
theorem soix_2 {x0 x1 : D} {y : D} {ds : List D} : So (x0 :: x1 :: y :: ds : List D)[2]? Q t = Q y := rfl
theorem soix_3 {x0 x1 x2 : D} {y : D} {ds : List D} : So (x0 :: x1 :: x2 :: y :: ds : List D)[3]? Q t = Q y := rfl
theorem soix_4 {x0 x1 x2 x3 : D} {y : D} {ds : List D} : So (x0 :: x1 :: x2 :: x3 :: y :: ds : List D)[4]? Q t = Q y := rfl
theorem soix_5 {x0 x1 x2 x3 x4 : D} {y : D} {ds : List D} : So (x0 :: x1 :: x2 :: x3 :: x4 :: y :: ds : List D)[5]? Q t = Q y := rfl
theorem soix_6 {x0 x1 x2 x3 x4 x5 : D} {y : D} {ds : List D} : So (x0 :: x1 :: x2 :: x3 :: x4 :: x5 :: y :: ds : List D)[6]? Q t = Q y := rfl
theorem soix_7 {x0 x1 x2 x3 x4 x5 x6 : D} {y : D} {ds : List D} : So (x0 :: x1 :: x2 :: x3 :: x4 :: x5 :: x6 :: y :: ds : List D)[7]? Q t = Q y := rfl
end
def AsLoc (d : D) (Q : Nat → Prop) (_ : Tag2 Q Q) : Prop := match d with
  | .loc n => Q n
  | _ => False
def GetRL (r : Rs) (n : Nat) (Q : List D → Prop) (_ : Tag2 Q Q) : Prop := match r[n]? with
  | some (.lst xs) => Q xs
  | _ => False
def GetRD (r : Rs) (n : Nat) (Q : List (Key × D) → Prop) (_ : Tag2 Q Q) : Prop := match r[n]? with
  | some (.dic xs) => Q xs
  | _ => False
def SetRo (r : Rs) (n : Nat) (o : RO) (Q : Rs → Prop) (_ : Tag2 Q Q) : Prop := Q (r.set n o)
theorem atI_n {α : Type} {xs : List α} (n : Nat) (h : n < xs.length) : atI xs (n : Int) = xs[n]? := atI_nat (List.getElem?_eq_getElem h) |>.trans (List.getElem?_eq_getElem h).symm
theorem atI_0 {α : Type} {x : α} {xs : List α} : atI (x :: xs) 0 = some x := atI_n (xs := x :: xs) 0 (by simp)
section
variable {E : Nat → List (Str × Int) → Rs → Prop} {N : En → Rs → Prop} {k : Ks} {t : Tag2 N k} {ρ : En} {r : Rs} {f g h : Ex} {fa : Ax} {O : List Nat} {n : Nat}
theorem as_loc {Q : Nat → Prop} {t : Tag2 Q Q} : AsLoc (.loc n) Q t = Q n := rfl
theorem ev_appR {Q : D → Rs → Prop} {t : Tag2 Q E} : Ev (xAppR f fa ρ r) Q E t = Ev (f ρ r) (fun a r1 => AsLoc a (fun n => GetRL r1 n (fun _ => Ev (fa ρ r1) (fun ds r2 => As1 ds (fun d => GetRL r2 n (fun xs => Ck ((d.imm && decide (xs.length < lim)) = true) (SetRo r2 n (.lst (xs ++ [d])) (fun r3 => Q .non r3) .mk) .mk) .mk) .mk) E .mk) .mk) .mk) E .mk := by
  unfold xAppR; rw [ev_bind]; refine ev_congr fun a r1 => ?_; cases a <;> try rfl
  rename_i n
  show Ev (match r1[n]? with | some (.lst _) => (fa ρ r1).bind _ | _ => .bad) Q E .mk = (match r1[n]? with | some (.lst xs) => _ | _ => False)
  cases r1[n]? with
  | none => rfl
  | some o =>
    cases o <;> try rfl
    refine ev_bind.trans (ev_congr (t' := .mk) fun ds r2 => ?_)
    match ds with
    | [] => rfl
    | [d] =>
      show Ev (match [d], r2[n]? with | [d], some (.lst xs) => if d.imm && decide (xs.length < lim) then .ok .non (r2.set n (.lst (xs ++ [d]))) else .bad | _, _ => .bad) Q E .mk = (match r2[n]? with | some (.lst xs) => _ | _ => False)
      cases r2[n]? with
      | none => rfl
      | some o =>
        cases o <;> try rfl
        exact ev_ck
    | _ :: _ :: _ => rfl
theorem sv_setR  : Sv (sSetR O f g h ρ r) N k t = Wp ρ O (fun ρ' => Ev (h ρ' r) (fun v r1 => Ev (f ρ' r1) (fun o r2 => Ev (g ρ' r2) (fun x r3 => Sv (kSetR v o x ρ r3) N k t) (fun c fs r1 => k.E c fs ρ r1) .mk) (fun c fs r1 => k.E c fs ρ r1) .mk) (fun c fs r1 => k.E c fs ρ r1) .mk) .mk := by
  unfold sSetR; rw [sv_evF]; unfold Wp; refine ev_congr (t' := .mk) fun v r1 => ?_; rw [sv_evF]; unfold Wp; refine ev_congr (t := .mk) (t' := .mk) fun o r2 => ?_; rw [sv_evF]; rfl
theorem sv_kSetR {v : D} {x : Int} : Sv (kSetR v (.loc n) (.int x) ρ r) N k t = GetRL r n (fun xs => So (ixN xs.length x) (fun j => Imm v (SetRo r n (.lst (xs.set j v)) (fun r2 => N ρ r2) .mk) .mk) .mk) .mk := by
  unfold kSetR GetRL
  show Sv (match r[n]? with | some (.lst xs) => (match ixN xs.length x with | some j => if v.imm = true then .next ρ (r.set n (.lst (xs.set j v))) else .bad | none => .bad) | _ => .bad) N k t = (match r[n]? with | some (.lst xs) => _ | _ => False)
  cases r[n]? with
  | none => rfl
  | some o =>
    cases o <;> try rfl
    rename_i xs
    show Sv (match ixN xs.length x with | some j => if v.imm = true then .next ρ (r.set n (.lst (xs.set j v))) else .bad | none => .bad) N k t = So (ixN xs.length x) (fun j => Imm v (SetRo r n (.lst (xs.set j v)) (fun r2 => N ρ r2) .mk) .mk) .mk
    cases ixN xs.length x with
    | none => rfl
    | some j => exact sv_ck
theorem sv_dsetR  : Sv (sDSetR O f g h ρ r) N k t = Wp ρ O (fun ρ' => Ev (h ρ' r) (fun v r1 => Ev (f ρ' r1) (fun o r2 => Ev (g ρ' r2) (fun x r3 => Sv (kDSetR v o x ρ r3) N k t) (fun c fs r1 => k.E c fs ρ r1) .mk) (fun c fs r1 => k.E c fs ρ r1) .mk) (fun c fs r1 => k.E c fs ρ r1) .mk) .mk := by
  unfold sDSetR; rw [sv_evF]; unfold Wp; refine ev_congr (t' := .mk) fun v r1 => ?_; rw [sv_evF]; unfold Wp; refine ev_congr (t := .mk) (t' := .mk) fun o r2 => ?_; rw [sv_evF]; rfl
theorem sv_kDSetR {v x : D} : Sv (kDSetR v (.loc n) x ρ r) N k t = So (keyOf x) (fun key => GetRD r n (fun xs => Ck ((v.imm && decide (xs.length < lim)) = true) (SetRo r n (.dic (setK xs key v)) (fun r2 => N ρ r2) .mk) .mk) .mk) .mk := by
  unfold kDSetR GetRD
  cases keyOf x with
  | none => rfl
  | some key =>
    show Sv (match r[n]? with | some (.dic kds) => if v.imm && decide (kds.length < lim) then .next ρ (r.set n (.dic (setK kds key v))) else .bad | _ => .bad) N k t = (match r[n]? with | some (.dic xs) => _ | _ => False)
    cases r[n]? with
    | none => rfl
    | some o =>
      cases o <;> try rfl
      exact sv_ck
theorem so_ixR {i : Int} {Q : D → Prop} {t : Tag2 Q Q} : So (dIx r (.loc n) (.int i)) Q t = GetRL r n (fun ds => So (atI ds i) Q .mk) .mk := by
  unfold GetRL
  show So (match r[n]? with | some (.lst ds) => atI ds i | _ => none) Q t = _
  cases r[n]? with
  | none => rfl
  | some o => cases o <;> rfl
theorem so_ixs {ns : List Int} {i : Int} {Q : D → Prop} {t : Tag2 Q Q} : So (dIx r (.scr ns) (.int i)) Q t = So (atI ns i) (fun x => Q (.int x)) .mk := by
  show So ((atI ns i).map D.int) Q t = _; cases atI ns i <;> rfl
theorem at_0 {α : Type} {x : α} {xs : List α} {Q : α → Prop} {t : Tag2 Q Q} : So (atI (x :: xs) 0) Q t = Q x := by
  rw [atI_0]; rfl
theorem at_1 {α : Type} {x y : α} {xs : List α} {Q : α → Prop} {t : Tag2 Q Q} : So (atI (x :: y :: xs) 1) Q t = Q y := by
  have e := atI_n (xs := x :: y :: xs) 1 (by simp); rw [show ((1 : Nat) : Int) = 1 from rfl] at e; rw [e]; rfl
theorem at_2 {α : Type} {x y z : α} {xs : List α} {Q : α → Prop} {t : Tag2 Q Q} : So (atI (x :: y :: z :: xs) 2) Q t = Q z := by
  have e := atI_n (xs := x :: y :: z :: xs) 2 (by simp); rw [show ((2 : Nat) : Int) = 2 from rfl] at e; rw [e]; rfl
theorem at_3 {α : Type} {x y z u : α} {xs : List α} {Q : α → Prop} {t : Tag2 Q Q} : So (atI (x :: y :: z :: u :: xs) 3) Q t = Q u := by
  have e := atI_n (xs := x :: y :: z :: u :: xs) 3 (by simp); rw [show ((3 : Nat) : Int) = 3 from rfl] at e; rw [e]; rfl
theorem grl_0 {xs : List D} {Q : List D → Prop} {t : Tag2 Q Q} : GetRL (.lst xs :: r) 0 Q t = Q xs := rfl
theorem grd_0 {xs : List (Key × D)} {Q : List (Key × D) → Prop} {t : Tag2 Q Q} : GetRD (.dic xs :: r) 0 Q t = Q xs := rfl
theorem lenl_0 {xs : List D} {Q : D → Prop} {t : Tag2 Q Q} : So (cLen (.lst xs :: r) [.loc 0]) Q t = Q (.int xs.length) := rfl
theorem lend_0 {xs : List (Key × D)} {Q : D → Prop} {t : Tag2 Q Q} : So (cLen (.dic xs :: r) [.loc 0]) Q t = Q (.int xs.length) := rfl
theorem sro_0 {x o : RO} {Q : Rs → Prop} {t : Tag2 Q Q} : SetRo (x :: r) 0 o Q t = Q (o :: r) := rfl
theorem grl_1 {a0 : RO} {xs : List D} {Q : List D → Prop} {t : Tag2 Q Q} : GetRL (a0 :: .lst xs :: r) 1 Q t = Q xs := rfl
theorem grd_1 {a0 : RO} {xs : List (Key × D)} {Q : List (Key × D) → Prop} {t : Tag2 Q Q} : GetRD (a0 :: .dic xs :: r) 1 Q t = Q xs := rfl
theorem lenl_1 {a0 : RO} {xs : List D} {Q : D → Prop} {t : Tag2 Q Q} : So (cLen (a0 :: .lst xs :: r) [.loc 1]) Q t = Q (.int xs.length) := rfl
theorem lend_1 {a0 : RO} {xs : List (Key × D)} {Q : D → Prop} {t : Tag2 Q Q} : So (cLen (a0 :: .dic xs :: r) [.loc 1]) Q t = Q (.int xs.length) := rfl
theorem sro_1 {a0 : RO} {x o : RO} {Q : Rs → Prop} {t : Tag2 Q Q} : SetRo (a0 :: x :: r) 1 o Q t = Q (a0 :: o :: r) := rfl
theorem grl_2 {a0 a1 : RO} {xs : List D} {Q : List D → Prop} {t : Tag2 Q Q} : GetRL (a0 :: a1 :: .lst xs :: r) 2 Q t = Q xs := rfl
theorem grd_2 {a0 a1 : RO} {xs : List (Key × D)} {Q : List (Key × D) → Prop} {t : Tag2 Q Q} : GetRD (a0 :: a1 :: .dic xs :: r) 2 Q t = Q xs := rfl
theorem lenl_2 {a0 a1 : RO} {xs : List D} {Q : D → Prop} {t : Tag2 Q Q} : So (cLen (a0 :: a1 :: .lst xs :: r) [.loc 2]) Q t = Q (.int xs.length) := rfl
theorem lend_2 {a0 a1 : RO} {xs : List (Key × D)} {Q : D → Prop} {t : Tag2 Q Q} : So (cLen (a0 :: a1 :: .dic xs :: r) [.loc 2]) Q t = Q (.int xs.length) := rfl
theorem sro_2 {a0 a1 : RO} {x o : RO} {Q : Rs → Prop} {t : Tag2 Q Q} : SetRo (a0 :: a1 :: x :: r) 2 o Q t = Q (a0 :: a1 :: o :: r) := rfl
theorem grl_3 {a0 a1 a2 : RO} {xs : List D} {Q : List D → Prop} {t : Tag2 Q Q} : GetRL (a0 :: a1 :: a2 :: .lst xs :: r) 3 Q t = Q xs := rfl
theorem grd_3 {a0 a1 a2 : RO} {xs : List (Key × D)} {Q : List (Key × D) → Prop} {t : Tag2 Q Q} : GetRD (a0 :: a1 :: a2 :: .dic xs :: r) 3 Q t = Q xs := rfl
theorem lenl_3 {a0 a1 a2 : RO} {xs : List D} {Q : D → Prop} {t : Tag2 Q Q} : So (cLen (a0 :: a1 :: a2 :: .lst xs :: r) [.loc 3]) Q t = Q (.int xs.length) := rfl
theorem lend_3 {a0 a1 a2 : RO} {xs : List (Key × D)} {Q : D → Prop} {t : Tag2 Q Q} : So (cLen (a0 :: a1 :: a2 :: .dic xs :: r) [.loc 3]) Q t = Q (.int xs.length) := rfl
theorem sro_3 {a0 a1 a2 : RO} {x o : RO} {Q : Rs → Prop} {t : Tag2 Q Q} : SetRo (a0 :: a1 :: a2 :: x :: r) 3 o Q t = Q (a0 :: a1 :: a2 :: o :: r) := rfl
end
end ML

/-! ML2: loops, comprehensions, draws. -/
local macro_rules | `(tactic| trivial) => `(tactic| (try simp -dsimp only [↓ML.ev_ok, ↓ML.ev_exc, ↓ML.ev_bind, ↓ML.ev_var, ↓ML.ev_c, ↓ML.ev_op, ↓ML.ev_ix, ↓ML.ev_nop, ↓ML.ev_part, ↓ML.ev_sl, ↓ML.ev_tr, ↓ML.ev_b, ↓ML.ev_ch, ↓ML.ev_v, ↓ML.ev_and, ↓ML.ev_or, ↓ML.ev_not, ↓ML.ev_if, ↓ML.ev_tif, ↓ML.ev_andv, ↓ML.ev_orv, ↓ML.ev_notv, ↓ML.ev_neg, ↓ML.ev_nil, ↓ML.ev_cons, ↓ML.ev_tup, ↓ML.ev_lst, ↓ML.ev_lst', ↓ML.ev_cb, ↓ML.ev_call, ↓ML.ev_calld, ↓ML.ev_l, ↓ML.ev_d, ↓ML.ev_listn, ↓ML.ev_items, ↓ML.ev_rng1, ↓ML.ev_rng2, ↓ML.ev_lc, ↓ML.ev_lc2, ↓ML.ev_dget, ↓ML.ev_dget1, ↓ML.ev_dget2, ↓ML.ev_din, ↓ML.ev_kd, ↓ML.ev_dnew, ↓ML.ev_yes, ↓ML.ev_dcopy, ↓ML.ev_ps0, ↓ML.ev_ps1, ↓ML.ev_disp, ↓ML.ev_res, ↓ML.ev_resd, ↓ML.ev_fld, ↓ML.ev_con, ↓ML.ev_meth, ↓ML.ev_prop, ↓ML.ev_newf, ↓ML.ev_newr, ↓ML.ev_calln, ↓ML.ev_callnd, ↓ML.ev_sort, ↓ML.ev_join, ↓ML.ev_dc, ↓ML.sv_next, ↓ML.sv_brk, ↓ML.sv_cont, ↓ML.sv_ret, ↓ML.sv_exc, ↓ML.sv_seq, ↓ML.sv_nx, ↓ML.sv_bk, ↓ML.sv_ct, ↓ML.sv_evF, ↓ML.sv_evI, ↓ML.sv_store, ↓ML.sv_asg, ↓ML.sv_asgI, ↓ML.sv_own, ↓ML.sv_ownD, ↓ML.sv_asgN, ↓ML.sv_asgD, ↓ML.sv_asgNI, ↓ML.sv_exp, ↓ML.sv_sret, ↓ML.sv_sretI, ↓ML.sv_sretN, ↓ML.sv_sretD, ↓ML.sv_sretNI, ↓ML.sv_sretO, ↓ML.sv_sretOD, ↓ML.sv_retn, ↓ML.sv_move, ↓ML.sv_give, ↓ML.sv_isL, ↓ML.sv_isD, ↓ML.sv_kApp, ↓ML.sv_app, ↓ML.sv_appI, ↓ML.sv_kIns, ↓ML.sv_ins, ↓ML.sv_insI, ↓ML.sv_extN, ↓ML.sv_extI, ↓ML.sv_ext, ↓ML.sv_if, ↓ML.sv_ifF, ↓ML.sv_for, ↓ML.sv_forR1I, ↓ML.sv_aug, ↓ML.sv_par, ↓ML.sv_raise, ↓ML.sv_frz, ↓ML.sv_pop, ↓ML.sv_kSetO, ↓ML.sv_setO, ↓ML.sv_kDPut, ↓ML.sv_dput, ↓ML.bif_t, ↓ML.bif_f, ↓ML.bif_nt, ↓ML.bif_nf, ↓ML.bif_sn, ↓ML.bif_ss, ↓ML.so_some, ↓ML.sop_some, ↓ML.ck_true, ↓ML.ck_tt, ↓ML.ck_eq, ↓ML.ck_len0, ↓ML.ck_len1, ↓ML.ck_len2, ↓ML.ck_len3, ↓ML.ck_len4, ↓ML.ck_len5, ↓ML.ck_len6, ↓ML.ck_len7, ↓ML.ck_len8, ↓ML.ck_len9, ↓ML.ck_len10, ↓ML.ck_len11, ↓ML.ck_len12, ↓ML.ck_len13, ↓ML.ck_len14, ↓ML.ck_len15, ↓ML.ck_len16, ↓ML.ck_lt0, ↓ML.ck_15_0, ↓ML.ck_lt1, ↓ML.ck_15_1, ↓ML.ck_lt2, ↓ML.ck_15_2, ↓ML.ck_lt3, ↓ML.ck_15_3, ↓ML.ck_lt4, ↓ML.ck_15_4, ↓ML.ck_lt5, ↓ML.ck_15_5, ↓ML.ck_lt6, ↓ML.ck_15_6, ↓ML.ck_lt7, ↓ML.ck_15_7, ↓ML.ck_lt8, ↓ML.ck_15_8, ↓ML.ck_lt9, ↓ML.ck_15_9, ↓ML.ck_lt10, ↓ML.ck_15_10, ↓ML.ck_lt11, ↓ML.ck_15_11, ↓ML.get_0, ↓ML.set_0, ↓ML.setn_0, ↓ML.get_1, ↓ML.set_1, ↓ML.setn_1, ↓ML.get_2, ↓ML.set_2, ↓ML.setn_2, ↓ML.get_3, ↓ML.set_3, ↓ML.setn_3, ↓ML.get_4, ↓ML.set_4, ↓ML.setn_4, ↓ML.get_5, ↓ML.set_5, ↓ML.setn_5, ↓ML.get_6, ↓ML.set_6, ↓ML.setn_6, ↓ML.get_7, ↓ML.set_7, ↓ML.setn_7, ↓ML.get_8, ↓ML.set_8, ↓ML.setn_8, ↓ML.get_9, ↓ML.set_9, ↓ML.setn_9, ↓ML.get_10, ↓ML.set_10, ↓ML.setn_10, ↓ML.get_11, ↓ML.set_11, ↓ML.setn_11, ↓ML.get_12, ↓ML.set_12, ↓ML.setn_12, ↓ML.get_13, ↓ML.set_13, ↓ML.setn_13, ↓ML.get_14, ↓ML.set_14, ↓ML.setn_14, ↓ML.get_15, ↓ML.set_15, ↓ML.setn_15, ↓ML.get_16, ↓ML.set_16, ↓ML.setn_16, ↓ML.get_17, ↓ML.set_17, ↓ML.setn_17, ↓ML.get_18, ↓ML.set_18, ↓ML.setn_18, ↓ML.get_19, ↓ML.set_19, ↓ML.setn_19, ↓ML.get_20, ↓ML.set_20, ↓ML.setn_20, ↓ML.get_21, ↓ML.set_21, ↓ML.setn_21, ↓ML.get_22, ↓ML.set_22, ↓ML.setn_22, ↓ML.get_23, ↓ML.set_23, ↓ML.setn_23, ↓ML.get_24, ↓ML.set_24, ↓ML.setn_24, ↓ML.get_25, ↓ML.set_25, ↓ML.setn_25, ↓ML.get_26, ↓ML.set_26, ↓ML.setn_26, ↓ML.get_27, ↓ML.set_27, ↓ML.setn_27, ↓ML.get_28, ↓ML.set_28, ↓ML.setn_28, ↓ML.get_29, ↓ML.set_29, ↓ML.setn_29, ↓ML.get_30, ↓ML.set_30, ↓ML.setn_30, ↓ML.get_31, ↓ML.set_31, ↓ML.setn_31, ↓ML.get_32, ↓ML.set_32, ↓ML.setn_32, ↓ML.get_33, ↓ML.set_33, ↓ML.setn_33, ↓ML.get_34, ↓ML.set_34, ↓ML.setn_34, ↓ML.get_35, ↓ML.set_35, ↓ML.setn_35, ↓ML.get_36, ↓ML.set_36, ↓ML.setn_36, ↓ML.get_37, ↓ML.set_37, ↓ML.setn_37, ↓ML.get_38, ↓ML.set_38, ↓ML.setn_38, ↓ML.get_39, ↓ML.set_39, ↓ML.setn_39, ↓ML.get_40, ↓ML.set_40, ↓ML.setn_40, ↓ML.get_41, ↓ML.set_41, ↓ML.setn_41, ↓ML.get_42, ↓ML.set_42, ↓ML.setn_42, ↓ML.get_43, ↓ML.set_43, ↓ML.setn_43, ↓ML.get_44, ↓ML.set_44, ↓ML.setn_44, ↓ML.get_45, ↓ML.set_45, ↓ML.setn_45, ↓ML.get_46, ↓ML.set_46, ↓ML.setn_46, ↓ML.get_47, ↓ML.set_47, ↓ML.setn_47, ↓ML.wp_nil, ↓ML.wp_cons, ↓ML.ver_self, ↓ML.tgt_nm, ↓ML.tgt_tup1, ↓ML.tgt_lst1, ↓ML.tgt_tup2, ↓ML.tgt_lst2, ↓ML.tgt_tup3, ↓ML.tgt_lst3, ↓ML.tgt_tup4, ↓ML.tgt_lst4, ↓ML.tgt_tup5, ↓ML.tgt_lst5, ↓ML.tgt_tup6, ↓ML.tgt_lst6, ↓ML.tgts_nil, ↓ML.tgts_cons, ↓ML.as_l, ↓ML.as_d, ↓ML.as_b, ↓ML.as_i, ↓ML.as_s, ↓ML.as_1, ↓ML.as_2, ↓ML.imm_int, ↓ML.imm_str, ↓ML.imm_bl, ↓ML.imm_non, ↓ML.imm_loc, ↓ML.imm_tup, ↓ML.imms_nil, ↓ML.imms_cons, ↓ML.so_add, ↓ML.so_sub, ↓ML.so_lt, ↓ML.so_le, ↓ML.so_gt, ↓ML.so_ge, ↓ML.so_if, ↓ML.so_mul, ↓ML.so_mod, ↓ML.so_div, ↓ML.so_addT, ↓ML.so_addL, ↓ML.so_addS, ↓ML.so_ixL, ↓ML.so_ixT, ↓ML.so_slL, ↓ML.so_slT, ↓ML.so_len1, ↓ML.so_len2, ↓ML.so_len3, ↓ML.so_len4, ↓ML.so_len5, ↓ML.so_abs, ↓ML.so_int, ↓ML.so_intb, ↓ML.so_list1, ↓ML.so_list2, ↓ML.so_tuple1, ↓ML.so_tuple2, ↓ML.so_max2, ↓ML.so_min2, ↓ML.so_str, ↓ML.so_isL, ↓ML.so_isT, ↓ML.so_isN, ↓ML.so_isnN, ↓ML.so_isb, ↓ML.so_isnb, ↓ML.so_listn1, ↓ML.so_listn2, ↓ML.so_it1, ↓ML.so_it2, ↓ML.tr_b, ↓ML.tr_i, ↓ML.tr_l, ↓ML.tr_t, ↓ML.tr_n, ↓ML.keyof_s, ↓ML.keyof_i, ↓ML.fld_ins, ↓ML.ins_ins, ↓ML.soix_0, ↓ML.soix_1, ↓ML.soix_2, ↓ML.soix_3, ↓ML.soix_4, ↓ML.soix_5, ↓ML.soix_6, ↓ML.soix_7, ↓ML.as_loc, ↓ML.ev_appR, ↓ML.sv_setR, ↓ML.sv_kSetR, ↓ML.sv_dsetR, ↓ML.sv_kDSetR, ↓ML.so_ixR, ↓ML.so_ixs, ↓ML.at_0, ↓ML.at_1, ↓ML.at_2, ↓ML.at_3, ↓ML.grl_0, ↓ML.grd_0, ↓ML.lenl_0, ↓ML.lend_0, ↓ML.sro_0, ↓ML.grl_1, ↓ML.grd_1, ↓ML.lenl_1, ↓ML.lend_1, ↓ML.sro_1, ↓ML.grl_2, ↓ML.grd_2, ↓ML.lenl_2, ↓ML.lend_2, ↓ML.sro_2, ↓ML.grl_3, ↓ML.grd_3, ↓ML.lenl_3, ↓ML.lend_3, ↓ML.sro_3]))
namespace ML
open PySem L2 DL
theorem ck_i {c P : Prop} {t : Tag2 P P} (h : c) (q : P) : Ck c P t := ⟨h, q⟩
theorem bif_i {b : Bool} {P Q : Prop} {t : Tag2 P Q} (h1 : b = true → P) (h2 : b = false → Q) : Bif b P Q t := by
  cases b
  · simp [Bif]; exact h2 rfl
  · simp [Bif]; exact h1 rfl
theorem bif_d {c : Prop} [Decidable c] {P Q : Prop} {t : Tag2 P Q} (h1 : c → P) (h2 : ¬ c → Q) : Bif (decide c) P Q t := bif_i (fun h => h1 (of_decide_eq_true h)) fun h => h2 (of_decide_eq_false h)
theorem imm_i {d : D} {P : Prop} {t : Tag2 P P} (h : d.imm = true) (q : P) : Imm d P t := ⟨h, q⟩
theorem imms_i {d : List D} {P : Prop} {t : Tag2 P P} (h : D.imms d = true) (q : P) : Imms d P t := ⟨h, q⟩
theorem so_i {α : Type} {x : Option α} {a : α} {Q : α → Prop} {t : Tag2 Q Q} (h : x = some a) (q : Q a) : So x Q t := by rw [h]; exact q
theorem sop_i {α β : Type} {x : Option (α × β)} {a : α} {b : β} {Q : α → β → Prop} {t : Tag2 Q Q} (h : x = some (a, b)) (q : Q a b) : SoP x Q t := by rw [h]; exact q
theorem ev_i {α : Type} {o : Out α} {a : α} {r : Rs} {Q : α → Rs → Prop} {E : Nat → List (Str × Int) → Rs → Prop} {t : Tag2 Q E} (h : o = .ok a r) (q : Q a r) : Ev o Q E t := by rw [h]; exact q
theorem sv_i {o : SOut} {ρ : En} {r : Rs} {N : En → Rs → Prop} {k : Ks} {t : Tag2 N k} (h : o = .next ρ r) (q : N ρ r) : Sv o N k t := by rw [h]; exact q
/-- what a run gives, as an equation -/
theorem ev_eq {α : Type} {o : Out α} {a : α} {r : Rs} (h : Ev o (fun b r' => b = a ∧ r' = r) (fun _ _ _ => False) .mk) : o = .ok a r := by
  cases o with
  | ok b r' => obtain ⟨rfl, rfl⟩ := h; rfl
  | exc c fs r' => exact h.elim
  | bad => exact h.elim
theorem ev_ex {α : Type} {o : Out α} {P : α → Rs → Prop} (h : Ev o P (fun _ _ _ => False) .mk) : ∃ a r, o = .ok a r ∧ P a r := by
  cases o with
  | ok b r' => exact ⟨b, r', rfl, h⟩
  | exc c fs r' => exact h.elim
  | bad => exact h.elim
theorem ev_mono {α : Type} {o : Out α} {P Q : α → Rs → Prop} {E : Nat → List (Str × Int) → Rs → Prop} {t : Tag2 Q E} (h : Ev o P (fun _ _ _ => False) .mk) (i : ∀ a r, P a r → Q a r) : Ev o Q E t := by
  cases o with
  | ok b r' => exact i _ _ h
  | exc c fs r' => exact h.elim
  | bad => exact h.elim
theorem sv_mono {o : SOut} {N N' : En → Rs → Prop} {k k' : Ks} {t : Tag2 N k} {t' : Tag2 N' k'} (h : Sv o N k t) (h1 : ∀ ρ r, N ρ r → N' ρ r) (h2 : ∀ ρ r, k.C ρ r → k'.C ρ r) (h3 : ∀ ρ r, k.B ρ r → k'.B ρ r) (h4 : ∀ d r, k.T d r → k'.T d r) (h5 : ∀ c fs ρ r, k.E c fs ρ r → k'.E c fs ρ r) : Sv o N' k' t' := by
  cases o with
  | next ρ r => exact h1 _ _ h
  | brk ρ r => exact h3 _ _ h
  | cont ρ r => exact h2 _ _ h
  | ret d r => exact h4 _ _ h
  | exc c fs ρ r => exact h5 _ _ _ _ h
  | bad => exact h
theorem tgt_mono {tg : Tg} {d : D} {ρ : En} {Q Q' : En → Prop} {t : Tag2 Q Q} {t' : Tag2 Q' Q'} (h : Tgt tg d ρ Q t) (i : ∀ ρ', Q ρ' → Q' ρ') : Tgt tg d ρ Q' t' := by
  unfold Tgt at *
  revert h
  cases tg d ρ with
  | none => exact id
  | some ρ' => exact fun h => i _ h
/-- a loop: I, what holds before the rest of the things -/
theorem sv_forI {tg : Tg} {b : Sx} {N : En → Rs → Prop} {k : Ks} {t : Tag2 N k} (I : List D → En → Rs → Prop) : ∀ {ds : List D} {ρ : En} {r : Rs}, I ds ρ r →
    (∀ d ds ρ r, I (d :: ds) ρ r → Tgt tg d ρ (fun ρ1 => Sv (b ρ1 r) (fun ρ2 r2 => I ds ρ2 r2) ⟨fun ρ2 r2 => I ds ρ2 r2, fun ρ2 r2 => N ρ2 r2, k.T, k.E⟩ .mk) .mk) → (∀ ρ r, I [] ρ r → N ρ r) → Sv (forGo tg b ds ρ r) N k t
  | [], ρ, r, h, _, h2 => h2 _ _ h
  | d :: ds, ρ, r, h, h1, h2 => by
    have q := h1 d ds ρ r h
    unfold Tgt at q
    rw [forGo]
    cases e : tg d ρ with
    | none => rw [e] at q; exact q.elim
    | some ρ1 =>
      rw [e] at q
      dsimp only at q
      show Sv (match b ρ1 r with | .next ρ2 r2 => forGo tg b ds ρ2 r2 | .cont ρ2 r2 => forGo tg b ds ρ2 r2 | .brk ρ2 r2 => .next ρ2 r2 | o => o) N k t
      revert q
      generalize b ρ1 r = o
      intro q
      cases o with
      | next ρ2 r2 => exact sv_forI I q h1 h2
      | cont ρ2 r2 => exact sv_forI I q h1 h2
      | brk ρ2 r2 => exact q
      | ret d r2 => exact q
      | exc c fs ρ2 r2 => exact q
      | bad => exact q.elim
/-- .. over things that are data of xs; I: what holds when xs1 is done -/
theorem sv_forX {X : Type} {enc : X → D} {tg : Tg} {b : Sx} {N : En → Rs → Prop} {k : Ks} {t : Tag2 N k} (xs : List X) (I : List X → En → Rs → Prop) {ρ : En} {r : Rs} (h0 : I [] ρ r)
    (h1 : ∀ xs1 x xs2, xs = xs1 ++ x :: xs2 → ∀ ρ r, I xs1 ρ r → Tgt tg (enc x) ρ (fun ρ1 => Sv (b ρ1 r) (fun ρ2 r2 => I (xs1 ++ [x]) ρ2 r2) ⟨fun ρ2 r2 => I (xs1 ++ [x]) ρ2 r2, fun ρ2 r2 => N ρ2 r2, k.T, k.E⟩ .mk) .mk)
    (h2 : ∀ ρ r, I xs ρ r → N ρ r) : Sv (forGo tg b (xs.map enc) ρ r) N k t := by
  refine sv_forI (fun ds ρ r => ∃ xs1 xs2, xs = xs1 ++ xs2 ∧ ds = xs2.map enc ∧ I xs1 ρ r) ⟨[], xs, rfl, rfl, h0⟩ ?_ ?_
  · rintro d ds ρ r ⟨xs1, xs2, e1, e2, h⟩
    cases xs2 with
    | nil => cases e2
    | cons x xs2 =>
      rw [List.map_cons] at e2
      cases e2
      have q := h1 xs1 x xs2 e1 ρ r h
      have e3 : xs = (xs1 ++ [x]) ++ xs2 := by rw [e1]; simp
      exact tgt_mono q fun ρ1 q => sv_mono q (fun ρ2 r2 z => ⟨_, xs2, e3, rfl, z⟩) (fun ρ2 r2 z => ⟨_, xs2, e3, rfl, z⟩) (fun _ _ z => z) (fun _ _ z => z) fun _ _ _ _ z => z
  · rintro ρ r ⟨xs1, xs2, e1, e2, h⟩
    have : xs2 = [] := by
      cases xs2 with
      | nil => rfl
      | cons _ _ => cases e2
    subst this
    rw [List.append_nil] at e1
    subst e1
    exact h2 _ _ h
/-- .. n times -/
theorem sv_forN {tg : Tg} {b : Sx} {N : En → Rs → Prop} {k : Ks} {t : Tag2 N k} (lo : Int) (n : Nat) (I : Nat → En → Rs → Prop) {ρ : En} {r : Rs} (h0 : I 0 ρ r)
    (h1 : ∀ i, i < n → ∀ ρ r, I i ρ r → Tgt tg (.int (lo + (i : Nat))) ρ (fun ρ1 => Sv (b ρ1 r) (fun ρ2 r2 => I (i + 1) ρ2 r2) ⟨fun ρ2 r2 => I (i + 1) ρ2 r2, fun ρ2 r2 => N ρ2 r2, k.T, k.E⟩ .mk) .mk)
    (h2 : ∀ ρ r, I n ρ r → N ρ r) : Sv (forGo tg b (rng lo n) ρ r) N k t := by
  have e : rng lo n = (List.range n).map fun i => D.int (lo + (i : Nat)) := rfl
  rw [e]
  refine sv_forX (enc := fun i : Nat => D.int (lo + (i : Nat))) (List.range n) (fun xs1 ρ r => I xs1.length ρ r) h0 ?_ ?_
  · intro xs1 x xs2 e ρ r h
    have hl : xs1.length < n := by
      have := congrArg List.length e
      simp at this
      omega
    have hx : x = xs1.length := by
      have h3 : (List.range n)[xs1.length]? = some x := by rw [e]; simp
      rw [List.getElem?_range hl] at h3
      exact (Option.some.inj h3).symm
    subst hx
    have el : (xs1 ++ [xs1.length]).length = xs1.length + 1 := by simp
    exact tgt_mono (h1 _ hl ρ r h) fun ρ1 q => sv_mono q (fun _ _ z => by rw [el]; exact z) (fun _ _ z => by rw [el]; exact z) (fun _ _ z => z) (fun _ _ z => z) fun _ _ _ _ z => z
  · intro ρ r h
    rw [List.length_range] at h
    exact h2 _ _ h
theorem sv_for0 {tg : Tg} {b : Sx} {N : En → Rs → Prop} {k : Ks} {t : Tag2 N k} {ρ : En} {r : Rs} : Sv (forGo tg b [] ρ r) N k t = N ρ r := rfl
theorem sv_for1 {tg : Tg} {b : Sx} {d : D} {ds : List D} {N : En → Rs → Prop} {k : Ks} {t : Tag2 N k} {ρ : En} {r : Rs} : Sv (forGo tg b (d :: ds) ρ r) N k t = Tgt tg d ρ (fun ρ1 => Sv (b ρ1 r) (fun ρ2 r2 => Sv (forGo tg b ds ρ2 r2) N k t) ⟨fun ρ2 r2 => Sv (forGo tg b ds ρ2 r2) N k t, fun ρ2 r2 => N ρ2 r2, k.T, k.E⟩ .mk) .mk := by
  unfold Tgt
  rw [forGo]
  cases tg d ρ with
  | none => rfl
  | some ρ1 =>
    show Sv (match b ρ1 r with | .next ρ2 r2 => forGo tg b ds ρ2 r2 | .cont ρ2 r2 => forGo tg b ds ρ2 r2 | .brk ρ2 r2 => .next ρ2 r2 | o => o) N k t = Sv (b ρ1 r) _ _ _
    cases b ρ1 r <;> rfl
/-- a statement, then the rest -/
theorem seq_cut {a b : Sx} {ρ : En} {r : Rs} {N : En → Rs → Prop} {k : Ks} {t : Tag2 N k} (P : En → Rs → Prop) (h1 : Sv (a ρ r) P k .mk) (h2 : ∀ ρ r, P ρ r → Sv (b ρ r) N k .mk) : Sv (sSeq a b ρ r) N k t := by
  rw [sv_seq]
  exact sv_mono h1 h2 (fun _ _ z => z) (fun _ _ z => z) (fun _ _ z => z) fun _ _ _ _ z => z
/-- both branches come to P -/
theorem bif_cut {b : Bool} {o1 o2 : SOut} {N : En → Rs → Prop} {k : Ks} {t1 t2 : Tag2 N k} {t : Tag2 (Sv o1 N k t1) (Sv o2 N k t2)} (P : En → Rs → Prop) (hP : ∀ ρ r, P ρ r → N ρ r) (h1 : b = true → Sv o1 P k .mk) (h2 : b = false → Sv o2 P k .mk) : Bif b (Sv o1 N k t1) (Sv o2 N k t2) t :=
  bif_i (fun h => sv_mono (h1 h) hP (fun _ _ z => z) (fun _ _ z => z) (fun _ _ z => z) fun _ _ _ _ z => z) fun h => sv_mono (h2 h) hP (fun _ _ z => z) (fun _ _ z => z) (fun _ _ z => z) fun _ _ _ _ z => z
/-- a comprehension whose turns draw nothing -/
theorem lc_pure {X : Type} {enc : X → D} {tg : Tg} {tt : Tx} {f : Ex} {ρ : En} {r : Rs} (p : X → Bool) (g : X → D) : ∀ {xs : List X}, (∀ x ∈ xs, Tgt tg (enc x) ρ (fun ρ1 => Ev (tt ρ1 r) (fun b r1 => b = p x ∧ r1 = r ∧ (p x = true → Ev (f ρ1 r) (fun d r2 => d = g x ∧ r2 = r) (fun _ _ _ => False) .mk)) (fun _ _ _ => False) .mk) .mk) →
    lcGo tg tt f ρ (xs.map enc) r = some ((xs.filter p).map g, r)
  | [], _ => rfl
  | x :: xs, h => by
    have q := h x List.mem_cons_self
    have ih := lc_pure (xs := xs) p g fun y m => h y (List.mem_cons_of_mem _ m)
    rw [List.map_cons]
    unfold lcGo
    unfold Tgt at q
    cases e : tg (enc x) ρ with
    | none => rw [e] at q; exact q.elim
    | some ρ1 =>
      rw [e] at q
      dsimp only at q
      obtain ⟨b, r1, e1, rfl, rfl, q⟩ := ev_ex q
      show (match tt ρ1 r1 with | .ok true r1 => (match f ρ1 r1 with | .ok e r2 => (lcGo tg tt f ρ (xs.map enc) r2).map fun (p : List D × Rs) => (e :: p.1, p.2) | _ => none) | .ok false r1 => lcGo tg tt f ρ (xs.map enc) r1 | _ => none) = _
      rw [e1]
      cases hp : p x with
      | false => simp only [ih]; rw [List.filter_cons_of_neg (by simp [hp])]
      | true =>
        obtain ⟨d, r2, e2, rfl, rfl⟩ := ev_ex (q hp)
        simp only [e2, ih, Option.map_some]
        rw [List.filter_cons_of_pos hp, List.map_cons]
theorem lc2_pure {X Y : Type} {enc : X → D} {enc2 : Y → D} {tg tg2 : Tg} {it2 : Lx} {tt : Tx} {f : Ex} {vs1 : List Nat} {ρ : En} {r : Rs} (ys : X → List Y) (p : X → Y → Bool) (g : X → Y → D) : ∀ {xs : List X}, (∀ x ∈ xs, Tgt tg (enc x) ρ (fun ρ1 => Ev (it2 ρ1 r) (fun es r1 => es = (ys x).map enc2 ∧ r1 = r ∧ ∀ y ∈ ys x, Wp ρ1 vs1 (fun ρ1 => Tgt tg2 (enc2 y) ρ1 (fun ρ2 => Ev (tt ρ2 r) (fun b r1 => b = p x y ∧ r1 = r ∧ (p x y = true → Ev (f ρ2 r) (fun d r2 => d = g x y ∧ r2 = r) (fun _ _ _ => False) .mk)) (fun _ _ _ => False) .mk) .mk) .mk) (fun _ _ _ => False) .mk) .mk) →
    lc2Go tg it2 tg2 tt f vs1 ρ (xs.map enc) r = some (xs.flatMap fun x => ((ys x).filter (p x)).map (g x), r)
  | [], _ => rfl
  | x :: xs, h => by
    have q := h x List.mem_cons_self
    have ih := lc2_pure (xs := xs) ys p g fun y m => h y (List.mem_cons_of_mem _ m)
    rw [List.map_cons]
    unfold lc2Go
    unfold Tgt at q
    cases e : tg (enc x) ρ with
    | none => rw [e] at q; exact q.elim
    | some ρ1 =>
      rw [e] at q
      dsimp only at q
      obtain ⟨es, r1, e1, rfl, rfl, q⟩ := ev_ex q
      simp only [Option.bind_some, e1, lc_pure (p x) (g x) q, ih, Option.map_some, List.flatMap_cons]

theorem cut_to {α : Type} {xs : List α} {k : Nat} : cutA xs none (some (k : Int)) = xs.take k := by
  unfold cutA
  rw [HT.sIx_none, HT.sIx_nat, List.drop_zero, Nat.sub_zero]
  by_cases h : k ≤ xs.length
  · rw [Nat.min_eq_left h]
  · rw [Nat.min_eq_right (by omega), List.take_length, List.take_of_length_le (by omega)]
theorem nat_of {v : Int} (h : 0 ≤ v) : ∃ k : Nat, v = k := ⟨v.toNat, by omega⟩
/-! ### the draws -/
def bStart : Sx :=
    (sSeq (sAsg [] (gNm 1) (xRes (xLst' xNil)))
    (sSeq (sAsg [] (gNm 2) (xC (.int 17)))
    (sSeq (sFor [] (xRng1 (xCons (xCB cLen (xCons (xVar 0) xNil)) xNil)) (gNm 3) (sSeq (sAsg [] (gNm 4) (xCB cAbs (xCons (xIx (xVar 0) (xVar 3)) xNil)))
    (sSeq (sAsg [] (gNm 2) (xOp dMod (xCB cInt (xCons (xOp dAdd (xOp dAdd (xOp dMul (xVar 2) (xC (.int 31))) (xVar 4)) (xVar 3)) xNil)) (xC (.int 2147483647))))
    (sIfF [] (xB (xOp dGe (xVar 4) (xOp dPow (xC (.int 10)) (xC (.int 18))))) (sSeq (sAsg [] (gNm 4) (xOp dSub (xVar 4) (xOp dPow (xC (.int 10)) (xC (.int 18)))))
    (sFor [] (xRng1 (xCons (xC (.int 60)) xNil)) (gNm 5) (sIfF [] (xB (xOp dGt (xVar 4) (xC (.int 0)))) (sSeq (sExp [] (xAppR (xVar 1) (xCons (xOp dMod (xCB cInt (xCons (xVar 4) xNil)) (xC (.int 840))) xNil)))
    (sAsg [] (gNm 4) (xOp dDiv (xVar 4) (xC (.int 840))))) sNext))) (sSeq (sAsg [] (gNm 6) (xOp dMod (xCB cInt (xCons (xOp dAdd (xOp dMul (xOp dAdd (xVar 4) (xC (.int 1))) (xC (.int 48271))) (xOp dMul (xVar 3) (xC (.int 69621)))) xNil)) (xC (.int 2147483647))))
    (sSeq (sAsg [] (gNm 6) (xOp dMod (xCB cInt (xCons (xOp dAdd (xOp dMul (xVar 6) (xC (.int 40692))) (xC (.int 5))) xNil)) (xC (.int 2147483399))))
    (sExp [] (xAppR (xVar 1) (xCons (xOp dMod (xOp dDiv (xVar 6) (xC (.int 13))) (xC (.int 840))) xNil)))))))))
    (sRet false [] (xRes (xLst' (xCons (xVar 1) (xCons (xC (.int 0)) (xCons (xVar 2) xNil)))))))))
def bTake : Sx :=
    (sSeq (sAsg [] (gNm 2) (xIx (xVar 0) (xC (.int 1))))
    (sSeq (sSetR [] (xVar 0) (xC (.int 1)) (xOp dAdd (xVar 2) (xC (.int 1))))
    (sSeq (sIfF [] (xB (xOp dLt (xVar 2) (xCB cLen (xCons (xIx (xVar 0) (xC (.int 0))) xNil)))) (sRet false [] (xOp dMod (xCB cInt (xCons (xIx (xIx (xVar 0) (xC (.int 0))) (xVar 2)) xNil)) (xVar 1))) sNext)
    (sSeq (sAsg [] (gNm 3) (xOp dMod (xCB cInt (xCons (xOp dMul (xOp dAdd (xIx (xVar 0) (xC (.int 2))) (xOp dMul (xVar 2) (xC (.int 40503)))) (xC (.int 48271))) xNil)) (xC (.int 2147483647))))
    (sSeq (sAsg [] (gNm 3) (xOp dMod (xCB cInt (xCons (xOp dAdd (xOp dMul (xVar 3) (xC (.int 69621))) (xOp dMul (xVar 2) (xVar 2))) xNil)) (xC (.int 2147483629))))
    (sRet false [] (xOp dMod (xOp dDiv (xVar 3) (xC (.int 11))) (xVar 1))))))))
/-- n more draws may be taken -/
def Dr (n : Nat) (R : Rs) : Prop := ∃ (row : List Int) (a : Nat) (seed : Int), R = [.lst (row.map .int), .lst [.loc 0, .int a, .int seed]] ∧ row.length ≤ 100000 ∧ a + n ≤ 1000000000
theorem Dr.le {n m : Nat} {R : Rs} (h : Dr n R) (l : m ≤ n) : Dr m R := by
  obtain ⟨row, a, seed, e, h1, h2⟩ := h
  exact ⟨row, a, seed, e, h1, by omega⟩
theorem dr_no {n : Nat} {R : Rs} (h : Dr n R) : (R.all fun x => !x.isObj) = true ∧ R.length = 2 := by
  obtain ⟨row, a, seed, rfl, h1, h2⟩ := h
  exact ⟨rfl, rfl⟩
theorem ver_dr {n m : Nat} {R R' : Rs} {Q : Rs → Prop} {t : Tag2 Q Q} (h : Dr n R) (h' : Dr m R') (q : Q R') : Ver R R' Q t := by
  obtain ⟨row, a, seed, rfl, h1, h2⟩ := h
  obtain ⟨row', a', seed', rfl, h1', h2'⟩ := h'
  exact ⟨rfl, q⟩
theorem small_n {a : Nat} (h : a < 2 ^ 60) : small (a : Int) = true := by
  unfold small
  rw [decide_eq_true_eq]
  omega
theorem take_ev {k : Nat} {m : Int} {R : Rs} {Q : D → Rs → Prop} {E : Nat → List (Str × Int) → Rs → Prop} {t : Tag2 Q E} (h : Dr (k + 1) R) (hm : 0 < m) (H : ∀ (v : Int) R', 0 ≤ v → v < m → Dr k R' → Q (.int v) R') : Ev (runF 4 bTake [.loc 1, .int m] R) Q E t := by
  obtain ⟨row, a, seed, rfl, h1, h2⟩ := h
  have sa : small (a : Int) = true := small_n (by omega)
  have K : ∀ v : Int, Q (.int (v % m)) [.lst (row.map .int), .lst [.loc 0, .int (a + 1), .int seed]] := fun v => H _ _ (Int.emod_nonneg _ (by omega)) (Int.emod_lt_of_pos _ hm) ⟨row, a + 1, seed, rfl, h1, by omega⟩
  rw [ev_run]
  unfold bTake
  show Sv (sSeq _ _ [some (.loc 1), some (.int m), none, none] _) _ _ _
  trivial
  refine so_i (a := 1) rfl ?_
  trivial
  dsimp only [List.set]
  (try simp -dsimp only [↓ev_ok, ↓ev_exc, ↓ev_bind, ↓ev_var, ↓ev_c, ↓ev_op, ↓ev_ix, ↓ev_nop, ↓ev_part, ↓ev_sl, ↓ev_tr, ↓ev_b, ↓ev_ch, ↓ev_v, ↓ev_and, ↓ev_or, ↓ev_not, ↓ev_if, ↓ev_tif, ↓ev_andv, ↓ev_orv, ↓ev_notv, ↓ev_neg, ↓ev_nil, ↓ev_cons, ↓ev_tup, ↓ev_lst, ↓ev_lst', ↓ev_cb, ↓ev_call, ↓ev_calld, ↓ev_l, ↓ev_d, ↓ev_listn, ↓ev_items, ↓ev_rng1, ↓ev_rng2, ↓ev_lc, ↓ev_lc2, ↓ev_dget, ↓ev_dget1, ↓ev_dget2, ↓ev_din, ↓ev_kd, ↓ev_dnew, ↓ev_yes, ↓ev_dcopy, ↓ev_ps0, ↓ev_ps1, ↓ev_disp, ↓ev_res, ↓ev_resd, ↓ev_fld, ↓ev_con, ↓ev_meth, ↓ev_prop, ↓ev_newf, ↓ev_newr, ↓ev_calln, ↓ev_callnd, ↓ev_sort, ↓ev_join, ↓ev_dc, ↓sv_next, ↓sv_brk, ↓sv_cont, ↓sv_ret, ↓sv_exc, ↓sv_seq, ↓sv_nx, ↓sv_bk, ↓sv_ct, ↓sv_evF, ↓sv_evI, ↓sv_store, ↓sv_asg, ↓sv_asgI, ↓sv_own, ↓sv_ownD, ↓sv_asgN, ↓sv_asgD, ↓sv_asgNI, ↓sv_exp, ↓sv_sret, ↓sv_sretI, ↓sv_sretN, ↓sv_sretD, ↓sv_sretNI, ↓sv_sretO, ↓sv_sretOD, ↓sv_retn, ↓sv_move, ↓sv_give, ↓sv_isL, ↓sv_isD, ↓sv_kApp, ↓sv_app, ↓sv_appI, ↓sv_kIns, ↓sv_ins, ↓sv_insI, ↓sv_extN, ↓sv_extI, ↓sv_ext, ↓sv_if, ↓sv_ifF, ↓sv_for, ↓sv_forR1I, ↓sv_aug, ↓sv_par, ↓sv_raise, ↓sv_frz, ↓sv_pop, ↓sv_kSetO, ↓sv_setO, ↓sv_kDPut, ↓sv_dput, ↓bif_t, ↓bif_f, ↓bif_nt, ↓bif_nf, ↓bif_sn, ↓bif_ss, ↓so_some, ↓sop_some, ↓ck_true, ↓ck_tt, ↓ck_eq, ↓ck_len0, ↓ck_len1, ↓ck_len2, ↓ck_len3, ↓ck_len4, ↓ck_len5, ↓ck_len6, ↓ck_len7, ↓ck_len8, ↓ck_len9, ↓ck_len10, ↓ck_len11, ↓ck_len12, ↓ck_len13, ↓ck_len14, ↓ck_len15, ↓ck_len16, ↓ck_lt0, ↓ck_15_0, ↓ck_lt1, ↓ck_15_1, ↓ck_lt2, ↓ck_15_2, ↓ck_lt3, ↓ck_15_3, ↓ck_lt4, ↓ck_15_4, ↓ck_lt5, ↓ck_15_5, ↓ck_lt6, ↓ck_15_6, ↓ck_lt7, ↓ck_15_7, ↓ck_lt8, ↓ck_15_8, ↓ck_lt9, ↓ck_15_9, ↓ck_lt10, ↓ck_15_10, ↓ck_lt11, ↓ck_15_11, ↓get_0, ↓set_0, ↓setn_0, ↓get_1, ↓set_1, ↓setn_1, ↓get_2, ↓set_2, ↓setn_2, ↓get_3, ↓set_3, ↓setn_3, ↓get_4, ↓set_4, ↓setn_4, ↓get_5, ↓set_5, ↓setn_5, ↓get_6, ↓set_6, ↓setn_6, ↓get_7, ↓set_7, ↓setn_7, ↓get_8, ↓set_8, ↓setn_8, ↓get_9, ↓set_9, ↓setn_9, ↓get_10, ↓set_10, ↓setn_10, ↓get_11, ↓set_11, ↓setn_11, ↓get_12, ↓set_12, ↓setn_12, ↓get_13, ↓set_13, ↓setn_13, ↓get_14, ↓set_14, ↓setn_14, ↓get_15, ↓set_15, ↓setn_15, ↓get_16, ↓set_16, ↓setn_16, ↓get_17, ↓set_17, ↓setn_17, ↓get_18, ↓set_18, ↓setn_18, ↓get_19, ↓set_19, ↓setn_19, ↓get_20, ↓set_20, ↓setn_20, ↓get_21, ↓set_21, ↓setn_21, ↓get_22, ↓set_22, ↓setn_22, ↓get_23, ↓set_23, ↓setn_23, ↓get_24, ↓set_24, ↓setn_24, ↓get_25, ↓set_25, ↓setn_25, ↓get_26, ↓set_26, ↓setn_26, ↓get_27, ↓set_27, ↓setn_27, ↓get_28, ↓set_28, ↓setn_28, ↓get_29, ↓set_29, ↓setn_29, ↓get_30, ↓set_30, ↓setn_30, ↓get_31, ↓set_31, ↓setn_31, ↓get_32, ↓set_32, ↓setn_32, ↓get_33, ↓set_33, ↓setn_33, ↓get_34, ↓set_34, ↓setn_34, ↓get_35, ↓set_35, ↓setn_35, ↓get_36, ↓set_36, ↓setn_36, ↓get_37, ↓set_37, ↓setn_37, ↓get_38, ↓set_38, ↓setn_38, ↓get_39, ↓set_39, ↓setn_39, ↓get_40, ↓set_40, ↓setn_40, ↓get_41, ↓set_41, ↓setn_41, ↓get_42, ↓set_42, ↓setn_42, ↓get_43, ↓set_43, ↓setn_43, ↓get_44, ↓set_44, ↓setn_44, ↓get_45, ↓set_45, ↓setn_45, ↓get_46, ↓set_46, ↓setn_46, ↓get_47, ↓set_47, ↓setn_47, ↓wp_nil, ↓wp_cons, ↓ver_self, ↓tgt_nm, ↓tgt_tup1, ↓tgt_lst1, ↓tgt_tup2, ↓tgt_lst2, ↓tgt_tup3, ↓tgt_lst3, ↓tgt_tup4, ↓tgt_lst4, ↓tgt_tup5, ↓tgt_lst5, ↓tgt_tup6, ↓tgt_lst6, ↓tgts_nil, ↓tgts_cons, ↓as_l, ↓as_d, ↓as_b, ↓as_i, ↓as_s, ↓as_1, ↓as_2, ↓imm_int, ↓imm_str, ↓imm_bl, ↓imm_non, ↓imm_loc, ↓imm_tup, ↓imms_nil, ↓imms_cons, ↓so_add, ↓so_sub, ↓so_lt, ↓so_le, ↓so_gt, ↓so_ge, ↓so_if, ↓so_mul, ↓so_mod, ↓so_div, ↓so_addT, ↓so_addL, ↓so_addS, ↓so_ixL, ↓so_ixT, ↓so_slL, ↓so_slT, ↓so_len1, ↓so_len2, ↓so_len3, ↓so_len4, ↓so_len5, ↓so_abs, ↓so_int, ↓so_intb, ↓so_list1, ↓so_list2, ↓so_tuple1, ↓so_tuple2, ↓so_max2, ↓so_min2, ↓so_str, ↓so_isL, ↓so_isT, ↓so_isN, ↓so_isnN, ↓so_isb, ↓so_isnb, ↓so_listn1, ↓so_listn2, ↓so_it1, ↓so_it2, ↓tr_b, ↓tr_i, ↓tr_l, ↓tr_t, ↓tr_n, ↓keyof_s, ↓keyof_i, ↓fld_ins, ↓ins_ins, ↓soix_0, ↓soix_1, ↓soix_2, ↓soix_3, ↓soix_4, ↓soix_5, ↓soix_6, ↓soix_7, ↓as_loc, ↓ev_appR, ↓sv_setR, ↓sv_kSetR, ↓sv_dsetR, ↓sv_kDSetR, ↓so_ixR, ↓so_ixs, ↓at_0, ↓at_1, ↓at_2, ↓at_3, ↓grl_0, ↓grd_0, ↓lenl_0, ↓lend_0, ↓sro_0, ↓grl_1, ↓grd_1, ↓lenl_1, ↓lend_1, ↓sro_1, ↓grl_2, ↓grd_2, ↓lenl_2, ↓lend_2, ↓sro_2, ↓grl_3, ↓grd_3, ↓lenl_3, ↓lend_3, ↓sro_3, List.length_map])
  refine bif_d (fun c => ?_) (fun c => ?_)
  · trivial
    have hx : atI (row.map D.int) (a : Int) = some (.int row[a]) := atI_nat (by rw [List.getElem?_map, List.getElem?_eq_getElem (by omega)]; rfl)
    refine so_i hx ?_
    trivial
    exact ck_i hm (K _)
  · trivial
    refine ck_i (by rw [sa]; rfl) ?_
    trivial
    refine ck_i (by rw [show small 48271 = true from rfl, Bool.or_true]) ?_
    trivial
    refine ck_i (by decide) ?_
    trivial
    refine ck_i (by rw [show small 69621 = true from rfl, Bool.or_true]) ?_
    trivial
    refine ck_i (by rw [sa]; rfl) ?_
    trivial
    refine ck_i (by decide) ?_
    trivial
    refine ck_i (by decide) ?_
    trivial
    exact ck_i hm (K _)
theorem map_snoc {X Y : Type} {f : X → Y} {xs : List X} {x : X} : xs.map f ++ [f x] = (xs ++ [x]).map f := by rw [List.map_append]; rfl
theorem inner_ev {N : En → Rs → Prop} {k : Ks} {t : Tag2 N k} (n : Nat) (lo : Int) {row : List Int} {ns : List Int} {x2 x3 x4 : Int} {y5 y6 : Option D} (hr : row.length + n ≤ 100000)
    (H : ∀ (row' : List Int) (z4 : Int) (z5 : Option D), row'.length ≤ row.length + n → N [some (.scr ns), some (.loc 0), some (.int x2), some (.int x3), some (.int z4), z5, y6] [.lst (row'.map .int)]) :
    Sv (forGo (gNm 5) (sIfF [] (xB (xOp dGt (xVar 4) (xC (.int 0)))) (sSeq (sExp [] (xAppR (xVar 1) (xCons (xOp dMod (xCB cInt (xCons (xVar 4) xNil)) (xC (.int 840))) xNil)))
    (sAsg [] (gNm 4) (xOp dDiv (xVar 4) (xC (.int 840))))) sNext) (rng lo n) [some (.scr ns), some (.loc 0), some (.int x2), some (.int x3), some (.int x4), y5, y6] [.lst (row.map .int)]) N k t := by
  refine sv_forN lo n (fun i ρ r => ∃ (row' : List Int) (z4 : Int) (z5 : Option D), row'.length ≤ row.length + i ∧ ρ = [some (.scr ns), some (.loc 0), some (.int x2), some (.int x3), some (.int z4), z5, y6] ∧ r = [.lst (row'.map .int)]) ⟨row, x4, y5, by omega, rfl, rfl⟩ ?_ ?_
  · rintro i hi ρ r ⟨row', z4, z5, hl, rfl, rfl⟩
    trivial
    refine bif_d (fun c => ?_) (fun c => ?_)
    · trivial
      refine ck_i (by decide) ?_
      trivial
      refine ck_i (by simp [D.imm, lim]; omega) ?_
      trivial
      refine ck_i (by decide) ?_
      refine ⟨row' ++ [z4 % 840], _, _, ?_, rfl, ?_⟩
      · simp; omega
      · simp
    · exact ⟨row', z4, _, by omega, rfl, rfl⟩
  · rintro ρ r ⟨row', z4, z5, hl, rfl, rfl⟩
    exact H row' z4 z5 hl
theorem start_ev {ns : List Int} {Q : D → Rs → Prop} {E : Nat → List (Str × Int) → Rs → Prop} {t : Tag2 Q E} (hn : ns.length ≤ 63) (H : ∀ R, Dr 1000000000 R → Q (.loc 1) R) : Ev (runF 7 bStart [.scr ns] []) Q E t := by
  rw [ev_run]
  unfold bStart
  show Sv (sSeq _ _ [some (.scr ns), none, none, none, none, none, none] _) _ _ _
  trivial
  dsimp only [List.length_nil, List.nil_append]
  trivial
  refine ck_i (by unfold big; rw [decide_eq_true_eq]; omega) ?_
  refine sv_forN 0 _ (fun i ρ r => ∃ (row : List Int) (z2 : Int) (z3 z4 z5 z6 : Option D), row.length ≤ 60 * i ∧ ρ = [some (.scr ns), some (.loc 0), some (.int z2), z3, z4, z5, z6] ∧ r = [.lst (row.map .int)]) ⟨[], 17, _, _, _, _, by simp, rfl, rfl⟩ ?_ ?_
  · rintro i hi ρ r ⟨row, z2, z3, z4, z5, z6, hl, rfl, rfl⟩
    have hi' : i < ns.length := by omega
    have ha : atI ns (0 + (i : Int)) = some ns[i] := by rw [Int.zero_add]; exact atI_nat (List.getElem?_eq_getElem hi')
    trivial
    refine so_i ha ?_
    trivial
    refine ck_i (by rw [show small 31 = true from rfl, Bool.or_true]) ?_
    trivial
    refine ck_i (by decide) ?_
    trivial
    refine so_i (a := .int 1000000000000000000) rfl ?_
    trivial
    refine bif_d (fun c => ?_) (fun c => ?_)
    · trivial
      refine so_i (a := .int 1000000000000000000) rfl ?_
      trivial
      refine ck_i (by decide) ?_
      refine inner_ev 60 0 (by omega) fun row' z4 z5 hl' => ⟨row', _, _, _, _, _, by omega, rfl, rfl⟩
    · trivial
      refine ck_i (by rw [show small 48271 = true from rfl, Bool.or_true]) ?_
      trivial
      refine ck_i (by rw [show small 69621 = true from rfl, Bool.or_true]) ?_
      trivial
      refine ck_i (by decide) ?_
      trivial
      refine ck_i (by rw [show small 40692 = true from rfl, Bool.or_true]) ?_
      trivial
      refine ck_i (by decide) ?_
      trivial
      refine ck_i (by decide) ?_
      trivial
      refine ck_i (by decide) ?_
      trivial
      refine ck_i (by simp [D.imm, lim]; omega) ?_
      trivial
      rw [map_snoc]
      refine ⟨_, _, _, _, _, _, ?_, rfl, rfl⟩
      rw [List.length_append, List.length_singleton]; omega
  · rintro ρ r ⟨row, z2, z3, z4, z5, z6, hl, rfl, rfl⟩
    trivial
    exact H _ ⟨row, 0, z2, rfl, by omega, by omega⟩
end ML

/-! ML3: == and in over plain data. -/
namespace ML
open PySem L2 DL
mutual
/-- numbers, texts, None, tuples and lists of them, not deeper than n -/
def pl : Nat → D → Bool
  | _, .non => true
  | _, .int _ => true
  | _, .str x => PyData.strOk x
  | n + 1, .tup xs => pls n xs
  | n + 1, .lst xs => pls n xs
  | _, _ => false
def pls : Nat → List D → Bool
  | _, [] => true
  | n, x :: xs => pl n x && pls n xs
end
theorem pls_iff {n : Nat} : ∀ {xs : List D}, pls n xs = true ↔ ∀ x ∈ xs, pl n x = true
  | [] => by simp [pls]
  | x :: xs => by rw [pls, Bool.and_eq_true, pls_iff (xs := xs)]; simp
theorem pl_tup {n : Nat} {xs : List D} (h : ∀ x ∈ xs, pl n x = true) : pl (n + 1) (.tup xs) = true := by rw [pl]; exact pls_iff.mpr h
theorem pl_lst {n : Nat} {xs : List D} (h : ∀ x ∈ xs, pl n x = true) : pl (n + 1) (.lst xs) = true := by rw [pl]; exact pls_iff.mpr h
theorem pl_int {n : Nat} {i : Int} : pl n (.int i) = true := by unfold pl; rfl
theorem pl_str {n : Nat} {x : Str} (h : PyData.strOk x = true) : pl n (.str x) = true := by unfold pl; exact h
mutual
theorem pl_shaped : ∀ {n : Nat} {d : D}, pl n d = true → d.py.canLay0 = true ∧ d.py.depth ≤ n
  | n, .non, _ => ⟨by simp [D.py, PyData.canLay0], by simp [D.py, PyData.depth]⟩
  | n, .int i, _ => ⟨by simp [D.py, PyData.canLay0], by simp [D.py, PyData.depth]⟩
  | n, .str x, h => ⟨by unfold pl at h; simp [D.py, PyData.canLay0, h], by simp [D.py, PyData.depth]⟩
  | n + 1, .tup xs, h => by
    have q := pls_shaped (xs := xs) (n := n) (by rw [pl] at h; exact h)
    exact ⟨by simp [D.py, PyData.canLay0, q.1], by rw [D.py, PyData.depth]; omega⟩
  | n + 1, .lst xs, h => by
    have q := pls_shaped (xs := xs) (n := n) (by rw [pl] at h; exact h)
    exact ⟨by simp [D.py, PyData.canLay0, q.1], by rw [D.py, PyData.depth]; omega⟩
  | 0, .tup xs, h => by simp [pl] at h
  | 0, .lst xs, h => by simp [pl] at h
  | n, .bl _, h => by cases n <;> simp [pl] at h
  | n, .dic _, h => by cases n <;> simp [pl] at h
  | n, .loc _, h => by cases n <;> simp [pl] at h
  | n, .scr _, h => by cases n <;> simp [pl] at h
  | n, .ty _, h => by cases n <;> simp [pl] at h
  | n, .gl _, h => by cases n <;> simp [pl] at h
  | n, .ins _ _, h => by cases n <;> simp [pl] at h
theorem pls_shaped : ∀ {n : Nat} {xs : List D}, pls n xs = true → PyData.canLayAll0 (D.pys xs) = true ∧ PyData.depthAll (D.pys xs) ≤ n
  | n, [], _ => ⟨by simp [D.pys, PyData.canLayAll0], by simp [D.pys, PyData.depthAll]⟩
  | n, x :: xs, h => by
    rw [pls, Bool.and_eq_true] at h
    have a := pl_shaped h.1
    have b := pls_shaped h.2
    exact ⟨by simp [D.pys, PyData.canLayAll0, a.1, b.1], by rw [D.pys, PyData.depthAll]; exact Nat.max_le.mpr ⟨a.2, b.2⟩⟩
end
theorem shaped_of {n : Nat} {d : D} (h : pl n d = true) (l : n ≤ 64 := by decide) : d.shaped = true := by
  obtain ⟨h1, h2⟩ := pl_shaped h
  unfold D.shaped SeqAt.shaped
  rw [h1, decide_eq_true (Nat.le_trans h2 l)]
  rfl
mutual
theorem eqv_pl : ∀ {n m : Nat} {a b : D}, pl n a = true → pl m b = true → (PyData.eqv a.py b.py = true ↔ a = b)
  | n, m, .non, b, _, hb => by cases b <;> first | (exfalso; cases m <;> simp [pl] at hb; done) | simp [D.py, PyData.eqv]
  | n, m, .int i, b, _, hb => by cases b <;> first | (exfalso; cases m <;> simp [pl] at hb; done) | simp [D.py, PyData.eqv]
  | n, m, .str i, b, _, hb => by cases b <;> first | (exfalso; cases m <;> simp [pl] at hb; done) | simp [D.py, PyData.eqv]
  | n + 1, m, .tup xs, b, ha, hb => by
    cases b <;> first | (exfalso; cases m <;> simp [pl] at hb; done) | (simp [D.py, PyData.eqv]; done) | skip
    case tup ys =>
      cases m with
      | zero => simp [pl] at hb
      | succ m =>
        rw [pl] at ha hb
        have q := eqvs_pl ha hb
        simp only [D.py, PyData.eqv, D.tup.injEq]
        exact q
  | n + 1, m, .lst xs, b, ha, hb => by
    cases b <;> first | (exfalso; cases m <;> simp [pl] at hb; done) | (simp [D.py, PyData.eqv]; done) | skip
    case lst ys =>
      cases m with
      | zero => simp [pl] at hb
      | succ m =>
        rw [pl] at ha hb
        have q := eqvs_pl ha hb
        simp only [D.py, PyData.eqv, D.lst.injEq]
        exact q
  | 0, m, .tup xs, b, ha, hb => by simp [pl] at ha
  | 0, m, .lst xs, b, ha, hb => by simp [pl] at ha
  | n, m, .bl _, b, h, hb => by cases n <;> simp [pl] at h
  | n, m, .dic _, b, h, hb => by cases n <;> simp [pl] at h
  | n, m, .loc _, b, h, hb => by cases n <;> simp [pl] at h
  | n, m, .scr _, b, h, hb => by cases n <;> simp [pl] at h
  | n, m, .ty _, b, h, hb => by cases n <;> simp [pl] at h
  | n, m, .gl _, b, h, hb => by cases n <;> simp [pl] at h
  | n, m, .ins _ _, b, h, hb => by cases n <;> simp [pl] at h
theorem eqvs_pl : ∀ {n m : Nat} {xs ys : List D}, pls n xs = true → pls m ys = true → (PyData.eqvAll (D.pys xs) (D.pys ys) = true ↔ xs = ys)
  | _, _, [], [], _, _ => by simp [D.pys, PyData.eqvAll]
  | _, _, [], _ :: _, _, _ => by simp [D.pys, PyData.eqvAll]
  | _, _, _ :: _, [], _, _ => by simp [D.pys, PyData.eqvAll]
  | n, m, x :: xs, y :: ys, hx, hy => by
    rw [pls, Bool.and_eq_true] at hx hy
    have a := eqv_pl hx.1 hy.1
    have b := eqvs_pl hx.2 hy.2
    rw [D.pys, D.pys, PyData.eqvAll, Bool.and_eq_true, a, b, List.cons.injEq]
end
theorem eqv_pl' {n m : Nat} {a b : D} (ha : pl n a = true) (hb : pl m b = true) [Decidable (a = b)] : PyData.eqv a.py b.py = decide (a = b) := by
  have := eqv_pl ha hb
  by_cases h : a = b
  · rw [decide_eq_true h]; exact this.mpr h
  · rw [decide_eq_false h]
    cases e : PyData.eqv a.py b.py with
    | false => rfl
    | true => exact absurd (this.mp e) h
section
variable {n m : Nat} {a b : D} {Q : D → Prop} {t : Tag2 Q Q}
theorem dEq_pl (ha : pl n a = true) (hb : pl m b = true) [Decidable (a = b)] (h1 : n ≤ 64 := by decide) (h2 : m ≤ 64 := by decide) : dEq a b = some (.bl (decide (a = b))) := by
  unfold dEq
  rw [shaped_of ha h1, shaped_of hb h2, eqv_pl' ha hb]
  rfl
theorem dNe_pl (ha : pl n a = true) (hb : pl m b = true) [Decidable (a = b)] (h1 : n ≤ 64 := by decide) (h2 : m ≤ 64 := by decide) : dNe a b = some (.bl (!decide (a = b))) := by
  unfold dNe
  rw [shaped_of ha h1, shaped_of hb h2, eqv_pl' ha hb]
  rfl
theorem dEq_same (ha : pl n a = true) (h1 : n ≤ 64 := by decide) : dEq a a = some (.bl true) := by
  have := Classical.propDecidable (a = a)
  rw [dEq_pl ha ha h1 h1, decide_eq_true rfl]
theorem dNe_same (ha : pl n a = true) (h1 : n ≤ 64 := by decide) : dNe a a = some (.bl false) := by
  have := Classical.propDecidable (a = a)
  rw [dNe_pl ha ha h1 h1, decide_eq_true rfl]
  rfl
theorem dEq_int {i j : Int} : dEq (.int i) (.int j) = some (.bl (decide (i = j))) := by
  have := Classical.propDecidable (D.int i = D.int j)
  rw [dEq_pl (n := 0) (m := 0) pl_int pl_int]
  congr 2
  exact decide_eq_decide.mpr (by simp)
theorem dNe_int {i j : Int} : dNe (.int i) (.int j) = some (.bl (decide (i ≠ j))) := by
  have := Classical.propDecidable (D.int i = D.int j)
  rw [dNe_pl (n := 0) (m := 0) pl_int pl_int]
  congr 1
  by_cases h : i = j <;> simp [h]
theorem any_pl {x : D} (hx : pl n x = true) : ∀ {ds : List D}, pls m ds = true → ((ds.any fun z => PyData.eqv z.py x.py) = true ↔ x ∈ ds)
  | [], _ => by simp
  | d :: ds, h => by
    rw [pls, Bool.and_eq_true] at h
    rw [List.any_cons, Bool.or_eq_true, any_pl hx h.2, eqv_pl h.1 hx, List.mem_cons]
    constructor
    · rintro (e | e)
      · exact .inl e.symm
      · exact .inr e
    · rintro (e | e)
      · exact .inl e.symm
      · exact .inr e
theorem any_pl' {x : D} {ds : List D} (hx : pl n x = true) (hd : pls m ds = true) [Decidable (x ∈ ds)] : (ds.any fun z => PyData.eqv z.py x.py) = decide (x ∈ ds) := by
  have := any_pl hx hd
  by_cases h : x ∈ ds
  · rw [decide_eq_true h]; exact this.mpr h
  · rw [decide_eq_false h]
    cases e : ds.any fun z => PyData.eqv z.py x.py with
    | false => rfl
    | true => exact absurd (this.mp e) h
theorem dIn_pl {x : D} {ds : List D} (hx : pl n x = true) (hd : pls m ds = true) [Decidable (x ∈ ds)] (h1 : n ≤ 64 := by decide) (h2 : m + 1 ≤ 64 := by decide) : dIn x (.lst ds) = some (.bl (decide (x ∈ ds))) := by
  unfold dIn inD
  dsimp only
  rw [shaped_of hx h1, shaped_of (n := m + 1) (d := .lst ds) (by rw [pl]; exact hd) h2, any_pl' hx hd]
  rfl
theorem dNotIn_pl {x : D} {ds : List D} (hx : pl n x = true) (hd : pls m ds = true) [Decidable (x ∈ ds)] (h1 : n ≤ 64 := by decide) (h2 : m + 1 ≤ 64 := by decide) : dNotIn x (.lst ds) = some (.bl (!decide (x ∈ ds))) := by
  unfold dNotIn inD
  dsimp only
  rw [shaped_of hx h1, shaped_of (n := m + 1) (d := .lst ds) (by rw [pl]; exact hd) h2, any_pl' hx hd]
  rfl
end
mutual
theorem pl_mono : ∀ {n m : Nat} {d : D}, pl n d = true → n ≤ m → pl m d = true
  | _, _, .non, _, _ => by unfold pl; rfl
  | _, _, .int i, _, _ => by unfold pl; rfl
  | _, _, .str x, h, _ => by unfold pl at h ⊢; exact h
  | n + 1, m + 1, .tup xs, h, l => by rw [pl] at h ⊢; exact pls_mono h (by omega)
  | n + 1, m + 1, .lst xs, h, l => by rw [pl] at h ⊢; exact pls_mono h (by omega)
  | _ + 1, 0, .tup xs, h, l => by omega
  | _ + 1, 0, .lst xs, h, l => by omega
  | 0, m, .tup xs, h, _ => by simp [pl] at h
  | 0, m, .lst xs, h, _ => by simp [pl] at h
  | n, _, .bl _, h, _ => by cases n <;> simp [pl] at h
  | n, _, .dic _, h, _ => by cases n <;> simp [pl] at h
  | n, _, .loc _, h, _ => by cases n <;> simp [pl] at h
  | n, _, .scr _, h, _ => by cases n <;> simp [pl] at h
  | n, _, .ty _, h, _ => by cases n <;> simp [pl] at h
  | n, _, .gl _, h, _ => by cases n <;> simp [pl] at h
  | n, _, .ins _ _, h, _ => by cases n <;> simp [pl] at h
theorem pls_mono : ∀ {n m : Nat} {xs : List D}, pls n xs = true → n ≤ m → pls m xs = true
  | _, _, [], _, _ => by unfold pls; rfl
  | n, m, x :: xs, h, l => by
    rw [pls, Bool.and_eq_true] at h ⊢
    exact ⟨pl_mono h.1 l, pls_mono h.2 l⟩
end
theorem imms_iff : ∀ {xs : List D}, D.imms xs = true ↔ ∀ x ∈ xs, x.imm = true
  | [] => by simp [D.imms]
  | x :: xs => by rw [D.imms, Bool.and_eq_true, imms_iff (xs := xs)]; simp
section
variable {i j : Int} {Q : D → Prop} {t : Tag2 Q Q}
theorem so_eqi : So (dEq (.int i) (.int j)) Q t = Q (.bl (decide (i = j))) := by rw [dEq_int]; rfl
theorem so_nei : So (dNe (.int i) (.int j)) Q t = Q (.bl (decide (i ≠ j))) := by rw [dNe_int]; rfl
end
/-! while, turn by turn -/
theorem while1 {O : List Nat} {tt : Tx} {b : Sx} {n : Nat} {ρ : En} {r : Rs} {N : En → Rs → Prop} {k : Ks} {t : Tag2 N k}
    (h : Wp ρ O (fun ρ' => Ev (tt ρ' r) (fun c r1 => Bif c (Sv (b ρ r1) (fun ρ2 r2 => Sv (whileGoF O tt b n ρ2 r2) N k t) ⟨fun ρ2 r2 => Sv (whileGoF O tt b n ρ2 r2) N k t, fun ρ2 r2 => N ρ2 r2, k.T, k.E⟩ .mk) (N ρ r1) .mk) (fun c fs r1 => k.E c fs ρ r1) .mk) .mk) : Sv (whileGoF O tt b (n + 1) ρ r) N k t := by
  unfold whileGoF
  rw [sv_evF]
  unfold Wp at *
  dsimp only at h ⊢
  revert h
  generalize tt (wipeE ρ O) r = o1
  cases o1 with
  | exc c fs r1 => exact fun h => h
  | bad => exact fun h => h
  | ok c r1 =>
    intro h
    cases c with
    | false => rw [ev_ok, bif_f] at h; exact h
    | true =>
      rw [ev_ok, bif_t] at h
      show Sv (match b ρ r1 with | .next ρ2 r2 => whileGoF O tt b n ρ2 r2 | .cont ρ2 r2 => whileGoF O tt b n ρ2 r2 | .brk ρ2 r2 => .next ρ2 r2 | o => o) N k t
      revert h
      generalize b ρ r1 = o
      intro h
      cases o <;> exact h
end ML

/-! MSig: a Signature is made; what its methods answer. -/
local macro_rules | `(tactic| trivial) => `(tactic| (try simp -dsimp only [↓ML.ev_ok, ↓ML.ev_exc, ↓ML.ev_bind, ↓ML.ev_var, ↓ML.ev_c, ↓ML.ev_op, ↓ML.ev_ix, ↓ML.ev_nop, ↓ML.ev_part, ↓ML.ev_sl, ↓ML.ev_tr, ↓ML.ev_b, ↓ML.ev_ch, ↓ML.ev_v, ↓ML.ev_and, ↓ML.ev_or, ↓ML.ev_not, ↓ML.ev_if, ↓ML.ev_tif, ↓ML.ev_andv, ↓ML.ev_orv, ↓ML.ev_notv, ↓ML.ev_neg, ↓ML.ev_nil, ↓ML.ev_cons, ↓ML.ev_tup, ↓ML.ev_lst, ↓ML.ev_lst', ↓ML.ev_cb, ↓ML.ev_call, ↓ML.ev_calld, ↓ML.ev_l, ↓ML.ev_d, ↓ML.ev_listn, ↓ML.ev_items, ↓ML.ev_rng1, ↓ML.ev_rng2, ↓ML.ev_lc, ↓ML.ev_lc2, ↓ML.ev_dget, ↓ML.ev_dget1, ↓ML.ev_dget2, ↓ML.ev_din, ↓ML.ev_kd, ↓ML.ev_dnew, ↓ML.ev_yes, ↓ML.ev_dcopy, ↓ML.ev_ps0, ↓ML.ev_ps1, ↓ML.ev_disp, ↓ML.ev_res, ↓ML.ev_resd, ↓ML.ev_fld, ↓ML.ev_con, ↓ML.ev_meth, ↓ML.ev_prop, ↓ML.ev_newf, ↓ML.ev_newr, ↓ML.ev_calln, ↓ML.ev_callnd, ↓ML.ev_sort, ↓ML.ev_join, ↓ML.ev_dc, ↓ML.sv_next, ↓ML.sv_brk, ↓ML.sv_cont, ↓ML.sv_ret, ↓ML.sv_exc, ↓ML.sv_seq, ↓ML.sv_nx, ↓ML.sv_bk, ↓ML.sv_ct, ↓ML.sv_evF, ↓ML.sv_evI, ↓ML.sv_store, ↓ML.sv_asg, ↓ML.sv_asgI, ↓ML.sv_own, ↓ML.sv_ownD, ↓ML.sv_asgN, ↓ML.sv_asgD, ↓ML.sv_asgNI, ↓ML.sv_exp, ↓ML.sv_sret, ↓ML.sv_sretI, ↓ML.sv_sretN, ↓ML.sv_sretD, ↓ML.sv_sretNI, ↓ML.sv_sretO, ↓ML.sv_sretOD, ↓ML.sv_retn, ↓ML.sv_move, ↓ML.sv_give, ↓ML.sv_isL, ↓ML.sv_isD, ↓ML.sv_kApp, ↓ML.sv_app, ↓ML.sv_appI, ↓ML.sv_kIns, ↓ML.sv_ins, ↓ML.sv_insI, ↓ML.sv_extN, ↓ML.sv_extI, ↓ML.sv_ext, ↓ML.sv_if, ↓ML.sv_ifF, ↓ML.sv_for, ↓ML.sv_forR1I, ↓ML.sv_aug, ↓ML.sv_par, ↓ML.sv_raise, ↓ML.sv_frz, ↓ML.sv_pop, ↓ML.sv_kSetO, ↓ML.sv_setO, ↓ML.sv_kDPut, ↓ML.sv_dput, ↓ML.bif_t, ↓ML.bif_f, ↓ML.bif_nt, ↓ML.bif_nf, ↓ML.bif_sn, ↓ML.bif_ss, ↓ML.so_some, ↓ML.sop_some, ↓ML.ck_true, ↓ML.ck_tt, ↓ML.ck_eq, ↓ML.ck_len0, ↓ML.ck_len1, ↓ML.ck_len2, ↓ML.ck_len3, ↓ML.ck_len4, ↓ML.ck_len5, ↓ML.ck_len6, ↓ML.ck_len7, ↓ML.ck_len8, ↓ML.ck_len9, ↓ML.ck_len10, ↓ML.ck_len11, ↓ML.ck_len12, ↓ML.ck_len13, ↓ML.ck_len14, ↓ML.ck_len15, ↓ML.ck_len16, ↓ML.ck_lt0, ↓ML.ck_15_0, ↓ML.ck_lt1, ↓ML.ck_15_1, ↓ML.ck_lt2, ↓ML.ck_15_2, ↓ML.ck_lt3, ↓ML.ck_15_3, ↓ML.ck_lt4, ↓ML.ck_15_4, ↓ML.ck_lt5, ↓ML.ck_15_5, ↓ML.ck_lt6, ↓ML.ck_15_6, ↓ML.ck_lt7, ↓ML.ck_15_7, ↓ML.ck_lt8, ↓ML.ck_15_8, ↓ML.ck_lt9, ↓ML.ck_15_9, ↓ML.ck_lt10, ↓ML.ck_15_10, ↓ML.ck_lt11, ↓ML.ck_15_11, ↓ML.get_0, ↓ML.set_0, ↓ML.setn_0, ↓ML.get_1, ↓ML.set_1, ↓ML.setn_1, ↓ML.get_2, ↓ML.set_2, ↓ML.setn_2, ↓ML.get_3, ↓ML.set_3, ↓ML.setn_3, ↓ML.get_4, ↓ML.set_4, ↓ML.setn_4, ↓ML.get_5, ↓ML.set_5, ↓ML.setn_5, ↓ML.get_6, ↓ML.set_6, ↓ML.setn_6, ↓ML.get_7, ↓ML.set_7, ↓ML.setn_7, ↓ML.get_8, ↓ML.set_8, ↓ML.setn_8, ↓ML.get_9, ↓ML.set_9, ↓ML.setn_9, ↓ML.get_10, ↓ML.set_10, ↓ML.setn_10, ↓ML.get_11, ↓ML.set_11, ↓ML.setn_11, ↓ML.get_12, ↓ML.set_12, ↓ML.setn_12, ↓ML.get_13, ↓ML.set_13, ↓ML.setn_13, ↓ML.get_14, ↓ML.set_14, ↓ML.setn_14, ↓ML.get_15, ↓ML.set_15, ↓ML.setn_15, ↓ML.get_16, ↓ML.set_16, ↓ML.setn_16, ↓ML.get_17, ↓ML.set_17, ↓ML.setn_17, ↓ML.get_18, ↓ML.set_18, ↓ML.setn_18, ↓ML.get_19, ↓ML.set_19, ↓ML.setn_19, ↓ML.get_20, ↓ML.set_20, ↓ML.setn_20, ↓ML.get_21, ↓ML.set_21, ↓ML.setn_21, ↓ML.get_22, ↓ML.set_22, ↓ML.setn_22, ↓ML.get_23, ↓ML.set_23, ↓ML.setn_23, ↓ML.get_24, ↓ML.set_24, ↓ML.setn_24, ↓ML.get_25, ↓ML.set_25, ↓ML.setn_25, ↓ML.get_26, ↓ML.set_26, ↓ML.setn_26, ↓ML.get_27, ↓ML.set_27, ↓ML.setn_27, ↓ML.get_28, ↓ML.set_28, ↓ML.setn_28, ↓ML.get_29, ↓ML.set_29, ↓ML.setn_29, ↓ML.get_30, ↓ML.set_30, ↓ML.setn_30, ↓ML.get_31, ↓ML.set_31, ↓ML.setn_31, ↓ML.get_32, ↓ML.set_32, ↓ML.setn_32, ↓ML.get_33, ↓ML.set_33, ↓ML.setn_33, ↓ML.get_34, ↓ML.set_34, ↓ML.setn_34, ↓ML.get_35, ↓ML.set_35, ↓ML.setn_35, ↓ML.get_36, ↓ML.set_36, ↓ML.setn_36, ↓ML.get_37, ↓ML.set_37, ↓ML.setn_37, ↓ML.get_38, ↓ML.set_38, ↓ML.setn_38, ↓ML.get_39, ↓ML.set_39, ↓ML.setn_39, ↓ML.get_40, ↓ML.set_40, ↓ML.setn_40, ↓ML.get_41, ↓ML.set_41, ↓ML.setn_41, ↓ML.get_42, ↓ML.set_42, ↓ML.setn_42, ↓ML.get_43, ↓ML.set_43, ↓ML.setn_43, ↓ML.get_44, ↓ML.set_44, ↓ML.setn_44, ↓ML.get_45, ↓ML.set_45, ↓ML.setn_45, ↓ML.get_46, ↓ML.set_46, ↓ML.setn_46, ↓ML.get_47, ↓ML.set_47, ↓ML.setn_47, ↓ML.wp_nil, ↓ML.wp_cons, ↓ML.ver_self, ↓ML.tgt_nm, ↓ML.tgt_tup1, ↓ML.tgt_lst1, ↓ML.tgt_tup2, ↓ML.tgt_lst2, ↓ML.tgt_tup3, ↓ML.tgt_lst3, ↓ML.tgt_tup4, ↓ML.tgt_lst4, ↓ML.tgt_tup5, ↓ML.tgt_lst5, ↓ML.tgt_tup6, ↓ML.tgt_lst6, ↓ML.tgts_nil, ↓ML.tgts_cons, ↓ML.as_l, ↓ML.as_d, ↓ML.as_b, ↓ML.as_i, ↓ML.as_s, ↓ML.as_1, ↓ML.as_2, ↓ML.imm_int, ↓ML.imm_str, ↓ML.imm_bl, ↓ML.imm_non, ↓ML.imm_loc, ↓ML.imm_tup, ↓ML.imms_nil, ↓ML.imms_cons, ↓ML.so_add, ↓ML.so_sub, ↓ML.so_lt, ↓ML.so_le, ↓ML.so_gt, ↓ML.so_ge, ↓ML.so_if, ↓ML.so_mul, ↓ML.so_mod, ↓ML.so_div, ↓ML.so_addT, ↓ML.so_addL, ↓ML.so_addS, ↓ML.so_ixL, ↓ML.so_ixT, ↓ML.so_slL, ↓ML.so_slT, ↓ML.so_len1, ↓ML.so_len2, ↓ML.so_len3, ↓ML.so_len4, ↓ML.so_len5, ↓ML.so_abs, ↓ML.so_int, ↓ML.so_intb, ↓ML.so_list1, ↓ML.so_list2, ↓ML.so_tuple1, ↓ML.so_tuple2, ↓ML.so_max2, ↓ML.so_min2, ↓ML.so_str, ↓ML.so_isL, ↓ML.so_isT, ↓ML.so_isN, ↓ML.so_isnN, ↓ML.so_isb, ↓ML.so_isnb, ↓ML.so_listn1, ↓ML.so_listn2, ↓ML.so_it1, ↓ML.so_it2, ↓ML.tr_b, ↓ML.tr_i, ↓ML.tr_l, ↓ML.tr_t, ↓ML.tr_n, ↓ML.keyof_s, ↓ML.keyof_i, ↓ML.fld_ins, ↓ML.ins_ins, ↓ML.soix_0, ↓ML.soix_1, ↓ML.soix_2, ↓ML.soix_3, ↓ML.soix_4, ↓ML.soix_5, ↓ML.soix_6, ↓ML.soix_7, ↓ML.as_loc, ↓ML.ev_appR, ↓ML.sv_setR, ↓ML.sv_kSetR, ↓ML.sv_dsetR, ↓ML.sv_kDSetR, ↓ML.so_ixR, ↓ML.so_ixs, ↓ML.at_0, ↓ML.at_1, ↓ML.at_2, ↓ML.at_3, ↓ML.grl_0, ↓ML.grd_0, ↓ML.lenl_0, ↓ML.lend_0, ↓ML.sro_0, ↓ML.grl_1, ↓ML.grd_1, ↓ML.lenl_1, ↓ML.lend_1, ↓ML.sro_1, ↓ML.grl_2, ↓ML.grd_2, ↓ML.lenl_2, ↓ML.lend_2, ↓ML.sro_2, ↓ML.grl_3, ↓ML.grd_3, ↓ML.lenl_3, ↓ML.lend_3, ↓ML.sro_3, ↓ML.sv_for0, ↓ML.sv_for1]))
namespace MS
open PySem L2 DL ML Law
/-! things made last -/
theorem len1 {R : Rs} {o : RO} : (R ++ [o]).length = R.length + 1 := by simp
theorem app2 {R : Rs} {o p : RO} : (R ++ [o]) ++ [p] = R ++ [o, p] := by simp
theorem get_top {R : Rs} {o : RO} {l : Rs} : (R ++ o :: l)[R.length]? = some o := by simp
theorem get_top1 {R : Rs} {o p : RO} {l : Rs} : (R ++ o :: p :: l)[R.length + 1]? = some p := by
  rw [List.getElem?_append_right (by omega)]; simp
theorem set_top {R : Rs} {o x : RO} {l : Rs} : (R ++ o :: l).set R.length x = R ++ x :: l := by simp
theorem set_top1 {R : Rs} {o p x : RO} {l : Rs} : (R ++ o :: p :: l).set (R.length + 1) x = R ++ o :: x :: l := by
  rw [List.set_append_right _ _ (by omega)]; simp
section
variable {N : En → Rs → Prop} {k : Ks} {t : Tag2 N k} {ρ : En} {r R l : Rs} {f g : Ex} {O : List Nat} {c i j : Nat} {fs : List D} {v : D}
theorem sv_setF : Sv (sSetF O c i f g ρ r) N k t = Wp ρ O (fun ρ' => Ev (g ρ' r) (fun v r1 => Ev (f ρ' r1) (fun o r2 => Sv (kSetF c i v o ρ r2) N k t) (fun c fs r1 => k.E c fs ρ r1) .mk) (fun c fs r1 => k.E c fs ρ r1) .mk) .mk := by
  unfold sSetF; rw [sv_evF]; unfold Wp; refine ev_congr (t' := .mk) fun v r1 => ?_; rw [sv_evF]; rfl
theorem sv_kSetF : Sv (kSetF c i v (.loc R.length) ρ (R ++ .obj j c fs :: l)) N k t = So (putI i v fs) (fun fs' => N ρ (R ++ .obj (j + 1) c fs' :: l)) .mk := by
  unfold kSetF
  simp only [get_top, if_true]
  cases putI i v fs with
  | none => rfl
  | some fs' => simp only [set_top]; rfl
theorem so_fldT {Q : D → Prop} {t : Tag2 Q Q} : So (fldD (R ++ .obj j c fs :: l) c i (.loc R.length)) Q t = So fs[i]? Q .mk := by
  unfold fldD insOf
  simp only [get_top, if_true]
  rfl
theorem so_lenT {Q : D → Prop} {t : Tag2 Q Q} {o : RO} {kds : List (Key × D)} : So (cLen (R ++ o :: .dic kds :: l) [.loc (R.length + 1)]) Q t = Q (.int kds.length) := by
  unfold cLen
  simp only [get_top1]
  rfl
theorem grd_T {Q : List (Key × D) → Prop} {t : Tag2 Q Q} {o : RO} {kds : List (Key × D)} : GetRD (R ++ o :: .dic kds :: l) (R.length + 1) Q t = Q kds := by
  unfold GetRD
  rw [get_top1]
theorem sro_T {Q : Rs → Prop} {t : Tag2 Q Q} {o p x : RO} : SetRo (R ++ o :: p :: l) (R.length + 1) x Q t = Q (R ++ o :: x :: l) := by
  unfold SetRo
  rw [set_top1]
theorem dget_T {o : RO} {kds : List (Key × D)} {x : Str} {Q : Option D → Prop} {t : Tag2 Q Q} : So (dGet (R ++ o :: .dic kds :: l) (.loc (R.length + 1)) (.str x)) Q t = Q (getK kds (.inr x)) := by
  unfold dGet dicR
  dsimp only
  rw [get_top1]
  rfl
end
local macro_rules | `(tactic| trivial) => `(tactic| (try simp -dsimp only [↓ML.ev_ok, ↓ML.ev_exc, ↓ML.ev_bind, ↓ML.ev_var, ↓ML.ev_c, ↓ML.ev_op, ↓ML.ev_ix, ↓ML.ev_nop, ↓ML.ev_part, ↓ML.ev_sl, ↓ML.ev_tr, ↓ML.ev_b, ↓ML.ev_ch, ↓ML.ev_v, ↓ML.ev_and, ↓ML.ev_or, ↓ML.ev_not, ↓ML.ev_if, ↓ML.ev_tif, ↓ML.ev_andv, ↓ML.ev_orv, ↓ML.ev_notv, ↓ML.ev_neg, ↓ML.ev_nil, ↓ML.ev_cons, ↓ML.ev_tup, ↓ML.ev_lst, ↓ML.ev_lst', ↓ML.ev_cb, ↓ML.ev_call, ↓ML.ev_calld, ↓ML.ev_l, ↓ML.ev_d, ↓ML.ev_listn, ↓ML.ev_items, ↓ML.ev_rng1, ↓ML.ev_rng2, ↓ML.ev_lc, ↓ML.ev_lc2, ↓ML.ev_dget, ↓ML.ev_dget1, ↓ML.ev_dget2, ↓ML.ev_din, ↓ML.ev_kd, ↓ML.ev_dnew, ↓ML.ev_yes, ↓ML.ev_dcopy, ↓ML.ev_ps0, ↓ML.ev_ps1, ↓ML.ev_disp, ↓ML.ev_res, ↓ML.ev_resd, ↓ML.ev_fld, ↓ML.ev_con, ↓ML.ev_meth, ↓ML.ev_prop, ↓ML.ev_newf, ↓ML.ev_newr, ↓ML.ev_calln, ↓ML.ev_callnd, ↓ML.ev_sort, ↓ML.ev_join, ↓ML.ev_dc, ↓ML.sv_next, ↓ML.sv_brk, ↓ML.sv_cont, ↓ML.sv_ret, ↓ML.sv_exc, ↓ML.sv_seq, ↓ML.sv_nx, ↓ML.sv_bk, ↓ML.sv_ct, ↓ML.sv_evF, ↓ML.sv_evI, ↓ML.sv_store, ↓ML.sv_asg, ↓ML.sv_asgI, ↓ML.sv_own, ↓ML.sv_ownD, ↓ML.sv_asgN, ↓ML.sv_asgD, ↓ML.sv_asgNI, ↓ML.sv_exp, ↓ML.sv_sret, ↓ML.sv_sretI, ↓ML.sv_sretN, ↓ML.sv_sretD, ↓ML.sv_sretNI, ↓ML.sv_sretO, ↓ML.sv_sretOD, ↓ML.sv_retn, ↓ML.sv_move, ↓ML.sv_give, ↓ML.sv_isL, ↓ML.sv_isD, ↓ML.sv_kApp, ↓ML.sv_app, ↓ML.sv_appI, ↓ML.sv_kIns, ↓ML.sv_ins, ↓ML.sv_insI, ↓ML.sv_extN, ↓ML.sv_extI, ↓ML.sv_ext, ↓ML.sv_if, ↓ML.sv_ifF, ↓ML.sv_for, ↓ML.sv_forR1I, ↓ML.sv_aug, ↓ML.sv_par, ↓ML.sv_raise, ↓ML.sv_frz, ↓ML.sv_pop, ↓ML.sv_kSetO, ↓ML.sv_setO, ↓ML.sv_kDPut, ↓ML.sv_dput, ↓ML.bif_t, ↓ML.bif_f, ↓ML.bif_nt, ↓ML.bif_nf, ↓ML.bif_sn, ↓ML.bif_ss, ↓ML.so_some, ↓ML.sop_some, ↓ML.ck_true, ↓ML.ck_tt, ↓ML.ck_eq, ↓ML.ck_len0, ↓ML.ck_len1, ↓ML.ck_len2, ↓ML.ck_len3, ↓ML.ck_len4, ↓ML.ck_len5, ↓ML.ck_len6, ↓ML.ck_len7, ↓ML.ck_len8, ↓ML.ck_len9, ↓ML.ck_len10, ↓ML.ck_len11, ↓ML.ck_len12, ↓ML.ck_len13, ↓ML.ck_len14, ↓ML.ck_len15, ↓ML.ck_len16, ↓ML.ck_lt0, ↓ML.ck_15_0, ↓ML.ck_lt1, ↓ML.ck_15_1, ↓ML.ck_lt2, ↓ML.ck_15_2, ↓ML.ck_lt3, ↓ML.ck_15_3, ↓ML.ck_lt4, ↓ML.ck_15_4, ↓ML.ck_lt5, ↓ML.ck_15_5, ↓ML.ck_lt6, ↓ML.ck_15_6, ↓ML.ck_lt7, ↓ML.ck_15_7, ↓ML.ck_lt8, ↓ML.ck_15_8, ↓ML.ck_lt9, ↓ML.ck_15_9, ↓ML.ck_lt10, ↓ML.ck_15_10, ↓ML.ck_lt11, ↓ML.ck_15_11, ↓ML.get_0, ↓ML.set_0, ↓ML.setn_0, ↓ML.get_1, ↓ML.set_1, ↓ML.setn_1, ↓ML.get_2, ↓ML.set_2, ↓ML.setn_2, ↓ML.get_3, ↓ML.set_3, ↓ML.setn_3, ↓ML.get_4, ↓ML.set_4, ↓ML.setn_4, ↓ML.get_5, ↓ML.set_5, ↓ML.setn_5, ↓ML.get_6, ↓ML.set_6, ↓ML.setn_6, ↓ML.get_7, ↓ML.set_7, ↓ML.setn_7, ↓ML.get_8, ↓ML.set_8, ↓ML.setn_8, ↓ML.get_9, ↓ML.set_9, ↓ML.setn_9, ↓ML.get_10, ↓ML.set_10, ↓ML.setn_10, ↓ML.get_11, ↓ML.set_11, ↓ML.setn_11, ↓ML.get_12, ↓ML.set_12, ↓ML.setn_12, ↓ML.get_13, ↓ML.set_13, ↓ML.setn_13, ↓ML.get_14, ↓ML.set_14, ↓ML.setn_14, ↓ML.get_15, ↓ML.set_15, ↓ML.setn_15, ↓ML.get_16, ↓ML.set_16, ↓ML.setn_16, ↓ML.get_17, ↓ML.set_17, ↓ML.setn_17, ↓ML.get_18, ↓ML.set_18, ↓ML.setn_18, ↓ML.get_19, ↓ML.set_19, ↓ML.setn_19, ↓ML.get_20, ↓ML.set_20, ↓ML.setn_20, ↓ML.get_21, ↓ML.set_21, ↓ML.setn_21, ↓ML.get_22, ↓ML.set_22, ↓ML.setn_22, ↓ML.get_23, ↓ML.set_23, ↓ML.setn_23, ↓ML.get_24, ↓ML.set_24, ↓ML.setn_24, ↓ML.get_25, ↓ML.set_25, ↓ML.setn_25, ↓ML.get_26, ↓ML.set_26, ↓ML.setn_26, ↓ML.get_27, ↓ML.set_27, ↓ML.setn_27, ↓ML.get_28, ↓ML.set_28, ↓ML.setn_28, ↓ML.get_29, ↓ML.set_29, ↓ML.setn_29, ↓ML.get_30, ↓ML.set_30, ↓ML.setn_30, ↓ML.get_31, ↓ML.set_31, ↓ML.setn_31, ↓ML.get_32, ↓ML.set_32, ↓ML.setn_32, ↓ML.get_33, ↓ML.set_33, ↓ML.setn_33, ↓ML.get_34, ↓ML.set_34, ↓ML.setn_34, ↓ML.get_35, ↓ML.set_35, ↓ML.setn_35, ↓ML.get_36, ↓ML.set_36, ↓ML.setn_36, ↓ML.get_37, ↓ML.set_37, ↓ML.setn_37, ↓ML.get_38, ↓ML.set_38, ↓ML.setn_38, ↓ML.get_39, ↓ML.set_39, ↓ML.setn_39, ↓ML.get_40, ↓ML.set_40, ↓ML.setn_40, ↓ML.get_41, ↓ML.set_41, ↓ML.setn_41, ↓ML.get_42, ↓ML.set_42, ↓ML.setn_42, ↓ML.get_43, ↓ML.set_43, ↓ML.setn_43, ↓ML.get_44, ↓ML.set_44, ↓ML.setn_44, ↓ML.get_45, ↓ML.set_45, ↓ML.setn_45, ↓ML.get_46, ↓ML.set_46, ↓ML.setn_46, ↓ML.get_47, ↓ML.set_47, ↓ML.setn_47, ↓ML.wp_nil, ↓ML.wp_cons, ↓ML.ver_self, ↓ML.tgt_nm, ↓ML.tgt_tup1, ↓ML.tgt_lst1, ↓ML.tgt_tup2, ↓ML.tgt_lst2, ↓ML.tgt_tup3, ↓ML.tgt_lst3, ↓ML.tgt_tup4, ↓ML.tgt_lst4, ↓ML.tgt_tup5, ↓ML.tgt_lst5, ↓ML.tgt_tup6, ↓ML.tgt_lst6, ↓ML.tgts_nil, ↓ML.tgts_cons, ↓ML.as_l, ↓ML.as_d, ↓ML.as_b, ↓ML.as_i, ↓ML.as_s, ↓ML.as_1, ↓ML.as_2, ↓ML.imm_int, ↓ML.imm_str, ↓ML.imm_bl, ↓ML.imm_non, ↓ML.imm_loc, ↓ML.imm_tup, ↓ML.imms_nil, ↓ML.imms_cons, ↓ML.so_add, ↓ML.so_sub, ↓ML.so_lt, ↓ML.so_le, ↓ML.so_gt, ↓ML.so_ge, ↓ML.so_if, ↓ML.so_mul, ↓ML.so_mod, ↓ML.so_div, ↓ML.so_addT, ↓ML.so_addL, ↓ML.so_addS, ↓ML.so_ixL, ↓ML.so_ixT, ↓ML.so_slL, ↓ML.so_slT, ↓ML.so_len1, ↓ML.so_len2, ↓ML.so_len3, ↓ML.so_len4, ↓ML.so_len5, ↓ML.so_abs, ↓ML.so_int, ↓ML.so_intb, ↓ML.so_list1, ↓ML.so_list2, ↓ML.so_tuple1, ↓ML.so_tuple2, ↓ML.so_max2, ↓ML.so_min2, ↓ML.so_str, ↓ML.so_isL, ↓ML.so_isT, ↓ML.so_isN, ↓ML.so_isnN, ↓ML.so_isb, ↓ML.so_isnb, ↓ML.so_listn1, ↓ML.so_listn2, ↓ML.so_it1, ↓ML.so_it2, ↓ML.tr_b, ↓ML.tr_i, ↓ML.tr_l, ↓ML.tr_t, ↓ML.tr_n, ↓ML.keyof_s, ↓ML.keyof_i, ↓ML.fld_ins, ↓ML.ins_ins, ↓ML.soix_0, ↓ML.soix_1, ↓ML.soix_2, ↓ML.soix_3, ↓ML.soix_4, ↓ML.soix_5, ↓ML.soix_6, ↓ML.soix_7, ↓ML.as_loc, ↓ML.ev_appR, ↓ML.sv_setR, ↓ML.sv_kSetR, ↓ML.sv_dsetR, ↓ML.sv_kDSetR, ↓ML.so_ixR, ↓ML.so_ixs, ↓ML.at_0, ↓ML.at_1, ↓ML.at_2, ↓ML.at_3, ↓ML.grl_0, ↓ML.grd_0, ↓ML.lenl_0, ↓ML.lend_0, ↓ML.sro_0, ↓ML.grl_1, ↓ML.grd_1, ↓ML.lenl_1, ↓ML.lend_1, ↓ML.sro_1, ↓ML.grl_2, ↓ML.grd_2, ↓ML.lenl_2, ↓ML.lend_2, ↓ML.sro_2, ↓ML.grl_3, ↓ML.grd_3, ↓ML.lenl_3, ↓ML.lend_3, ↓ML.sro_3, ↓ML.sv_for0, ↓ML.sv_for1, ↓sv_setF, ↓sv_kSetF, ↓so_fldT, ↓so_lenT, ↓grd_T, ↓sro_T, ↓dget_T, k_MOST_ARGUMENTS, List.length_map]))
theorem lc_map {X : Type} {enc : X → D} {tg : Tg} {f : Ex} {ρ : En} {r : Rs} (g : X → D) {xs : List X} (h : ∀ x ∈ xs, Tgt tg (enc x) ρ (fun ρ1 => Ev (f ρ1 r) (fun d r2 => d = g x ∧ r2 = r) (fun _ _ _ => False) .mk) .mk) :
    lcGo tg xYes f ρ (xs.map enc) r = some (xs.map g, r) := by
  have := lc_pure (enc := enc) (tg := tg) (tt := xYes) (f := f) (ρ := ρ) (r := r) (fun _ => true) g (xs := xs) fun x m => tgt_mono (h x m) fun ρ1 q => ⟨rfl, rfl, fun _ => q⟩
  rw [this, List.filter_eq_self.mpr fun _ _ => rfl]
/-- a name with its arity -/
abbrev NA := Str × Int
def dP (p : NA) : D := .tup [.str p.1, .int p.2]
def kP (p : NA) : Key × D := (.inr p.1, .int p.2)
theorem imm_dP (p : NA) : (dP p).imm = true := rfl
theorem getK_kP {x : Str} : ∀ {ps : List NA}, x ∉ ps.map Prod.fst → getK (ps.map kP) (.inr x) = none
  | [], _ => rfl
  | p :: ps, h => by
    rw [List.map_cons, List.mem_cons, not_or] at h
    have ih := getK_kP (ps := ps) h.2
    unfold getK at ih ⊢
    rw [List.map_cons, List.find?_cons_of_neg]
    · exact ih
    · show ¬ decide ((Sum.inr p.1 : Key) = Sum.inr x) = true
      rw [decide_eq_true_eq]
      intro z
      exact h.1 (Sum.inr.inj z).symm
theorem setK_kP {p : NA} {ps : List NA} (h : p.1 ∉ ps.map Prod.fst) : setK (ps.map kP) (.inr p.1) (.int p.2) = (ps ++ [p]).map kP := by
  unfold setK
  rw [if_neg, List.map_append]
  · rfl
  · intro z
    rw [List.any_map, List.any_eq_true] at z
    obtain ⟨q, hq, e⟩ := z
    have e : decide ((Sum.inr q.1 : Key) = Sum.inr p.1) = true := e
    rw [decide_eq_true_eq] at e
    exact h (List.mem_map.mpr ⟨q, hq, Sum.inr.inj e⟩)
/-- a signature that is made without an error -/
structure SigOk (C : Nat → List D → Rs → Out D) (fns rels : List NA) : Prop where
  small : ∀ p ∈ fns, ∀ r, C 313 [.str p.1] r = .ok (.bl true) r
  cap : ∀ p ∈ rels, ∀ r, C 312 [.str p.1] r = .ok (.bl true) r
  ar : ∀ p ∈ fns ++ rels, 0 ≤ p.2 ∧ p.2 ≤ 3
  nd : ((fns ++ rels).map Prod.fst).Nodup
  len : (fns ++ rels).length ≤ 1000
theorem init_ev {fuel : Nat} {C : Nat → List D → Rs → Out D} {fns rels : List NA} {A B : D} (hA : items A = some (fns.map dP)) (hB : items B = some (rels.map dP)) (h : SigOk C fns rels) (R : Rs) {Q : D → Rs → Prop} {E : Nat → List (Str × Int) → Rs → Prop} {t : Tag2 Q E}
    (H : Q .non (R ++ [.obj 3 13 [.tup (fns.map dP), .tup (rels.map dP), .loc (R.length + 1)], .dic ((fns ++ rels).map kP)])) :
    Ev (runF 6 (b_books_Signature___init__ fuel C) [.loc R.length, A, B] (R ++ [.obj 0 13 []])) Q E t := by
  have hl := h.len
  rw [List.length_append] at hl
  have hlim : lim = 1000000 := rfl
  rw [ev_run]
  unfold b_books_Signature___init__
  show Sv (sSeq _ _ [some (.loc R.length), some A, some B, none, none, none] _) _ _ _
  trivial
  refine so_i hA ?_
  trivial
  refine sop_i (lc_map (enc := dP) dP (xs := fns) ?_) ?_
  · rintro ⟨x, a⟩ _
    unfold dP
    trivial
    exact ⟨trivial, trivial⟩
  trivial
  refine ck_i (by omega) ?_
  trivial
  refine so_i (a := [_]) rfl ?_
  trivial
  refine so_i hB ?_
  trivial
  refine sop_i (lc_map (enc := dP) dP (xs := rels) ?_) ?_
  · rintro ⟨x, a⟩ _
    unfold dP
    trivial
    exact ⟨trivial, trivial⟩
  trivial
  refine ck_i (by omega) ?_
  trivial
  refine so_i (a := [_, _]) rfl ?_
  trivial
  refine ck_i rfl ?_
  trivial
  rw [len1, app2]
  trivial
  refine so_i (a := [_, _, _]) rfl ?_
  trivial
  refine ck_i (by omega) ?_
  trivial
  rw [← List.map_append]
  refine sv_forX (enc := dP) (fns ++ rels) (fun done ρ r => ∃ y3 y4 y5, ρ = [some (.loc R.length), some A, some B, y3, y4, y5] ∧ r = R ++ [.obj 3 13 [.tup (fns.map dP), .tup (rels.map dP), .loc (R.length + 1)], .dic (done.map kP)]) ⟨_, _, _, rfl, rfl⟩ ?_ ?_
  · rintro done ⟨x, a⟩ rest e ρ r ⟨y3, y4, y5, rfl, rfl⟩
    have hm : (x, a) ∈ fns ++ rels := by rw [e]; simp
    have hx : x ∉ done.map Prod.fst := by
      have nd := h.nd
      rw [e, List.map_append, List.map_cons] at nd
      intro z
      exact (List.nodup_append.mp nd).2.2 _ z _ List.mem_cons_self rfl
    obtain ⟨a0, a3⟩ : 0 ≤ a ∧ a ≤ 3 := h.ar _ hm
    have hdl : done.length < 1000 := by
      have := congrArg List.length e
      simp at this
      omega
    have hc : C (if done.length < fns.length then 313 else 312) [.str x] (R ++ [.obj 3 13 [.tup (fns.map dP), .tup (rels.map dP), .loc (R.length + 1)], .dic (done.map kP)]) = .ok (.bl true) (R ++ [.obj 3 13 [.tup (fns.map dP), .tup (rels.map dP), .loc (R.length + 1)], .dic (done.map kP)]) := by
      have hg : (fns ++ rels)[done.length]? = some (x, a) := by rw [e]; simp
      by_cases c : done.length < fns.length
      · rw [if_pos c]
        rw [List.getElem?_append_left c] at hg
        exact h.small _ (List.mem_iff_getElem?.mpr ⟨_, hg⟩) _
      · rw [if_neg c]
        rw [List.getElem?_append_right (by omega)] at hg
        exact h.cap _ (List.mem_iff_getElem?.mpr ⟨_, hg⟩) _
    show Tgt _ (.tup [.str x, .int a]) _ _ _
    trivial
    rw [getK_kP hx]
    trivial
    trivial
    refine bif_d (fun c => ?_) (fun c => ?_)
    · rw [if_pos (by omega)] at hc
      trivial
      refine ev_i hc ?_
      trivial
      rw [decide_eq_true a0]
      trivial
      rw [decide_eq_true a3]
      trivial
      refine ck_i (by rw [Bool.and_eq_true, decide_eq_true_eq]; exact ⟨rfl, by omega⟩) ?_
      trivial
      refine ⟨_, _, _, rfl, ?_⟩
      rw [setK_kP (p := (x, a)) hx]
    · rw [if_neg (by omega)] at hc
      trivial
      refine ev_i hc ?_
      trivial
      rw [decide_eq_true a0]
      trivial
      rw [decide_eq_true a3]
      trivial
      refine ck_i (by rw [Bool.and_eq_true, decide_eq_true_eq]; exact ⟨rfl, by omega⟩) ?_
      trivial
      refine ⟨_, _, _, rfl, ?_⟩
      rw [setK_kP (p := (x, a)) hx]
  · rintro ρ r ⟨y3, y4, y5, rfl, rfl⟩
    exact H
/-- the things below -/
def Blw (R : Rs) : Prop := (R.all (·.blw R.length)) = true
theorem blws_dP (L : Nat) : ∀ ps : List NA, D.blws L (ps.map dP) = true
  | [] => rfl
  | p :: ps => by rw [List.map_cons, D.blws, blws_dP L ps]; rfl
theorem blwk_kP (L : Nat) : ∀ ps : List NA, D.blwk L (ps.map kP) = true
  | [] => rfl
  | p :: ps => by rw [List.map_cons]; show (D.blw L (.int p.2) && D.blwk L (ps.map kP)) = true; rw [blwk_kP L ps]; rfl
/-- a signature, as a value -/
def sigD (fns rels : List NA) : D := .ins 13 [.tup (fns.map dP), .tup (rels.map dP), .dic ((fns ++ rels).map kP)]
theorem newSig_ev {fuel : Nat} {LW : (Nat → List D → Rs → Out D) → Nat → List D → Rs → Out D} {n : Nat} {fns rels : List NA} {A B : D} (hA : items A = some (fns.map dP)) (hB : items B = some (rels.map dP)) (h : SigOk (prP fuel LW n) fns rels) {R : Rs} (hR : Blw R) {Q : D → Rs → Prop} {E : Nat → List (Str × Int) → Rs → Prop} {t : Tag2 Q E}
    (H : Q (sigD fns rels) R) : Ev (kNewF R.length (prP fuel LW (n + 1) 126 [.loc R.length, A, B] (R ++ [.obj 0 13 []]))) Q E t := by
  rw [e_books_Signature___init__]
  obtain ⟨d, r, e, hd, hr⟩ := ev_ex (init_ev (fuel := fuel) hA hB h R (Q := fun d r => d = .non ∧ r = R ++ [.obj 3 13 [.tup (fns.map dP), .tup (rels.map dP), .loc (R.length + 1)], .dic ((fns ++ rels).map kP)]) ⟨rfl, rfl⟩)
  rw [e]
  subst hd hr
  refine ev_i ?_ H
  have tk : (R ++ [RO.obj 3 13 [.tup (fns.map dP), .tup (rels.map dP), .loc (R.length + 1)], RO.dic ((fns ++ rels).map kP)]).take R.length = R := by simp
  show frzO _ _ = _
  unfold frzO popOk
  have hR' : (R.all fun x => x.blw R.length) = true := hR
  rw [tk, if_pos hR', get_top]
  simp only [frzs, frzD, D.blw, blws_dP, if_true, Option.bind_some, Option.map_some]
  rw [if_neg (by omega), get_top1]
  simp only [blwk_kP, if_true, Option.bind_some, Option.map_some]
  rfl
section
variable {fns rels : List NA} {r : Rs} {Q : D → Prop} {t : Tag2 Q Q}
theorem ins_sig {Q : Nat × List D → Prop} {t : Tag2 Q Q} : So (insOf r (sigD fns rels)) Q t = Q (13, [.tup (fns.map dP), .tup (rels.map dP), .dic ((fns ++ rels).map kP)]) := rfl
theorem fld_sig0 : So (fldD r 13 0 (sigD fns rels)) Q t = Q (.tup (fns.map dP)) := rfl
theorem fld_sig1 : So (fldD r 13 1 (sigD fns rels)) Q t = Q (.tup (rels.map dP)) := rfl
theorem fld_sig2 : So (fldD r 13 2 (sigD fns rels)) Q t = Q (.dic ((fns ++ rels).map kP)) := rfl
end
end MS

namespace Law
open PySem L2 DL
def b__law_start (fuel : Nat) (C : Nat → List D → Rs → Out D) : Sx :=
    (sSeq (sAsg [] (gNm 1) (xRes (xLst' xNil)))
    (sSeq (sAsg [] (gNm 2) (xC (.int 17)))
    (sSeq (sFor [] (xRng1 (xCons (xCB cLen (xCons (xVar 0) xNil)) xNil)) (gNm 3) (sSeq (sAsg [] (gNm 4) (xCB cAbs (xCons (xIx (xVar 0) (xVar 3)) xNil)))
    (sSeq (sAsg [] (gNm 2) (xOp dMod (xCB cInt (xCons (xOp dAdd (xOp dAdd (xOp dMul (xVar 2) (xC (.int 31))) (xVar 4)) (xVar 3)) xNil)) (xC (.int 2147483647))))
    (sIfF [] (xB (xOp dGe (xVar 4) (xOp dPow (xC (.int 10)) (xC (.int 18))))) (sSeq (sAsg [] (gNm 4) (xOp dSub (xVar 4) (xOp dPow (xC (.int 10)) (xC (.int 18)))))
    (sFor [] (xRng1 (xCons (xC (.int 60)) xNil)) (gNm 5) (sIfF [] (xB (xOp dGt (xVar 4) (xC (.int 0)))) (sSeq (sExp [] (xAppR (xVar 1) (xCons (xOp dMod (xCB cInt (xCons (xVar 4) xNil)) (xC (.int 840))) xNil)))
    (sAsg [] (gNm 4) (xOp dDiv (xVar 4) (xC (.int 840))))) sNext))) (sSeq (sAsg [] (gNm 6) (xOp dMod (xCB cInt (xCons (xOp dAdd (xOp dMul (xOp dAdd (xVar 4) (xC (.int 1))) (xC (.int 48271))) (xOp dMul (xVar 3) (xC (.int 69621)))) xNil)) (xC (.int 2147483647))))
    (sSeq (sAsg [] (gNm 6) (xOp dMod (xCB cInt (xCons (xOp dAdd (xOp dMul (xVar 6) (xC (.int 40692))) (xC (.int 5))) xNil)) (xC (.int 2147483399))))
    (sExp [] (xAppR (xVar 1) (xCons (xOp dMod (xOp dDiv (xVar 6) (xC (.int 13))) (xC (.int 840))) xNil)))))))))
    (sRet false [] (xRes (xLst' (xCons (xVar 1) (xCons (xC (.int 0)) (xCons (xVar 2) xNil)))))))))
def b__law_take (fuel : Nat) (C : Nat → List D → Rs → Out D) : Sx :=
    (sSeq (sAsg [] (gNm 2) (xIx (xVar 0) (xC (.int 1))))
    (sSeq (sSetR [] (xVar 0) (xC (.int 1)) (xOp dAdd (xVar 2) (xC (.int 1))))
    (sSeq (sIfF [] (xB (xOp dLt (xVar 2) (xCB cLen (xCons (xIx (xVar 0) (xC (.int 0))) xNil)))) (sRet false [] (xOp dMod (xCB cInt (xCons (xIx (xIx (xVar 0) (xC (.int 0))) (xVar 2)) xNil)) (xVar 1))) sNext)
    (sSeq (sAsg [] (gNm 3) (xOp dMod (xCB cInt (xCons (xOp dMul (xOp dAdd (xIx (xVar 0) (xC (.int 2))) (xOp dMul (xVar 2) (xC (.int 40503)))) (xC (.int 48271))) xNil)) (xC (.int 2147483647))))
    (sSeq (sAsg [] (gNm 3) (xOp dMod (xCB cInt (xCons (xOp dAdd (xOp dMul (xVar 3) (xC (.int 69621))) (xOp dMul (xVar 2) (xVar 2))) xNil)) (xC (.int 2147483629))))
    (sRet false [] (xOp dMod (xOp dDiv (xVar 3) (xC (.int 11))) (xVar 1))))))))
def b__law_tuples (fuel : Nat) (C : Nat → List D → Rs → Out D) : Sx :=
    (sSeq (sAsg [] (gNm 2) (xLst (xCons (xTup xNil) xNil)))
    (sSeq (sFor [] (xRng1 (xCons (xVar 1) xNil)) (gNm 3) (sSeq (sAsg [] (gNm 4) (xLst xNil))
    (sSeq (sFor [] (xItems (xVar 2)) (gNm 5) (sAsg [] (gNm 4) (xOp dAdd (xVar 4) (xL (xLc (xItems (xVar 0)) (gNm 6) xYes (xOp dAdd (xVar 5) (xTup (xCons (xVar 6) xNil))) [6])))))
    (sAsg [] (gNm 2) (xVar 4)))))
    (sRet false [] (xVar 2))))
def b__law_closed (fuel : Nat) (C : Nat → List D → Rs → Out D) : Sx :=
    (sSeq (sAsg [6] (gNm 2) (xL (xLc (xItems (xVar 0)) (gTp 2 (gCons' (gNm 3) (gCons' (gNm 4) gNil'))) (xB (xOp dEq (xVar 4) (xC (.int 0)))) (xTup (xCons (xVar 3) xNil)) [3, 4])))
    (sSeq (sFor [6] (xRng1 (xCons (xVar 1) xNil)) (gNm 5) (sSeq (sAsgN [6] 6 (xListN (xCons (xVar 2) xNil)))
    (sSeq (sFor [6] (xItems (xVar 0)) (gTp 2 (gCons' (gNm 3) (gCons' (gNm 4) gNil'))) (sIfF [6] (xB (xOp dGt (xVar 4) (xC (.int 0)))) (sFor [6] (xItems (xCall (C 2) (xCons (xVar 2) (xCons (xVar 4) xNil)))) (gNm 7) (sIfF [6] (xB (xOp dNotIn (xOp dAdd (xTup (xCons (xVar 3) xNil)) (xVar 7)) (xVar 2))) (isOwnL 6 (sApp [6] 6 (xCons (xOp dAdd (xTup (xCons (xVar 3) xNil)) (xVar 7)) xNil))) sNext)) sNext))
    (sFrz 6
    (sAsg [] (gNm 2) (xVar 6))))))
    (sRet false [6] (xVar 2))))
def b_law (fuel : Nat) (C : Nat → List D → Rs → Out D) : Sx :=
    (sSeq (sAsg [3, 9, 11, 16] (gNm 1) (xCall (C 0) (xCons (xVar 0) xNil)))
    (sSeq (sAsg [3, 9, 11, 16] (gNm 2) (xSl (xLst (xCons (xC (.str "a")) (xCons (xC (.str "c3")) (xCons (xC (.str "zero")) xNil)))) xNoP (xPart (xCall (C 1) (xCons (xVar 1) (xCons (xC (.int 4)) xNil))))))
    (sSeq (sAsgN [3, 9, 11, 16] 3 (xLst' xNil))
    (sSeq (sFor [3, 9, 11, 16] (xItems (xVar 2)) (gNm 4) (isOwnL 3 (sInsI 3 (xCons (xCall (C 1) (xCons (xVar 1) (xCons (xOp dAdd (xCB cLen (xCons (xVar 3) xNil)) (xC (.int 1))) xNil))) (xCons (xTup (xCons (xVar 4) (xCons (xC (.int 0)) xNil))) xNil)))))
    (sSeq (sAsg [3, 9, 11, 16] (gNm 5) (xIx (xLst (xCons (xLst (xCons (xC (.str "f")) (xCons (xC (.str "c2")) xNil))) (xCons (xLst (xCons (xC (.str "c1")) (xCons (xC (.str "c2")) xNil))) (xCons (xLst (xCons (xC (.str "c2")) (xCons (xC (.str "c1")) xNil))) xNil)))) (xCall (C 1) (xCons (xVar 1) (xCons (xC (.int 3)) xNil)))))
    (sSeq (sFor [3, 9, 11, 16] (xItems (xSl (xVar 5) xNoP (xPart (xCall (C 1) (xCons (xVar 1) (xCons (xC (.int 3)) xNil)))))) (gNm 4) (isOwnL 3 (sInsI 3 (xCons (xCall (C 1) (xCons (xVar 1) (xCons (xOp dAdd (xCB cLen (xCons (xVar 3) xNil)) (xC (.int 1))) xNil))) (xCons (xTup (xCons (xVar 4) (xCons (xOp dAdd (xC (.int 1)) (xCall (C 1) (xCons (xVar 1) (xCons (xC (.int 3)) xNil)))) xNil))) xNil)))))
    (sSeq (sAsg [3, 9, 11, 16] (gNm 6) (xSl (xLst (xCons (xTup (xCons (xC (.str "P")) (xCons (xC (.int 1)) xNil))) (xCons (xTup (xCons (xC (.str "C1")) (xCons (xC (.int 0)) xNil))) xNil))) xNoP (xPart (xCall (C 1) (xCons (xVar 1) (xCons (xC (.int 3)) xNil))))))
    (sFrz 3
    (sSeq (sAsg [9, 11, 16] (gNm 7) (xNewF 13 (C 126) (xCons (xCB cList (xCons (xVar 3) xNil)) (xCons (xCB cList (xCons (xVar 6) xNil)) xNil))))
    (sSeq (sAsg [9, 11, 16] (gNm 8) (xCall (C 197) (xCons (xVar 7) xNil)))
    (sSeq (sAsgN [9, 11, 16] 9 (xListN (xCons (xVar 3) xNil)))
    (sSeq (sIfF [9, 11, 16] (xB (xOp dEq (xCB cLen (xCons (xVar 2) xNil)) (xC (.int 0)))) (sSeq (sAsg [9, 11, 16] (gNm 10) (xC (.int 1)))
    (sSeq (sAsgN [9, 11, 16] 11 (xLc (xItems (xVar 3)) (gTp 2 (gCons' (gNm 4) (gCons' (gNm 12) gNil'))) xYes (xVar 4) [4, 12]))
    (sFrz 11
    (sSeq (sFor [9, 16] (xRng1 (xCons (xC (.int 3)) xNil)) (gNm 13) (sIfF [9, 16] (xB (xOp dIn (xOp dAdd (xC (.str "c")) (xCB cStr (xCons (xVar 10) xNil))) (xVar 11))) (sAsg [9, 16] (gNm 10) (xOp dAdd (xVar 10) (xC (.int 1)))) sNext))
    (isOwnL 9 (sApp [9, 16] 9 (xCons (xTup (xCons (xOp dAdd (xC (.str "c")) (xCB cStr (xCons (xVar 10) xNil))) (xCons (xC (.int 0)) xNil))) xNil))))))) sNext)
    (sFrz 9
    (sSeq (sIfF [11, 16] (xOr (xB (xOp dNe (xFld 13 0 (xVar 8)) (xCB cTuple (xCons (xVar 9) xNil)))) (xB (xOp dNe (xFld 13 1 (xVar 8)) (xCB cTuple (xCons (xVar 6) xNil))))) (sRet false [11, 16] (xC (.bl false))) sNext)
    (sSeq (sIfF [11, 16] (xB (xOp dNe (xFld 13 0 (xVar 7)) (xCB cTuple (xCons (xVar 3) xNil)))) (sRet false [11, 16] (xC (.bl false))) sNext)
    (sSeq (sAsg [11, 16] (gNm 14) (xCB cMax1 (xCons (xL (xLc (xItems (xVar 9)) (gTp 2 (gCons' (gNm 4) (gCons' (gNm 12) gNil'))) xYes (xVar 12) [4, 12])) xNil)))
    (sSeq (sAsg [11, 16] (gNm 15) (xCall (C 1) (xCons (xVar 1) (xCons (xC (.int 3)) xNil))))
    (sSeq (sIfF [11, 16] (xOr (xB (xOp dEq (xVar 14) (xC (.int 3)))) (xAnd (xB (xOp dEq (xVar 14) (xC (.int 2)))) (xB (xOp dGt (xCB cLen (xCons (xVar 9) xNil)) (xC (.int 3)))))) (sAsg [11, 16] (gNm 15) (xCB cMin2 (xCons (xVar 15) (xCons (xC (.int 1)) xNil)))) sNext)
    (sSeq (sAsgN [11, 16] 16 (xCallN (C 195) (xCons (xVar 8) (xCons (xVar 15) xNil))))
    (sSeq (sIf (xOr (xNot (xTr (xCB cIsi (xCons (xVar 16) (xCons (xC (.ty "list")) xNil))))) (xB (xOp dNe (xVar 16) (xCall (C 3) (xCons (xVar 9) (xCons (xVar 15) xNil)))))) (sRet false [11, 16] (xC (.bl false))) sNext)
    (sSeq (isOwnL 16 (sApp [11, 16] 16 (xCons (xTup (xCons (xC (.str "a")) xNil)) xNil)))
    (sRet false [11, 16] (xAndV (xOp dEq (xCall (C 195) (xCons (xVar 8) (xCons (xVar 15) xNil))) (xCall (C 3) (xCons (xVar 9) (xCons (xVar 15) xNil)))) (xOp dEq (xCall (C 195) (xCons (xVar 7) (xCons (xC (.int 0)) xNil))) (xL (xLc (xItems (xVar 3)) (gTp 2 (gCons' (gNm 4) (gCons' (gNm 12) gNil'))) (xB (xOp dEq (xVar 12) (xC (.int 0)))) (xTup (xCons (xVar 4) xNil)) [4, 12]))))))))))))))))))))))))))
def lw (fuel : Nat) (C : Nat → List D → Rs → Out D) : Nat → List D → Rs → Out D
  | 0 => runF 7 (b__law_start fuel C)
  | 1 => runF 4 (b__law_take fuel C)
  | 2 => runF 7 (b__law_tuples fuel C)
  | 3 => runF 8 (b__law_closed fuel C)
  | 4 => runF 17 (b_law fuel C)
  | _ => fun _ _ => .bad
abbrev pr (fuel : Nat) := prP fuel (lw fuel)
theorem e__law_start {fuel n} : pr fuel (n + 1) 0 = runF 7 (b__law_start fuel (pr fuel n)) := rfl
theorem e__law_take {fuel n} : pr fuel (n + 1) 1 = runF 4 (b__law_take fuel (pr fuel n)) := rfl
theorem e__law_tuples {fuel n} : pr fuel (n + 1) 2 = runF 7 (b__law_tuples fuel (pr fuel n)) := rfl
theorem e__law_closed {fuel n} : pr fuel (n + 1) 3 = runF 8 (b__law_closed fuel (pr fuel n)) := rfl
theorem e_law {fuel n} : pr fuel (n + 1) 4 = runF 17 (b_law fuel (pr fuel n)) := rfl
end Law

local macro_rules | `(tactic| trivial) => `(tactic| (try simp -dsimp only [↓ML.ev_ok, ↓ML.ev_exc, ↓ML.ev_bind, ↓ML.ev_var, ↓ML.ev_c, ↓ML.ev_op, ↓ML.ev_ix, ↓ML.ev_nop, ↓ML.ev_part, ↓ML.ev_sl, ↓ML.ev_tr, ↓ML.ev_b, ↓ML.ev_ch, ↓ML.ev_v, ↓ML.ev_and, ↓ML.ev_or, ↓ML.ev_not, ↓ML.ev_if, ↓ML.ev_tif, ↓ML.ev_andv, ↓ML.ev_orv, ↓ML.ev_notv, ↓ML.ev_neg, ↓ML.ev_nil, ↓ML.ev_cons, ↓ML.ev_tup, ↓ML.ev_lst, ↓ML.ev_lst', ↓ML.ev_cb, ↓ML.ev_call, ↓ML.ev_calld, ↓ML.ev_l, ↓ML.ev_d, ↓ML.ev_listn, ↓ML.ev_items, ↓ML.ev_rng1, ↓ML.ev_rng2, ↓ML.ev_lc, ↓ML.ev_lc2, ↓ML.ev_dget, ↓ML.ev_dget1, ↓ML.ev_dget2, ↓ML.ev_din, ↓ML.ev_kd, ↓ML.ev_dnew, ↓ML.ev_yes, ↓ML.ev_dcopy, ↓ML.ev_ps0, ↓ML.ev_ps1, ↓ML.ev_disp, ↓ML.ev_res, ↓ML.ev_resd, ↓ML.ev_fld, ↓ML.ev_con, ↓ML.ev_meth, ↓ML.ev_prop, ↓ML.ev_newf, ↓ML.ev_newr, ↓ML.ev_calln, ↓ML.ev_callnd, ↓ML.ev_sort, ↓ML.ev_join, ↓ML.ev_dc, ↓ML.sv_next, ↓ML.sv_brk, ↓ML.sv_cont, ↓ML.sv_ret, ↓ML.sv_exc, ↓ML.sv_seq, ↓ML.sv_nx, ↓ML.sv_bk, ↓ML.sv_ct, ↓ML.sv_evF, ↓ML.sv_evI, ↓ML.sv_store, ↓ML.sv_asg, ↓ML.sv_asgI, ↓ML.sv_own, ↓ML.sv_ownD, ↓ML.sv_asgN, ↓ML.sv_asgD, ↓ML.sv_asgNI, ↓ML.sv_exp, ↓ML.sv_sret, ↓ML.sv_sretI, ↓ML.sv_sretN, ↓ML.sv_sretD, ↓ML.sv_sretNI, ↓ML.sv_sretO, ↓ML.sv_sretOD, ↓ML.sv_retn, ↓ML.sv_move, ↓ML.sv_give, ↓ML.sv_isL, ↓ML.sv_isD, ↓ML.sv_kApp, ↓ML.sv_app, ↓ML.sv_appI, ↓ML.sv_kIns, ↓ML.sv_ins, ↓ML.sv_insI, ↓ML.sv_extN, ↓ML.sv_extI, ↓ML.sv_ext, ↓ML.sv_if, ↓ML.sv_ifF, ↓ML.sv_for, ↓ML.sv_forR1I, ↓ML.sv_aug, ↓ML.sv_par, ↓ML.sv_raise, ↓ML.sv_frz, ↓ML.sv_pop, ↓ML.sv_kSetO, ↓ML.sv_setO, ↓ML.sv_kDPut, ↓ML.sv_dput, ↓ML.bif_t, ↓ML.bif_f, ↓ML.bif_nt, ↓ML.bif_nf, ↓ML.bif_sn, ↓ML.bif_ss, ↓ML.so_some, ↓ML.sop_some, ↓ML.ck_true, ↓ML.ck_tt, ↓ML.ck_eq, ↓ML.ck_len0, ↓ML.ck_len1, ↓ML.ck_len2, ↓ML.ck_len3, ↓ML.ck_len4, ↓ML.ck_len5, ↓ML.ck_len6, ↓ML.ck_len7, ↓ML.ck_len8, ↓ML.ck_len9, ↓ML.ck_len10, ↓ML.ck_len11, ↓ML.ck_len12, ↓ML.ck_len13, ↓ML.ck_len14, ↓ML.ck_len15, ↓ML.ck_len16, ↓ML.ck_lt0, ↓ML.ck_15_0, ↓ML.ck_lt1, ↓ML.ck_15_1, ↓ML.ck_lt2, ↓ML.ck_15_2, ↓ML.ck_lt3, ↓ML.ck_15_3, ↓ML.ck_lt4, ↓ML.ck_15_4, ↓ML.ck_lt5, ↓ML.ck_15_5, ↓ML.ck_lt6, ↓ML.ck_15_6, ↓ML.ck_lt7, ↓ML.ck_15_7, ↓ML.ck_lt8, ↓ML.ck_15_8, ↓ML.ck_lt9, ↓ML.ck_15_9, ↓ML.ck_lt10, ↓ML.ck_15_10, ↓ML.ck_lt11, ↓ML.ck_15_11, ↓ML.get_0, ↓ML.set_0, ↓ML.setn_0, ↓ML.get_1, ↓ML.set_1, ↓ML.setn_1, ↓ML.get_2, ↓ML.set_2, ↓ML.setn_2, ↓ML.get_3, ↓ML.set_3, ↓ML.setn_3, ↓ML.get_4, ↓ML.set_4, ↓ML.setn_4, ↓ML.get_5, ↓ML.set_5, ↓ML.setn_5, ↓ML.get_6, ↓ML.set_6, ↓ML.setn_6, ↓ML.get_7, ↓ML.set_7, ↓ML.setn_7, ↓ML.get_8, ↓ML.set_8, ↓ML.setn_8, ↓ML.get_9, ↓ML.set_9, ↓ML.setn_9, ↓ML.get_10, ↓ML.set_10, ↓ML.setn_10, ↓ML.get_11, ↓ML.set_11, ↓ML.setn_11, ↓ML.get_12, ↓ML.set_12, ↓ML.setn_12, ↓ML.get_13, ↓ML.set_13, ↓ML.setn_13, ↓ML.get_14, ↓ML.set_14, ↓ML.setn_14, ↓ML.get_15, ↓ML.set_15, ↓ML.setn_15, ↓ML.get_16, ↓ML.set_16, ↓ML.setn_16, ↓ML.get_17, ↓ML.set_17, ↓ML.setn_17, ↓ML.get_18, ↓ML.set_18, ↓ML.setn_18, ↓ML.get_19, ↓ML.set_19, ↓ML.setn_19, ↓ML.get_20, ↓ML.set_20, ↓ML.setn_20, ↓ML.get_21, ↓ML.set_21, ↓ML.setn_21, ↓ML.get_22, ↓ML.set_22, ↓ML.setn_22, ↓ML.get_23, ↓ML.set_23, ↓ML.setn_23, ↓ML.get_24, ↓ML.set_24, ↓ML.setn_24, ↓ML.get_25, ↓ML.set_25, ↓ML.setn_25, ↓ML.get_26, ↓ML.set_26, ↓ML.setn_26, ↓ML.get_27, ↓ML.set_27, ↓ML.setn_27, ↓ML.get_28, ↓ML.set_28, ↓ML.setn_28, ↓ML.get_29, ↓ML.set_29, ↓ML.setn_29, ↓ML.get_30, ↓ML.set_30, ↓ML.setn_30, ↓ML.get_31, ↓ML.set_31, ↓ML.setn_31, ↓ML.get_32, ↓ML.set_32, ↓ML.setn_32, ↓ML.get_33, ↓ML.set_33, ↓ML.setn_33, ↓ML.get_34, ↓ML.set_34, ↓ML.setn_34, ↓ML.get_35, ↓ML.set_35, ↓ML.setn_35, ↓ML.get_36, ↓ML.set_36, ↓ML.setn_36, ↓ML.get_37, ↓ML.set_37, ↓ML.setn_37, ↓ML.get_38, ↓ML.set_38, ↓ML.setn_38, ↓ML.get_39, ↓ML.set_39, ↓ML.setn_39, ↓ML.get_40, ↓ML.set_40, ↓ML.setn_40, ↓ML.get_41, ↓ML.set_41, ↓ML.setn_41, ↓ML.get_42, ↓ML.set_42, ↓ML.setn_42, ↓ML.get_43, ↓ML.set_43, ↓ML.setn_43, ↓ML.get_44, ↓ML.set_44, ↓ML.setn_44, ↓ML.get_45, ↓ML.set_45, ↓ML.setn_45, ↓ML.get_46, ↓ML.set_46, ↓ML.setn_46, ↓ML.get_47, ↓ML.set_47, ↓ML.setn_47, ↓ML.wp_nil, ↓ML.wp_cons, ↓ML.ver_self, ↓ML.tgt_nm, ↓ML.tgt_tup1, ↓ML.tgt_lst1, ↓ML.tgt_tup2, ↓ML.tgt_lst2, ↓ML.tgt_tup3, ↓ML.tgt_lst3, ↓ML.tgt_tup4, ↓ML.tgt_lst4, ↓ML.tgt_tup5, ↓ML.tgt_lst5, ↓ML.tgt_tup6, ↓ML.tgt_lst6, ↓ML.tgts_nil, ↓ML.tgts_cons, ↓ML.as_l, ↓ML.as_d, ↓ML.as_b, ↓ML.as_i, ↓ML.as_s, ↓ML.as_1, ↓ML.as_2, ↓ML.imm_int, ↓ML.imm_str, ↓ML.imm_bl, ↓ML.imm_non, ↓ML.imm_loc, ↓ML.imm_tup, ↓ML.imms_nil, ↓ML.imms_cons, ↓ML.so_add, ↓ML.so_sub, ↓ML.so_lt, ↓ML.so_le, ↓ML.so_gt, ↓ML.so_ge, ↓ML.so_if, ↓ML.so_mul, ↓ML.so_mod, ↓ML.so_div, ↓ML.so_addT, ↓ML.so_addL, ↓ML.so_addS, ↓ML.so_ixL, ↓ML.so_ixT, ↓ML.so_slL, ↓ML.so_slT, ↓ML.so_len1, ↓ML.so_len2, ↓ML.so_len3, ↓ML.so_len4, ↓ML.so_len5, ↓ML.so_abs, ↓ML.so_int, ↓ML.so_intb, ↓ML.so_list1, ↓ML.so_list2, ↓ML.so_tuple1, ↓ML.so_tuple2, ↓ML.so_max2, ↓ML.so_min2, ↓ML.so_str, ↓ML.so_isL, ↓ML.so_isT, ↓ML.so_isN, ↓ML.so_isnN, ↓ML.so_isb, ↓ML.so_isnb, ↓ML.so_listn1, ↓ML.so_listn2, ↓ML.so_it1, ↓ML.so_it2, ↓ML.tr_b, ↓ML.tr_i, ↓ML.tr_l, ↓ML.tr_t, ↓ML.tr_n, ↓ML.keyof_s, ↓ML.keyof_i, ↓ML.fld_ins, ↓ML.ins_ins, ↓ML.soix_0, ↓ML.soix_1, ↓ML.soix_2, ↓ML.soix_3, ↓ML.soix_4, ↓ML.soix_5, ↓ML.soix_6, ↓ML.soix_7, ↓ML.as_loc, ↓ML.ev_appR, ↓ML.sv_setR, ↓ML.sv_kSetR, ↓ML.sv_dsetR, ↓ML.sv_kDSetR, ↓ML.so_ixR, ↓ML.so_ixs, ↓ML.at_0, ↓ML.at_1, ↓ML.at_2, ↓ML.at_3, ↓ML.grl_0, ↓ML.grd_0, ↓ML.lenl_0, ↓ML.lend_0, ↓ML.sro_0, ↓ML.grl_1, ↓ML.grd_1, ↓ML.lenl_1, ↓ML.lend_1, ↓ML.sro_1, ↓ML.grl_2, ↓ML.grd_2, ↓ML.lenl_2, ↓ML.lend_2, ↓ML.sro_2, ↓ML.grl_3, ↓ML.grd_3, ↓ML.lenl_3, ↓ML.lend_3, ↓ML.sro_3, ↓ML.sv_for0, ↓ML.sv_for1]))
namespace KM
open PySem L2 DL ML Law MS
def rowsD (cs : List D) : Nat → List (List D)
  | 0 => [[]]
  | n + 1 => (rowsD cs n).flatMap fun r => cs.map fun c => r ++ [c]
theorem rowsD_len (cs : List D) : ∀ n, (rowsD cs n).length = cs.length ^ n
  | 0 => rfl
  | n + 1 => by
    rw [rowsD, List.length_flatMap, Nat.pow_succ, ← rowsD_len cs n]
    simp only [List.length_map]
    induction rowsD cs n with
    | nil => simp
    | cons a l ih => rw [List.map_cons, List.sum_cons, ih, List.length_cons, Nat.succ_mul]; omega
theorem rowsD_row (cs : List D) : ∀ n, ∀ r ∈ rowsD cs n, r.length = n ∧ ∀ x ∈ r, x ∈ cs
  | 0, r, h => by
    rw [rowsD, List.mem_singleton] at h
    subst h
    exact ⟨rfl, fun x hx => by cases hx⟩
  | n + 1, r, h => by
    rw [rowsD, List.mem_flatMap] at h
    obtain ⟨r0, h0, h1⟩ := h
    rw [List.mem_map] at h1
    obtain ⟨c, hc, rfl⟩ := h1
    obtain ⟨e, q⟩ := rowsD_row cs n r0 h0
    exact ⟨by simp [e], fun x hx => by
      rcases List.mem_append.mp hx with z | z
      · exact q x z
      · rw [List.mem_singleton] at z; rw [z]; exact hc⟩
theorem flatMap_congr {X Y : Type} {f g : X → List Y} : ∀ {xs : List X}, (∀ x ∈ xs, f x = g x) → xs.flatMap f = xs.flatMap g
  | [], _ => rfl
  | x :: xs, h => by rw [List.flatMap_cons, List.flatMap_cons, h x List.mem_cons_self, flatMap_congr fun y m => h y (List.mem_cons_of_mem _ m)]
theorem rowsD_tup (cs : List D) (n : Nat) : (rowsD cs (n + 1)).map D.tup = (rowsD cs n).flatMap fun r => cs.map fun c => D.tup (r ++ [c]) := by
  rw [rowsD, List.map_flatMap]
  simp only [List.map_map]
  rfl
local macro_rules | `(tactic| trivial) => `(tactic| (try simp -dsimp only [↓ML.ev_ok, ↓ML.ev_exc, ↓ML.ev_bind, ↓ML.ev_var, ↓ML.ev_c, ↓ML.ev_op, ↓ML.ev_ix, ↓ML.ev_nop, ↓ML.ev_part, ↓ML.ev_sl, ↓ML.ev_tr, ↓ML.ev_b, ↓ML.ev_ch, ↓ML.ev_v, ↓ML.ev_and, ↓ML.ev_or, ↓ML.ev_not, ↓ML.ev_if, ↓ML.ev_tif, ↓ML.ev_andv, ↓ML.ev_orv, ↓ML.ev_notv, ↓ML.ev_neg, ↓ML.ev_nil, ↓ML.ev_cons, ↓ML.ev_tup, ↓ML.ev_lst, ↓ML.ev_lst', ↓ML.ev_cb, ↓ML.ev_call, ↓ML.ev_calld, ↓ML.ev_l, ↓ML.ev_d, ↓ML.ev_listn, ↓ML.ev_items, ↓ML.ev_rng1, ↓ML.ev_rng2, ↓ML.ev_lc, ↓ML.ev_lc2, ↓ML.ev_dget, ↓ML.ev_dget1, ↓ML.ev_dget2, ↓ML.ev_din, ↓ML.ev_kd, ↓ML.ev_dnew, ↓ML.ev_yes, ↓ML.ev_dcopy, ↓ML.ev_ps0, ↓ML.ev_ps1, ↓ML.ev_disp, ↓ML.ev_res, ↓ML.ev_resd, ↓ML.ev_fld, ↓ML.ev_con, ↓ML.ev_meth, ↓ML.ev_prop, ↓ML.ev_newf, ↓ML.ev_newr, ↓ML.ev_calln, ↓ML.ev_callnd, ↓ML.ev_sort, ↓ML.ev_join, ↓ML.ev_dc, ↓ML.sv_next, ↓ML.sv_brk, ↓ML.sv_cont, ↓ML.sv_ret, ↓ML.sv_exc, ↓ML.sv_seq, ↓ML.sv_nx, ↓ML.sv_bk, ↓ML.sv_ct, ↓ML.sv_evF, ↓ML.sv_evI, ↓ML.sv_store, ↓ML.sv_asg, ↓ML.sv_asgI, ↓ML.sv_own, ↓ML.sv_ownD, ↓ML.sv_asgN, ↓ML.sv_asgD, ↓ML.sv_asgNI, ↓ML.sv_exp, ↓ML.sv_sret, ↓ML.sv_sretI, ↓ML.sv_sretN, ↓ML.sv_sretD, ↓ML.sv_sretNI, ↓ML.sv_sretO, ↓ML.sv_sretOD, ↓ML.sv_retn, ↓ML.sv_move, ↓ML.sv_give, ↓ML.sv_isL, ↓ML.sv_isD, ↓ML.sv_kApp, ↓ML.sv_app, ↓ML.sv_appI, ↓ML.sv_kIns, ↓ML.sv_ins, ↓ML.sv_insI, ↓ML.sv_extN, ↓ML.sv_extI, ↓ML.sv_ext, ↓ML.sv_if, ↓ML.sv_ifF, ↓ML.sv_for, ↓ML.sv_forR1I, ↓ML.sv_aug, ↓ML.sv_par, ↓ML.sv_raise, ↓ML.sv_frz, ↓ML.sv_pop, ↓ML.sv_kSetO, ↓ML.sv_setO, ↓ML.sv_kDPut, ↓ML.sv_dput, ↓ML.bif_t, ↓ML.bif_f, ↓ML.bif_nt, ↓ML.bif_nf, ↓ML.bif_sn, ↓ML.bif_ss, ↓ML.so_some, ↓ML.sop_some, ↓ML.ck_true, ↓ML.ck_tt, ↓ML.ck_eq, ↓ML.ck_len0, ↓ML.ck_len1, ↓ML.ck_len2, ↓ML.ck_len3, ↓ML.ck_len4, ↓ML.ck_len5, ↓ML.ck_len6, ↓ML.ck_len7, ↓ML.ck_len8, ↓ML.ck_len9, ↓ML.ck_len10, ↓ML.ck_len11, ↓ML.ck_len12, ↓ML.ck_len13, ↓ML.ck_len14, ↓ML.ck_len15, ↓ML.ck_len16, ↓ML.ck_lt0, ↓ML.ck_15_0, ↓ML.ck_lt1, ↓ML.ck_15_1, ↓ML.ck_lt2, ↓ML.ck_15_2, ↓ML.ck_lt3, ↓ML.ck_15_3, ↓ML.ck_lt4, ↓ML.ck_15_4, ↓ML.ck_lt5, ↓ML.ck_15_5, ↓ML.ck_lt6, ↓ML.ck_15_6, ↓ML.ck_lt7, ↓ML.ck_15_7, ↓ML.ck_lt8, ↓ML.ck_15_8, ↓ML.ck_lt9, ↓ML.ck_15_9, ↓ML.ck_lt10, ↓ML.ck_15_10, ↓ML.ck_lt11, ↓ML.ck_15_11, ↓ML.get_0, ↓ML.set_0, ↓ML.setn_0, ↓ML.get_1, ↓ML.set_1, ↓ML.setn_1, ↓ML.get_2, ↓ML.set_2, ↓ML.setn_2, ↓ML.get_3, ↓ML.set_3, ↓ML.setn_3, ↓ML.get_4, ↓ML.set_4, ↓ML.setn_4, ↓ML.get_5, ↓ML.set_5, ↓ML.setn_5, ↓ML.get_6, ↓ML.set_6, ↓ML.setn_6, ↓ML.get_7, ↓ML.set_7, ↓ML.setn_7, ↓ML.get_8, ↓ML.set_8, ↓ML.setn_8, ↓ML.get_9, ↓ML.set_9, ↓ML.setn_9, ↓ML.get_10, ↓ML.set_10, ↓ML.setn_10, ↓ML.get_11, ↓ML.set_11, ↓ML.setn_11, ↓ML.get_12, ↓ML.set_12, ↓ML.setn_12, ↓ML.get_13, ↓ML.set_13, ↓ML.setn_13, ↓ML.get_14, ↓ML.set_14, ↓ML.setn_14, ↓ML.get_15, ↓ML.set_15, ↓ML.setn_15, ↓ML.get_16, ↓ML.set_16, ↓ML.setn_16, ↓ML.get_17, ↓ML.set_17, ↓ML.setn_17, ↓ML.get_18, ↓ML.set_18, ↓ML.setn_18, ↓ML.get_19, ↓ML.set_19, ↓ML.setn_19, ↓ML.get_20, ↓ML.set_20, ↓ML.setn_20, ↓ML.get_21, ↓ML.set_21, ↓ML.setn_21, ↓ML.get_22, ↓ML.set_22, ↓ML.setn_22, ↓ML.get_23, ↓ML.set_23, ↓ML.setn_23, ↓ML.get_24, ↓ML.set_24, ↓ML.setn_24, ↓ML.get_25, ↓ML.set_25, ↓ML.setn_25, ↓ML.get_26, ↓ML.set_26, ↓ML.setn_26, ↓ML.get_27, ↓ML.set_27, ↓ML.setn_27, ↓ML.get_28, ↓ML.set_28, ↓ML.setn_28, ↓ML.get_29, ↓ML.set_29, ↓ML.setn_29, ↓ML.get_30, ↓ML.set_30, ↓ML.setn_30, ↓ML.get_31, ↓ML.set_31, ↓ML.setn_31, ↓ML.get_32, ↓ML.set_32, ↓ML.setn_32, ↓ML.get_33, ↓ML.set_33, ↓ML.setn_33, ↓ML.get_34, ↓ML.set_34, ↓ML.setn_34, ↓ML.get_35, ↓ML.set_35, ↓ML.setn_35, ↓ML.get_36, ↓ML.set_36, ↓ML.setn_36, ↓ML.get_37, ↓ML.set_37, ↓ML.setn_37, ↓ML.get_38, ↓ML.set_38, ↓ML.setn_38, ↓ML.get_39, ↓ML.set_39, ↓ML.setn_39, ↓ML.get_40, ↓ML.set_40, ↓ML.setn_40, ↓ML.get_41, ↓ML.set_41, ↓ML.setn_41, ↓ML.get_42, ↓ML.set_42, ↓ML.setn_42, ↓ML.get_43, ↓ML.set_43, ↓ML.setn_43, ↓ML.get_44, ↓ML.set_44, ↓ML.setn_44, ↓ML.get_45, ↓ML.set_45, ↓ML.setn_45, ↓ML.get_46, ↓ML.set_46, ↓ML.setn_46, ↓ML.get_47, ↓ML.set_47, ↓ML.setn_47, ↓ML.wp_nil, ↓ML.wp_cons, ↓ML.ver_self, ↓ML.tgt_nm, ↓ML.tgt_tup1, ↓ML.tgt_lst1, ↓ML.tgt_tup2, ↓ML.tgt_lst2, ↓ML.tgt_tup3, ↓ML.tgt_lst3, ↓ML.tgt_tup4, ↓ML.tgt_lst4, ↓ML.tgt_tup5, ↓ML.tgt_lst5, ↓ML.tgt_tup6, ↓ML.tgt_lst6, ↓ML.tgts_nil, ↓ML.tgts_cons, ↓ML.as_l, ↓ML.as_d, ↓ML.as_b, ↓ML.as_i, ↓ML.as_s, ↓ML.as_1, ↓ML.as_2, ↓ML.imm_int, ↓ML.imm_str, ↓ML.imm_bl, ↓ML.imm_non, ↓ML.imm_loc, ↓ML.imm_tup, ↓ML.imms_nil, ↓ML.imms_cons, ↓ML.so_add, ↓ML.so_sub, ↓ML.so_lt, ↓ML.so_le, ↓ML.so_gt, ↓ML.so_ge, ↓ML.so_if, ↓ML.so_mul, ↓ML.so_mod, ↓ML.so_div, ↓ML.so_addT, ↓ML.so_addL, ↓ML.so_addS, ↓ML.so_ixL, ↓ML.so_ixT, ↓ML.so_slL, ↓ML.so_slT, ↓ML.so_len1, ↓ML.so_len2, ↓ML.so_len3, ↓ML.so_len4, ↓ML.so_len5, ↓ML.so_abs, ↓ML.so_int, ↓ML.so_intb, ↓ML.so_list1, ↓ML.so_list2, ↓ML.so_tuple1, ↓ML.so_tuple2, ↓ML.so_max2, ↓ML.so_min2, ↓ML.so_str, ↓ML.so_isL, ↓ML.so_isT, ↓ML.so_isN, ↓ML.so_isnN, ↓ML.so_isb, ↓ML.so_isnb, ↓ML.so_listn1, ↓ML.so_listn2, ↓ML.so_it1, ↓ML.so_it2, ↓ML.tr_b, ↓ML.tr_i, ↓ML.tr_l, ↓ML.tr_t, ↓ML.tr_n, ↓ML.keyof_s, ↓ML.keyof_i, ↓ML.fld_ins, ↓ML.ins_ins, ↓ML.soix_0, ↓ML.soix_1, ↓ML.soix_2, ↓ML.soix_3, ↓ML.soix_4, ↓ML.soix_5, ↓ML.soix_6, ↓ML.soix_7, ↓ML.as_loc, ↓ML.ev_appR, ↓ML.sv_setR, ↓ML.sv_kSetR, ↓ML.sv_dsetR, ↓ML.sv_kDSetR, ↓ML.so_ixR, ↓ML.so_ixs, ↓ML.at_0, ↓ML.at_1, ↓ML.at_2, ↓ML.at_3, ↓ML.grl_0, ↓ML.grd_0, ↓ML.lenl_0, ↓ML.lend_0, ↓ML.sro_0, ↓ML.grl_1, ↓ML.grd_1, ↓ML.lenl_1, ↓ML.lend_1, ↓ML.sro_1, ↓ML.grl_2, ↓ML.grd_2, ↓ML.lenl_2, ↓ML.lend_2, ↓ML.sro_2, ↓ML.grl_3, ↓ML.grd_3, ↓ML.lenl_3, ↓ML.lend_3, ↓ML.sro_3, ↓ML.sv_for0, ↓ML.sv_for1, List.length_map, ↓so_eqi, ↓so_nei, ↓ins_sig, ↓fld_sig0, ↓fld_sig1, ↓fld_sig2]))
theorem rows_ev {fuel : Nat} {LW : (Nat → List D → Rs → Out D) → Nat → List D → Rs → Out D} {n : Nat} {cs : List D} {a : Nat} {R : Rs} {Q : D → Rs → Prop} {E : Nat → List (Str × Int) → Rs → Prop} {t : Tag2 Q E}
    (ha : a ≤ 3) (hs : ∀ i ≤ a, cs.length ^ i ≤ 900000) (H : Q (.lst ((rowsD cs a).map .tup)) R) : Ev (prP fuel LW (n + 1) 199 [.lst cs, .int a] R) Q E t := by
  rw [e_fillings_rows_of, ev_run]
  unfold b_fillings_rows_of
  show Sv (sSeq _ _ [some (.lst cs), some (.int a), none, none, none, none] _) _ _ _
  trivial
  refine ck_i (by unfold big; rw [decide_eq_true_eq]; omega) ?_
  trivial
  refine sv_forN 0 _ (fun i ρ r => ∃ y3 y4 y5, ρ = [some (.lst cs), some (.int a), some (.lst ((rowsD cs i).map .tup)), y3, y4, y5] ∧ R = r) ⟨_, _, _, rfl, rfl⟩ ?_ ?_
  · rintro i hi ρ r ⟨y3, y4, y5, rfl, rfl⟩
    have hi' : i + 1 ≤ a := by omega
    have hl := hs (i + 1) hi'
    have hr := rowsD_row cs i
    trivial
    have ec : cs = cs.map fun d => d := by simp
    refine sop_i (lc2_pure (enc := D.tup) (enc2 := fun d => d) (xs := rowsD cs i) (fun _ => cs) (fun _ _ => true) (fun r c => .tup (r ++ [c])) ?_) ?_
    · intro x hx
      trivial
      refine ⟨ec, trivial, fun y hy => ?_⟩
      trivial
      refine ⟨trivial, trivial, fun _ => ?_⟩
      refine ck_i (by rw [(hr x hx).1]; show i + 1 ≤ 1000000; omega) ?_
      trivial
      (first | exact ⟨rfl, rfl⟩ | exact ⟨True.intro, True.intro⟩ | exact ⟨rfl, True.intro⟩ | exact ⟨True.intro, rfl⟩ | simp)
    · have ef : ((rowsD cs i).flatMap fun x => (cs.filter fun _ => true).map fun c => D.tup (x ++ [c])) = (rowsD cs (i + 1)).map .tup := by
        rw [rowsD_tup]
        refine flatMap_congr fun x _ => ?_
        rw [List.filter_eq_self.mpr fun _ _ => rfl]
      rw [ef]
      trivial
      refine ck_i (by rw [rowsD_len]; show _ ≤ 1000000; omega) ?_
      trivial
      exact ⟨_, _, _, (by first | rfl | exact True.intro), (by first | rfl | exact True.intro)⟩
  · rintro ρ r ⟨y3, y4, y5, rfl, rfl⟩
    trivial
    exact H
def consts (fns : List NA) : List Str := (fns.filter fun p => decide (p.2 = 0)).map Prod.fst
theorem consts_ev {fuel : Nat} {LW : (Nat → List D → Rs → Out D) → Nat → List D → Rs → Out D} {n : Nat} {fns rels : List NA} {R : Rs} {Q : D → Rs → Prop} {E : Nat → List (Str × Int) → Rs → Prop} {t : Tag2 Q E}
    (hl : fns.length ≤ 1000) (H : Q (.lst ((consts fns).map .str)) R) : Ev (prP fuel LW (n + 1) 513 [sigD fns rels] R) Q E t := by
  rw [e_books_Signature_constants_v1, ev_run]
  unfold b_books_Signature_constants_v1
  show Sv (sRetN _ _ [some _, none, none] _) _ _ _
  trivial
  refine sop_i (lc_pure (enc := dP) (xs := fns) (fun p => decide (p.2 = 0)) (fun p => .str p.1) ?_) ?_
  · rintro ⟨x, a⟩ _
    unfold dP
    trivial
    exact ⟨trivial, trivial, fun _ => ⟨trivial, trivial⟩⟩
  · trivial
    have e : ((fns.filter fun p => decide (p.2 = 0)).map fun p => D.str p.1) = (consts fns).map .str := by
      unfold consts
      rw [List.map_map]; rfl
    rw [e]
    refine ck_i ?_ H
    have := List.length_filter_le (fun p : NA => decide (p.2 = 0)) fns
    show _ ≤ 1000000
    omega
open Classical in
noncomputable def newD (ts : List D) (p : NA) : List D := if 0 < p.2 then ((rowsD ts p.2.toNat).map fun r => D.tup (.str p.1 :: r)).filter (fun d => decide (d ∉ ts)) else []
noncomputable def stepD (fns : List NA) (ts : List D) : List D := ts ++ fns.flatMap (newD ts)
noncomputable def termsD (fns : List NA) : Nat → List D
  | 0 => (consts fns).map fun x => .tup [.str x]
  | k + 1 => stepD fns (termsD fns k)
/-- what the walks need: names that are texts, lists that are short -/
structure Sz (fns : List NA) (d : Nat) : Prop where
  nm : ∀ p ∈ fns, PyData.strOk p.1 = true
  ar : ∀ p ∈ fns, p.2 ≤ 3
  few : fns.length ≤ 1000
  pw : ∀ k < d, ∀ p ∈ fns, ∀ i ≤ p.2.toNat, (termsD fns k).length ^ i ≤ 900000
  ln : ∀ k ≤ d, (termsD fns k).length ≤ 900000
  dp : d ≤ 50
theorem termsD_ok {fns : List NA} {d : Nat} (h : ∀ p ∈ fns, PyData.strOk p.1 = true) : ∀ k, ∀ t ∈ termsD fns k, pl (k + 1) t = true ∧ t.imm = true
  | 0, t, m => by
    rw [termsD, List.mem_map] at m
    obtain ⟨x, hx, rfl⟩ := m
    unfold consts at hx
    rw [List.mem_map] at hx
    obtain ⟨p, hp, rfl⟩ := hx
    exact ⟨pl_tup fun y hy => by rw [List.mem_singleton] at hy; subst hy; exact pl_str (h p (List.mem_filter.mp hp).1), rfl⟩
  | k + 1, t, m => by
    rw [termsD, stepD, List.mem_append] at m
    rcases m with m | m
    · obtain ⟨a, b⟩ := termsD_ok (d := d) h k t m
      exact ⟨pl_mono a (by omega), b⟩
    · rw [List.mem_flatMap] at m
      obtain ⟨p, hp, m⟩ := m
      unfold newD at m
      split at m
      · rw [List.mem_filter, List.mem_map] at m
        obtain ⟨⟨r, hr, rfl⟩, _⟩ := m
        have hr' := (rowsD_row _ _ r hr).2
        refine ⟨pl_tup fun y hy => ?_, ?_⟩
        · rcases List.mem_cons.mp hy with e | e
          · subst e; exact pl_str (h p hp)
          · exact (termsD_ok (d := d) h k y (hr' y e)).1
        · rw [D.imm, D.imms]
          rw [imms_iff.mpr fun y hy => (termsD_ok (d := d) h k y (hr' y hy)).2]
          rfl
      · cases m
theorem dP_nd {p : NA} {m : Nat} (h : p.2 = m) : dP p = .tup [.str p.1, .int m] := by unfold dP; rw [h]
open Classical in
theorem newD_eq {ts : List D} {x : Str} {m : Nat} (h : 0 < m) : newD ts (x, (m : Int)) = ((rowsD ts m).filter fun r => !decide (D.tup (.str x :: r) ∈ ts)).map fun r => D.tup (.str x :: r) := by
  unfold newD
  rw [if_pos (by show (0 : Int) < m; omega), List.filter_map]
  show ((rowsD ts ((m : Int)).toNat).filter _).map _ = _
  rw [Int.toNat_natCast]
  congr 1
  refine List.filter_congr fun r _ => ?_
  simp
open Classical in
theorem closed_ev {fuel : Nat} {LW : (Nat → List D → Rs → Out D) → Nat → List D → Rs → Out D} {n : Nat} {fns rels : List NA} {d : Nat} (S : Sz fns d) {R : Rs} {Q : D → Rs → Prop} {E : Nat → List (Str × Int) → Rs → Prop} {t : Tag2 Q E}
    (H : Q (.lst (termsD fns d)) R) : Ev (prP fuel LW (n + 2) 195 [sigD fns rels, .int d] R) Q E t := by
  rw [e_fillings_closed_terms, ev_run]
  unfold b_fillings_closed_terms
  show Sv (sSeq _ _ [some _, some _, none, none, none, none, none, none, none, none] _) _ _ _
  trivial
  refine consts_ev S.few ?_
  trivial
  have e0 : (consts fns).length ≤ 900000 := by
    have := S.ln 0 (by omega)
    rw [termsD, List.length_map] at this
    exact this
  refine sop_i (lc_map (enc := D.str) (fun x => .tup [.str x]) (xs := consts fns) ?_) ?_
  · intro x hx
    trivial
    exact ⟨trivial, trivial⟩
  trivial
  refine ck_i (by show _ ≤ 1000000; omega) ?_
  trivial
  refine ck_i (by unfold big; rw [decide_eq_true_eq]; have := S.dp; omega) ?_
  trivial
  refine sv_forN 0 _ (fun i ρ r => ∃ y3 y4 y5 y6 y7 y8 y9, ρ = [some (sigD fns rels), some (.int d), some (.lst (termsD fns i)), y3, y4, y5, y6, y7, y8, y9] ∧ R = r) ⟨_, _, _, _, _, _, _, rfl, rfl⟩ ?_ ?_
  · rintro i hi ρ r ⟨y3, y4, y5, y6, y7, y8, y9, rfl, rfl⟩
    have hi' : i < d := by omega
    generalize ht : termsD fns i = ts
    have htm := termsD_ok (d := d) S.nm i
    rw [ht] at htm
    have hpls : pls (i + 1) ts = true := pls_iff.mpr fun x hx => (htm x hx).1
    have himm : D.imms ts = true := imms_iff.mpr fun x hx => (htm x hx).2
    have hdp := S.dp
    trivial
    refine imms_i himm ?_
    trivial
    refine sv_forX (enc := dP) fns (fun done ρ r => ∃ y3 y4 y6 y7 y8 y9, ρ = [some (sigD fns rels), some (.int d), some (.lst ts), y3, y4, some (.lst (ts ++ done.flatMap (newD ts))), y6, y7, y8, y9] ∧ R = r) ⟨_, _, _, _, _, _, by rw [List.flatMap_nil, List.append_nil], rfl⟩ ?_ ?_
    · rintro done ⟨x, a⟩ rest e ρ r ⟨y3, y4, y6, y7, y8, y9, rfl, rfl⟩
      have hm : (x, a) ∈ fns := by rw [e]; simp
      unfold dP
      trivial
      refine bif_d (fun c => ?_) (fun c => ?_)
      · obtain ⟨m, rfl⟩ : ∃ m : Nat, a = m := ⟨a.toNat, by omega⟩
        have hm0 : 0 < m := by omega
        have hm3 : m ≤ 3 := by have := S.ar _ hm; dsimp only at this; omega
        have hpw : ∀ i ≤ m, ts.length ^ i ≤ 900000 := fun j hj => by
          have := S.pw i hi' _ hm j (by show j ≤ ((m : Int)).toNat; omega)
          rwa [ht] at this
        have hrow := rowsD_row ts m
        trivial
        refine rows_ev hm3 hpw ?_
        trivial
        refine sop_i (lc_map (enc := D.tup) (fun r => .tup (.str x :: r)) (xs := rowsD ts m) ?_) ?_
        · intro r hr
          trivial
          refine ck_i (by rw [(hrow r hr).1]; show 1 + m ≤ 1000000; omega) ?_
          trivial
          (first | exact ⟨rfl, rfl⟩ | exact ⟨True.intro, True.intro⟩ | exact ⟨rfl, True.intro⟩ | exact ⟨True.intro, rfl⟩ | simp)
        trivial
        refine ck_i (by rw [rowsD_len]; have := hpw m (Nat.le_refl m); show _ ≤ 1000000; omega) ?_
        trivial
        refine imms_i (imms_iff.mpr fun z hz => ?_) ?_
        · obtain ⟨r, hr, rfl⟩ := List.mem_map.mp hz
          rw [D.imm, D.imms, imms_iff.mpr fun y hy => (htm y ((hrow r hr).2 y hy)).2]
          rfl
        trivial
        refine sop_i (lc_pure (enc := fun r => D.tup (.str x :: r)) (xs := rowsD ts m) (fun r => !decide (D.tup (.str x :: r) ∈ ts)) (fun r => .tup (.str x :: r)) ?_) ?_
        · intro r hr
          trivial
          refine so_i (dNotIn_pl (n := i + 2) (m := i + 1) (pl_tup fun y hy => ?_) hpls (by omega) (by omega)) ?_
          · rcases List.mem_cons.mp hy with z | z
            · subst z; exact pl_str (S.nm _ hm)
            · exact (htm y ((hrow r hr).2 y z)).1
          trivial
          exact ⟨trivial, trivial, fun _ => ⟨trivial, trivial⟩⟩
        · rw [← newD_eq hm0]
          have hlen : (ts ++ done.flatMap (newD ts)).length + (newD ts (x, (m : Int))).length ≤ 900000 := by
            have h1 := S.ln (i + 1) (by omega)
            rw [termsD, ht, stepD, e, List.flatMap_append, List.flatMap_cons] at h1
            simp only [List.length_append] at h1 ⊢
            omega
          trivial
          refine ck_i (by show _ ≤ 1000000; omega) ?_
          trivial
          refine imms_i (imms_iff.mpr fun z hz => ?_) ?_
          · rw [newD_eq hm0] at hz
            obtain ⟨r, hr, rfl⟩ := List.mem_map.mp hz
            have hr := (List.mem_filter.mp hr).1
            rw [D.imm, D.imms, imms_iff.mpr fun y hy => (htm y ((hrow r hr).2 y hy)).2]
            rfl
          trivial
          refine ck_i (by show _ ≤ 1000000; omega) ?_
          trivial
          have el : ts ++ (done ++ [(x, (m : Int))]).flatMap (newD ts) = ts ++ done.flatMap (newD ts) ++ newD ts (x, (m : Int)) := by rw [List.flatMap_append, List.append_assoc]; simp
          rw [el]
          exact ⟨_, _, _, _, _, _, rfl, (by first | rfl | exact True.intro)⟩
      · trivial
        have : newD ts (x, a) = [] := by unfold newD; rw [if_neg (by simpa using c)]
        have el : (done ++ [(x, a)]).flatMap (newD ts) = done.flatMap (newD ts) := by rw [List.flatMap_append]; simp [this]
        rw [el]
        exact ⟨_, _, _, _, _, _, rfl, (by first | rfl | exact True.intro)⟩
    · rintro ρ r ⟨y3, y4, y6, y7, y8, y9, rfl, rfl⟩
      trivial
      have el : termsD fns (i + 1) = ts ++ fns.flatMap (newD ts) := by rw [termsD, ht, stepD]
      rw [el]
      exact ⟨_, _, _, _, _, _, _, rfl, (by first | rfl | exact True.intro)⟩
  · rintro ρ r ⟨y3, y4, y5, y6, y7, y8, y9, rfl, rfl⟩
    trivial
    exact H
theorem ltuples_ev {fuel n : Nat} {cs : List D} {a : Nat} {R : Rs} {Q : D → Rs → Prop} {E : Nat → List (Str × Int) → Rs → Prop} {t : Tag2 Q E}
    (ha : a ≤ 3) (hs : ∀ i ≤ a, cs.length ^ i ≤ 900000) (H : Q (.lst ((rowsD cs a).map .tup)) R) : Ev (pr fuel (n + 1) 2 [.lst cs, .int a] R) Q E t := by
  rw [e__law_tuples, ev_run]
  unfold b__law_tuples
  show Sv (sSeq _ _ [some (.lst cs), some (.int a), none, none, none, none, none] _) _ _ _
  trivial
  refine ck_i (by unfold big; rw [decide_eq_true_eq]; omega) ?_
  trivial
  refine sv_forN 0 _ (fun i ρ r => ∃ y3 y4 y5 y6, ρ = [some (.lst cs), some (.int a), some (.lst ((rowsD cs i).map .tup)), y3, y4, y5, y6] ∧ R = r) ⟨_, _, _, _, rfl, rfl⟩ ?_ ?_
  · rintro i hi ρ r ⟨y3, y4, y5, y6, rfl, rfl⟩
    have hi' : i + 1 ≤ a := by omega
    have hl := hs (i + 1) hi'
    have hr := rowsD_row cs i
    have hc : cs.length ≤ 900000 := by have := hs 1 (by omega); rwa [Nat.pow_one] at this
    trivial
    refine sv_forX (enc := D.tup) (rowsD cs i) (fun done ρ r => ∃ y3 y5 y6, ρ = [some (.lst cs), some (.int a), some (.lst ((rowsD cs i).map .tup)), y3, some (.lst (done.flatMap fun r => cs.map fun c => .tup (r ++ [c]))), y5, y6] ∧ R = r) ⟨_, _, _, rfl, rfl⟩ ?_ ?_
    · rintro done x rest e ρ r ⟨y3, y5, y6, rfl, rfl⟩
      have hx := (hr x (by rw [e]; simp)).1
      trivial
      have ec : cs = cs.map fun d => d := by simp
      rw [ec]
      refine sop_i (lc_map (enc := fun d => d) (fun c => .tup (x ++ [c])) (xs := cs) ?_) ?_
      · intro c _
        trivial
        refine ck_i (by rw [hx]; show i + 1 ≤ 1000000; omega) ?_
        trivial
        (first | exact ⟨rfl, rfl⟩ | exact ⟨True.intro, True.intro⟩ | exact ⟨rfl, True.intro⟩ | exact ⟨True.intro, rfl⟩ | simp)
      rw [← ec]
      have hlen : (done.flatMap fun r => cs.map fun c => D.tup (r ++ [c])).length + cs.length ≤ 900000 := by
        have h1 := congrArg List.length (rowsD_tup cs i)
        rw [List.length_map, rowsD_len, e, List.flatMap_append, List.flatMap_cons] at h1
        simp only [List.length_append, List.length_map] at h1
        omega
      trivial
      refine ck_i (by show _ ≤ 1000000; omega) ?_
      trivial
      refine ck_i (by show _ ≤ 1000000; omega) ?_
      trivial
      have el : ((done ++ [x]).flatMap fun r => cs.map fun c => D.tup (r ++ [c])) = (done.flatMap fun r => cs.map fun c => D.tup (r ++ [c])) ++ cs.map fun c => D.tup (x ++ [c]) := by rw [List.flatMap_append]; simp
      rw [el]
      exact ⟨_, _, _, rfl, (by first | rfl | exact True.intro)⟩
    · rintro ρ r ⟨y3, y5, y6, rfl, rfl⟩
      trivial
      rw [rowsD_tup]
      exact ⟨_, _, _, _, rfl, (by first | rfl | exact True.intro)⟩
  · rintro ρ r ⟨y3, y4, y5, y6, rfl, rfl⟩
    trivial
    exact H
open Classical in
theorem lclosed_ev {fuel n : Nat} {fns : List NA} {d : Nat} (S : Sz fns d) {R : Rs} {Q : D → Rs → Prop} {E : Nat → List (Str × Int) → Rs → Prop} {t : Tag2 Q E}
    (H : Q (.lst (termsD fns d)) R) : Ev (pr fuel (n + 2) 3 [.lst (fns.map dP), .int d] R) Q E t := by
  rw [e__law_closed, ev_run]
  unfold b__law_closed
  show Sv (sSeq _ _ [some _, some _, none, none, none, none, none, none] _) _ _ _
  have e0 : (consts fns).length ≤ 900000 := by
    have := S.ln 0 (by omega)
    rw [termsD, List.length_map] at this
    exact this
  trivial
  refine sop_i (lc_pure (enc := dP) (xs := fns) (fun p => decide (p.2 = 0)) (fun p => .tup [.str p.1]) ?_) ?_
  · rintro ⟨x, a⟩ _
    unfold dP
    trivial
    refine ⟨trivial, trivial, fun _ => ?_⟩
    (first | exact ⟨rfl, rfl⟩ | exact ⟨True.intro, True.intro⟩ | exact ⟨rfl, True.intro⟩ | exact ⟨True.intro, rfl⟩ | simp)
  have et : ((fns.filter fun p => decide (p.2 = 0)).map fun p => D.tup [.str p.1]) = termsD fns 0 := by
    unfold termsD consts
    rw [List.map_map]; rfl
  rw [et]
  trivial
  refine ck_i (by rw [termsD, List.length_map]; show _ ≤ 1000000; omega) ?_
  trivial
  refine ck_i (by unfold big; rw [decide_eq_true_eq]; have := S.dp; omega) ?_
  trivial
  refine sv_forN 0 _ (fun i ρ r => ∃ y3 y4 y5 y6 y7, ρ = [some (.lst (fns.map dP)), some (.int d), some (.lst (termsD fns i)), y3, y4, y5, y6, y7] ∧ R = r) ⟨_, _, _, _, _, rfl, rfl⟩ ?_ ?_
  · rintro i hi ρ r ⟨y3, y4, y5, y6, y7, rfl, rfl⟩
    have hi' : i < d := by omega
    generalize ht : termsD fns i = ts
    have htm := termsD_ok (d := d) S.nm i
    rw [ht] at htm
    have hpls : pls (i + 1) ts = true := pls_iff.mpr fun x hx => (htm x hx).1
    have hdp := S.dp
    trivial
    refine sv_forX (enc := dP) fns (fun done ρ r => ∃ y3 y4 y5 y7, ρ = [some (.lst (fns.map dP)), some (.int d), some (.lst ts), y3, y4, y5, some (.lst (ts ++ done.flatMap (newD ts))), y7] ∧ R = r) ⟨_, _, _, _, by rw [List.flatMap_nil, List.append_nil], rfl⟩ ?_ ?_
    · rintro done ⟨x, a⟩ rest e ρ r ⟨y3, y4, y5, y7, rfl, rfl⟩
      have hm : (x, a) ∈ fns := by rw [e]; simp
      show Tgt _ (.tup [.str x, .int a]) _ _ _
      trivial
      refine bif_d (fun c => ?_) (fun c => ?_)
      · obtain ⟨m, rfl⟩ : ∃ m : Nat, a = m := ⟨a.toNat, by omega⟩
        have hm0 : 0 < m := by omega
        have hm3 : m ≤ 3 := by have := S.ar _ hm; dsimp only at this; omega
        have hpw : ∀ i ≤ m, ts.length ^ i ≤ 900000 := fun j hj => by
          have := S.pw i hi' _ hm j (by show j ≤ ((m : Int)).toNat; omega)
          rwa [ht] at this
        have hrow := rowsD_row ts m
        trivial
        refine ltuples_ev hm3 hpw ?_
        trivial
        have hlen : (ts ++ done.flatMap (newD ts)).length + (newD ts (x, (m : Int))).length ≤ 900000 := by
          have h1 := S.ln (i + 1) (by omega)
          rw [termsD, ht, stepD, e, List.flatMap_append, List.flatMap_cons] at h1
          simp only [List.length_append] at h1 ⊢
          omega
        have el : ts ++ (done ++ [(x, (m : Int))]).flatMap (newD ts) = ts ++ done.flatMap (newD ts) ++ newD ts (x, (m : Int)) := by rw [List.flatMap_append, List.append_assoc]; simp
        rw [el, newD_eq hm0]
        rw [newD_eq hm0] at hlen
        generalize ts ++ done.flatMap (newD ts) = base at hlen
        refine sv_forX (enc := D.tup) (rowsD ts m) (fun dn ρ r => ∃ y7, ρ = [some (.lst (fns.map dP)), some (.int d), some (.lst ts), some (.str x), some (.int m), y5, some (.lst (base ++ (dn.filter fun r => !decide (D.tup (.str x :: r) ∈ ts)).map fun r => .tup (.str x :: r))), y7] ∧ R = r) ⟨_, by rw [List.filter_nil, List.map_nil, List.append_nil], rfl⟩ ?_ ?_
        · rintro dn r' rest' e' ρ r ⟨y7, rfl, rfl⟩
          have hr' : r' ∈ rowsD ts m := by rw [e']; simp
          have hdl : (dn.filter fun r => !decide (D.tup (.str x :: r) ∈ ts)).length + 1 ≤ (rowsD ts m).length := by
            have := List.length_filter_le (fun r => !decide (D.tup (.str x :: r) ∈ ts)) dn
            rw [e', List.length_append, List.length_cons]
            omega
          have hpl : pl (i + 2) (.tup (.str x :: r')) = true := pl_tup fun y hy => by
            rcases List.mem_cons.mp hy with z | z
            · subst z; exact pl_str (S.nm _ hm)
            · exact (htm y ((hrow r' hr').2 y z)).1
          have hbl : base.length + (rowsD ts m).length ≤ 1000000 * 2 := by
            have h2 := hpw m (Nat.le_refl m)
            rw [rowsD_len]
            omega
          trivial
          refine ck_i (by rw [(hrow r' hr').1]; show 1 + m ≤ 1000000; omega) ?_
          trivial
          refine so_i (dNotIn_pl (n := i + 2) (m := i + 1) hpl hpls (by omega) (by omega)) ?_
          trivial
          by_cases hin : D.tup (.str x :: r') ∈ ts
          · have e2 : ((dn ++ [r']).filter fun r => !decide (D.tup (.str x :: r) ∈ ts)) = dn.filter fun r => !decide (D.tup (.str x :: r) ∈ ts) := by rw [List.filter_append]; simp [hin]
            rw [decide_eq_true hin, e2]
            trivial
            exact ⟨_, rfl, (by first | rfl | exact True.intro)⟩
          · have e2 : ((dn ++ [r']).filter fun r => !decide (D.tup (.str x :: r) ∈ ts)) = (dn.filter fun r => !decide (D.tup (.str x :: r) ∈ ts)) ++ [r'] := by rw [List.filter_append]; simp [hin]
            have hlt : (base ++ (dn.filter fun r => !decide (D.tup (.str x :: r) ∈ ts)).map fun r => D.tup (.str x :: r)).length < lim := by
              rw [List.length_append, List.length_map]
              have h3 : (dn.filter fun r => !decide (D.tup (.str x :: r) ∈ ts)).length ≤ ((rowsD ts m).filter fun r => !decide (D.tup (.str x :: r) ∈ ts)).length := by
                rw [e', List.filter_append, List.length_append]; omega
              rw [List.length_map] at hlen
              show _ < 1000000
              omega
            rw [decide_eq_false hin, e2, List.map_append, ← List.append_assoc]
            trivial
            refine ck_i (by rw [(hrow r' hr').1]; show 1 + m ≤ 1000000; omega) ?_
            trivial
            refine ck_i hlt ?_
            trivial
            exact ⟨_, rfl, (by first | rfl | exact True.intro)⟩
        · rintro ρ r ⟨y7, rfl, rfl⟩
          exact ⟨_, _, _, _, rfl, (by first | rfl | exact True.intro)⟩
      · trivial
        have : newD ts (x, a) = [] := by unfold newD; rw [if_neg (by simpa using c)]
        have el : (done ++ [(x, a)]).flatMap (newD ts) = done.flatMap (newD ts) := by rw [List.flatMap_append]; simp [this]
        rw [el]
        exact ⟨_, _, _, _, rfl, (by first | rfl | exact True.intro)⟩
    · rintro ρ r ⟨y3, y4, y5, y7, rfl, rfl⟩
      trivial
      have el : termsD fns (i + 1) = ts ++ fns.flatMap (newD ts) := by rw [termsD, ht, stepD]
      rw [el]
      exact ⟨_, _, _, _, _, rfl, (by first | rfl | exact True.intro)⟩
  · rintro ρ r ⟨y3, y4, y5, y6, y7, rfl, rfl⟩
    trivial
    exact H
/-! ### names -/
def knownS : List Str := ["a", "c3", "zero", "f", "c2", "c1"]
def knownC : List Str := ["P", "C1"]
theorem small_known {fuel LW n r} {x : Str} (h : x ∈ knownS) : prP fuel LW (n + 2) 313 [.str x] r = .ok (.bl true) r := by
  unfold knownS at h
  simp only [List.mem_cons, List.not_mem_nil, or_false] at h
  rcases h with rfl | rfl | rfl | rfl | rfl | rfl <;> with_unfolding_all rfl
theorem cap_known {fuel LW n r} {x : Str} (h : x ∈ knownC) : prP fuel LW (n + 2) 312 [.str x] r = .ok (.bl true) r := by
  unfold knownC at h
  simp only [List.mem_cons, List.not_mem_nil, or_false] at h
  rcases h with rfl | rfl <;> with_unfolding_all rfl
theorem ok_known {x : Str} (h : x ∈ knownS ++ knownC) : PyData.strOk x = true := by
  unfold knownS knownC at h
  simp only [List.cons_append, List.nil_append, List.mem_cons, List.not_mem_nil, or_false] at h
  rcases h with rfl | rfl | rfl | rfl | rfl | rfl | rfl | rfl <;> decide +kernel
/-- the name of a new constant -/
def cn (names : List Str) : Str := if ("c1" : Str) ∈ names then (if ("c2" : Str) ∈ names then "c3" else "c2") else "c1"
theorem c_1 : dAdd (.str "c") (.str (toString (1 : Int))) = some (.str "c1") := by with_unfolding_all rfl
theorem c_2 : dAdd (.str "c") (.str (toString (2 : Int))) = some (.str "c2") := by with_unfolding_all rfl
theorem c_3 : dAdd (.str "c") (.str (toString (3 : Int))) = some (.str "c3") := by with_unfolding_all rfl
theorem in_names {x : Str} {names : List Str} (hx : PyData.strOk x = true) (hn : ∀ y ∈ names, PyData.strOk y = true) : dIn (.str x) (.lst (names.map .str)) = some (.bl (decide (x ∈ names))) := by
  have := Classical.propDecidable (D.str x ∈ names.map D.str)
  rw [dIn_pl (n := 0) (m := 0) (pl_str hx) (pls_iff.mpr fun z hz => by obtain ⟨y, hy, rfl⟩ := List.mem_map.mp hz; exact pl_str (hn y hy))]
  congr 2
  refine decide_eq_decide.mpr ⟨fun h => ?_, fun h => List.mem_map.mpr ⟨x, h, rfl⟩⟩
  obtain ⟨y, hy, e⟩ := List.mem_map.mp h
  cases e
  exact hy
theorem fresh_ev {f : Nat} {LW : (Nat → List D → Rs → Out D) → Nat → List D → Rs → Out D} {n : Nat} {names : List Str} (hn : ∀ y ∈ names, PyData.strOk y = true) (h3 : ("c3" : Str) ∉ names) {R : Rs} {Q : D → Rs → Prop} {E : Nat → List (Str × Int) → Rs → Prop} {t : Tag2 Q E}
    (H : Q (.str (cn names)) R) : Ev (prP (f + 4) LW (n + 1) 310 [.str "c", .lst (names.map .str)] R) Q E t := by
  have o1 : PyData.strOk "c1" = true := by decide +kernel
  have o2 : PyData.strOk "c2" = true := by decide +kernel
  have o3 : PyData.strOk "c3" = true := by decide +kernel
  rw [e_names_fresh_name, ev_run]
  unfold b_names_fresh_name
  show Sv (sSeq _ _ [some _, some _, none] _) _ _ _
  trivial
  refine while1 ?_
  trivial
  refine ck_i (by decide) ?_
  refine so_i c_1 ?_
  trivial
  refine so_i (in_names o1 hn) ?_
  trivial
  by_cases h1 : ("c1" : Str) ∈ names
  · rw [decide_eq_true h1]
    trivial
    refine while1 ?_
    trivial
    refine ck_i (by decide) ?_
    refine so_i c_2 ?_
    trivial
    refine so_i (in_names o2 hn) ?_
    trivial
    by_cases h2 : ("c2" : Str) ∈ names
    · rw [decide_eq_true h2]
      trivial
      refine while1 ?_
      trivial
      refine ck_i (by decide) ?_
      refine so_i c_3 ?_
      trivial
      refine so_i (in_names o3 hn) ?_
      trivial
      rw [decide_eq_false h3]
      trivial
      refine ck_i (by decide) ?_
      refine so_i c_3 ?_
      trivial
      unfold cn at H
      rw [if_pos h1, if_pos h2] at H
      exact H
    · rw [decide_eq_false h2]
      trivial
      refine ck_i (by decide) ?_
      refine so_i c_2 ?_
      trivial
      unfold cn at H
      rw [if_pos h1, if_neg h2] at H
      exact H
  · rw [decide_eq_false h1]
    trivial
    refine ck_i (by decide) ?_
    refine so_i c_1 ?_
    trivial
    unfold cn at H
    rw [if_neg h1] at H
    exact H
def due (fns : List NA) : List NA := if consts fns = [] then fns ++ [(cn (fns.map Prod.fst), 0)] else fns
/-- a signature of the names drawn -/
structure Sg (fns rels : List NA) : Prop where
  kf : ∀ p ∈ fns, p.1 ∈ knownS
  kr : ∀ p ∈ rels, p.1 ∈ knownC
  ar : ∀ p ∈ fns ++ rels, 0 ≤ p.2 ∧ p.2 ≤ 3
  nd : ((fns ++ rels).map Prod.fst).Nodup
  len : (fns ++ rels).length ≤ 900
  c3 : consts fns = [] → ("c3" : Str) ∉ fns.map Prod.fst
theorem Sg.ok {fns rels : List NA} (h : Sg fns rels) {fuel LW n} : SigOk (prP fuel LW (n + 2)) fns rels where
  small := fun p hp r => small_known (h.kf p hp)
  cap := fun p hp r => cap_known (h.kr p hp)
  ar := h.ar
  nd := h.nd
  len := by have := h.len; omega
theorem cn_known (names : List Str) : cn names ∈ knownS := by
  unfold cn knownS
  split
  · split <;> simp
  · simp
theorem cn_new {names : List Str} (h : ("c3" : Str) ∉ names) : cn names ∉ names := by
  unfold cn
  split
  · split
    · exact h
    · assumption
  · assumption
theorem knownSC {x : Str} (h : x ∈ knownS) : x ∉ knownC := by
  unfold knownS at h
  simp only [List.mem_cons, List.not_mem_nil, or_false] at h
  rcases h with rfl | rfl | rfl | rfl | rfl | rfl <;> decide +kernel
theorem Sg.due {fns rels : List NA} (h : Sg fns rels) : ∀ {fuel LW n}, SigOk (prP fuel LW (n + 2)) (due fns) rels := fun {fuel LW n} => by
  unfold KM.due
  by_cases e : consts fns = []
  · rw [if_pos e]
    have hc := cn_known (fns.map Prod.fst)
    refine ⟨fun p hp r => ?_, fun p hp r => cap_known (h.kr p hp), fun p hp => ?_, ?_, ?_⟩
    · rcases List.mem_append.mp hp with hp | hp
      · exact small_known (h.kf p hp)
      · rw [List.mem_singleton] at hp; subst hp; exact small_known hc
    · rcases List.mem_append.mp hp with hp | hp
      · rcases List.mem_append.mp hp with hp | hp
        · exact h.ar p (List.mem_append_left _ hp)
        · rw [List.mem_singleton] at hp; subst hp; exact ⟨Int.le_refl 0, by show (0 : Int) ≤ 3; decide⟩
      · exact h.ar p (List.mem_append_right _ hp)
    · have nd := h.nd
      rw [List.map_append] at nd ⊢
      rw [List.map_append, List.map_singleton, List.append_assoc, List.singleton_append]
      refine (List.perm_middle.nodup_iff).mpr (List.nodup_cons.mpr ⟨fun z => ?_, nd⟩)
      rcases List.mem_append.mp z with z | z
      · exact cn_new (h.c3 e) z
      · obtain ⟨p, hp, q⟩ := List.mem_map.mp z
        have q' : p.1 = cn (fns.map Prod.fst) := q
        exact knownSC hc (by rw [← q']; exact h.kr p hp)
    · have := h.len
      simp only [List.length_append, List.length_singleton] at this ⊢
      omega
  · rw [if_neg e]
    exact h.ok
theorem blw_dr {n : Nat} {R : Rs} (h : Dr n R) : Blw R := by
  obtain ⟨row, a, seed, rfl, h1, h2⟩ := h
  have : D.blws 2 (row.map D.int) = true := by
    clear h1
    induction row with
    | nil => rfl
    | cons x l ih => rw [List.map_cons, D.blws, ih]; rfl
  show ((RO.blw 2 _ && (RO.blw 2 _ && true)) = true)
  rw [RO.blw, this]
  rfl
theorem named_ev {f n : Nat} {LW : (Nat → List D → Rs → Out D) → Nat → List D → Rs → Out D} {fns rels : List NA} (h : Sg fns rels) {R : Rs} (hR : Blw R) {Q : D → Rs → Prop} {E : Nat → List (Str × Int) → Rs → Prop} {t : Tag2 Q E}
    (H : Q (sigD (due fns) rels) R) : Ev (prP (f + 4) LW (n + 6) 197 [sigD fns rels] R) Q E t := by
  have hl := h.len
  rw [List.length_append] at hl
  rw [e_fillings_named_signature, ev_run]
  unfold b_fillings_named_signature
  show Sv (sSeq _ _ [some _, none, none, none] _) _ _ _
  trivial
  refine consts_ev (by omega) ?_
  trivial
  by_cases e : consts fns = []
  · rw [e]
    show Bif false _ _ _
    trivial
    refine ck_i (by show _ ≤ 1000000; omega) ?_
    trivial
    rw [← List.map_append]
    refine sop_i (lc_map (enc := dP) (fun p => D.str p.1) (xs := fns ++ rels) ?_) ?_
    · rintro ⟨x, a⟩ _
      show Tgt _ (.tup [.str x, .int a]) _ _ _
      trivial
      (first | exact ⟨rfl, rfl⟩ | exact ⟨True.intro, True.intro⟩ | exact ⟨rfl, True.intro⟩ | exact ⟨True.intro, rfl⟩ | simp)
    have en : ((fns ++ rels).map fun p => D.str p.1) = ((fns ++ rels).map Prod.fst).map .str := by rw [List.map_map]; rfl
    rw [en]
    trivial
    refine ck_i (by rw [List.length_append]; show _ ≤ 1000000; omega) ?_
    trivial
    have c3 : ("c3" : Str) ∉ (fns ++ rels).map Prod.fst := by
      rw [List.map_append]
      intro z
      rcases List.mem_append.mp z with z | z
      · exact h.c3 e z
      · obtain ⟨p, hp, q⟩ := List.mem_map.mp z
        exact knownSC (x := "c3") (by decide +kernel) (by rw [← q]; exact h.kr p hp)
    refine fresh_ev (fun y hy => ?_) c3 ?_
    · obtain ⟨p, hp, rfl⟩ := List.mem_map.mp hy
      rcases List.mem_append.mp hp with hp | hp
      · exact ok_known (List.mem_append_left _ (h.kf p hp))
      · exact ok_known (List.mem_append_right _ (h.kr p hp))
    have ecn : cn ((fns ++ rels).map Prod.fst) = cn (fns.map Prod.fst) := by
      have m1 : ("c1" : Str) ∈ (fns ++ rels).map Prod.fst ↔ ("c1" : Str) ∈ fns.map Prod.fst := by
        rw [List.map_append, List.mem_append]
        refine ⟨fun z => z.elim id fun z => ?_, .inl⟩
        obtain ⟨p, hp, q⟩ := List.mem_map.mp z
        exact absurd (by rw [← q]; exact h.kr p hp) (knownSC (x := "c1") (by decide +kernel))
      have m2 : ("c2" : Str) ∈ (fns ++ rels).map Prod.fst ↔ ("c2" : Str) ∈ fns.map Prod.fst := by
        rw [List.map_append, List.mem_append]
        refine ⟨fun z => z.elim id fun z => ?_, .inl⟩
        obtain ⟨p, hp, q⟩ := List.mem_map.mp z
        exact absurd (by rw [← q]; exact h.kr p hp) (knownSC (x := "c2") (by decide +kernel))
      unfold cn
      simp only [m1, m2]
    rw [ecn]
    trivial
    rw [e_books_Signature_extended_v1, ev_run]
    unfold b_books_Signature_extended_v1
    show Sv (sRet false _ _ [some _, some _] _) _ _ _
    trivial
    refine ck_i (by show fns.length + 1 ≤ 1000000; omega) ?_
    trivial
    have ed : due fns = fns ++ [(cn (fns.map Prod.fst), 0)] := by unfold due; rw [if_pos e]
    refine newSig_ev (fns := due fns) (rels := rels) (by rw [ed, List.map_append]; rfl) rfl h.due hR ?_
    exact H
  · have ee : (((consts fns).map D.str).isEmpty) = false := by
      cases q : consts fns with
      | nil => exact absurd q e
      | cons _ _ => rfl
    rw [ee]
    trivial
    unfold due at H
    rw [if_neg e] at H
    exact H
/-! ### lengths -/
theorem newD_len {ts : List D} {p : NA} : (newD ts p).length ≤ if 0 < p.2 then ts.length ^ p.2.toNat else 0 := by
  unfold newD
  split
  · refine Nat.le_trans (List.length_filter_le _ _) ?_
    rw [List.length_map, rowsD_len]
    exact Nat.le_refl _
  · exact Nat.le_refl _
def pos (fns : List NA) : Nat := (fns.filter fun p => decide (0 < p.2)).length
theorem step_len {ts : List D} {A : Nat} (hT : 1 ≤ ts.length) : ∀ {fns : List NA}, (∀ p ∈ fns, p.2 ≤ A) → (fns.flatMap (newD ts)).length ≤ pos fns * ts.length ^ A
  | [], _ => by simp
  | p :: fns, h => by
    have ih := step_len hT (fns := fns) fun q m => h q (List.mem_cons_of_mem _ m)
    have hp := newD_len (ts := ts) (p := p)
    have hA := h p List.mem_cons_self
    rw [List.flatMap_cons, List.length_append]
    by_cases c : 0 < p.2
    · rw [if_pos c] at hp
      have e : pos (p :: fns) = pos fns + 1 := by unfold pos; rw [List.filter_cons_of_pos (by simpa using c)]; rfl
      have : ts.length ^ p.2.toNat ≤ ts.length ^ A := Nat.pow_le_pow_right hT (by omega)
      rw [e, Nat.succ_mul]
      omega
    · rw [if_neg c] at hp
      have e : pos (p :: fns) = pos fns := by unfold pos; rw [List.filter_cons_of_neg (by simpa using c)]
      rw [e]
      omega
theorem terms1 {fns : List NA} (h1 : 1 ≤ (consts fns).length) : ∀ k, 1 ≤ (termsD fns k).length
  | 0 => by rw [termsD, List.length_map]; exact h1
  | k + 1 => by
    have := terms1 h1 k
    rw [termsD, stepD, List.length_append]
    omega
theorem terms_le {fns : List NA} {A : Nat} (h1 : 1 ≤ (consts fns).length) (h : ∀ p ∈ fns, p.2 ≤ A) (k : Nat) : (termsD fns (k + 1)).length ≤ (termsD fns k).length + pos fns * (termsD fns k).length ^ A := by
  rw [termsD, stepD, List.length_append]
  have := step_len (terms1 h1 k) h
  omega
theorem sz_due {fns : List NA} {d : Nat} (hn : ∀ p ∈ fns, PyData.strOk p.1 = true) (few : fns.length ≤ 1000) (h1 : 1 ≤ (consts fns).length) (h3 : (consts fns).length ≤ 3) (hp : pos fns ≤ 2) (har : ∀ p ∈ fns, p.2 ≤ 3) (hd : d ≤ 2) (hd2 : (∃ p ∈ fns, p.2 = 3) → d ≤ 1) : Sz fns d := by
  have t0 : (termsD fns 0).length ≤ 3 := by rw [termsD, List.length_map]; exact h3
  have t01 := terms1 h1 0
  have pw3 : ∀ (m : Nat) (i : Nat), 1 ≤ m → i ≤ 3 → m ^ i ≤ m ^ 3 := fun m i hm hi => Nat.pow_le_pow_right hm hi
  have l1 : (termsD fns 1).length ≤ 57 := by
    have q : (termsD fns 1).length ≤ (termsD fns 0).length + pos fns * (termsD fns 0).length ^ 3 := terms_le h1 (A := 3) (by simpa using har) 0
    have : (termsD fns 0).length ^ 3 ≤ 3 ^ 3 := Nat.pow_le_pow_left t0 3
    have : pos fns * (termsD fns 0).length ^ 3 ≤ 2 * 27 := Nat.mul_le_mul hp (by omega)
    omega
  by_cases c : ∃ p ∈ fns, p.2 = 3
  · have hd1 := hd2 c
    refine ⟨hn, har, few, fun k hk p hpm i hi => ?_, fun k hk => ?_, by omega⟩
    · have hk0 : k = 0 := by omega
      subst hk0
      have := har p hpm
      have := pw3 _ i t01 (by omega)
      have : (termsD fns 0).length ^ 3 ≤ 3 ^ 3 := Nat.pow_le_pow_left t0 3
      omega
    · have : k = 0 ∨ k = 1 := by omega
      rcases this with rfl | rfl <;> omega
  · have har2 : ∀ p ∈ fns, p.2 ≤ (2 : Nat) := fun p hpm => by
      have := har p hpm
      have : p.2 ≠ 3 := fun z => c ⟨p, hpm, z⟩
      omega
    have m1 : (termsD fns 1).length ≤ 21 := by
      have q : (termsD fns 1).length ≤ (termsD fns 0).length + pos fns * (termsD fns 0).length ^ 2 := terms_le h1 har2 0
      have : (termsD fns 0).length ^ 2 ≤ 3 ^ 2 := Nat.pow_le_pow_left t0 2
      have : pos fns * (termsD fns 0).length ^ 2 ≤ 2 * 9 := Nat.mul_le_mul hp (by omega)
      omega
    have m2 : (termsD fns 2).length ≤ 1000 := by
      have q : (termsD fns 2).length ≤ (termsD fns 1).length + pos fns * (termsD fns 1).length ^ 2 := terms_le h1 har2 1
      have : (termsD fns 1).length ^ 2 ≤ 21 ^ 2 := Nat.pow_le_pow_left m1 2
      have : pos fns * (termsD fns 1).length ^ 2 ≤ 2 * 441 := Nat.mul_le_mul hp (by omega)
      omega
    refine ⟨hn, har, few, fun k hk p hpm i hi => ?_, fun k hk => ?_, by omega⟩
    · have h2 := har2 p hpm
      have hk' : k = 0 ∨ k = 1 := by omega
      have hle : (termsD fns k).length ≤ 57 := by rcases hk' with rfl | rfl <;> omega
      have := pw3 (termsD fns k).length i (terms1 h1 k) (by omega)
      have : (termsD fns k).length ^ 3 ≤ 57 ^ 3 := Nat.pow_le_pow_left hle 3
      omega
    · have : k = 0 ∨ k = 1 ∨ k = 2 := by omega
      rcases this with rfl | rfl | rfl <;> omega
theorem sz0 {fns : List NA} (hn : ∀ p ∈ fns, PyData.strOk p.1 = true) (few : fns.length ≤ 1000) (har : ∀ p ∈ fns, p.2 ≤ 3) : Sz fns 0 :=
  ⟨hn, har, few, fun k hk => by omega, fun k hk => by
    have : k = 0 := by omega
    subst this
    rw [termsD, List.length_map, consts, List.length_map]
    have := List.length_filter_le (fun p : NA => decide (p.2 = 0)) fns
    omega, by omega⟩
theorem terms_pl {fns : List NA} {d : Nat} (S : Sz fns d) : pl (d + 2) (.lst (termsD fns d)) = true := pl_lst fun t m => (termsD_ok (d := d) S.nm d t m).1
theorem ltake_ev {fuel n k : Nat} {m : Int} {R : Rs} {Q : D → Rs → Prop} {E : Nat → List (Str × Int) → Rs → Prop} {t : Tag2 Q E} (h : Dr (k + 1) R) (hm : 0 < m) (H : ∀ (v : Nat) R', (v : Int) < m → Dr k R' → Q (.int v) R') : Ev (pr fuel (n + 1) 1 [.loc 1, .int m] R) Q E t := by
  rw [e__law_take]
  exact take_ev h hm fun v R' h0 h1 hd => by obtain ⟨j, rfl⟩ := nat_of h0; exact H j R' h1 hd
theorem lstart_ev {fuel n : Nat} {ns : List Int} {Q : D → Rs → Prop} {E : Nat → List (Str × Int) → Rs → Prop} {t : Tag2 Q E} (hn : ns.length ≤ 63) (H : ∀ R, Dr 1000000000 R → Q (.loc 1) R) : Ev (pr fuel (n + 1) 0 [.scr ns] []) Q E t := by
  rw [e__law_start]
  exact start_ev hn H
theorem ins_map {fns : List NA} {j : Nat} {p : NA} : (fns.map dP).take j ++ [dP p] ++ (fns.map dP).drop j = (fns.take j ++ [p] ++ fns.drop j).map dP := by
  rw [List.map_append, List.map_append, List.map_take, List.map_drop]; rfl
theorem ins_perm {X : Type} {xs : List X} {j : Nat} {p : X} : (xs.take j ++ [p] ++ xs.drop j).Perm (xs ++ [p]) := by
  rw [List.append_assoc]
  have : (xs.take j ++ ([p] ++ xs.drop j)).Perm (xs.take j ++ (xs.drop j ++ [p])) := List.Perm.append_left _ List.perm_append_comm
  have e : xs.take j ++ (xs.drop j ++ [p]) = xs ++ [p] := by rw [← List.append_assoc, List.take_append_drop]
  rw [e] at this
  exact this
def oss : List (List Str) := [["f", "c2"], ["c1", "c2"], ["c2", "c1"]]
/-- what has been drawn -/
structure Dw (cs os : List Str) (fns : List NA) (ops : List NA) : Prop where
  pm : fns.Perm (cs.map (fun x => (x, 0)) ++ ops)
  op : ops.map Prod.fst = os
  ar : ∀ p ∈ ops, 1 ≤ p.2 ∧ p.2 ≤ 3
theorem due_len {fns : List NA} : (due fns).length ≤ fns.length + 1 := by
  unfold due
  split
  · simp
  · omega
def relB : List NA := [("P", 1), ("C1", 0)]
theorem consts_perm {fns gns : List NA} (h : fns.Perm gns) : (consts fns).Perm (consts gns) := (h.filter _).map _
theorem Dw.consts {cs os : List Str} {fns ops : List NA} (h : Dw cs os fns ops) : (consts fns).Perm cs := by
  refine (consts_perm h.pm).trans ?_
  have e : KM.consts (cs.map (fun x => ((x, 0) : NA)) ++ ops) = cs := by
    unfold KM.consts
    rw [List.filter_append, List.filter_eq_self.mpr, List.filter_eq_nil_iff.mpr, List.append_nil, List.map_map]
    · exact List.map_id' cs
    · intro p hp
      have := (h.ar p hp).1
      rw [decide_eq_true_eq]
      omega
    · intro p hp
      obtain ⟨x, _, rfl⟩ := List.mem_map.mp hp
      rfl
  rw [e]
theorem Dw.pos {cs os : List Str} {fns ops : List NA} (h : Dw cs os fns ops) : pos fns = os.length := by
  unfold KM.pos
  rw [(h.pm.filter _).length_eq, List.filter_append, List.filter_eq_nil_iff.mpr, List.nil_append, List.filter_eq_self.mpr, ← h.op, List.length_map]
  · intro p hp
    have := (h.ar p hp).1
    rw [decide_eq_true_eq]
    omega
  · intro p hp
    obtain ⟨x, _, rfl⟩ := List.mem_map.mp hp
    simp
theorem Dw.names {cs os : List Str} {fns ops : List NA} (h : Dw cs os fns ops) : (fns.map Prod.fst).Perm (cs ++ os) := by
  refine (h.pm.map _).trans ?_
  rw [List.map_append, h.op, List.map_map]
  have : cs.map (Prod.fst ∘ fun x => ((x, 0) : NA)) = cs := List.map_id' cs
  rw [this]
theorem oss_ok : ∀ os0 ∈ oss, ((["a", "c3", "zero"] : List Str) ++ os0 ++ (["P", "C1"] : List Str)).Nodup ∧ (∀ x ∈ os0, x ∈ knownS) ∧ ("c3" : Str) ∉ os0 ∧ os0.length = 2 := by decide +kernel
theorem Dw.sg {cs os os0 : List Str} {fns ops rels : List NA} (h : Dw cs os fns ops) (hcs : cs.Sublist (["a", "c3", "zero"] : List Str)) (hos : os.Sublist os0) (h0 : os0 ∈ oss) (hr : rels.Sublist relB) : Sg fns rels := by
  obtain ⟨q1, q2, q3, q4⟩ := oss_ok os0 h0
  have hn := h.names
  have hkc : ∀ x ∈ cs, x ∈ knownS := fun x hx => by
    have : ∀ y ∈ (["a", "c3", "zero"] : List Str), y ∈ knownS := by decide +kernel
    exact this x (hcs.subset hx)
  refine ⟨fun p hp => ?_, fun p hp => ?_, fun p hp => ?_, ?_, ?_, fun e => ?_⟩
  · have : p.1 ∈ cs ++ os := hn.mem_iff.mp (List.mem_map.mpr ⟨p, hp, rfl⟩)
    rcases List.mem_append.mp this with z | z
    · exact hkc _ z
    · exact q2 _ (hos.subset z)
  · have : ∀ y ∈ relB, y.1 ∈ knownC := by decide +kernel
    exact this p (hr.subset hp)
  · rcases List.mem_append.mp hp with z | z
    · have := h.pm.mem_iff.mp z
      rcases List.mem_append.mp this with w | w
      · obtain ⟨x, _, rfl⟩ := List.mem_map.mp w
        exact ⟨Int.le_refl 0, by show (0 : Int) ≤ 3; decide⟩
      · have := h.ar p w
        omega
    · have : ∀ y ∈ relB, 0 ≤ y.2 ∧ y.2 ≤ 3 := by decide +kernel
      exact this p (hr.subset z)
  · rw [List.map_append]
    refine (hn.append_right _).nodup_iff.mpr ?_
    refine List.Sublist.nodup ?_ q1
    exact ((hcs.append hos).append (hr.map Prod.fst))
  · have l1 := hn.length_eq
    rw [List.length_map, List.length_append] at l1
    have l2 := hcs.length_le
    have l3 := hos.length_le
    have l4 := hr.length_le
    have l5 : relB.length = 2 := rfl
    rw [List.length_append]
    simp only [List.length_cons, List.length_nil] at l2
    omega
  · have hc := h.consts
    rw [e] at hc
    have hc : cs = [] := List.nil_perm.mp hc
    rw [hn.mem_iff, hc, List.nil_append]
    exact fun z => q3 (hos.subset z)
theorem pl_dPs {ps : List NA} (h : ∀ p ∈ ps, PyData.strOk p.1 = true) : pl 2 (.tup (ps.map dP)) = true := pl_tup fun z hz => by
  obtain ⟨p, hp, rfl⟩ := List.mem_map.mp hz
  exact pl_tup fun y hy => by
    simp only [List.mem_cons, List.not_mem_nil, or_false] at hy
    rcases hy with rfl | rfl
    · exact pl_str (h p hp)
    · exact pl_int
theorem ints_map : ∀ xs : List Int, intsOf (xs.map .int) = some xs
  | [] => rfl
  | x :: xs => by rw [List.map_cons, intsOf, ints_map xs]; rfl
theorem max_of {ps : List NA} {r : Rs} (h : ps ≠ []) : cMax1 r [.lst (ps.map fun p => D.int p.2)] = some (.int (maxI (ps.map Prod.snd))) := by
  have e : (ps.map fun p => D.int p.2) = (ps.map Prod.snd).map .int := by rw [List.map_map]; rfl
  show (intsOf _).bind _ = _
  rw [e, ints_map]
  cases ps with
  | nil => exact absurd rfl h
  | cons _ _ => rfl
theorem maxI_ge : ∀ {xs : List Int} {x : Int}, x ∈ xs → x ≤ maxI xs
  | [y], x, h => by rw [List.mem_singleton] at h; rw [h]; exact Int.le_refl _
  | y :: z :: l, x, h => by
    rw [maxI]
    rcases List.mem_cons.mp h with e | e
    · rw [e]; exact Int.le_max_left _ _
    · exact Int.le_trans (maxI_ge e) (Int.le_max_right _ _)
structure Df (D : List NA) : Prop where
  nm : ∀ p ∈ D, PyData.strOk p.1 = true
  ar : ∀ p ∈ D, p.2 ≤ 3
  few : D.length ≤ 1000
  c1 : 1 ≤ (consts D).length
  c3 : (consts D).length ≤ 3
  po : pos D ≤ 2
theorem due_facts {cs os : List Str} {fns ops rels : List NA} (h : Dw cs os fns ops) (s : Sg fns rels) (hc : cs.length ≤ 3) (ho : os.length ≤ 2) : Df (due fns) := by
  have hl := s.len
  rw [List.length_append] at hl
  have hcl := h.consts.length_eq
  have hpo := h.pos
  have nm : ∀ p ∈ fns, PyData.strOk p.1 = true := fun p hp => ok_known (List.mem_append_left _ (s.kf p hp))
  have ar : ∀ p ∈ fns, p.2 ≤ 3 := fun p hp => (s.ar p (List.mem_append_left _ hp)).2
  unfold due
  by_cases e : consts fns = []
  · rw [if_pos e]
    have ec : consts (fns ++ [(cn (fns.map Prod.fst), 0)]) = [cn (fns.map Prod.fst)] := by
      unfold consts at e ⊢
      rw [List.filter_append, List.map_append, e]
      rfl
    have ep : pos (fns ++ [(cn (fns.map Prod.fst), 0)]) = pos fns := by
      unfold pos
      rw [List.filter_append, List.length_append]
      rfl
    refine ⟨fun p hp => ?_, fun p hp => ?_, by rw [List.length_append, List.length_singleton]; omega, by rw [ec]; exact Nat.le_refl _, by rw [ec]; show 1 ≤ 3; decide, by rw [ep]; omega⟩
    · rcases List.mem_append.mp hp with z | z
      · exact nm p z
      · rw [List.mem_singleton] at z; subst z; exact ok_known (List.mem_append_left _ (cn_known _))
    · rcases List.mem_append.mp hp with z | z
      · exact ar p z
      · rw [List.mem_singleton] at z; subst z; show (0 : Int) ≤ 3; decide
  · rw [if_neg e]
    refine ⟨nm, ar, by omega, ?_, by omega, by omega⟩
    cases q : consts fns with
    | nil => exact absurd q e
    | cons _ _ => simp
theorem law_ok {ns : List Int} (hn : ns.length ≤ 63) : Ev (pr 1000 60 4 [.scr ns] []) (fun d _ => d = .bl true) (fun _ _ _ => False) .mk := by
  rw [e_law, ev_run]
  unfold b_law
  show Sv (sSeq _ _ [some _, none, none, none, none, none, none, none, none, none, none, none, none, none, none, none, none] _) _ _ _
  trivial
  refine lstart_ev hn fun R hR => ?_
  trivial
  refine ltake_ev hR (by decide) fun v R hv hR => ?_
  trivial
  rw [cut_to, show ([D.str "a", .str "c3", .str "zero"] : List D) = (["a", "c3", "zero"] : List Str).map .str from rfl, ← List.map_take]
  generalize hcs : (["a", "c3", "zero"] : List Str).take v = cs
  have hcl : cs.length ≤ 3 := by rw [← hcs, List.length_take]; simp; omega
  have hcsub : cs.Sublist (["a", "c3", "zero"] : List Str) := by rw [← hcs]; exact List.take_sublist _ _
  trivial
  refine sv_forX (enc := D.str) cs (fun done ρ r => ∃ fns y4, fns.Perm (done.map fun x => ((x, 0) : NA)) ∧ ρ = [some (.scr ns), some (.loc 1), some (.lst (cs.map .str)), some (.lst (fns.map dP)), y4, none, none, none, none, none, none, none, none, none, none, none, none] ∧ Dr (900000000 - done.length) r) ⟨[], _, .refl _, rfl, hR.le (by simp)⟩ ?_ ?_
  · rintro done x rest e ρ R ⟨fns, y4, hp, rfl, hR⟩
    have hdl : done.length + 1 ≤ cs.length := by rw [e]; simp
    have hfl : fns.length = done.length := by rw [hp.length_eq, List.length_map]
    trivial
    refine ltake_ev (k := 900000000 - (done.length + 1)) (hR.le (by omega)) (by omega) fun v R' hv hR' => ?_
    trivial
    refine ver_dr hR hR' ?_
    trivial
    refine ck_i ⟨by rw [hfl]; show _ < 1000000; omega, by omega, by unfold big; rw [decide_eq_true_eq]; omega⟩ ?_
    trivial
    rw [Int.toNat_natCast, show D.tup [.str x, .int 0] = dP (x, 0) from rfl, ins_map]
    refine ⟨_, _, ?_, rfl, by rw [List.length_append, List.length_singleton]; exact hR'⟩
    rw [List.map_append]
    exact ins_perm.trans (hp.append_right _)
  rintro ρ R ⟨fns0, y4, hp0, rfl, hR⟩
  trivial
  refine ltake_ev (k := 800000000) (hR.le (by omega)) (by decide) fun v R' hv hR' => ?_
  clear hR
  trivial
  have hos : ∃ os0 ∈ oss, atI [D.lst [.str "f", .str "c2"], .lst [.str "c1", .str "c2"], .lst [.str "c2", .str "c1"]] (v : Int) = some (.lst (os0.map .str)) := by
    have : v = 0 ∨ v = 1 ∨ v = 2 := by omega
    rcases this with rfl | rfl | rfl
    · exact ⟨_, List.mem_cons_self, rfl⟩
    · exact ⟨_, List.mem_cons_of_mem _ List.mem_cons_self, rfl⟩
    · exact ⟨_, List.mem_cons_of_mem _ (List.mem_cons_of_mem _ List.mem_cons_self), rfl⟩
  obtain ⟨os0, hos0, he⟩ := hos
  refine so_i he ?_
  trivial
  refine ltake_ev (k := 700000000) (hR'.le (by omega)) (by decide) fun v2 R2 hv2 hR2 => ?_
  trivial
  rw [cut_to, ← List.map_take]
  generalize hos' : os0.take v2 = os
  have hosub : os.Sublist os0 := by rw [← hos']; exact List.take_sublist _ _
  have hosl : os.length ≤ 2 := by rw [← (oss_ok os0 hos0).2.2.2]; exact hosub.length_le
  refine sv_forX (enc := D.str) os (fun done ρ r => ∃ fns ops y4, Dw cs done fns ops ∧ ρ = [some (.scr ns), some (.loc 1), some (.lst (cs.map .str)), some (.lst (fns.map dP)), y4, some (.lst (os0.map .str)), none, none, none, none, none, none, none, none, none, none, none] ∧ Dr (600000000 - 2 * done.length) r) ⟨fns0, [], _, ⟨by rw [List.append_nil]; exact hp0, rfl, fun p hp => by cases hp⟩, rfl, hR2.le (by simp)⟩ ?_ ?_
  · rintro done x rest e ρ R ⟨fns, ops, y4, hp, rfl, hR⟩
    have hdl : done.length + 1 ≤ os.length := by rw [e]; simp
    have hfl : fns.length = cs.length + done.length := by
      have := hp.names.length_eq
      rw [List.length_map, List.length_append] at this
      exact this
    trivial
    refine ltake_ev (k := 600000000 - (2 * done.length + 1)) (hR.le (by omega)) (by omega) fun v R' hv hR' => ?_
    trivial
    refine ltake_ev (k := 600000000 - (2 * done.length + 2)) (hR'.le (by omega)) (by omega) fun w R'' hw hR'' => ?_
    trivial
    refine ver_dr hR hR'' ?_
    trivial
    refine ck_i ⟨by rw [hfl]; show _ < 1000000; omega, by omega, by unfold big; rw [decide_eq_true_eq]; omega⟩ ?_
    trivial
    rw [Int.toNat_natCast, show D.tup [.str x, .int (1 + (w : Int))] = dP (x, 1 + (w : Int)) from rfl, ins_map]
    refine ⟨_, ops ++ [(x, 1 + (w : Int))], _, ⟨?_, by rw [List.map_append, hp.op]; rfl, fun p hp' => ?_⟩, rfl, by rw [List.length_append, List.length_singleton]; exact hR''.le (by omega)⟩
    · rw [← List.append_assoc]
      exact ins_perm.trans (hp.pm.append_right _)
    · rcases List.mem_append.mp hp' with z | z
      · exact hp.ar p z
      · rw [List.mem_singleton] at z
        subst z
        exact ⟨by show 1 ≤ 1 + (w : Int); omega, by show 1 + (w : Int) ≤ 3; omega⟩
  rintro ρ R ⟨fns, ops, y4, hd, rfl, hR⟩
  clear hR' hR2 hp0
  trivial
  refine ltake_ev (k := 500000000) (hR.le (by omega)) (by decide) fun v3 R3 hv3 hR3 => ?_
  clear hR
  trivial
  rw [cut_to, show ([D.tup [.str "P", .int 1], .tup [.str "C1", .int 0]] : List D) = relB.map dP from rfl, ← List.map_take]
  generalize hrl : relB.take v3 = rels
  have hrsub : rels.Sublist relB := by rw [← hrl]; exact List.take_sublist _ _
  have hsg : Sg fns rels := hd.sg hcsub hosub hos0 hrsub
  trivial
  refine newSig_ev (fns := fns) (rels := rels) rfl rfl hsg.ok (blw_dr hR3) ?_
  trivial
  refine named_ev hsg (blw_dr hR3) ?_
  trivial
  have hcd : consts fns = [] ↔ cs = [] := ⟨fun z => by have := hd.consts; rw [z] at this; exact List.nil_perm.mp this, fun z => by have := hd.consts; rw [z] at this; exact List.perm_nil.mp this⟩
  have hfn := hsg.len
  rw [List.length_append] at hfn
  refine bif_cut (fun ρ r => ∃ y4 y10 y11 y12 y13, ρ = [some (.scr ns), some (.loc 1), some (.lst (cs.map .str)), some (.lst (fns.map dP)), y4, some (.lst (os0.map .str)), some (.lst (rels.map dP)), some (sigD fns rels), some (sigD (due fns) rels), some (.lst ((due fns).map dP)), y10, y11, y12, y13, none, none, none] ∧ R3 = r) ?_ (fun c => ?_) (fun c => ?_)
  rotate_left
  · have c : cs = [] := List.length_eq_zero_iff.mp (by have := of_decide_eq_true c; omega)
    have hdue : due fns = fns ++ [(cn (fns.map Prod.fst), 0)] := by unfold due; rw [if_pos (hcd.mpr c)]
    have hno : ∀ y ∈ fns.map Prod.fst, PyData.strOk y = true := fun y hy => by
      obtain ⟨p, hp, rfl⟩ := List.mem_map.mp hy
      exact ok_known (List.mem_append_left _ (hsg.kf p hp))
    have h3 := hsg.c3 (hcd.mpr c)
    have o1 : PyData.strOk "c1" = true := by decide +kernel
    have o2 : PyData.strOk "c2" = true := by decide +kernel
    have o3 : PyData.strOk "c3" = true := by decide +kernel
    trivial
    refine sop_i (lc_map (enc := dP) (fun p => D.str p.1) (xs := fns) ?_) ?_
    · rintro ⟨x, a⟩ _
      show Tgt _ (.tup [.str x, .int a]) _ _ _
      trivial
      (first | exact ⟨rfl, rfl⟩ | exact ⟨True.intro, True.intro⟩ | exact ⟨rfl, True.intro⟩ | exact ⟨True.intro, rfl⟩ | simp)
    have en : (fns.map fun p => D.str p.1) = (fns.map Prod.fst).map .str := by rw [List.map_map]; rfl
    rw [en]
    trivial
    refine ck_i (by show _ ≤ 1000000; omega) ?_
    trivial
    refine ck_i (by decide) ?_
    rw [show rng 0 (Int.toNat 3) = [D.int 0, .int 1, .int 2] from rfl]
    trivial
    by_cases h1 : ("c1" : Str) ∈ fns.map Prod.fst
    · by_cases h2 : ("c2" : Str) ∈ fns.map Prod.fst
      · refine ck_i (by decide) ?_
        refine so_i c_1 ?_
        trivial
        refine so_i (in_names o1 hno) ?_
        trivial
        rw [decide_eq_true h1]
        trivial
        refine ck_i (by decide) ?_
        refine so_i c_2 ?_
        trivial
        refine so_i (in_names o2 hno) ?_
        trivial
        rw [decide_eq_true h2]
        trivial
        refine ck_i (by decide) ?_
        refine so_i c_3 ?_
        trivial
        refine so_i (in_names o3 hno) ?_
        trivial
        rw [decide_eq_false h3]
        trivial
        refine ck_i (by decide) ?_
        refine so_i c_3 ?_
        trivial
        refine ck_i (by show _ < 1000000; omega) ?_
        trivial
        rw [hdue, cn, if_pos h1, if_pos h2, List.map_append]
        exact ⟨_, _, _, _, _, rfl, (by first | rfl | exact True.intro)⟩
      · refine ck_i (by decide) ?_
        refine so_i c_1 ?_
        trivial
        refine so_i (in_names o1 hno) ?_
        trivial
        rw [decide_eq_true h1]
        trivial
        refine ck_i (by decide) ?_
        refine so_i c_2 ?_
        trivial
        refine so_i (in_names o2 hno) ?_
        trivial
        rw [decide_eq_false h2]
        trivial
        refine ck_i (by decide) ?_
        refine so_i c_2 ?_
        trivial
        refine so_i (in_names o2 hno) ?_
        trivial
        rw [decide_eq_false h2]
        trivial
        refine ck_i (by decide) ?_
        refine so_i c_2 ?_
        trivial
        refine ck_i (by show _ < 1000000; omega) ?_
        trivial
        rw [hdue, cn, if_pos h1, if_neg h2, List.map_append]
        exact ⟨_, _, _, _, _, rfl, (by first | rfl | exact True.intro)⟩
    · refine ck_i (by decide) ?_
      refine so_i c_1 ?_
      trivial
      refine so_i (in_names o1 hno) ?_
      trivial
      rw [decide_eq_false h1]
      trivial
      refine ck_i (by decide) ?_
      refine so_i c_1 ?_
      trivial
      refine so_i (in_names o1 hno) ?_
      trivial
      rw [decide_eq_false h1]
      trivial
      refine ck_i (by decide) ?_
      refine so_i c_1 ?_
      trivial
      refine so_i (in_names o1 hno) ?_
      trivial
      rw [decide_eq_false h1]
      trivial
      refine ck_i (by decide) ?_
      refine so_i c_1 ?_
      trivial
      refine ck_i (by show _ < 1000000; omega) ?_
      trivial
      rw [hdue, cn, if_neg h1, List.map_append]
      exact ⟨_, _, _, _, _, rfl, (by first | rfl | exact True.intro)⟩
  · have c : cs ≠ [] := fun z => by have := of_decide_eq_false c; rw [z] at this; exact this rfl
    have hdue : due fns = fns := by unfold due; rw [if_neg fun z => c (hcd.mp z)]
    trivial
    rw [hdue]
    exact ⟨_, _, _, _, _, rfl, (by first | rfl | exact True.intro)⟩
  rintro ρ R ⟨y4, y10, y11, y12, y13, rfl, rfl⟩
  trivial
  have F := due_facts hd hsg hcl hosl
  have hrn : ∀ p ∈ rels, PyData.strOk p.1 = true := fun p hp => ok_known (List.mem_append_right _ (hsg.kr p hp))
  have hfnm : ∀ p ∈ fns, PyData.strOk p.1 = true := fun p hp => ok_known (List.mem_append_left _ (hsg.kf p hp))
  generalize hD : due fns = dd at F
  refine so_i (dNe_same (n := 2) (pl_dPs F.nm)) ?_
  trivial
  refine so_i (dNe_same (n := 2) (pl_dPs hrn)) ?_
  trivial
  refine so_i (dNe_same (n := 2) (pl_dPs hfnm)) ?_
  trivial
  refine sop_i (lc_map (enc := dP) (fun p => D.int p.2) (xs := dd) ?_) ?_
  · rintro ⟨x, a⟩ _
    show Tgt _ (.tup [.str x, .int a]) _ _ _
    trivial
    (first | exact ⟨rfl, rfl⟩ | exact ⟨True.intro, True.intro⟩ | exact ⟨rfl, True.intro⟩ | exact ⟨True.intro, rfl⟩ | simp)
  trivial
  refine ck_i (by have := F.few; show _ ≤ 1000000; omega) ?_
  trivial
  have hne : dd ≠ [] := fun z => by have := F.c1; rw [z] at this; exact absurd this (by decide)
  refine so_i (max_of hne) ?_
  trivial
  generalize hw : maxI (dd.map Prod.snd) = w
  refine ltake_ev (k := 400000000) (hR3.le (by omega)) (by decide) fun v4 R4 hv4 hR4 => ?_
  clear hR3
  simp -dsimp only [↓tgt_nm, ↓set_15]
  refine seq_cut (fun ρ r => ∃ d : Nat, d ≤ 2 ∧ (w = 3 → d ≤ 1) ∧ ρ = [some (.scr ns), some (.loc 1), some (.lst (cs.map .str)), some (.lst (fns.map dP)), y4, some (.lst (os0.map .str)), some (.lst (rels.map dP)), some (sigD fns rels), some (sigD dd rels), some (.lst (dd.map dP)), y10, y11, y12, y13, some (.int w), some (.int d), none] ∧ R4 = r) ?_ ?_
  · trivial
    have minc : ∃ d : Nat, D.int (if (1 : Int) < (v4 : Int) then 1 else (v4 : Int)) = D.int (d : Int) ∧ d ≤ 1 := by
      by_cases c : (1 : Int) < v4
      · rw [if_pos c]; exact ⟨1, rfl, Nat.le_refl _⟩
      · rw [if_neg c]; exact ⟨v4, rfl, by omega⟩
    obtain ⟨dm, hdm, hdm1⟩ := minc
    refine bif_d (fun c => ?_) (fun c => ?_)
    · trivial
      rw [hdm]
      exact ⟨dm, by omega, fun _ => hdm1, rfl, (by first | rfl | exact True.intro)⟩
    · trivial
      refine bif_d (fun c2 => ?_) (fun c2 => ?_)
      · trivial
        refine bif_d (fun c3 => ?_) (fun c3 => ?_)
        · trivial
          rw [hdm]
          exact ⟨dm, by omega, fun _ => hdm1, rfl, (by first | rfl | exact True.intro)⟩
        · trivial
          exact ⟨v4, by omega, fun z => absurd z c, rfl, (by first | rfl | exact True.intro)⟩
      · trivial
        exact ⟨v4, by omega, fun z => absurd z c, rfl, (by first | rfl | exact True.intro)⟩
  rintro ρ R ⟨d, hd2, hd3, rfl, rfl⟩
  have hSz : Sz dd d := sz_due F.nm F.few F.c1 F.c3 F.po F.ar hd2 fun ⟨p, hp, h3⟩ => hd3 (by
    have h1 : p.2 ≤ maxI (dd.map Prod.snd) := maxI_ge (List.mem_map.mpr ⟨p, hp, rfl⟩)
    have h2 : maxI (dd.map Prod.snd) ≤ 3 := by
      have : ∀ {xs : List Int}, xs ≠ [] → (∀ x ∈ xs, x ≤ 3) → maxI xs ≤ 3 := by
        intro xs
        induction xs with
        | nil => intro h; exact absurd rfl h
        | cons y l ih =>
          intro _ h
          cases l with
          | nil => exact h y List.mem_cons_self
          | cons z l =>
            rw [maxI]
            exact Int.max_le.mpr ⟨h y List.mem_cons_self, ih (by simp) fun x hx => h x (List.mem_cons_of_mem _ hx)⟩
      refine this (by simp [hne]) fun x hx => ?_
      obtain ⟨q, hq, rfl⟩ := List.mem_map.mp hx
      exact F.ar q hq
    omega)
  have hpl := terms_pl hSz
  have hdl := hSz.ln d (Nat.le_refl d)
  trivial
  refine closed_ev hSz ?_
  trivial
  refine lclosed_ev hSz ?_
  trivial
  refine so_i (dNe_same hpl (by omega)) ?_
  trivial
  refine ck_i (by show _ < 1000000; omega) ?_
  trivial
  refine closed_ev hSz ?_
  trivial
  refine lclosed_ev hSz ?_
  trivial
  refine so_i (dEq_same hpl (by omega)) ?_
  trivial
  have hS0 : Sz fns 0 := sz0 hfnm (by omega) fun p hp => (hsg.ar p (List.mem_append_left _ hp)).2
  refine closed_ev (d := 0) hS0 ?_
  trivial
  refine sop_i (lc_pure (enc := dP) (xs := fns) (fun p => decide (p.2 = 0)) (fun p => .tup [.str p.1]) ?_) ?_
  · rintro ⟨x, a⟩ _
    show Tgt _ (.tup [.str x, .int a]) _ _ _
    trivial
    refine ⟨trivial, trivial, fun _ => ?_⟩
    (first | exact ⟨rfl, rfl⟩ | exact ⟨True.intro, True.intro⟩ | exact ⟨rfl, True.intro⟩ | exact ⟨True.intro, rfl⟩ | simp)
  have et : ((fns.filter fun p => decide (p.2 = 0)).map fun p => D.tup [.str p.1]) = termsD fns 0 := by
    unfold termsD consts
    rw [List.map_map]; rfl
  rw [et]
  trivial
  refine ck_i (by have := hS0.ln 0 (Nat.le_refl 0); show _ ≤ 1000000; omega) ?_
  trivial
  refine so_i (dEq_same (terms_pl hS0)) ?_
  rfl
end KM
namespace Law
open PySem L2 DL
theorem main_75 : ∀ ns : List Int, ns.length ≤ 63 → ∃ r, pr 1000 60 4 [.scr ns] [] = .ok (.bl true) r := fun ns h => by
  obtain ⟨d, r, e, rfl⟩ := ML.ev_ex (KM.law_ok h)
  exact ⟨r, e⟩
end Law

namespace Law
open PySem L2 DL
def topS (i : Nat) : Stmt := PySem.Challenge.pw_worldorpaper_k75_closed_terms_by_depth.main.body.getD i (.Pass ⟨0, 0, 0, 0⟩)
def inC (s : Stmt) (j : Nat) : Stmt := match s with
  | .ClassDef _ _ _ b _ _ _ _ _ _ _ => b.getD j (.Pass ⟨0, 0, 0, 0⟩)
  | _ => .Pass ⟨0, 0, 0, 0⟩
abbrev s_names_has_name_signs : Stmt := topS 12
abbrev N_names_has_name_signs : List Str := ["name", "sign"]
abbrev P_names_has_name_signs : List Str := ["name"]
theorem sc_names_has_name_signs : FnScope N_names_has_name_signs P_names_has_name_signs (defScope s_names_has_name_signs) := ⟨rfl, rfl, rfl, by decide +kernel, rfl, by decide +kernel, by decide +kernel⟩
abbrev s_names_is_small_name : Stmt := topS 13
abbrev N_names_is_small_name : List Str := ["name"]
abbrev P_names_is_small_name : List Str := ["name"]
theorem sc_names_is_small_name : FnScope N_names_is_small_name P_names_is_small_name (defScope s_names_is_small_name) := ⟨rfl, rfl, rfl, by decide +kernel, rfl, by decide +kernel, by decide +kernel⟩
abbrev s_names_is_capital_name : Stmt := topS 14
abbrev N_names_is_capital_name : List Str := ["name"]
abbrev P_names_is_capital_name : List Str := ["name"]
theorem sc_names_is_capital_name : FnScope N_names_is_capital_name P_names_is_capital_name (defScope s_names_is_capital_name) := ⟨rfl, rfl, rfl, by decide +kernel, rfl, by decide +kernel, by decide +kernel⟩
abbrev s_names_fresh_name : Stmt := topS 15
abbrev N_names_fresh_name : List Str := ["stem", "taken", "number"]
abbrev P_names_fresh_name : List Str := ["stem", "taken"]
theorem sc_names_fresh_name : FnScope N_names_fresh_name P_names_fresh_name (defScope s_names_fresh_name) := ⟨rfl, rfl, rfl, by decide +kernel, rfl, by decide +kernel, by decide +kernel⟩
abbrev s_fillings_named_signature : Stmt := topS 17
abbrev N_fillings_named_signature : List Str := ["signature", "taken", "name", "arity"]
abbrev P_fillings_named_signature : List Str := ["signature"]
theorem sc_fillings_named_signature : FnScope N_fillings_named_signature P_fillings_named_signature (defScope s_fillings_named_signature) := ⟨rfl, rfl, rfl, by decide +kernel, rfl, by decide +kernel, by decide +kernel⟩
abbrev s_fillings_rows_of : Stmt := topS 18
abbrev N_fillings_rows_of : List Str := ["choices", "length", "rows", "_", "row", "choice"]
abbrev P_fillings_rows_of : List Str := ["choices", "length"]
theorem sc_fillings_rows_of : FnScope N_fillings_rows_of P_fillings_rows_of (defScope s_fillings_rows_of) := ⟨rfl, rfl, rfl, by decide +kernel, rfl, by decide +kernel, by decide +kernel⟩
abbrev s_fillings_closed_terms : Stmt := topS 19
abbrev N_fillings_closed_terms : List Str := ["signature", "depth", "terms", "name", "_", "deeper", "arity", "made", "row", "term"]
abbrev P_fillings_closed_terms : List Str := ["signature", "depth"]
theorem sc_fillings_closed_terms : FnScope N_fillings_closed_terms P_fillings_closed_terms (defScope s_fillings_closed_terms) := ⟨rfl, rfl, rfl, by decide +kernel, rfl, by decide +kernel, by decide +kernel⟩
abbrev s_books_Signature___init__ : Stmt := inC (topS 22) 0
abbrev N_books_Signature___init__ : List Str := ["self", "functions", "relations", "name", "arity", "small"]
abbrev P_books_Signature___init__ : List Str := ["self", "functions", "relations"]
theorem sc_books_Signature___init__ : FnScope N_books_Signature___init__ P_books_Signature___init__ (defScope s_books_Signature___init__) := ⟨rfl, rfl, rfl, by decide +kernel, rfl, by decide +kernel, by decide +kernel⟩
abbrev s_books_Signature_constants_v1 : Stmt := inC (topS 22) 3
abbrev N_books_Signature_constants_v1 : List Str := ["self", "name", "arity"]
abbrev P_books_Signature_constants_v1 : List Str := ["self"]
theorem sc_books_Signature_constants_v1 : FnScope N_books_Signature_constants_v1 P_books_Signature_constants_v1 (defScope s_books_Signature_constants_v1) := ⟨rfl, rfl, rfl, by decide +kernel, rfl, by decide +kernel, by decide +kernel⟩
abbrev s_books_Signature_extended_v1 : Stmt := inC (topS 22) 4
abbrev N_books_Signature_extended_v1 : List Str := ["self", "functions"]
abbrev P_books_Signature_extended_v1 : List Str := ["self", "functions"]
theorem sc_books_Signature_extended_v1 : FnScope N_books_Signature_extended_v1 P_books_Signature_extended_v1 (defScope s_books_Signature_extended_v1) := ⟨rfl, rfl, rfl, by decide +kernel, rfl, by decide +kernel, by decide +kernel⟩
abbrev s__law_start : Stmt := topS 24
abbrev N__law_start : List Str := ["_law_script", "_law_row", "_law_seed", "_law_k", "_law_cell", "_law_j", "_law_mixed"]
abbrev P__law_start : List Str := ["_law_script"]
theorem sc__law_start : FnScope N__law_start P__law_start (defScope s__law_start) := ⟨rfl, rfl, rfl, by decide +kernel, rfl, by decide +kernel, by decide +kernel⟩
abbrev s__law_take : Stmt := topS 25
abbrev N__law_take : List Str := ["_law_state", "_law_many", "_law_at", "_law_mixed"]
abbrev P__law_take : List Str := ["_law_state", "_law_many"]
theorem sc__law_take : FnScope N__law_take P__law_take (defScope s__law_take) := ⟨rfl, rfl, rfl, by decide +kernel, rfl, by decide +kernel, by decide +kernel⟩
abbrev s__law_tuples : Stmt := topS 26
abbrev N__law_tuples : List Str := ["_law_choices", "_law_length", "_law_rows", "_law_k", "_law_longer", "_law_row", "_law_choice"]
abbrev P__law_tuples : List Str := ["_law_choices", "_law_length"]
theorem sc__law_tuples : FnScope N__law_tuples P__law_tuples (defScope s__law_tuples) := ⟨rfl, rfl, rfl, by decide +kernel, rfl, by decide +kernel, by decide +kernel⟩
abbrev s__law_closed : Stmt := topS 27
abbrev N__law_closed : List Str := ["_law_functions", "_law_depth", "_law_terms", "_law_name", "_law_arity", "_law_k", "_law_longer", "_law_row"]
abbrev P__law_closed : List Str := ["_law_functions", "_law_depth"]
theorem sc__law_closed : FnScope N__law_closed P__law_closed (defScope s__law_closed) := ⟨rfl, rfl, rfl, by decide +kernel, rfl, by decide +kernel, by decide +kernel⟩
abbrev s_law : Stmt := topS 28
abbrev N_law : List Str := ["_law_script", "_law_state", "_law_constants", "_law_functions", "_law_name", "_law_others", "_law_relations", "_law_signature", "_law_named", "_law_due", "_law_number", "_law_taken", "_law_arity", "_law_k", "_law_wide", "_law_depth", "_law_listed"]
abbrev P_law : List Str := ["_law_script"]
theorem sc_law : FnScope N_law P_law (defScope s_law) := ⟨rfl, rfl, rfl, by decide +kernel, rfl, by decide +kernel, by decide +kernel⟩
structure Txt (K : PySem.W.Frag) (w : World) (mg : Str → Option Value) (ad : Nat → Addr) (fd : Nat → FuncData) (ca : String → Addr) : Prop where
  F311 : Fun K "has_name_signs" "has_name_signs" s_names_has_name_signs (ad 311) (fd 311)
  b311 : Binds K (fd 311) P_names_has_name_signs []
  m311 : mg "has_name_signs" = some (.ref (ad 311))
  F313 : Fun K "is_small_name" "is_small_name" s_names_is_small_name (ad 313) (fd 313)
  b313 : Binds K (fd 313) P_names_is_small_name []
  m313 : mg "is_small_name" = some (.ref (ad 313))
  F312 : Fun K "is_capital_name" "is_capital_name" s_names_is_capital_name (ad 312) (fd 312)
  b312 : Binds K (fd 312) P_names_is_capital_name []
  m312 : mg "is_capital_name" = some (.ref (ad 312))
  F310 : Fun K "fresh_name" "fresh_name" s_names_fresh_name (ad 310) (fd 310)
  b310 : Binds K (fd 310) P_names_fresh_name []
  m310 : mg "fresh_name" = some (.ref (ad 310))
  F197 : Fun K "named_signature" "named_signature" s_fillings_named_signature (ad 197) (fd 197)
  b197 : Binds K (fd 197) P_fillings_named_signature []
  m197 : mg "named_signature" = some (.ref (ad 197))
  F199 : Fun K "rows_of" "rows_of" s_fillings_rows_of (ad 199) (fd 199)
  b199 : Binds K (fd 199) P_fillings_rows_of []
  m199 : mg "rows_of" = some (.ref (ad 199))
  F195 : Fun K "closed_terms" "closed_terms" s_fillings_closed_terms (ad 195) (fd 195)
  b195 : Binds K (fd 195) P_fillings_closed_terms []
  m195 : mg "closed_terms" = some (.ref (ad 195))
  F126 : Fun K "__init__" "Signature.__init__" s_books_Signature___init__ (ad 126) (fd 126)
  b126 : Binds K (fd 126) P_books_Signature___init__ []
  F513 : Fun K "constants" "Signature.constants" s_books_Signature_constants_v1 (ad 513) (fd 513)
  b513 : Binds K (fd 513) P_books_Signature_constants_v1 []
  F514 : Fun K "extended" "Signature.extended" s_books_Signature_extended_v1 (ad 514) (fd 514)
  b514 : Binds K (fd 514) P_books_Signature_extended_v1 []
  F0 : Fun K "_law_start" "_law_start" s__law_start (ad 0) (fd 0)
  b0 : Binds K (fd 0) P__law_start []
  m0 : mg "_law_start" = some (.ref (ad 0))
  F1 : Fun K "_law_take" "_law_take" s__law_take (ad 1) (fd 1)
  b1 : Binds K (fd 1) P__law_take []
  m1 : mg "_law_take" = some (.ref (ad 1))
  F2 : Fun K "_law_tuples" "_law_tuples" s__law_tuples (ad 2) (fd 2)
  b2 : Binds K (fd 2) P__law_tuples []
  m2 : mg "_law_tuples" = some (.ref (ad 2))
  F3 : Fun K "_law_closed" "_law_closed" s__law_closed (ad 3) (fd 3)
  b3 : Binds K (fd 3) P__law_closed []
  m3 : mg "_law_closed" = some (.ref (ad 3))
  F4 : Fun K "law" "law" s_law (ad 4) (fd 4)
  b4 : Binds K (fd 4) P_law []
  m4 : mg "law" = some (.ref (ad 4))
  mg_BadArity : mg "BadArity" = some (.ref (clsA K 2))
  mg_BadName : mg "BadName" = some (.ref (clsA K 1))
  mg_Signature : mg "Signature" = some (.ref (clsA K 13))
  cl_Signature : Cls K (clsA K 13)
  na_Signature_functions : NoAttr K (clsA K 13) "functions"
  na_Signature_relations : NoAttr K (clsA K 13) "relations"
  na_Signature_table : NoAttr K (clsA K 13) "table"
  mk_Signature : Mk K (clsA K 13) (ad 126)
  me_Signature_constants : Meth K (clsA K 13) "constants" (ad 513)
  me_Signature_extended : Meth K (clsA K 13) "extended" (ad 514)
  x_BadArity : PySem.W.excIn K (clsA K 2) [.type "ValueError", .type "Exception", .type "BaseException", .type "object"] "ValueError.__new__" = true
  k_BadArity : PySem.W.keepIn K (.ref (clsA K 2)) = true
  eb_BadArity : PySem.W.subIn K (.ref (clsA K 2)) (.type "BaseException") = some true
  et_BadArity : PySem.W.typeIn K (.ref (clsA K 2)) = some (.type "type")
  x_BadName : PySem.W.excIn K (clsA K 1) [.type "ValueError", .type "Exception", .type "BaseException", .type "object"] "ValueError.__new__" = true
  k_BadName : PySem.W.keepIn K (.ref (clsA K 1)) = true
  eb_BadName : PySem.W.subIn K (.ref (clsA K 1)) (.type "BaseException") = some true
  et_BadName : PySem.W.typeIn K (.ref (clsA K 1)) = some (.type "type")
  z_abs : mg "abs" = none
  z_int : mg "int" = none
  z_isinstance : mg "isinstance" = none
  z_len : mg "len" = none
  z_list : mg "list" = none
  z_max : mg "max" = none
  z_min : mg "min" = none
  z_range : mg "range" = none
  z_str : mg "str" = none
  z_tuple : mg "tuple" = none
  m_CAPITAL : ∃ t, mg "CAPITAL" = some (.str "ABCDEFGHIJKLMNOPQRSTUVWXYZ" t)
  m_DIGITS : ∃ t, mg "DIGITS" = some (.str "0123456789" t)
  m_LONGEST : ∃ t, mg "LONGEST" = some (.int 12 t)
  m_MOST_ARGUMENTS : ∃ t, mg "MOST_ARGUMENTS" = some (.int 3 t)
  m_RESERVED : mg "RESERVED" = some (.ref (ca "RESERVED"))
  c_RESERVED : ∀ m H, Rp K m H k_RESERVED (.ref (ca "RESERVED"))
  m_SMALL : ∃ t, mg "SMALL" = some (.str "abcdefghijklmnopqrstuvwxyz" t)
structure Lv (fuel : Nat) (P : Program) (w : World) (K : PySem.W.Frag) (mg : Str → Option Value) (base : Heap) (ad : Nat → Addr) (fd : Nat → FuncData) (n : Nat) : Prop where
  g311 : FnOk P w K mg base (L2.CX P w) (2 * n) (ad 311) (fd 311) P_names_has_name_signs (spF K (List.length P_names_has_name_signs) false (pr fuel n 311))
  g313 : FnOk P w K mg base (L2.CX P w) (2 * n) (ad 313) (fd 313) P_names_is_small_name (spF K (List.length P_names_is_small_name) false (pr fuel n 313))
  g312 : FnOk P w K mg base (L2.CX P w) (2 * n) (ad 312) (fd 312) P_names_is_capital_name (spF K (List.length P_names_is_capital_name) false (pr fuel n 312))
  g310 : FnOk P w K mg base (L2.CX P w) (2 * n) (ad 310) (fd 310) P_names_fresh_name (spF K (List.length P_names_fresh_name) false (pr fuel n 310))
  g197 : FnOk P w K mg base (L2.CX P w) (2 * n) (ad 197) (fd 197) P_fillings_named_signature (spF K (List.length P_fillings_named_signature) false (pr fuel n 197))
  g199 : FnOk P w K mg base (L2.CX P w) (2 * n) (ad 199) (fd 199) P_fillings_rows_of (spF K (List.length P_fillings_rows_of) false (pr fuel n 199))
  g195 : FnOk P w K mg base (L2.CX P w) (2 * n) (ad 195) (fd 195) P_fillings_closed_terms (spF K (List.length P_fillings_closed_terms) true (pr fuel n 195))
  g126 : FnOk P w K mg base (L2.CX P w) (2 * n) (ad 126) (fd 126) P_books_Signature___init__ (spF K (List.length P_books_Signature___init__) false (pr fuel n 126))
  g513 : FnOk P w K mg base (L2.CX P w) (2 * n) (ad 513) (fd 513) P_books_Signature_constants_v1 (spF K (List.length P_books_Signature_constants_v1) false (pr fuel n 513))
  g514 : FnOk P w K mg base (L2.CX P w) (2 * n) (ad 514) (fd 514) P_books_Signature_extended_v1 (spF K (List.length P_books_Signature_extended_v1) false (pr fuel n 514))
  g0 : FnOk P w K mg base (L2.CX P w) (2 * n) (ad 0) (fd 0) P__law_start (spF K (List.length P__law_start) false (pr fuel n 0))
  g1 : FnOk P w K mg base (L2.CX P w) (2 * n) (ad 1) (fd 1) P__law_take (spF K (List.length P__law_take) false (pr fuel n 1))
  g2 : FnOk P w K mg base (L2.CX P w) (2 * n) (ad 2) (fd 2) P__law_tuples (spF K (List.length P__law_tuples) false (pr fuel n 2))
  g3 : FnOk P w K mg base (L2.CX P w) (2 * n) (ad 3) (fd 3) P__law_closed (spF K (List.length P__law_closed) false (pr fuel n 3))
  g4 : FnOk P w K mg base (L2.CX P w) (2 * n) (ad 4) (fd 4) P_law (spF K (List.length P_law) false (pr fuel n 4))
section
variable {fuel : Nat} {P : Program} {w : World} {K : PySem.W.Frag} {mg : Str → Option Value} {base : Heap} {ad : Nat → Addr} {fd : Nat → FuncData} {ca : String → Addr} {n : Nat}
theorem ok_names_has_name_signs (T : Txt K w mg ad fd ca) (L : Lv fuel P w K mg base ad fd n) : FnOk P w K mg base (L2.CX P w) (2 * (n + 1)) (ad 311) (fd 311) P_names_has_name_signs (spF K (List.length P_names_has_name_signs) false (runF (List.length N_names_has_name_signs) (b_names_has_name_signs fuel (pr fuel n)))) := by
  obtain ⟨t_CAPITAL, hm_CAPITAL⟩ := T.m_CAPITAL
  obtain ⟨t_DIGITS, hm_DIGITS⟩ := T.m_DIGITS
  obtain ⟨t_LONGEST, hm_LONGEST⟩ := T.m_LONGEST
  obtain ⟨t_SMALL, hm_SMALL⟩ := T.m_SMALL
  exact ok_fn (k := 2 * n + 1) (N := N_names_has_name_signs) (ps := P_names_has_name_signs) (fr := false) (g := b_names_has_name_signs fuel (pr fuel n)) [] T.F311 sc_names_has_name_signs (by decide) fun cdv A outer s H E En hr => have hq := hr.mono (j := 2 * n) (by omega);
    (dss_cons (ds_ifF (dt_not (dt_ch od_le od_le de_int (de_callB cd_len rfl T.z_len (by decide +kernel) (da_cons (de_var 0) da_nil)) (de_const (pe_glob (v := .int 12) rfl hm_LONGEST ⟨_, rfl⟩) fun _ _ => .int _))) (dss_one (ds_ret (ps_ret de_bl))) dss_nil)
    (dss_cons (ds_for (passes_of rfl) rfl (di_seq (de_var 0)) (pg_name (i := 1) sc_names_has_name_signs.nd rfl (by first | exact Or.inl rfl | exact Or.inr rfl)) (tg_name _ 1) (by dsimp only; decide) (dss_one (ds_ifF (PW.pt (dw_and (dt_cmp (od_notIn (r65 hr)) (de_var 1) (de_const (pe_glob (v := .str "abcdefghijklmnopqrstuvwxyz") rfl hm_SMALL ⟨_, rfl⟩) fun _ _ => .str _)) (dw_and (dt_cmp (od_notIn (r65 hr)) (de_var 1) (de_const (pe_glob (v := .str "ABCDEFGHIJKLMNOPQRSTUVWXYZ") rfl hm_CAPITAL ⟨_, rfl⟩) fun _ _ => .str _)) (dw_and1 (dt_cmp (od_notIn (r65 hr)) (de_var 1) (de_const (pe_glob (v := .str "0123456789") rfl hm_DIGITS ⟨_, rfl⟩) fun _ _ => .str _)))))) (dss_one (ds_ret (ps_ret de_bl))) dss_nil)))
    (dss_one (ds_ret (ps_ret de_bl)))))
theorem ok_names_is_small_name (T : Txt K w mg ad fd ca) (L : Lv fuel P w K mg base ad fd n) : FnOk P w K mg base (L2.CX P w) (2 * (n + 1)) (ad 313) (fd 313) P_names_is_small_name (spF K (List.length P_names_is_small_name) false (runF (List.length N_names_is_small_name) (b_names_is_small_name fuel (pr fuel n)))) := by
  obtain ⟨t_SMALL, hm_SMALL⟩ := T.m_SMALL
  exact ok_fn (k := 2 * n + 1) (N := N_names_is_small_name) (ps := P_names_is_small_name) (fr := false) (g := b_names_is_small_name fuel (pr fuel n)) [] T.F313 sc_names_is_small_name (by decide) fun cdv A outer s H E En hr => have hq := hr.mono (j := 2 * n) (by omega);
    (dss_one (ds_ret (ps_ret (de_and (de_call (FnOk.d L.g311) hq rfl T.m311 T.F311.kp T.b311 (takes_of rfl rfl rfl rfl) (da_cons (de_var 0) da_nil) (cons_len len0)) (de_and (de_cmp (od_in (r65 hr)) (de_ix (de_var 0) de_int) (de_const (pe_glob (v := .str "abcdefghijklmnopqrstuvwxyz") rfl hm_SMALL ⟨_, rfl⟩) fun _ _ => .str _)) (de_one (de_cmp (od_notIn (r65 hr)) (de_var 0) (de_const (pe_glob (v := .ref (ca "RESERVED")) rfl T.m_RESERVED rfl) T.c_RESERVED))))))))
theorem ok_names_is_capital_name (T : Txt K w mg ad fd ca) (L : Lv fuel P w K mg base ad fd n) : FnOk P w K mg base (L2.CX P w) (2 * (n + 1)) (ad 312) (fd 312) P_names_is_capital_name (spF K (List.length P_names_is_capital_name) false (runF (List.length N_names_is_capital_name) (b_names_is_capital_name fuel (pr fuel n)))) := by
  obtain ⟨t_CAPITAL, hm_CAPITAL⟩ := T.m_CAPITAL
  exact ok_fn (k := 2 * n + 1) (N := N_names_is_capital_name) (ps := P_names_is_capital_name) (fr := false) (g := b_names_is_capital_name fuel (pr fuel n)) [] T.F312 sc_names_is_capital_name (by decide) fun cdv A outer s H E En hr => have hq := hr.mono (j := 2 * n) (by omega);
    (dss_one (ds_ret (ps_ret (de_and (de_call (FnOk.d L.g311) hq rfl T.m311 T.F311.kp T.b311 (takes_of rfl rfl rfl rfl) (da_cons (de_var 0) da_nil) (cons_len len0)) (de_one (de_cmp (od_in (r65 hr)) (de_ix (de_var 0) de_int) (de_const (pe_glob (v := .str "ABCDEFGHIJKLMNOPQRSTUVWXYZ") rfl hm_CAPITAL ⟨_, rfl⟩) fun _ _ => .str _)))))))
theorem ok_names_fresh_name (T : Txt K w mg ad fd ca) (L : Lv fuel P w K mg base ad fd n) : FnOk P w K mg base (L2.CX P w) (2 * (n + 1)) (ad 310) (fd 310) P_names_fresh_name (spF K (List.length P_names_fresh_name) false (runF (List.length N_names_fresh_name) (b_names_fresh_name fuel (pr fuel n)))) := by
  exact ok_fn (k := 2 * n + 1) (N := N_names_fresh_name) (ps := P_names_fresh_name) (fr := false) (g := b_names_fresh_name fuel (pr fuel n)) [] T.F310 sc_names_fresh_name (by decide) fun cdv A outer s H E En hr => have hq := hr.mono (j := 2 * n) (by omega);
    (dss_cons (ds_asg (ps_set (i := 2) sc_names_fresh_name.nd rfl (by first | exact Or.inl rfl | exact Or.inr rfl) de_int) (tg_name _ 2) (by dsimp only; decide))
    (dss_cons (ds_whileF fuel (passes_of rfl) (dt_cmp (od_in (r65 hr)) (de_op od_add (de_var 0) (de_callTy cd_str rfl T.z_str (by decide +kernel) (da_cons (de_var 2) da_nil))) (de_var 1)) (dss_one (ds_aug (ps_aug (i := 2) sc_names_fresh_name.nd rfl (by first | exact Or.inl rfl | exact Or.inr rfl) de_int ip_add) (by dsimp only; decide))))
    (dss_one (ds_ret (ps_ret (de_op od_add (de_var 0) (de_callTy cd_str rfl T.z_str (by decide +kernel) (da_cons (de_var 2) da_nil))))))))
theorem ok_fillings_named_signature (T : Txt K w mg ad fd ca) (L : Lv fuel P w K mg base ad fd n) : FnOk P w K mg base (L2.CX P w) (2 * (n + 1)) (ad 197) (fd 197) P_fillings_named_signature (spF K (List.length P_fillings_named_signature) false (runF (List.length N_fillings_named_signature) (b_fillings_named_signature fuel (pr fuel n)))) := by
  exact ok_fn (k := 2 * n + 1) (N := N_fillings_named_signature) (ps := P_fillings_named_signature) (fr := false) (g := b_fillings_named_signature fuel (pr fuel n)) [] T.F197 sc_fillings_named_signature (by decide) fun cdv A outer s H E En hr => have hq := hr.mono (j := 2 * n) (by omega);
    (dss_cons (ds_ifF (dt_tr (de_meth0 (pl := _) 13 T.cl_Signature T.me_Signature_constants (by decide) (FnOk.d L.g513) hq T.b513 (takes_of rfl rfl rfl rfl) (de_var 0))) (dss_one (ds_ret (ps_ret (de_var 0)))) dss_nil)
    (dss_cons (ds_asg (asg_n (dn_setLc (own := [("name", 2), ("arity", 3)]) (i := 1) rfl sc_fillings_named_signature.nd rfl rfl (sw_true rfl rfl rfl (by decide +kernel)) (di_seq (de_op od_add (de_fld 13 0 T.cl_Signature T.na_Signature_functions rfl (de_var 0)) (de_fld 13 1 T.cl_Signature T.na_Signature_relations rfl (de_var 0)))) (blkOk_by (own := [("name", 2), ("arity", 3)]) (N := N_fillings_named_signature) (sc := defScope s_fillings_named_signature) (by decide +kernel)) (tg_tup 2 (tgs_cons (tg_name _ 2) (tgs_cons (tg_name _ 3) (tgs_nil _)))) (by decide) (fun _ _ _ _ _ => (pg_tup rfl (pgs_cons (pg_name (i := 2) sc_fillings_named_signature.nd rfl (by first | exact Or.inl rfl | exact Or.inr rfl)) (pgs_cons (pg_name (i := 3) sc_fillings_named_signature.nd rfl (by first | exact Or.inl rfl | exact Or.inr rfl)) pgs_nil)))) (fun _ _ _ _ _ => dts_nil) (fun _ _ _ _ _ => (de_var 2)))) (tg_name _ 1) (by dsimp only; decide))
    (dss_one (ds_ret (ps_ret (de_meth (pl := _) 13 T.cl_Signature T.me_Signature_extended (by decide) (FnOk.d L.g514) hq T.b514 (takes_of rfl rfl rfl rfl) (de_var 0) (da_cons (de_lst (da_cons (de_tup (da_cons (de_call (FnOk.d L.g310) hq rfl T.m310 T.F310.kp T.b310 (takes_of rfl rfl rfl rfl) (da_cons de_str (da_cons (de_var 1) da_nil)) (cons_len (cons_len len0))) (da_cons de_int da_nil))) da_nil)) da_nil) (cons_len len0)))))))
theorem ok_fillings_rows_of (T : Txt K w mg ad fd ca) (L : Lv fuel P w K mg base ad fd n) : FnOk P w K mg base (L2.CX P w) (2 * (n + 1)) (ad 199) (fd 199) P_fillings_rows_of (spF K (List.length P_fillings_rows_of) false (runF (List.length N_fillings_rows_of) (b_fillings_rows_of fuel (pr fuel n)))) := by
  exact ok_fn (k := 2 * n + 1) (N := N_fillings_rows_of) (ps := P_fillings_rows_of) (fr := false) (g := b_fillings_rows_of fuel (pr fuel n)) [] T.F199 sc_fillings_rows_of (by decide) fun cdv A outer s H E En hr => have hq := hr.mono (j := 2 * n) (by omega);
    (dss_cons (ds_asg (ps_set (i := 2) sc_fillings_rows_of.nd rfl (by first | exact Or.inl rfl | exact Or.inr rfl) (de_lst (da_cons (de_tup da_nil) da_nil))) (tg_name _ 2) (by dsimp only; decide))
    (dss_cons (ds_for (passes_of rfl) rfl (di_rng1 rfl T.z_range (da_cons (de_var 1) da_nil)) (pg_name (i := 3) sc_fillings_rows_of.nd rfl (by first | exact Or.inl rfl | exact Or.inr rfl)) (tg_name _ 3) (by dsimp only; decide) (dss_one (ds_asg (asg_n (dn_setLc2 (own := [("row", 4), ("choice", 5)]) (i := 2) rfl sc_fillings_rows_of.nd rfl rfl (sw_true rfl rfl rfl (by decide +kernel)) (di_seq (de_var 2)) (blkOk_by (own := [("row", 4), ("choice", 5)]) (N := N_fillings_rows_of) (sc := defScope s_fillings_rows_of) (by decide +kernel)) (tg_name _ 4) (by decide) (tg_name _ 5) (by decide) (by decide) (fun _ _ _ _ _ => (pg_name (i := 4) sc_fillings_rows_of.nd rfl (by first | exact Or.inl rfl | exact Or.inr rfl))) (fun _ _ _ _ _ => (di_seq (de_var 0))) (fun _ _ _ _ _ => (pg_name (i := 5) sc_fillings_rows_of.nd rfl (by first | exact Or.inl rfl | exact Or.inr rfl))) (fun _ _ _ _ _ => dts_nil) (fun _ _ _ _ _ => (de_op od_add (de_var 4) (de_tup (da_cons (de_var 5) da_nil)))))) (tg_name _ 2) (by dsimp only; decide))))
    (dss_one (ds_ret (ps_ret (de_var 2))))))
theorem ok_fillings_closed_terms (T : Txt K w mg ad fd ca) (L : Lv fuel P w K mg base ad fd n) : FnOk P w K mg base (L2.CX P w) (2 * (n + 1)) (ad 195) (fd 195) P_fillings_closed_terms (spF K (List.length P_fillings_closed_terms) true (runF (List.length N_fillings_closed_terms) (b_fillings_closed_terms fuel (pr fuel n)))) := by
  exact ok_fn (k := 2 * n + 1) (N := N_fillings_closed_terms) (ps := P_fillings_closed_terms) (fr := true) (g := b_fillings_closed_terms fuel (pr fuel n)) [2, 5, 7] T.F195 sc_fillings_closed_terms (by decide) fun cdv A outer s H E En hr => have hq := hr.mono (j := 2 * n) (by omega);
    (dss_cons (ds_asgN (ps_set (i := 2) sc_fillings_closed_terms.nd rfl (by first | exact Or.inl rfl | exact Or.inr rfl) (dn_lc (own := [("name", 3)]) rfl sc_fillings_closed_terms.nd (di_seq (de_meth0 (pl := _) 13 T.cl_Signature T.me_Signature_constants (by decide) (FnOk.d L.g513) hq T.b513 (takes_of rfl rfl rfl rfl) (de_var 0))) (blkOk_by (own := [("name", 3)]) (N := N_fillings_closed_terms) (sc := defScope s_fillings_closed_terms) (by decide +kernel)) (tg_name _ 3) (by decide) (fun _ _ _ _ _ => (pg_name (i := 3) sc_fillings_closed_terms.nd rfl (by first | exact Or.inl rfl | exact Or.inr rfl))) (fun _ _ _ _ _ => dts_nil) (fun _ _ _ _ _ => (de_tup (da_cons (de_var 3) da_nil))))) (by dsimp only; decide))
    (dss_cons (ds_for (passes_of rfl) rfl (di_rng1 rfl T.z_range (da_cons (de_var 1) da_nil)) (pg_name (i := 4) sc_fillings_closed_terms.nd rfl (by first | exact Or.inl rfl | exact Or.inr rfl)) (tg_name _ 4) (by dsimp only; decide) (dss_cons (ds_asgNI (ps_set (i := 5) sc_fillings_closed_terms.nd rfl (by first | exact Or.inl rfl | exact Or.inr rfl) (dn_list rfl T.z_list (by decide +kernel) (da_cons (de_var 2) da_nil))) (by dsimp only; decide))
    (dss_cons (ds_for (passes_of rfl) rfl (di_seq (de_fld 13 0 T.cl_Signature T.na_Signature_functions rfl (de_var 0))) (pg_tup rfl (pgs_cons (pg_name (i := 3) sc_fillings_closed_terms.nd rfl (by first | exact Or.inl rfl | exact Or.inr rfl)) (pgs_cons (pg_name (i := 6) sc_fillings_closed_terms.nd rfl (by first | exact Or.inl rfl | exact Or.inr rfl)) pgs_nil))) (tg_tup 2 (tgs_cons (tg_name _ 3) (tgs_cons (tg_name _ 6) (tgs_nil _)))) (by dsimp only; decide) (dss_one (ds_ifF (dt_cmp od_gt (de_var 6) de_int) (dss_cons (ds_asgNI (dn_setLc (own := [("row", 8)]) (i := 7) rfl sc_fillings_closed_terms.nd rfl rfl (sw_true rfl rfl rfl (by decide +kernel)) (di_seq (de_call (FnOk.d L.g199) hq rfl T.m199 T.F199.kp T.b199 (takes_of rfl rfl rfl rfl) (da_cons (de_var 2) (da_cons (de_var 6) da_nil)) (cons_len (cons_len len0)))) (blkOk_by (own := [("row", 8)]) (N := N_fillings_closed_terms) (sc := defScope s_fillings_closed_terms) (by decide +kernel)) (tg_name _ 8) (by decide) (fun _ _ _ _ _ => (pg_name (i := 8) sc_fillings_closed_terms.nd rfl (by first | exact Or.inl rfl | exact Or.inr rfl))) (fun _ _ _ _ _ => dts_nil) (fun _ _ _ _ _ => (de_op od_add (de_tup (da_cons (de_var 3) da_nil)) (de_var 8)))) (by dsimp only; decide))
    (dss_frz 7 [2, 5]
    (dss_one (ds_extI (ps_expr (pe_bm PySem.F.plainAttrs_list PySem.F.slot_list_extend PySem.F.type_list_extend mt_extend (pv 5) (pa_cons (dn_lc (own := [("term", 9)]) rfl sc_fillings_closed_terms.nd (di_seq (de_var 7)) (blkOk_by (own := [("term", 9)]) (N := N_fillings_closed_terms) (sc := defScope s_fillings_closed_terms) (by decide +kernel)) (tg_name _ 9) (by decide) (fun _ _ _ _ _ => (pg_name (i := 9) sc_fillings_closed_terms.nd rfl (by first | exact Or.inl rfl | exact Or.inr rfl))) (fun _ _ _ _ _ => (dts_one (dt_cmp (od_notIn (r65 hr)) (de_var 9) (de_var 2)))) (fun _ _ _ _ _ => (de_var 9))) pa_nil))) (by dsimp only; decide))))) dss_nil)))
    (dss_one (ds_move (ps_set (i := 2) sc_fillings_closed_terms.nd rfl (by first | exact Or.inl rfl | exact Or.inr rfl) (pv 5)) (by dsimp only; decide) (by dsimp only; decide) (by decide))))))
    (dss_one (ds_retO (ps_ret (pv 2)) (by dsimp only; decide)))))
theorem ok_books_Signature___init__ (T : Txt K w mg ad fd ca) (L : Lv fuel P w K mg base ad fd n) : FnOk P w K mg base (L2.CX P w) (2 * (n + 1)) (ad 126) (fd 126) P_books_Signature___init__ (spF K (List.length P_books_Signature___init__) false (runF (List.length N_books_Signature___init__) (b_books_Signature___init__ fuel (pr fuel n)))) := by
  obtain ⟨t_MOST_ARGUMENTS, hm_MOST_ARGUMENTS⟩ := T.m_MOST_ARGUMENTS
  exact ok_fn (k := 2 * n + 1) (N := N_books_Signature___init__) (ps := P_books_Signature___init__) (fr := false) (g := b_books_Signature___init__ fuel (pr fuel n)) [] T.F126 sc_books_Signature___init__ (by decide) fun cdv A outer s H E En hr => have hq := hr.mono (j := 2 * n) (by omega);
    (dss_cons (ds_setF 13 0 T.cl_Signature T.na_Signature_functions rfl (ps_fld (de_var 0) (de_callTy cd_tuple rfl T.z_tuple (by decide +kernel) (da_cons (de_n (dn_lc (own := [("name", 3), ("arity", 4)]) rfl sc_books_Signature___init__.nd (di_seq (de_var 1)) (blkOk_by (own := [("name", 3), ("arity", 4)]) (N := N_books_Signature___init__) (sc := defScope s_books_Signature___init__) (by decide +kernel)) (tg_tup 2 (tgs_cons (tg_name _ 3) (tgs_cons (tg_name _ 4) (tgs_nil _)))) (by decide) (fun _ _ _ _ _ => (pg_tup rfl (pgs_cons (pg_name (i := 3) sc_books_Signature___init__.nd rfl (by first | exact Or.inl rfl | exact Or.inr rfl)) (pgs_cons (pg_name (i := 4) sc_books_Signature___init__.nd rfl (by first | exact Or.inl rfl | exact Or.inr rfl)) pgs_nil)))) (fun _ _ _ _ _ => dts_nil) (fun _ _ _ _ _ => (de_tup (da_cons (de_var 3) (da_cons (de_var 4) da_nil)))))) da_nil)) rfl))
    (dss_cons (ds_setF 13 1 T.cl_Signature T.na_Signature_relations rfl (ps_fld (de_var 0) (de_callTy cd_tuple rfl T.z_tuple (by decide +kernel) (da_cons (de_n (dn_lc (own := [("name", 3), ("arity", 4)]) rfl sc_books_Signature___init__.nd (di_seq (de_var 2)) (blkOk_by (own := [("name", 3), ("arity", 4)]) (N := N_books_Signature___init__) (sc := defScope s_books_Signature___init__) (by decide +kernel)) (tg_tup 2 (tgs_cons (tg_name _ 3) (tgs_cons (tg_name _ 4) (tgs_nil _)))) (by decide) (fun _ _ _ _ _ => (pg_tup rfl (pgs_cons (pg_name (i := 3) sc_books_Signature___init__.nd rfl (by first | exact Or.inl rfl | exact Or.inr rfl)) (pgs_cons (pg_name (i := 4) sc_books_Signature___init__.nd rfl (by first | exact Or.inl rfl | exact Or.inr rfl)) pgs_nil)))) (fun _ _ _ _ _ => dts_nil) (fun _ _ _ _ _ => (de_tup (da_cons (de_var 3) (da_cons (de_var 4) da_nil)))))) da_nil)) rfl))
    (dss_cons (ds_setF 13 2 T.cl_Signature T.na_Signature_table rfl (ps_fld (de_var 0) (de_resD dnd_new) rfl))
    (dss_one (ds_for (passes_of rfl) rfl (di_seq (de_op od_add (de_fld 13 0 T.cl_Signature T.na_Signature_functions rfl (de_var 0)) (de_fld 13 1 T.cl_Signature T.na_Signature_relations rfl (de_var 0)))) (pg_tup rfl (pgs_cons (pg_name (i := 3) sc_books_Signature___init__.nd rfl (by first | exact Or.inl rfl | exact Or.inr rfl)) (pgs_cons (pg_name (i := 4) sc_books_Signature___init__.nd rfl (by first | exact Or.inl rfl | exact Or.inr rfl)) pgs_nil))) (tg_tup 2 (tgs_cons (tg_name _ 3) (tgs_cons (tg_name _ 4) (tgs_nil _)))) (by dsimp only; decide) (dss_cons (ds_asg (ps_set (i := 5) sc_books_Signature___init__.nd rfl (by first | exact Or.inl rfl | exact Or.inr rfl) (de_cmp od_lt (de_callB cd_len rfl T.z_len (by decide +kernel) (da_cons (de_fld 13 2 T.cl_Signature T.na_Signature_table rfl (de_var 0)) da_nil)) (de_callB cd_len rfl T.z_len (by decide +kernel) (da_cons (de_fld 13 0 T.cl_Signature T.na_Signature_functions rfl (de_var 0)) da_nil)))) (tg_name _ 5) (by dsimp only; decide))
    (dss_cons (ds_ifF (PW.pt (dw_or (dt_din hr (de_var 3) (de_fld 13 2 T.cl_Signature T.na_Signature_table rfl (de_var 0))) (dw_or1 (dt_not (dt_if (dt_tr (de_var 5)) (dt_tr (de_call (FnOk.d L.g313) hq rfl T.m313 T.F313.kp T.b313 (takes_of rfl rfl rfl rfl) (da_cons (de_var 3) da_nil) (cons_len len0))) (dt_tr (de_call (FnOk.d L.g312) hq rfl T.m312 T.F312.kp T.b312 (takes_of rfl rfl rfl rfl) (da_cons (de_var 3) da_nil) (cons_len len0)))))))) (dss_one (ds_raise rfl (takes_of rfl rfl rfl rfl) (pmk_own PySem.F.excBase_ValueError T.x_BadName T.mg_BadName T.k_BadName (raises_own T.eb_BadName T.et_BadName) rfl))) dss_nil)
    (dss_cons (ds_ifF (dt_not (dt_ch od_le od_le de_int (de_var 4) (de_const (pe_glob (v := .int 3) rfl hm_MOST_ARGUMENTS ⟨_, rfl⟩) fun _ _ => .int _))) (dss_one (ds_raise rfl (takes_of rfl rfl rfl rfl) (pmk_own PySem.F.excBase_ValueError T.x_BadArity T.mg_BadArity T.k_BadArity (raises_own T.eb_BadArity T.et_BadArity) rfl))) dss_nil)
    (dss_one (ds_dsetR (ps_dput (hu_of hr) (de_fld 13 2 T.cl_Signature T.na_Signature_table rfl (de_var 0)) (de_var 3) (de_var 4) rfl)))))))))))
theorem ok_books_Signature_constants_v1 (T : Txt K w mg ad fd ca) (L : Lv fuel P w K mg base ad fd n) : FnOk P w K mg base (L2.CX P w) (2 * (n + 1)) (ad 513) (fd 513) P_books_Signature_constants_v1 (spF K (List.length P_books_Signature_constants_v1) false (runF (List.length N_books_Signature_constants_v1) (b_books_Signature_constants_v1 fuel (pr fuel n)))) := by
  exact ok_fn (k := 2 * n + 1) (N := N_books_Signature_constants_v1) (ps := P_books_Signature_constants_v1) (fr := false) (g := b_books_Signature_constants_v1 fuel (pr fuel n)) [] T.F513 sc_books_Signature_constants_v1 (by decide) fun cdv A outer s H E En hr => have hq := hr.mono (j := 2 * n) (by omega);
    (dss_one (ds_retN (ps_ret (dn_lc (own := [("name", 1), ("arity", 2)]) rfl sc_books_Signature_constants_v1.nd (di_seq (de_fld 13 0 T.cl_Signature T.na_Signature_functions rfl (de_var 0))) (blkOk_by (own := [("name", 1), ("arity", 2)]) (N := N_books_Signature_constants_v1) (sc := defScope s_books_Signature_constants_v1) (by decide +kernel)) (tg_tup 2 (tgs_cons (tg_name _ 1) (tgs_cons (tg_name _ 2) (tgs_nil _)))) (by decide) (fun _ _ _ _ _ => (pg_tup rfl (pgs_cons (pg_name (i := 1) sc_books_Signature_constants_v1.nd rfl (by first | exact Or.inl rfl | exact Or.inr rfl)) (pgs_cons (pg_name (i := 2) sc_books_Signature_constants_v1.nd rfl (by first | exact Or.inl rfl | exact Or.inr rfl)) pgs_nil)))) (fun _ _ _ _ _ => (dts_one (dt_cmp (od_eq hr.units) (de_var 2) de_int))) (fun _ _ _ _ _ => (de_var 1))))))
theorem ok_books_Signature_extended_v1 (T : Txt K w mg ad fd ca) (L : Lv fuel P w K mg base ad fd n) : FnOk P w K mg base (L2.CX P w) (2 * (n + 1)) (ad 514) (fd 514) P_books_Signature_extended_v1 (spF K (List.length P_books_Signature_extended_v1) false (runF (List.length N_books_Signature_extended_v1) (b_books_Signature_extended_v1 fuel (pr fuel n)))) := by
  exact ok_fn (k := 2 * n + 1) (N := N_books_Signature_extended_v1) (ps := P_books_Signature_extended_v1) (fr := false) (g := b_books_Signature_extended_v1 fuel (pr fuel n)) [] T.F514 sc_books_Signature_extended_v1 (by decide) fun cdv A outer s H E En hr => have hq := hr.mono (j := 2 * n) (by omega);
    (dss_one (ds_ret (ps_ret (de_newF 13 T.mk_Signature (FnOk.d L.g126) hr rfl T.mg_Signature T.b126 (takes_of rfl rfl rfl rfl) (da_cons (de_op od_add (de_fld 13 0 T.cl_Signature T.na_Signature_functions rfl (de_var 0)) (de_callTy cd_tuple rfl T.z_tuple (by decide +kernel) (da_cons (de_var 1) da_nil))) (da_cons (de_fld 13 1 T.cl_Signature T.na_Signature_relations rfl (de_var 0)) da_nil)) (cons_len (cons_len len0))))))
theorem ok__law_start (T : Txt K w mg ad fd ca) (L : Lv fuel P w K mg base ad fd n) : FnOk P w K mg base (L2.CX P w) (2 * (n + 1)) (ad 0) (fd 0) P__law_start (spF K (List.length P__law_start) false (runF (List.length N__law_start) (b__law_start fuel (pr fuel n)))) := by
  exact ok_fn (k := 2 * n + 1) (N := N__law_start) (ps := P__law_start) (fr := false) (g := b__law_start fuel (pr fuel n)) [] T.F0 sc__law_start (by decide) fun cdv A outer s H E En hr => have hq := hr.mono (j := 2 * n) (by omega);
    (dss_cons (ds_asg (ps_set (i := 1) sc__law_start.nd rfl (by first | exact Or.inl rfl | exact Or.inr rfl) (de_res (dn_lst da_nil))) (tg_name _ 1) (by dsimp only; decide))
    (dss_cons (ds_asg (ps_set (i := 2) sc__law_start.nd rfl (by first | exact Or.inl rfl | exact Or.inr rfl) de_int) (tg_name _ 2) (by dsimp only; decide))
    (dss_cons (ds_for (passes_of rfl) rfl (di_rng1 rfl T.z_range (da_cons (de_callB cd_len rfl T.z_len (by decide +kernel) (da_cons (de_var 0) da_nil)) da_nil)) (pg_name (i := 3) sc__law_start.nd rfl (by first | exact Or.inl rfl | exact Or.inr rfl)) (tg_name _ 3) (by dsimp only; decide) (dss_cons (ds_asg (ps_set (i := 4) sc__law_start.nd rfl (by first | exact Or.inl rfl | exact Or.inr rfl) (de_callB cd_abs rfl T.z_abs (by decide +kernel) (da_cons (de_ix (de_var 0) (de_var 3)) da_nil))) (tg_name _ 4) (by dsimp only; decide))
    (dss_cons (ds_asg (ps_set (i := 2) sc__law_start.nd rfl (by first | exact Or.inl rfl | exact Or.inr rfl) (de_op od_mod (de_callTy cd_int rfl T.z_int (by decide +kernel) (da_cons (de_op od_add (de_op od_add (de_op od_mul (de_var 2) de_int) (de_var 4)) (de_var 3)) da_nil)) de_int)) (tg_name _ 2) (by dsimp only; decide))
    (dss_one (ds_ifF (dt_cmp od_ge (de_var 4) (de_op od_pow de_int de_int)) (dss_cons (ds_asg (ps_set (i := 4) sc__law_start.nd rfl (by first | exact Or.inl rfl | exact Or.inr rfl) (de_op od_sub (de_var 4) (de_op od_pow de_int de_int))) (tg_name _ 4) (by dsimp only; decide))
    (dss_one (ds_for (passes_of rfl) rfl (di_rng1 rfl T.z_range (da_cons de_int da_nil)) (pg_name (i := 5) sc__law_start.nd rfl (by first | exact Or.inl rfl | exact Or.inr rfl)) (tg_name _ 5) (by dsimp only; decide) (dss_one (ds_ifF (dt_cmp od_gt (de_var 4) de_int) (dss_cons (ds_exp (ps_expr (de_appR (pe_bm PySem.F.plainAttrs_list PySem.F.slot_list_append PySem.F.type_list_append mt_append (de_var 1) (da_cons (de_op od_mod (de_callTy cd_int rfl T.z_int (by decide +kernel) (da_cons (de_var 4) da_nil)) de_int) da_nil)))))
    (dss_one (ds_asg (ps_set (i := 4) sc__law_start.nd rfl (by first | exact Or.inl rfl | exact Or.inr rfl) (de_op od_div (de_var 4) de_int)) (tg_name _ 4) (by dsimp only; decide)))) dss_nil))))) (dss_cons (ds_asg (ps_set (i := 6) sc__law_start.nd rfl (by first | exact Or.inl rfl | exact Or.inr rfl) (de_op od_mod (de_callTy cd_int rfl T.z_int (by decide +kernel) (da_cons (de_op od_add (de_op od_mul (de_op od_add (de_var 4) de_int) de_int) (de_op od_mul (de_var 3) de_int)) da_nil)) de_int)) (tg_name _ 6) (by dsimp only; decide))
    (dss_cons (ds_asg (ps_set (i := 6) sc__law_start.nd rfl (by first | exact Or.inl rfl | exact Or.inr rfl) (de_op od_mod (de_callTy cd_int rfl T.z_int (by decide +kernel) (da_cons (de_op od_add (de_op od_mul (de_var 6) de_int) de_int) da_nil)) de_int)) (tg_name _ 6) (by dsimp only; decide))
    (dss_one (ds_exp (ps_expr (de_appR (pe_bm PySem.F.plainAttrs_list PySem.F.slot_list_append PySem.F.type_list_append mt_append (de_var 1) (da_cons (de_op od_mod (de_op od_div (de_var 6) de_int) de_int) da_nil)))))))))))))
    (dss_one (ds_ret (ps_ret (de_res (dn_lst (da_cons (de_var 1) (da_cons de_int (da_cons (de_var 2) da_nil)))))))))))
theorem ok__law_take (T : Txt K w mg ad fd ca) (L : Lv fuel P w K mg base ad fd n) : FnOk P w K mg base (L2.CX P w) (2 * (n + 1)) (ad 1) (fd 1) P__law_take (spF K (List.length P__law_take) false (runF (List.length N__law_take) (b__law_take fuel (pr fuel n)))) := by
  exact ok_fn (k := 2 * n + 1) (N := N__law_take) (ps := P__law_take) (fr := false) (g := b__law_take fuel (pr fuel n)) [] T.F1 sc__law_take (by decide) fun cdv A outer s H E En hr => have hq := hr.mono (j := 2 * n) (by omega);
    (dss_cons (ds_asg (ps_set (i := 2) sc__law_take.nd rfl (by first | exact Or.inl rfl | exact Or.inr rfl) (de_ix (de_var 0) de_int)) (tg_name _ 2) (by dsimp only; decide))
    (dss_cons (ds_setR (ps_asg (de_op od_add (de_var 2) de_int) (pg_sub (de_var 0) de_int set_list)))
    (dss_cons (ds_ifF (dt_cmp od_lt (de_var 2) (de_callB cd_len rfl T.z_len (by decide +kernel) (da_cons (de_ix (de_var 0) de_int) da_nil))) (dss_one (ds_ret (ps_ret (de_op od_mod (de_callTy cd_int rfl T.z_int (by decide +kernel) (da_cons (de_ix (de_ix (de_var 0) de_int) (de_var 2)) da_nil)) (de_var 1))))) dss_nil)
    (dss_cons (ds_asg (ps_set (i := 3) sc__law_take.nd rfl (by first | exact Or.inl rfl | exact Or.inr rfl) (de_op od_mod (de_callTy cd_int rfl T.z_int (by decide +kernel) (da_cons (de_op od_mul (de_op od_add (de_ix (de_var 0) de_int) (de_op od_mul (de_var 2) de_int)) de_int) da_nil)) de_int)) (tg_name _ 3) (by dsimp only; decide))
    (dss_cons (ds_asg (ps_set (i := 3) sc__law_take.nd rfl (by first | exact Or.inl rfl | exact Or.inr rfl) (de_op od_mod (de_callTy cd_int rfl T.z_int (by decide +kernel) (da_cons (de_op od_add (de_op od_mul (de_var 3) de_int) (de_op od_mul (de_var 2) (de_var 2))) da_nil)) de_int)) (tg_name _ 3) (by dsimp only; decide))
    (dss_one (ds_ret (ps_ret (de_op od_mod (de_op od_div (de_var 3) de_int) (de_var 1))))))))))
theorem ok__law_tuples (T : Txt K w mg ad fd ca) (L : Lv fuel P w K mg base ad fd n) : FnOk P w K mg base (L2.CX P w) (2 * (n + 1)) (ad 2) (fd 2) P__law_tuples (spF K (List.length P__law_tuples) false (runF (List.length N__law_tuples) (b__law_tuples fuel (pr fuel n)))) := by
  exact ok_fn (k := 2 * n + 1) (N := N__law_tuples) (ps := P__law_tuples) (fr := false) (g := b__law_tuples fuel (pr fuel n)) [] T.F2 sc__law_tuples (by decide) fun cdv A outer s H E En hr => have hq := hr.mono (j := 2 * n) (by omega);
    (dss_cons (ds_asg (ps_set (i := 2) sc__law_tuples.nd rfl (by first | exact Or.inl rfl | exact Or.inr rfl) (de_lst (da_cons (de_tup da_nil) da_nil))) (tg_name _ 2) (by dsimp only; decide))
    (dss_cons (ds_for (passes_of rfl) rfl (di_rng1 rfl T.z_range (da_cons (de_var 1) da_nil)) (pg_name (i := 3) sc__law_tuples.nd rfl (by first | exact Or.inl rfl | exact Or.inr rfl)) (tg_name _ 3) (by dsimp only; decide) (dss_cons (ds_asg (ps_set (i := 4) sc__law_tuples.nd rfl (by first | exact Or.inl rfl | exact Or.inr rfl) (de_lst da_nil)) (tg_name _ 4) (by dsimp only; decide))
    (dss_cons (ds_for (passes_of rfl) rfl (di_seq (de_var 2)) (pg_name (i := 5) sc__law_tuples.nd rfl (by first | exact Or.inl rfl | exact Or.inr rfl)) (tg_name _ 5) (by dsimp only; decide) (dss_one (ds_asg (ps_set (i := 4) sc__law_tuples.nd rfl (by first | exact Or.inl rfl | exact Or.inr rfl) (de_op od_add (de_var 4) (de_n (dn_lc (own := [("_law_choice", 6)]) rfl sc__law_tuples.nd (di_seq (de_var 0)) (blkOk_by (own := [("_law_choice", 6)]) (N := N__law_tuples) (sc := defScope s__law_tuples) (by decide +kernel)) (tg_name _ 6) (by decide) (fun _ _ _ _ _ => (pg_name (i := 6) sc__law_tuples.nd rfl (by first | exact Or.inl rfl | exact Or.inr rfl))) (fun _ _ _ _ _ => dts_nil) (fun _ _ _ _ _ => (de_op od_add (de_var 5) (de_tup (da_cons (de_var 6) da_nil)))))))) (tg_name _ 4) (by dsimp only; decide))))
    (dss_one (ds_asg (ps_set (i := 2) sc__law_tuples.nd rfl (by first | exact Or.inl rfl | exact Or.inr rfl) (de_var 4)) (tg_name _ 2) (by dsimp only; decide))))))
    (dss_one (ds_ret (ps_ret (de_var 2))))))
theorem ok__law_closed (T : Txt K w mg ad fd ca) (L : Lv fuel P w K mg base ad fd n) : FnOk P w K mg base (L2.CX P w) (2 * (n + 1)) (ad 3) (fd 3) P__law_closed (spF K (List.length P__law_closed) false (runF (List.length N__law_closed) (b__law_closed fuel (pr fuel n)))) := by
  exact ok_fn (k := 2 * n + 1) (N := N__law_closed) (ps := P__law_closed) (fr := false) (g := b__law_closed fuel (pr fuel n)) [6] T.F3 sc__law_closed (by decide) fun cdv A outer s H E En hr => have hq := hr.mono (j := 2 * n) (by omega);
    (dss_cons (ds_asg (asg_n (dn_setLc (own := [("_law_name", 3), ("_law_arity", 4)]) (i := 2) rfl sc__law_closed.nd rfl rfl (sw_true rfl rfl rfl (by decide +kernel)) (di_seq (de_var 0)) (blkOk_by (own := [("_law_name", 3), ("_law_arity", 4)]) (N := N__law_closed) (sc := defScope s__law_closed) (by decide +kernel)) (tg_tup 2 (tgs_cons (tg_name _ 3) (tgs_cons (tg_name _ 4) (tgs_nil _)))) (by decide) (fun _ _ _ _ _ => (pg_tup rfl (pgs_cons (pg_name (i := 3) sc__law_closed.nd rfl (by first | exact Or.inl rfl | exact Or.inr rfl)) (pgs_cons (pg_name (i := 4) sc__law_closed.nd rfl (by first | exact Or.inl rfl | exact Or.inr rfl)) pgs_nil)))) (fun _ _ _ _ _ => (dts_one (dt_cmp (od_eq hr.units) (de_var 4) de_int))) (fun _ _ _ _ _ => (de_tup (da_cons (de_var 3) da_nil))))) (tg_name _ 2) (by dsimp only; decide))
    (dss_cons (ds_for (passes_of rfl) rfl (di_rng1 rfl T.z_range (da_cons (de_var 1) da_nil)) (pg_name (i := 5) sc__law_closed.nd rfl (by first | exact Or.inl rfl | exact Or.inr rfl)) (tg_name _ 5) (by dsimp only; decide) (dss_cons (ds_asgN (ps_set (i := 6) sc__law_closed.nd rfl (by first | exact Or.inl rfl | exact Or.inr rfl) (dn_list rfl T.z_list (by decide +kernel) (da_cons (de_var 2) da_nil))) (by dsimp only; decide))
    (dss_cons (ds_for (passes_of rfl) rfl (di_seq (de_var 0)) (pg_tup rfl (pgs_cons (pg_name (i := 3) sc__law_closed.nd rfl (by first | exact Or.inl rfl | exact Or.inr rfl)) (pgs_cons (pg_name (i := 4) sc__law_closed.nd rfl (by first | exact Or.inl rfl | exact Or.inr rfl)) pgs_nil))) (tg_tup 2 (tgs_cons (tg_name _ 3) (tgs_cons (tg_name _ 4) (tgs_nil _)))) (by dsimp only; decide) (dss_one (ds_ifF (dt_cmp od_gt (de_var 4) de_int) (dss_one (ds_for (passes_of rfl) rfl (di_seq (de_call (FnOk.d L.g2) hq rfl T.m2 T.F2.kp T.b2 (takes_of rfl rfl rfl rfl) (da_cons (de_var 2) (da_cons (de_var 4) da_nil)) (cons_len (cons_len len0)))) (pg_name (i := 7) sc__law_closed.nd rfl (by first | exact Or.inl rfl | exact Or.inr rfl)) (tg_name _ 7) (by dsimp only; decide) (dss_one (ds_ifF (dt_cmp (od_notIn (r65 hr)) (de_op od_add (de_tup (da_cons (de_var 3) da_nil)) (de_var 7)) (de_var 2)) (dss_one (ds_app (ps_expr (pe_bm PySem.F.plainAttrs_list PySem.F.slot_list_append PySem.F.type_list_append mt_append (pv 6) (da_cons (de_op od_add (de_tup (da_cons (de_var 3) da_nil)) (de_var 7)) da_nil))) (by dsimp only; decide))) dss_nil)))) dss_nil)))
    (dss_frz 6 []
    (dss_one (ds_asg (ps_set (i := 2) sc__law_closed.nd rfl (by first | exact Or.inl rfl | exact Or.inr rfl) (de_var 6)) (tg_name _ 2) (by dsimp only; decide)))))))
    (dss_one (ds_ret (ps_ret (de_var 2))))))
theorem ok_law (T : Txt K w mg ad fd ca) (L : Lv fuel P w K mg base ad fd n) : FnOk P w K mg base (L2.CX P w) (2 * (n + 1)) (ad 4) (fd 4) P_law (spF K (List.length P_law) false (runF (List.length N_law) (b_law fuel (pr fuel n)))) := by
  exact ok_fn (k := 2 * n + 1) (N := N_law) (ps := P_law) (fr := false) (g := b_law fuel (pr fuel n)) [3, 9, 11, 16] T.F4 sc_law (by decide) fun cdv A outer s H E En hr => have hq := hr.mono (j := 2 * n) (by omega);
    (dss_cons (ds_asg (ps_set (i := 1) sc_law.nd rfl (by first | exact Or.inl rfl | exact Or.inr rfl) (de_call (FnOk.d L.g0) hq rfl T.m0 T.F0.kp T.b0 (takes_of rfl rfl rfl rfl) (da_cons (de_var 0) da_nil) (cons_len len0))) (tg_name _ 1) (by dsimp only; decide))
    (dss_cons (ds_asg (ps_set (i := 2) sc_law.nd rfl (by first | exact Or.inl rfl | exact Or.inr rfl) (de_sl (de_lst (da_cons de_str (da_cons de_str (da_cons de_str da_nil)))) do_none (do_some (de_call (FnOk.d L.g1) hq rfl T.m1 T.F1.kp T.b1 (takes_of rfl rfl rfl rfl) (da_cons (de_var 1) (da_cons de_int da_nil)) (cons_len (cons_len len0)))))) (tg_name _ 2) (by dsimp only; decide))
    (dss_cons (ds_asgN (ps_set (i := 3) sc_law.nd rfl (by first | exact Or.inl rfl | exact Or.inr rfl) (dn_lst da_nil)) (by dsimp only; decide))
    (dss_cons (ds_for (passes_of rfl) rfl (di_seq (de_var 2)) (pg_name (i := 4) sc_law.nd rfl (by first | exact Or.inl rfl | exact Or.inr rfl)) (tg_name _ 4) (by dsimp only; decide) (dss_one (ds_insI (ps_expr (pe_bm PySem.F.plainAttrs_list PySem.F.slot_list_insert PySem.F.type_list_insert mt_insert (pv 3) (da_cons (de_call (FnOk.d L.g1) hq rfl T.m1 T.F1.kp T.b1 (takes_of rfl rfl rfl rfl) (da_cons (de_var 1) (da_cons (de_op od_add (de_callB cd_len rfl T.z_len (by decide +kernel) (da_cons (de_var 3) da_nil)) de_int) da_nil)) (cons_len (cons_len len0))) (da_cons (de_tup (da_cons (de_var 4) (da_cons de_int da_nil))) da_nil)))) (by dsimp only; decide))))
    (dss_cons (ds_asg (ps_set (i := 5) sc_law.nd rfl (by first | exact Or.inl rfl | exact Or.inr rfl) (de_ix (de_lst (da_cons (de_lst (da_cons de_str (da_cons de_str da_nil))) (da_cons (de_lst (da_cons de_str (da_cons de_str da_nil))) (da_cons (de_lst (da_cons de_str (da_cons de_str da_nil))) da_nil)))) (de_call (FnOk.d L.g1) hq rfl T.m1 T.F1.kp T.b1 (takes_of rfl rfl rfl rfl) (da_cons (de_var 1) (da_cons de_int da_nil)) (cons_len (cons_len len0))))) (tg_name _ 5) (by dsimp only; decide))
    (dss_cons (ds_for (passes_of rfl) rfl (di_seq (de_sl (de_var 5) do_none (do_some (de_call (FnOk.d L.g1) hq rfl T.m1 T.F1.kp T.b1 (takes_of rfl rfl rfl rfl) (da_cons (de_var 1) (da_cons de_int da_nil)) (cons_len (cons_len len0)))))) (pg_name (i := 4) sc_law.nd rfl (by first | exact Or.inl rfl | exact Or.inr rfl)) (tg_name _ 4) (by dsimp only; decide) (dss_one (ds_insI (ps_expr (pe_bm PySem.F.plainAttrs_list PySem.F.slot_list_insert PySem.F.type_list_insert mt_insert (pv 3) (da_cons (de_call (FnOk.d L.g1) hq rfl T.m1 T.F1.kp T.b1 (takes_of rfl rfl rfl rfl) (da_cons (de_var 1) (da_cons (de_op od_add (de_callB cd_len rfl T.z_len (by decide +kernel) (da_cons (de_var 3) da_nil)) de_int) da_nil)) (cons_len (cons_len len0))) (da_cons (de_tup (da_cons (de_var 4) (da_cons (de_op od_add de_int (de_call (FnOk.d L.g1) hq rfl T.m1 T.F1.kp T.b1 (takes_of rfl rfl rfl rfl) (da_cons (de_var 1) (da_cons de_int da_nil)) (cons_len (cons_len len0)))) da_nil))) da_nil)))) (by dsimp only; decide))))
    (dss_cons (ds_asg (ps_set (i := 6) sc_law.nd rfl (by first | exact Or.inl rfl | exact Or.inr rfl) (de_sl (de_lst (da_cons (de_tup (da_cons de_str (da_cons de_int da_nil))) (da_cons (de_tup (da_cons de_str (da_cons de_int da_nil))) da_nil))) do_none (do_some (de_call (FnOk.d L.g1) hq rfl T.m1 T.F1.kp T.b1 (takes_of rfl rfl rfl rfl) (da_cons (de_var 1) (da_cons de_int da_nil)) (cons_len (cons_len len0)))))) (tg_name _ 6) (by dsimp only; decide))
    (dss_frz 3 [9, 11, 16]
    (dss_cons (ds_asg (ps_set (i := 7) sc_law.nd rfl (by first | exact Or.inl rfl | exact Or.inr rfl) (de_newF 13 T.mk_Signature (FnOk.d L.g126) hr rfl T.mg_Signature T.b126 (takes_of rfl rfl rfl rfl) (da_cons (de_callTy cd_list rfl T.z_list (by decide +kernel) (da_cons (de_var 3) da_nil)) (da_cons (de_callTy cd_list rfl T.z_list (by decide +kernel) (da_cons (de_var 6) da_nil)) da_nil)) (cons_len (cons_len len0)))) (tg_name _ 7) (by dsimp only; decide))
    (dss_cons (ds_asg (ps_set (i := 8) sc_law.nd rfl (by first | exact Or.inl rfl | exact Or.inr rfl) (de_call (FnOk.d L.g197) hq rfl T.m197 T.F197.kp T.b197 (takes_of rfl rfl rfl rfl) (da_cons (de_var 7) da_nil) (cons_len len0))) (tg_name _ 8) (by dsimp only; decide))
    (dss_cons (ds_asgN (ps_set (i := 9) sc_law.nd rfl (by first | exact Or.inl rfl | exact Or.inr rfl) (dn_list rfl T.z_list (by decide +kernel) (da_cons (de_var 3) da_nil))) (by dsimp only; decide))
    (dss_cons (ds_ifF (dt_cmp (od_eq hr.units) (de_callB cd_len rfl T.z_len (by decide +kernel) (da_cons (de_var 2) da_nil)) de_int) (dss_cons (ds_asg (ps_set (i := 10) sc_law.nd rfl (by first | exact Or.inl rfl | exact Or.inr rfl) de_int) (tg_name _ 10) (by dsimp only; decide))
    (dss_cons (ds_asgN (dn_setLc (own := [("_law_name", 4), ("_law_arity", 12)]) (i := 11) rfl sc_law.nd rfl rfl (sw_true rfl rfl rfl (by decide +kernel)) (di_seq (de_var 3)) (blkOk_by (own := [("_law_name", 4), ("_law_arity", 12)]) (N := N_law) (sc := defScope s_law) (by decide +kernel)) (tg_tup 2 (tgs_cons (tg_name _ 4) (tgs_cons (tg_name _ 12) (tgs_nil _)))) (by decide) (fun _ _ _ _ _ => (pg_tup rfl (pgs_cons (pg_name (i := 4) sc_law.nd rfl (by first | exact Or.inl rfl | exact Or.inr rfl)) (pgs_cons (pg_name (i := 12) sc_law.nd rfl (by first | exact Or.inl rfl | exact Or.inr rfl)) pgs_nil)))) (fun _ _ _ _ _ => dts_nil) (fun _ _ _ _ _ => (de_var 4))) (by dsimp only; decide))
    (dss_frz 11 [9, 16]
    (dss_cons (ds_for (passes_of rfl) rfl (di_rng1 rfl T.z_range (da_cons de_int da_nil)) (pg_name (i := 13) sc_law.nd rfl (by first | exact Or.inl rfl | exact Or.inr rfl)) (tg_name _ 13) (by dsimp only; decide) (dss_one (ds_ifF (dt_cmp (od_in (r65 hr)) (de_op od_add de_str (de_callTy cd_str rfl T.z_str (by decide +kernel) (da_cons (de_var 10) da_nil))) (de_var 11)) (dss_one (ds_asg (ps_set (i := 10) sc_law.nd rfl (by first | exact Or.inl rfl | exact Or.inr rfl) (de_op od_add (de_var 10) de_int)) (tg_name _ 10) (by dsimp only; decide))) dss_nil)))
    (dss_one (ds_app (ps_expr (pe_bm PySem.F.plainAttrs_list PySem.F.slot_list_append PySem.F.type_list_append mt_append (pv 9) (da_cons (de_tup (da_cons (de_op od_add de_str (de_callTy cd_str rfl T.z_str (by decide +kernel) (da_cons (de_var 10) da_nil))) (da_cons de_int da_nil))) da_nil))) (by dsimp only; decide))))))) dss_nil)
    (dss_frz 9 [11, 16]
    (dss_cons (ds_ifF (PW.pt (dw_or (dt_cmp (od_ne hr.units) (de_fld 13 0 T.cl_Signature T.na_Signature_functions rfl (de_var 8)) (de_callTy cd_tuple rfl T.z_tuple (by decide +kernel) (da_cons (de_var 9) da_nil))) (dw_or1 (dt_cmp (od_ne hr.units) (de_fld 13 1 T.cl_Signature T.na_Signature_relations rfl (de_var 8)) (de_callTy cd_tuple rfl T.z_tuple (by decide +kernel) (da_cons (de_var 6) da_nil)))))) (dss_one (ds_ret (ps_ret de_bl))) dss_nil)
    (dss_cons (ds_ifF (dt_cmp (od_ne hr.units) (de_fld 13 0 T.cl_Signature T.na_Signature_functions rfl (de_var 7)) (de_callTy cd_tuple rfl T.z_tuple (by decide +kernel) (da_cons (de_var 3) da_nil))) (dss_one (ds_ret (ps_ret de_bl))) dss_nil)
    (dss_cons (ds_asg (ps_set (i := 14) sc_law.nd rfl (by first | exact Or.inl rfl | exact Or.inr rfl) (de_callB (cd_max1 rfl) rfl T.z_max (by decide +kernel) (da_cons (de_n (dn_lc (own := [("_law_name", 4), ("_law_arity", 12)]) rfl sc_law.nd (di_seq (de_var 9)) (blkOk_by (own := [("_law_name", 4), ("_law_arity", 12)]) (N := N_law) (sc := defScope s_law) (by decide +kernel)) (tg_tup 2 (tgs_cons (tg_name _ 4) (tgs_cons (tg_name _ 12) (tgs_nil _)))) (by decide) (fun _ _ _ _ _ => (pg_tup rfl (pgs_cons (pg_name (i := 4) sc_law.nd rfl (by first | exact Or.inl rfl | exact Or.inr rfl)) (pgs_cons (pg_name (i := 12) sc_law.nd rfl (by first | exact Or.inl rfl | exact Or.inr rfl)) pgs_nil)))) (fun _ _ _ _ _ => dts_nil) (fun _ _ _ _ _ => (de_var 12)))) da_nil))) (tg_name _ 14) (by dsimp only; decide))
    (dss_cons (ds_asg (ps_set (i := 15) sc_law.nd rfl (by first | exact Or.inl rfl | exact Or.inr rfl) (de_call (FnOk.d L.g1) hq rfl T.m1 T.F1.kp T.b1 (takes_of rfl rfl rfl rfl) (da_cons (de_var 1) (da_cons de_int da_nil)) (cons_len (cons_len len0)))) (tg_name _ 15) (by dsimp only; decide))
    (dss_cons (ds_ifF (PW.pt (dw_or (dt_cmp (od_eq hr.units) (de_var 14) de_int) (dw_or1 (PW.pt (dw_and (dt_cmp (od_eq hr.units) (de_var 14) de_int) (dw_and1 (dt_cmp od_gt (de_callB cd_len rfl T.z_len (by decide +kernel) (da_cons (de_var 9) da_nil)) de_int))))))) (dss_one (ds_asg (ps_set (i := 15) sc_law.nd rfl (by first | exact Or.inl rfl | exact Or.inr rfl) (de_callB (cd_min2 rfl) rfl T.z_min (by decide +kernel) (da_cons (de_var 15) (da_cons de_int da_nil)))) (tg_name _ 15) (by dsimp only; decide))) dss_nil)
    (dss_cons (ds_asgN (ps_set (i := 16) sc_law.nd rfl (by first | exact Or.inl rfl | exact Or.inr rfl) (dn_call L.g195 hq rfl T.m195 T.F195.kp T.b195 (takes_of rfl rfl rfl rfl) (da_cons (de_var 8) (da_cons (de_var 15) da_nil)) (cons_len (cons_len len0)))) (by dsimp only; decide))
    (dss_cons (ds_if (PW.pt (dw_or (dt_not (dt_tr (de_callB cd_isi rfl T.z_isinstance (by decide +kernel) (da_cons (de_var 16) (da_cons (de_ty rfl T.z_list (by decide +kernel)) da_nil))))) (dw_or1 (dt_cmp (od_ne hr.units) (de_var 16) (de_call (FnOk.d L.g3) hq rfl T.m3 T.F3.kp T.b3 (takes_of rfl rfl rfl rfl) (da_cons (de_var 9) (da_cons (de_var 15) da_nil)) (cons_len (cons_len len0))))))) (dss_one (ds_ret (ps_ret de_bl))) dss_nil)
    (dss_cons (ds_app (ps_expr (pe_bm PySem.F.plainAttrs_list PySem.F.slot_list_append PySem.F.type_list_append mt_append (pv 16) (da_cons (de_tup (da_cons de_str da_nil)) da_nil))) (by dsimp only; decide))
    (dss_one (ds_ret (ps_ret (de_and (de_cmp (od_eq hr.units) (de_call (FnOk.d L.g195) hq rfl T.m195 T.F195.kp T.b195 (takes_of rfl rfl rfl rfl) (da_cons (de_var 8) (da_cons (de_var 15) da_nil)) (cons_len (cons_len len0))) (de_call (FnOk.d L.g3) hq rfl T.m3 T.F3.kp T.b3 (takes_of rfl rfl rfl rfl) (da_cons (de_var 9) (da_cons (de_var 15) da_nil)) (cons_len (cons_len len0)))) (de_one (de_cmp (od_eq hr.units) (de_call (FnOk.d L.g195) hq rfl T.m195 T.F195.kp T.b195 (takes_of rfl rfl rfl rfl) (da_cons (de_var 7) (da_cons de_int da_nil)) (cons_len (cons_len len0))) (de_n (dn_lc (own := [("_law_name", 4), ("_law_arity", 12)]) rfl sc_law.nd (di_seq (de_var 3)) (blkOk_by (own := [("_law_name", 4), ("_law_arity", 12)]) (N := N_law) (sc := defScope s_law) (by decide +kernel)) (tg_tup 2 (tgs_cons (tg_name _ 4) (tgs_cons (tg_name _ 12) (tgs_nil _)))) (by decide) (fun _ _ _ _ _ => (pg_tup rfl (pgs_cons (pg_name (i := 4) sc_law.nd rfl (by first | exact Or.inl rfl | exact Or.inr rfl)) (pgs_cons (pg_name (i := 12) sc_law.nd rfl (by first | exact Or.inl rfl | exact Or.inr rfl)) pgs_nil)))) (fun _ _ _ _ _ => (dts_one (dt_cmp (od_eq hr.units) (de_var 12) de_int))) (fun _ _ _ _ _ => (de_tup (da_cons (de_var 4) da_nil))))))))))))))))))))))))))))))))
theorem lv_zero : Lv fuel P w K mg base ad fd 0 := ⟨fnOk0, fnOk0, fnOk0, fnOk0, fnOk0, fnOk0, fnOk0, fnOk0, fnOk0, fnOk0, fnOk0, fnOk0, fnOk0, fnOk0, fnOk0⟩
theorem lv_succ (T : Txt K w mg ad fd ca) (L : Lv fuel P w K mg base ad fd n) : Lv fuel P w K mg base ad fd (n + 1) := ⟨ok_names_has_name_signs T L, ok_names_is_small_name T L, ok_names_is_capital_name T L, ok_names_fresh_name T L, ok_fillings_named_signature T L, ok_fillings_rows_of T L, ok_fillings_closed_terms T L, ok_books_Signature___init__ T L, ok_books_Signature_constants_v1 T L, ok_books_Signature_extended_v1 T L, ok__law_start T L, ok__law_take T L, ok__law_tuples T L, ok__law_closed T L, ok_law T L⟩
theorem lv_all (T : Txt K w mg ad fd ca) : ∀ n, Lv fuel P w K mg base ad fd n
  | 0 => lv_zero
  | n + 1 => lv_succ T (lv_all T n)
end
theorem law_ok {fuel : Nat} {P : Program} {w : World} {K : PySem.W.Frag} {mg : Str → Option Value} {base : Heap} {ad : Nat → Addr} {fd : Nat → FuncData} {ca : String → Addr} (T : Txt K w mg ad fd ca)
    (h : ∀ ns : List Int, ns.length ≤ 63 → ∃ r, pr fuel 60 4 [.scr ns] [] = .ok (.bl true) r) : FnOk P w K mg base (L2.CX P w) 120 (ad 4) (fd 4) P_law (spLaw K) :=
  FnOk.law (lv_all T 60).g4 h
theorem main : ∀ ns : List Int, ns.length ≤ 63 → ∃ r, pr 1000 60 4 [.scr ns] [] = .ok (.bl true) r := main_75
theorem all_mk {fuel : Nat} {l : PySem.W.OpenLaw} {w : World} {K : PySem.W.Frag} {h : Heap} {mg : Str → Option Value} {fa : Addr} (X : K.In h) (G : h.Ns mainGlobals mg) (hfa : mg "law" = some (.ref fa))
    {f311 : Addr} {oc311 kV311 dc311 pm311 cd311 ct311 : Value} {od311 an311 : Option Addr} {sl311 : Array (Option Value)}
    {f313 : Addr} {oc313 kV313 dc313 pm313 cd313 ct313 : Value} {od313 an313 : Option Addr} {sl313 : Array (Option Value)}
    {f312 : Addr} {oc312 kV312 dc312 pm312 cd312 ct312 : Value} {od312 an312 : Option Addr} {sl312 : Array (Option Value)}
    {f310 : Addr} {oc310 kV310 dc310 pm310 cd310 ct310 : Value} {od310 an310 : Option Addr} {sl310 : Array (Option Value)}
    {f197 : Addr} {oc197 kV197 dc197 pm197 cd197 ct197 : Value} {od197 an197 : Option Addr} {sl197 : Array (Option Value)}
    {f199 : Addr} {oc199 kV199 dc199 pm199 cd199 ct199 : Value} {od199 an199 : Option Addr} {sl199 : Array (Option Value)}
    {f195 : Addr} {oc195 kV195 dc195 pm195 cd195 ct195 : Value} {od195 an195 : Option Addr} {sl195 : Array (Option Value)}
    {f126 : Addr} {oc126 kV126 dc126 pm126 cd126 ct126 : Value} {od126 an126 : Option Addr} {sl126 : Array (Option Value)}
    {f513 : Addr} {oc513 kV513 dc513 pm513 cd513 ct513 : Value} {od513 an513 : Option Addr} {sl513 : Array (Option Value)}
    {f514 : Addr} {oc514 kV514 dc514 pm514 cd514 ct514 : Value} {od514 an514 : Option Addr} {sl514 : Array (Option Value)}
    {f0 : Addr} {oc0 kV0 dc0 pm0 cd0 ct0 : Value} {od0 an0 : Option Addr} {sl0 : Array (Option Value)}
    {f1 : Addr} {oc1 kV1 dc1 pm1 cd1 ct1 : Value} {od1 an1 : Option Addr} {sl1 : Array (Option Value)}
    {f2 : Addr} {oc2 kV2 dc2 pm2 cd2 ct2 : Value} {od2 an2 : Option Addr} {sl2 : Array (Option Value)}
    {f3 : Addr} {oc3 kV3 dc3 pm3 cd3 ct3 : Value} {od3 an3 : Option Addr} {sl3 : Array (Option Value)}
    {f4 : Addr} {oc4 kV4 dc4 pm4 cd4 ct4 : Value} {od4 an4 : Option Addr} {sl4 : Array (Option Value)}
    {C_BadArity : Addr}
    {C_BadName : Addr}
    {C_Signature : Addr}
    {t_CAPITAL : Tok}
    {t_DIGITS : Tok}
    {t_LONGEST : Tok}
    {t_MOST_ARGUMENTS : Tok}
    {e_RESERVED : Addr} {n_RESERVED : Nat} {dd_RESERVED : Option Addr} {sl_RESERVED : Array (Option Value)} {t_RESERVED_0 : Tok} {t_RESERVED_1 : Tok} {t_RESERVED_2 : Tok} {t_RESERVED_3 : Tok} {t_RESERVED_4 : Tok} {t_RESERVED_5 : Tok} {t_RESERVED_6 : Tok} {t_RESERVED_7 : Tok} {t_RESERVED_8 : Tok}
    {t_SMALL : Tok}
    (l311 : K.lookup f311 = some ⟨oc311, od311, .func (PySem.W.fnOf "has_name_signs" "has_name_signs" (defArgs s_names_has_name_signs) (defBody s_names_has_name_signs) (defScope s_names_has_name_signs) .none kV311 dc311 pm311 an311 cd311 ct311), sl311⟩)
    (c311 : PySem.W.codeIn K cd311 "has_name_signs" = true)
    (k311 : PySem.W.keepIn K (.ref f311) = true)
    (a311 : PySem.W.nsIn K mainGlobals "has_name_signs" = some (some (.ref f311)))
    (l313 : K.lookup f313 = some ⟨oc313, od313, .func (PySem.W.fnOf "is_small_name" "is_small_name" (defArgs s_names_is_small_name) (defBody s_names_is_small_name) (defScope s_names_is_small_name) .none kV313 dc313 pm313 an313 cd313 ct313), sl313⟩)
    (c313 : PySem.W.codeIn K cd313 "is_small_name" = true)
    (k313 : PySem.W.keepIn K (.ref f313) = true)
    (a313 : PySem.W.nsIn K mainGlobals "is_small_name" = some (some (.ref f313)))
    (l312 : K.lookup f312 = some ⟨oc312, od312, .func (PySem.W.fnOf "is_capital_name" "is_capital_name" (defArgs s_names_is_capital_name) (defBody s_names_is_capital_name) (defScope s_names_is_capital_name) .none kV312 dc312 pm312 an312 cd312 ct312), sl312⟩)
    (c312 : PySem.W.codeIn K cd312 "is_capital_name" = true)
    (k312 : PySem.W.keepIn K (.ref f312) = true)
    (a312 : PySem.W.nsIn K mainGlobals "is_capital_name" = some (some (.ref f312)))
    (l310 : K.lookup f310 = some ⟨oc310, od310, .func (PySem.W.fnOf "fresh_name" "fresh_name" (defArgs s_names_fresh_name) (defBody s_names_fresh_name) (defScope s_names_fresh_name) .none kV310 dc310 pm310 an310 cd310 ct310), sl310⟩)
    (c310 : PySem.W.codeIn K cd310 "fresh_name" = true)
    (k310 : PySem.W.keepIn K (.ref f310) = true)
    (a310 : PySem.W.nsIn K mainGlobals "fresh_name" = some (some (.ref f310)))
    (l197 : K.lookup f197 = some ⟨oc197, od197, .func (PySem.W.fnOf "named_signature" "named_signature" (defArgs s_fillings_named_signature) (defBody s_fillings_named_signature) (defScope s_fillings_named_signature) .none kV197 dc197 pm197 an197 cd197 ct197), sl197⟩)
    (c197 : PySem.W.codeIn K cd197 "named_signature" = true)
    (k197 : PySem.W.keepIn K (.ref f197) = true)
    (a197 : PySem.W.nsIn K mainGlobals "named_signature" = some (some (.ref f197)))
    (l199 : K.lookup f199 = some ⟨oc199, od199, .func (PySem.W.fnOf "rows_of" "rows_of" (defArgs s_fillings_rows_of) (defBody s_fillings_rows_of) (defScope s_fillings_rows_of) .none kV199 dc199 pm199 an199 cd199 ct199), sl199⟩)
    (c199 : PySem.W.codeIn K cd199 "rows_of" = true)
    (k199 : PySem.W.keepIn K (.ref f199) = true)
    (a199 : PySem.W.nsIn K mainGlobals "rows_of" = some (some (.ref f199)))
    (l195 : K.lookup f195 = some ⟨oc195, od195, .func (PySem.W.fnOf "closed_terms" "closed_terms" (defArgs s_fillings_closed_terms) (defBody s_fillings_closed_terms) (defScope s_fillings_closed_terms) .none kV195 dc195 pm195 an195 cd195 ct195), sl195⟩)
    (c195 : PySem.W.codeIn K cd195 "closed_terms" = true)
    (k195 : PySem.W.keepIn K (.ref f195) = true)
    (a195 : PySem.W.nsIn K mainGlobals "closed_terms" = some (some (.ref f195)))
    (l126 : K.lookup f126 = some ⟨oc126, od126, .func (PySem.W.fnOf "__init__" "Signature.__init__" (defArgs s_books_Signature___init__) (defBody s_books_Signature___init__) (defScope s_books_Signature___init__) .none kV126 dc126 pm126 an126 cd126 ct126), sl126⟩)
    (c126 : PySem.W.codeIn K cd126 "Signature.__init__" = true)
    (k126 : PySem.W.keepIn K (.ref f126) = true)
    (l513 : K.lookup f513 = some ⟨oc513, od513, .func (PySem.W.fnOf "constants" "Signature.constants" (defArgs s_books_Signature_constants_v1) (defBody s_books_Signature_constants_v1) (defScope s_books_Signature_constants_v1) .none kV513 dc513 pm513 an513 cd513 ct513), sl513⟩)
    (c513 : PySem.W.codeIn K cd513 "Signature.constants" = true)
    (k513 : PySem.W.keepIn K (.ref f513) = true)
    (l514 : K.lookup f514 = some ⟨oc514, od514, .func (PySem.W.fnOf "extended" "Signature.extended" (defArgs s_books_Signature_extended_v1) (defBody s_books_Signature_extended_v1) (defScope s_books_Signature_extended_v1) .none kV514 dc514 pm514 an514 cd514 ct514), sl514⟩)
    (c514 : PySem.W.codeIn K cd514 "Signature.extended" = true)
    (k514 : PySem.W.keepIn K (.ref f514) = true)
    (l0 : K.lookup f0 = some ⟨oc0, od0, .func (PySem.W.fnOf "_law_start" "_law_start" (defArgs s__law_start) (defBody s__law_start) (defScope s__law_start) .none kV0 dc0 pm0 an0 cd0 ct0), sl0⟩)
    (c0 : PySem.W.codeIn K cd0 "_law_start" = true)
    (k0 : PySem.W.keepIn K (.ref f0) = true)
    (a0 : PySem.W.nsIn K mainGlobals "_law_start" = some (some (.ref f0)))
    (l1 : K.lookup f1 = some ⟨oc1, od1, .func (PySem.W.fnOf "_law_take" "_law_take" (defArgs s__law_take) (defBody s__law_take) (defScope s__law_take) .none kV1 dc1 pm1 an1 cd1 ct1), sl1⟩)
    (c1 : PySem.W.codeIn K cd1 "_law_take" = true)
    (k1 : PySem.W.keepIn K (.ref f1) = true)
    (a1 : PySem.W.nsIn K mainGlobals "_law_take" = some (some (.ref f1)))
    (l2 : K.lookup f2 = some ⟨oc2, od2, .func (PySem.W.fnOf "_law_tuples" "_law_tuples" (defArgs s__law_tuples) (defBody s__law_tuples) (defScope s__law_tuples) .none kV2 dc2 pm2 an2 cd2 ct2), sl2⟩)
    (c2 : PySem.W.codeIn K cd2 "_law_tuples" = true)
    (k2 : PySem.W.keepIn K (.ref f2) = true)
    (a2 : PySem.W.nsIn K mainGlobals "_law_tuples" = some (some (.ref f2)))
    (l3 : K.lookup f3 = some ⟨oc3, od3, .func (PySem.W.fnOf "_law_closed" "_law_closed" (defArgs s__law_closed) (defBody s__law_closed) (defScope s__law_closed) .none kV3 dc3 pm3 an3 cd3 ct3), sl3⟩)
    (c3 : PySem.W.codeIn K cd3 "_law_closed" = true)
    (k3 : PySem.W.keepIn K (.ref f3) = true)
    (a3 : PySem.W.nsIn K mainGlobals "_law_closed" = some (some (.ref f3)))
    (l4 : K.lookup f4 = some ⟨oc4, od4, .func (PySem.W.fnOf "law" "law" (defArgs s_law) (defBody s_law) (defScope s_law) .none kV4 dc4 pm4 an4 cd4 ct4), sl4⟩)
    (c4 : PySem.W.codeIn K cd4 "law" = true)
    (k4 : PySem.W.keepIn K (.ref f4) = true)
    (a4 : PySem.W.nsIn K mainGlobals "law" = some (some (.ref f4)))
    (aC_BadArity : PySem.W.nsIn K mainGlobals "BadArity" = some (some (.ref C_BadArity)))
    (aC_BadName : PySem.W.nsIn K mainGlobals "BadName" = some (some (.ref C_BadName)))
    (aC_Signature : PySem.W.nsIn K mainGlobals "Signature" = some (some (.ref C_Signature)))
    (pg_Signature : PySem.W.plainGet K C_Signature Str.empty = true)
    (hd_Signature : PySem.W.hasDictIn K C_Signature = true)
    (po_Signature : PySem.W.plainOver K C_Signature = true)
    (sa_Signature : PySem.W.findIn K (.ref C_Signature) "__setattr__" = some (some (.builtin "object.__setattr__")))
    (na_Signature_functions : PySem.W.findIn K (.ref C_Signature) "functions" = some none)
    (na_Signature_relations : PySem.W.findIn K (.ref C_Signature) "relations" = some none)
    (na_Signature_table : PySem.W.findIn K (.ref C_Signature) "table" = some none)
    (am_Signature___init__ : PySem.W.findIn K (.ref C_Signature) "__init__" = some (some (.ref f126)))
    (im_Signature___init__ : PySem.W.isFn K (.ref f126) = true)
    (mk_Signature : PySem.W.makesIn K C_Signature = true)
    (kc_Signature : PySem.W.keepIn K (.ref C_Signature) = true)
    (am_Signature_constants : PySem.W.findIn K (.ref C_Signature) "constants" = some (some (.ref f513)))
    (im_Signature_constants : PySem.W.isFn K (.ref f513) = true)
    (am_Signature_extended : PySem.W.findIn K (.ref C_Signature) "extended" = some (some (.ref f514)))
    (im_Signature_extended : PySem.W.isFn K (.ref f514) = true)
    (x_BadArity : PySem.W.excIn K C_BadArity [.type "ValueError", .type "Exception", .type "BaseException", .type "object"] "ValueError.__new__" = true)
    (k_BadArity : PySem.W.keepIn K (.ref C_BadArity) = true)
    (eb_BadArity : PySem.W.subIn K (.ref C_BadArity) (.type "BaseException") = some true)
    (et_BadArity : PySem.W.typeIn K (.ref C_BadArity) = some (.type "type"))
    (x_BadName : PySem.W.excIn K C_BadName [.type "ValueError", .type "Exception", .type "BaseException", .type "object"] "ValueError.__new__" = true)
    (k_BadName : PySem.W.keepIn K (.ref C_BadName) = true)
    (eb_BadName : PySem.W.subIn K (.ref C_BadName) (.type "BaseException") = some true)
    (et_BadName : PySem.W.typeIn K (.ref C_BadName) = some (.type "type"))
    (z_abs : PySem.W.nsIn K mainGlobals "abs" = some none)
    (z_int : PySem.W.nsIn K mainGlobals "int" = some none)
    (z_isinstance : PySem.W.nsIn K mainGlobals "isinstance" = some none)
    (z_len : PySem.W.nsIn K mainGlobals "len" = some none)
    (z_list : PySem.W.nsIn K mainGlobals "list" = some none)
    (z_max : PySem.W.nsIn K mainGlobals "max" = some none)
    (z_min : PySem.W.nsIn K mainGlobals "min" = some none)
    (z_range : PySem.W.nsIn K mainGlobals "range" = some none)
    (z_str : PySem.W.nsIn K mainGlobals "str" = some none)
    (z_tuple : PySem.W.nsIn K mainGlobals "tuple" = some none)
    (a_CAPITAL : PySem.W.nsIn K mainGlobals "CAPITAL" = some (some (.str "ABCDEFGHIJKLMNOPQRSTUVWXYZ" t_CAPITAL)))
    (a_DIGITS : PySem.W.nsIn K mainGlobals "DIGITS" = some (some (.str "0123456789" t_DIGITS)))
    (a_LONGEST : PySem.W.nsIn K mainGlobals "LONGEST" = some (some (.int 12 t_LONGEST)))
    (a_MOST_ARGUMENTS : PySem.W.nsIn K mainGlobals "MOST_ARGUMENTS" = some (some (.int 3 t_MOST_ARGUMENTS)))
    (a_RESERVED : PySem.W.nsIn K mainGlobals "RESERVED" = some (some (.ref e_RESERVED)))
    (l_RESERVED : K.lookup e_RESERVED = some ⟨.type "tuple", dd_RESERVED, .seq #[.str "all" t_RESERVED_0, .str "some" t_RESERVED_1, .str "not" t_RESERVED_2, .str "and" t_RESERVED_3, .str "or" t_RESERVED_4, .str "implies" t_RESERVED_5, .str "iff" t_RESERVED_6, .str "true" t_RESERVED_7, .str "false" t_RESERVED_8] n_RESERVED, sl_RESERVED⟩)
    (a_SMALL : PySem.W.nsIn K mainGlobals "SMALL" = some (some (.str "abcdefghijklmnopqrstuvwxyz" t_SMALL)))
    (main : ∀ ns : List Int, ns.length ≤ 63 → ∃ r, pr fuel 60 4 [.scr ns] [] = .ok (.bl true) r) :
    ∃ fd : FuncData, (∀ (s : Shared) (v : Value), BindsTo s fd ⟨[v], []⟩ [("_law_script", v)]) ∧ ∀ base : Heap, K.In base → base.Ns mainGlobals mg → FnOk l.prog w K mg base (L2.CX l.prog w) 120 fa fd ["_law_script"] (spLaw K) := by
  have e : f4 = fa := by
    have e := hfa.symm.trans (PySem.W.mg_of X G a4)
    cases e
    rfl
  subst e
  have e_BadArity : clsA K 2 = C_BadArity := clsA_eq (x := "BadArity") rfl aC_BadArity
  have e_BadName : clsA K 1 = C_BadName := clsA_eq (x := "BadName") rfl aC_BadName
  have e_Signature : clsA K 13 = C_Signature := clsA_eq (x := "Signature") rfl aC_Signature
  let fdl : List FuncData := [PySem.W.fnOf "has_name_signs" "has_name_signs" (defArgs s_names_has_name_signs) (defBody s_names_has_name_signs) (defScope s_names_has_name_signs) .none kV311 dc311 pm311 an311 cd311 ct311, PySem.W.fnOf "is_small_name" "is_small_name" (defArgs s_names_is_small_name) (defBody s_names_is_small_name) (defScope s_names_is_small_name) .none kV313 dc313 pm313 an313 cd313 ct313, PySem.W.fnOf "is_capital_name" "is_capital_name" (defArgs s_names_is_capital_name) (defBody s_names_is_capital_name) (defScope s_names_is_capital_name) .none kV312 dc312 pm312 an312 cd312 ct312, PySem.W.fnOf "fresh_name" "fresh_name" (defArgs s_names_fresh_name) (defBody s_names_fresh_name) (defScope s_names_fresh_name) .none kV310 dc310 pm310 an310 cd310 ct310, PySem.W.fnOf "named_signature" "named_signature" (defArgs s_fillings_named_signature) (defBody s_fillings_named_signature) (defScope s_fillings_named_signature) .none kV197 dc197 pm197 an197 cd197 ct197, PySem.W.fnOf "rows_of" "rows_of" (defArgs s_fillings_rows_of) (defBody s_fillings_rows_of) (defScope s_fillings_rows_of) .none kV199 dc199 pm199 an199 cd199 ct199, PySem.W.fnOf "closed_terms" "closed_terms" (defArgs s_fillings_closed_terms) (defBody s_fillings_closed_terms) (defScope s_fillings_closed_terms) .none kV195 dc195 pm195 an195 cd195 ct195, PySem.W.fnOf "__init__" "Signature.__init__" (defArgs s_books_Signature___init__) (defBody s_books_Signature___init__) (defScope s_books_Signature___init__) .none kV126 dc126 pm126 an126 cd126 ct126, PySem.W.fnOf "constants" "Signature.constants" (defArgs s_books_Signature_constants_v1) (defBody s_books_Signature_constants_v1) (defScope s_books_Signature_constants_v1) .none kV513 dc513 pm513 an513 cd513 ct513, PySem.W.fnOf "extended" "Signature.extended" (defArgs s_books_Signature_extended_v1) (defBody s_books_Signature_extended_v1) (defScope s_books_Signature_extended_v1) .none kV514 dc514 pm514 an514 cd514 ct514, PySem.W.fnOf "_law_start" "_law_start" (defArgs s__law_start) (defBody s__law_start) (defScope s__law_start) .none kV0 dc0 pm0 an0 cd0 ct0, PySem.W.fnOf "_law_take" "_law_take" (defArgs s__law_take) (defBody s__law_take) (defScope s__law_take) .none kV1 dc1 pm1 an1 cd1 ct1, PySem.W.fnOf "_law_tuples" "_law_tuples" (defArgs s__law_tuples) (defBody s__law_tuples) (defScope s__law_tuples) .none kV2 dc2 pm2 an2 cd2 ct2, PySem.W.fnOf "_law_closed" "_law_closed" (defArgs s__law_closed) (defBody s__law_closed) (defScope s__law_closed) .none kV3 dc3 pm3 an3 cd3 ct3, PySem.W.fnOf "law" "law" (defArgs s_law) (defBody s_law) (defScope s_law) .none kV4 dc4 pm4 an4 cd4 ct4]
  have T : Txt K w mg (fun k => ([f311, f313, f312, f310, f197, f199, f195, f126, f513, f514, f0, f1, f2, f3, f4] : List Addr).getD (match k with | 0 => 10 | 1 => 11 | 2 => 12 | 3 => 13 | 4 => 14 | 126 => 7 | 195 => 6 | 197 => 4 | 199 => 5 | 310 => 3 | 311 => 0 | 312 => 2 | 313 => 1 | 513 => 8 | 514 => 9 | _ => 0) 0) (fun k => fdl.getD (match k with | 0 => 10 | 1 => 11 | 2 => 12 | 3 => 13 | 4 => 14 | 126 => 7 | 195 => 6 | 197 => 4 | 199 => 5 | 310 => 3 | 311 => 0 | 312 => 2 | 313 => 1 | 513 => 8 | 514 => 9 | _ => 0) (fdl.head (by simp [fdl]))) (fun x => match x with | "RESERVED" => e_RESERVED | _ => 0) := {
    F311 := fun_mk (st := s_names_has_name_signs) l311 c311 k311
    b311 := (fun_mk (st := s_names_has_name_signs) l311 c311 k311).binds (ps := P_names_has_name_signs) fun _ _ _ _ _ _ us hl => match us, hl with | [_], _ => rfl
    m311 := PySem.W.mg_of X G a311
    F313 := fun_mk (st := s_names_is_small_name) l313 c313 k313
    b313 := (fun_mk (st := s_names_is_small_name) l313 c313 k313).binds (ps := P_names_is_small_name) fun _ _ _ _ _ _ us hl => match us, hl with | [_], _ => rfl
    m313 := PySem.W.mg_of X G a313
    F312 := fun_mk (st := s_names_is_capital_name) l312 c312 k312
    b312 := (fun_mk (st := s_names_is_capital_name) l312 c312 k312).binds (ps := P_names_is_capital_name) fun _ _ _ _ _ _ us hl => match us, hl with | [_], _ => rfl
    m312 := PySem.W.mg_of X G a312
    F310 := fun_mk (st := s_names_fresh_name) l310 c310 k310
    b310 := (fun_mk (st := s_names_fresh_name) l310 c310 k310).binds (ps := P_names_fresh_name) fun _ _ _ _ _ _ us hl => match us, hl with | [_, _], _ => rfl
    m310 := PySem.W.mg_of X G a310
    F197 := fun_mk (st := s_fillings_named_signature) l197 c197 k197
    b197 := (fun_mk (st := s_fillings_named_signature) l197 c197 k197).binds (ps := P_fillings_named_signature) fun _ _ _ _ _ _ us hl => match us, hl with | [_], _ => rfl
    m197 := PySem.W.mg_of X G a197
    F199 := fun_mk (st := s_fillings_rows_of) l199 c199 k199
    b199 := (fun_mk (st := s_fillings_rows_of) l199 c199 k199).binds (ps := P_fillings_rows_of) fun _ _ _ _ _ _ us hl => match us, hl with | [_, _], _ => rfl
    m199 := PySem.W.mg_of X G a199
    F195 := fun_mk (st := s_fillings_closed_terms) l195 c195 k195
    b195 := (fun_mk (st := s_fillings_closed_terms) l195 c195 k195).binds (ps := P_fillings_closed_terms) fun _ _ _ _ _ _ us hl => match us, hl with | [_, _], _ => rfl
    m195 := PySem.W.mg_of X G a195
    F126 := fun_mk (st := s_books_Signature___init__) l126 c126 k126
    b126 := (fun_mk (st := s_books_Signature___init__) l126 c126 k126).binds (ps := P_books_Signature___init__) fun _ _ _ _ _ _ us hl => match us, hl with | [_, _, _], _ => rfl
    F513 := fun_mk (st := s_books_Signature_constants_v1) l513 c513 k513
    b513 := (fun_mk (st := s_books_Signature_constants_v1) l513 c513 k513).binds (ps := P_books_Signature_constants_v1) fun _ _ _ _ _ _ us hl => match us, hl with | [_], _ => rfl
    F514 := fun_mk (st := s_books_Signature_extended_v1) l514 c514 k514
    b514 := (fun_mk (st := s_books_Signature_extended_v1) l514 c514 k514).binds (ps := P_books_Signature_extended_v1) fun _ _ _ _ _ _ us hl => match us, hl with | [_, _], _ => rfl
    F0 := fun_mk (st := s__law_start) l0 c0 k0
    b0 := (fun_mk (st := s__law_start) l0 c0 k0).binds (ps := P__law_start) fun _ _ _ _ _ _ us hl => match us, hl with | [_], _ => rfl
    m0 := PySem.W.mg_of X G a0
    F1 := fun_mk (st := s__law_take) l1 c1 k1
    b1 := (fun_mk (st := s__law_take) l1 c1 k1).binds (ps := P__law_take) fun _ _ _ _ _ _ us hl => match us, hl with | [_, _], _ => rfl
    m1 := PySem.W.mg_of X G a1
    F2 := fun_mk (st := s__law_tuples) l2 c2 k2
    b2 := (fun_mk (st := s__law_tuples) l2 c2 k2).binds (ps := P__law_tuples) fun _ _ _ _ _ _ us hl => match us, hl with | [_, _], _ => rfl
    m2 := PySem.W.mg_of X G a2
    F3 := fun_mk (st := s__law_closed) l3 c3 k3
    b3 := (fun_mk (st := s__law_closed) l3 c3 k3).binds (ps := P__law_closed) fun _ _ _ _ _ _ us hl => match us, hl with | [_, _], _ => rfl
    m3 := PySem.W.mg_of X G a3
    F4 := fun_mk (st := s_law) l4 c4 k4
    b4 := (fun_mk (st := s_law) l4 c4 k4).binds (ps := P_law) fun _ _ _ _ _ _ us hl => match us, hl with | [_], _ => rfl
    m4 := PySem.W.mg_of X G a4
    mg_BadArity := by rw [e_BadArity]; exact PySem.W.mg_of X G aC_BadArity
    mg_BadName := by rw [e_BadName]; exact PySem.W.mg_of X G aC_BadName
    mg_Signature := by rw [e_Signature]; exact PySem.W.mg_of X G aC_Signature
    cl_Signature := by rw [e_Signature]; exact ⟨pg_Signature, hd_Signature, po_Signature, sa_Signature⟩
    na_Signature_functions := by rw [e_Signature]; exact na_Signature_functions
    na_Signature_relations := by rw [e_Signature]; exact na_Signature_relations
    na_Signature_table := by rw [e_Signature]; exact na_Signature_table
    mk_Signature := by rw [e_Signature]; exact ⟨mk_Signature, am_Signature___init__, im_Signature___init__, kc_Signature⟩
    me_Signature_constants := by rw [e_Signature]; exact ⟨am_Signature_constants, im_Signature_constants, k513⟩
    me_Signature_extended := by rw [e_Signature]; exact ⟨am_Signature_extended, im_Signature_extended, k514⟩
    x_BadArity := by rw [e_BadArity]; exact x_BadArity
    k_BadArity := by rw [e_BadArity]; exact k_BadArity
    eb_BadArity := by rw [e_BadArity]; exact eb_BadArity
    et_BadArity := by rw [e_BadArity]; exact et_BadArity
    x_BadName := by rw [e_BadName]; exact x_BadName
    k_BadName := by rw [e_BadName]; exact k_BadName
    eb_BadName := by rw [e_BadName]; exact eb_BadName
    et_BadName := by rw [e_BadName]; exact et_BadName
    z_abs := PySem.W.mg_none_of X G z_abs
    z_int := PySem.W.mg_none_of X G z_int
    z_isinstance := PySem.W.mg_none_of X G z_isinstance
    z_len := PySem.W.mg_none_of X G z_len
    z_list := PySem.W.mg_none_of X G z_list
    z_max := PySem.W.mg_none_of X G z_max
    z_min := PySem.W.mg_none_of X G z_min
    z_range := PySem.W.mg_none_of X G z_range
    z_str := PySem.W.mg_none_of X G z_str
    z_tuple := PySem.W.mg_none_of X G z_tuple
    m_CAPITAL := ⟨_, PySem.W.mg_of X G a_CAPITAL⟩
    m_DIGITS := ⟨_, PySem.W.mg_of X G a_DIGITS⟩
    m_LONGEST := ⟨_, PySem.W.mg_of X G a_LONGEST⟩
    m_MOST_ARGUMENTS := ⟨_, PySem.W.mg_of X G a_MOST_ARGUMENTS⟩
    m_RESERVED := PySem.W.mg_of X G a_RESERVED
    c_RESERVED := fun m H => .tup (xs := [.str "all", .str "some", .str "not", .str "and", .str "or", .str "implies", .str "iff", .str "true", .str "false"]) (.inr ⟨_, _, _, l_RESERVED, rfl, rfl, by show 9 ≤ sizeLine; decide, (.cons ⟨_, rfl⟩ (.cons ⟨_, rfl⟩ (.cons ⟨_, rfl⟩ (.cons ⟨_, rfl⟩ (.cons ⟨_, rfl⟩ (.cons ⟨_, rfl⟩ (.cons ⟨_, rfl⟩ (.cons ⟨_, rfl⟩ (.cons ⟨_, rfl⟩ .nil)))))))))⟩) (.cons (.str _) (.cons (.str _) (.cons (.str _) (.cons (.str _) (.cons (.str _) (.cons (.str _) (.cons (.str _) (.cons (.str _) (.cons (.str _) .nil)))))))))
    m_SMALL := ⟨_, PySem.W.mg_of X G a_SMALL⟩
  }
  exact ⟨_, fun s v => .of_eq rfl, fun base _ _ => law_ok T main⟩
end Law
open PySem PySem.W PyProof.Rows
theorem PySem.Challenge.cw_worldorpaper_k75_closed_terms_by_depth_holds : PySem.Challenge.rw_worldorpaper_k75_closed_terms_by_depth.Holds := by
  w_on; o_law; k_head; (case hw => w_witness2)
  k_fill
  refine DL.walk (l := PySem.Challenge.rw_worldorpaper_k75_closed_terms_by_depth) (k := 120) (x := "_law_script") rfl rfl ⟨rfl, by decide, by decide⟩ (fun w h Y => PySem.W.kIn_of Y) ?F
  case F =>
    intro w mg fa h KX G hmg
    refine' Law.all_mk KX G hmg ?l311 ?c311 ?k311 ?a311 ?l313 ?c313 ?k313 ?a313 ?l312 ?c312 ?k312 ?a312 ?l310 ?c310 ?k310 ?a310 ?l197 ?c197 ?k197 ?a197 ?l199 ?c199 ?k199 ?a199 ?l195 ?c195 ?k195 ?a195 ?l126 ?c126 ?k126 ?l513 ?c513 ?k513 ?l514 ?c514 ?k514 ?l0 ?c0 ?k0 ?a0 ?l1 ?c1 ?k1 ?a1 ?l2 ?c2 ?k2 ?a2 ?l3 ?c3 ?k3 ?a3 ?l4 ?c4 ?k4 ?a4 ?aC_BadArity ?aC_BadName ?aC_Signature ?pg_Signature ?hd_Signature ?po_Signature ?sa_Signature ?na_Signature_functions ?na_Signature_relations ?na_Signature_table ?am_Signature___init__ ?im_Signature___init__ ?mk_Signature ?kc_Signature ?am_Signature_constants ?im_Signature_constants ?am_Signature_extended ?im_Signature_extended ?x_BadArity ?k_BadArity ?eb_BadArity ?et_BadArity ?x_BadName ?k_BadName ?eb_BadName ?et_BadName ?z_abs ?z_int ?z_isinstance ?z_len ?z_list ?z_max ?z_min ?z_range ?z_str ?z_tuple ?a_CAPITAL ?a_DIGITS ?a_LONGEST ?a_MOST_ARGUMENTS ?a_RESERVED ?l_RESERVED ?a_SMALL Law.main
    (case a311 => k_is)
    (case a313 => k_is)
    (case a312 => k_is)
    (case a310 => k_is)
    (case a197 => k_is)
    (case a199 => k_is)
    (case a195 => k_is)
    (case a0 => k_is)
    (case a1 => k_is)
    (case a2 => k_is)
    (case a3 => k_is)
    (case a4 => k_is)
    (case aC_BadArity => k_is)
    (case aC_BadName => k_is)
    (case aC_Signature => k_is)
    (case a_CAPITAL => k_is)
    (case a_DIGITS => k_is)
    (case a_LONGEST => k_is)
    (case a_MOST_ARGUMENTS => k_is)
    (case a_RESERVED => k_is)
    (case a_SMALL => k_is)
    (case am_Signature___init__ => k_is)
    (case am_Signature_constants => k_is)
    (case am_Signature_extended => k_is)
    (case l311 => k_is)
    (case c311 => k_is)
    (case k311 => k_is)
    (case l313 => k_is)
    (case c313 => k_is)
    (case k313 => k_is)
    (case l312 => k_is)
    (case c312 => k_is)
    (case k312 => k_is)
    (case l310 => k_is)
    (case c310 => k_is)
    (case k310 => k_is)
    (case l197 => k_is)
    (case c197 => k_is)
    (case k197 => k_is)
    (case l199 => k_is)
    (case c199 => k_is)
    (case k199 => k_is)
    (case l195 => k_is)
    (case c195 => k_is)
    (case k195 => k_is)
    (case l126 => k_is)
    (case c126 => k_is)
    (case k126 => k_is)
    (case l513 => k_is)
    (case c513 => k_is)
    (case k513 => k_is)
    (case l514 => k_is)
    (case c514 => k_is)
    (case k514 => k_is)
    (case l0 => k_is)
    (case c0 => k_is)
    (case k0 => k_is)
    (case l1 => k_is)
    (case c1 => k_is)
    (case k1 => k_is)
    (case l2 => k_is)
    (case c2 => k_is)
    (case k2 => k_is)
    (case l3 => k_is)
    (case c3 => k_is)
    (case k3 => k_is)
    (case l4 => k_is)
    (case c4 => k_is)
    (case k4 => k_is)
    (case pg_Signature => k_is)
    (case hd_Signature => k_is)
    (case po_Signature => k_is)
    (case sa_Signature => k_is)
    (case na_Signature_functions => k_is)
    (case na_Signature_relations => k_is)
    (case na_Signature_table => k_is)
    (case im_Signature___init__ => k_is)
    (case mk_Signature => k_is)
    (case kc_Signature => k_is)
    (case im_Signature_constants => k_is)
    (case im_Signature_extended => k_is)
    (case x_BadArity => k_exc)
    (case k_BadArity => k_is)
    (case eb_BadArity => k_is)
    (case et_BadArity => k_is)
    (case x_BadName => k_exc)
    (case k_BadName => k_is)
    (case eb_BadName => k_is)
    (case et_BadName => k_is)
    (case z_abs => k_is)
    (case z_int => k_is)
    (case z_isinstance => k_is)
    (case z_len => k_is)
    (case z_list => k_is)
    (case z_max => k_is)
    (case z_min => k_is)
    (case z_range => k_is)
    (case z_str => k_is)
    (case z_tuple => k_is)
    (case l_RESERVED => k_is)

