import PyProof.Rows.All
import Wide.All
import OpenK.AllK
import Wide.FinOn
import HandS.ForMost
import HandS.Exc
import HandS.ExcOwn
import HandS.TryOnly
import HandS.WordsExc
import HandS.CallSlots
import HandS.IsInst
import HandS.TupAny
import HandS.Deep
import HandS.Flow
import HandS.TupLe
import HandS.More
import PySem.Challenge.RW_worldorpaper_k15_negation_form_says_the
set_option Elab.async false
set_option linter.all false
set_option maxRecDepth 100000
set_option maxHeartbeats 2000000
/-! DL: a data level over HandS. Values are plain data (D); objects that change by reference are resources (D.loc n). -/
namespace DL
open PySem L2

/-- data: what a program's value says, without addresses -/
inductive D where
  | non | bl (b : Bool) | int (i : Int) | str (x : Str)
  | tup (xs : List D) | lst (xs : List D) | dic (kvs : List (Key × D))
  | loc (n : Nat) | scr (ns : List Int) | ty (n : String) | gl (a : Addr)

/-- a resource: an object that is changed by reference; its items hold no list and no dict of their own -/
inductive RO where
  | lst (xs : List D) | dic (kvs : List (Key × D))

abbrev Rs := List RO
abbrev En := List (Option D)

mutual
def D.imm : D → Bool
  | .tup xs => D.imms xs
  | .lst _ => false
  | .dic _ => false
  | .scr _ => false
  | _ => true
def D.imms : List D → Bool
  | [] => true
  | x :: xs => D.imm x && D.imms xs
end
def D.immk : List (Key × D) → Bool
  | [] => true
  | p :: r => D.imm p.2 && D.immk r

section
variable (K : PySem.W.Frag) (m : List Addr) (H : Hp)
mutual
inductive Rp : D → V → Prop
  | non : Rp .non .non
  | bl (b : Bool) : Rp (.bl b) (.bl b)
  | int (i : Int) : Rp (.int i) (.int i)
  | str (x : Str) : Rp (.str x) (.str x)
  | tup {a : Addr} {xs : List V} {ds : List D} : SqT K H a xs → Rps ds xs → Rp (.tup ds) (.ref a)
  | lst {a : Addr} {xs : List V} {ds : List D} : H a = some (.lst xs) → Rps ds xs → Rp (.lst ds) (.ref a)
  | dic {a : Addr} {kvs : List (Key × V)} {kds : List (Key × D)} : H a = some (.dK kvs) → Rpk kds kvs → Rp (.dic kds) (.ref a)
  | loc {n : Nat} {a : Addr} : m[n]? = some a → Rp (.loc n) (.ref a)
  | scr {a : Addr} {ns : List Int} : SqL K H a (ns.map V.int) → Rp (.scr ns) (.ref a)
  | ty (n : String) : Rp (.ty n) (.ty n)
  | gl (a : Addr) : Rp (.gl a) (.ref a)
inductive Rps : List D → List V → Prop
  | nil : Rps [] []
  | cons {d : D} {ds : List D} {v : V} {vs : List V} : Rp d v → Rps ds vs → Rps (d :: ds) (v :: vs)
inductive Rpk : List (Key × D) → List (Key × V) → Prop
  | nil : Rpk [] []
  | cons {k : Key} {d : D} {ds : List (Key × D)} {v : V} {vs : List (Key × V)} : Rp d v → Rpk ds vs → Rpk ((k, d) :: ds) ((k, v) :: vs)
end
end

/-- all of H stands in H' -/
def Sub (H H' : Hp) : Prop := ∀ a o, H a = some o → H' a = some o
theorem Sub.refl (H : Hp) : Sub H H := fun _ _ h => h
theorem Sub.trans {A B C : Hp} (a : Sub A B) (b : Sub B C) : Sub A C := fun x o h => b x o (a x o h)
theorem Sub.rd {H H' : Hp} (s : Sub H H') {a : Addr} {u : HO} (h : Rd H a u) : Rd H' a u := by
  rcases h with h | ⟨o, h⟩
  · exact .inl (s a _ h)
  · exact .inr ⟨o, s a _ h⟩
theorem Sub.sqL {K : PySem.W.Frag} {H H' : Hp} (s : Sub H H') {a : Addr} {xs : List V} (h : SqL K H a xs) : SqL K H' a xs := by
  rcases h with h | h
  · exact .inl (s.rd h)
  · exact .inr h
theorem Sub.sqT {K : PySem.W.Frag} {H H' : Hp} (s : Sub H H') {a : Addr} {xs : List V} (h : SqT K H a xs) : SqT K H' a xs := by
  rcases h with h | h
  · exact .inl (s.rd h)
  · exact .inr h

def Pre (m m' : List Addr) : Prop := ∀ (n : Nat) (a : Addr), m[n]? = some a → m'[n]? = some a
theorem Pre.refl (m : List Addr) : Pre m m := fun _ _ h => h
theorem Pre.trans {a b c : List Addr} (x : Pre a b) (y : Pre b c) : Pre a c := fun n q h => y n q (x n q h)
theorem Pre.mem {m m' : List Addr} (p : Pre m m') {a : Addr} (h : a ∈ m) : a ∈ m' := by
  obtain ⟨n, hn⟩ := List.mem_iff_getElem?.mp h
  exact List.mem_iff_getElem?.mpr ⟨n, p n a hn⟩

section
variable {K : PySem.W.Frag} {m m' : List Addr} {H H' : Hp}
mutual
theorem Rp.mono (s : Sub H H') (p : Pre m m') : ∀ {d : D} {v : V}, Rp K m H d v → Rp K m' H' d v
  | _, _, .non => .non
  | _, _, .bl b => .bl b
  | _, _, .int i => .int i
  | _, _, .str x => .str x
  | _, _, .tup h r => .tup (s.sqT h) (Rps.mono s p r)
  | _, _, .lst h r => .lst (s _ _ h) (Rps.mono s p r)
  | _, _, .dic h r => .dic (s _ _ h) (Rpk.mono s p r)
  | _, _, .loc h => .loc (p _ _ h)
  | _, _, .scr h => .scr (s.sqL h)
  | _, _, .ty n => .ty n
  | _, _, .gl a => .gl a
theorem Rps.mono (s : Sub H H') (p : Pre m m') : ∀ {d : List D} {v : List V}, Rps K m H d v → Rps K m' H' d v
  | _, _, .nil => .nil
  | _, _, .cons h r => .cons (Rp.mono s p h) (Rps.mono s p r)
theorem Rpk.mono (s : Sub H H') (p : Pre m m') : ∀ {d : List (Key × D)} {v : List (Key × V)}, Rpk K m H d v → Rpk K m' H' d v
  | _, _, .nil => .nil
  | _, _, .cons h r => .cons (Rp.mono s p h) (Rpk.mono s p r)
end

/-- the tuples of H stand in H' -/
def SubT (H H' : Hp) : Prop := ∀ a xs, Rd H a (.tup xs) → Rd H' a (.tup xs)
theorem SubT.sqT (s : SubT H H') {a : Addr} {xs : List V} (h : SqT K H a xs) : SqT K H' a xs := by
  rcases h with h | h
  · exact .inl (s _ _ h)
  · exact .inr h
mutual
theorem Rp.immM (s : SubT H H') (p : Pre m m') : ∀ {d : D} {v : V}, d.imm = true → Rp K m H d v → Rp K m' H' d v
  | _, _, _, .non => .non
  | _, _, _, .bl b => .bl b
  | _, _, _, .int i => .int i
  | _, _, _, .str x => .str x
  | .tup ds, _, e, .tup h r => .tup (s.sqT h) (Rps.immM s p (by rw [D.imm] at e; exact e) r)
  | .lst ds, _, e, .lst h r => by rw [D.imm] at e; cases e
  | .dic ds, _, e, .dic h r => by rw [D.imm] at e; cases e
  | _, _, _, .loc h => .loc (p _ _ h)
  | .scr ns, _, e, .scr h => by rw [D.imm] at e; cases e
  | _, _, _, .ty n => .ty n
  | _, _, _, .gl a => .gl a
theorem Rps.immM (s : SubT H H') (p : Pre m m') : ∀ {d : List D} {v : List V}, D.imms d = true → Rps K m H d v → Rps K m' H' d v
  | _, _, _, .nil => .nil
  | _ :: _, _, e, .cons h r => by
    rw [D.imms, Bool.and_eq_true] at e
    exact .cons (Rp.immM s p e.1 h) (Rps.immM s p e.2 r)
end
theorem Rpk.immM (s : SubT H H') (p : Pre m m') : ∀ {d : List (Key × D)} {v : List (Key × V)}, D.immk d = true → Rpk K m H d v → Rpk K m' H' d v
  | _, _, _, .nil => .nil
  | _ :: _, _, e, .cons h r => by
    rw [D.immk, Bool.and_eq_true] at e
    exact .cons (Rp.immM s p e.1 h) (Rpk.immM s p e.2 r)
theorem Sub.subT (s : Sub H H') : SubT H H' := fun _ _ h => s.rd h
theorem SubT.trans {A B C : Hp} (a : SubT A B) (b : SubT B C) : SubT A C := fun x o h => b x o (a x o h)
end

theorem Rps.length {K : PySem.W.Frag} {m : List Addr} {H : Hp} : ∀ {ds : List D} {vs : List V}, Rps K m H ds vs → ds.length = vs.length
  | _, _, .nil => rfl
  | _, _, .cons _ r => congrArg (· + 1) r.length
theorem Rps.get {K : PySem.W.Frag} {m : List Addr} {H : Hp} : ∀ {ds : List D} {vs : List V} {i : Nat} {d : D}, Rps K m H ds vs → ds[i]? = some d → ∃ v, vs[i]? = some v ∧ Rp K m H d v
  | _, _, _, _, .nil, h => by simp at h
  | _, _, 0, _, .cons r _, h => by
    simp only [List.getElem?_cons_zero, Option.some.injEq] at h
    subst h
    exact ⟨_, rfl, r⟩
  | _, _, i + 1, _, .cons _ r, h => by
    simp only [List.getElem?_cons_succ] at h
    obtain ⟨v, e, q⟩ := Rps.get r h
    exact ⟨v, by simpa using e, q⟩
theorem Rps.append {K : PySem.W.Frag} {m : List Addr} {H : Hp} : ∀ {ds es : List D} {vs ws : List V}, Rps K m H ds vs → Rps K m H es ws → Rps K m H (ds ++ es) (vs ++ ws)
  | _, _, _, _, .nil, s => s
  | _, _, _, _, .cons r t, s => .cons r (Rps.append t s)
theorem Rps.take {K : PySem.W.Frag} {m : List Addr} {H : Hp} : ∀ {ds : List D} {vs : List V} (n : Nat), Rps K m H ds vs → Rps K m H (ds.take n) (vs.take n)
  | _, _, 0, _ => by simpa using Rps.nil
  | _, _, _ + 1, .nil => by simpa using Rps.nil
  | _, _, n + 1, .cons r t => by simpa using Rps.cons r (Rps.take n t)
theorem Rps.drop {K : PySem.W.Frag} {m : List Addr} {H : Hp} : ∀ {ds : List D} {vs : List V} (n : Nat), Rps K m H ds vs → Rps K m H (ds.drop n) (vs.drop n)
  | _, _, 0, r => r
  | _, _, _ + 1, .nil => by simpa using Rps.nil
  | _, _, n + 1, .cons _ t => by simpa using Rps.drop n t
theorem Rps.set {K : PySem.W.Frag} {m : List Addr} {H : Hp} {d : D} {v : V} (h : Rp K m H d v) : ∀ {ds : List D} {vs : List V} (n : Nat), Rps K m H ds vs → Rps K m H (ds.set n d) (vs.set n v)
  | _, _, _, .nil => .nil
  | _, _, 0, .cons _ t => .cons h t
  | _, _, n + 1, .cons r t => .cons r (Rps.set h n t)
theorem Rps.one {K : PySem.W.Frag} {m : List Addr} {H : Hp} {d : D} {v : V} (h : Rp K m H d v) : Rps K m H [d] [v] := .cons h .nil

/-- where the resources stand, what of the heap is seen -/
structure Wd where
  m : List Addr
  v : Hp

def RoAt (K : PySem.W.Frag) (m : List Addr) (v H : Hp) (a : Addr) : RO → Prop
  | .lst ds => D.imms ds = true ∧ ∃ xs, H a = some (.lst xs) ∧ Rps K m v ds xs
  | .dic ds => D.immk ds = true ∧ ∃ xs, H a = some (.dK xs) ∧ Rpk K m v ds xs

/-- the state: the seen part stands in the heap, no resource is in it, each resource holds what is told -/
structure Good (K : PySem.W.Frag) (w : Wd) (r : Rs) (H : Hp) : Prop where
  sub : Sub w.v H
  dis : ∀ a, a ∈ w.m → w.v a = none
  len : w.m.length = r.length
  nd : w.m.Nodup
  at_ : ∀ (n : Nat) (o : RO), r[n]? = some o → ∃ a, w.m[n]? = some a ∧ RoAt K w.m w.v H a o

/-- what a piece of code may do to the heap -/
structure Tr (w : Wd) (H : Hp) (w' : Wd) (H' : Hp) : Prop where
  sub : Sub w.v w'.v
  pre : Pre w.m w'.m
  keep : ∀ b o, H b = some o → b ∉ w.m → H' b = some o
  live : ∀ b, H b ≠ none → H' b ≠ none
  newv : ∀ b, w'.v b ≠ none → w.v b ≠ none ∨ H b = none
  newm : ∀ b, b ∈ w'.m → b ∈ w.m ∨ H b = none
  tups : ∀ b xs, Rd H b (.tup xs) → Rd H' b (.tup xs)
theorem Tr.refl (w : Wd) (H : Hp) : Tr w H w H := ⟨.refl _, .refl _, fun _ _ h _ => h, fun _ h => h, fun _ h => .inl h, fun _ h => .inl h, fun _ _ h => h⟩
theorem Tr.trans {a b c : Wd} {A B C : Hp} (x : Tr a A b B) (y : Tr b B c C) : Tr a A c C where
  sub := x.sub.trans y.sub
  pre := x.pre.trans y.pre
  keep := fun p o h n => by
    refine y.keep p o (x.keep p o h n) fun hm => ?_
    rcases x.newm p hm with q | q
    · exact n q
    · rw [h] at q; cases q
  live := fun p h => y.live p (x.live p h)
  newv := fun p h => by
    rcases y.newv p h with q | q
    · exact x.newv p q
    · refine .inr ?_
      cases e : A p with
      | none => rfl
      | some o => exact absurd q (x.live p (by rw [e]; intro z; cases z))
  newm := fun p h => by
    rcases y.newm p h with q | q
    · exact x.newm p q
    · refine .inr ?_
      cases e : A p with
      | none => rfl
      | some o => exact absurd q (x.live p (by rw [e]; intro z; cases z))
  tups := fun p xs h => y.tups p xs (x.tups p xs h)
theorem Tr.fresh {w w' : Wd} {H H' : Hp} (t : Tr w H w' H') {p : Addr} (h : H' p = none) : H p = none := by
  cases e : H p with
  | none => rfl
  | some o => exact absurd h (t.live p (by rw [e]; intro z; cases z))
theorem Tr.rp {K : PySem.W.Frag} {w w' : Wd} {H H' : Hp} (t : Tr w H w' H') {d : D} {v : V} (h : Rp K w.m w.v d v) : Rp K w'.m w'.v d v := h.mono t.sub t.pre
theorem Tr.rps {K : PySem.W.Frag} {w w' : Wd} {H H' : Hp} (t : Tr w H w' H') {d : List D} {v : List V} (h : Rps K w.m w.v d v) : Rps K w'.m w'.v d v := h.mono t.sub t.pre
/-- a new object that is seen -/
def Wd.see (w : Wd) (p : Addr) (o : HO) : Wd := ⟨w.m, upd w.v p o⟩
theorem Good.none_of {K : PySem.W.Frag} {w : Wd} {r : Rs} {H : Hp} (g : Good K w r H) {p : Addr} (h : H p = none) : w.v p = none := by
  cases e : w.v p with
  | none => rfl
  | some o => rw [g.sub p o e] at h; cases h
theorem Good.live {K : PySem.W.Frag} {w : Wd} {r : Rs} {H : Hp} (g : Good K w r H) {a : Addr} (h : a ∈ w.m) : H a ≠ none := by
  obtain ⟨n, hn⟩ := List.mem_iff_getElem?.mp h
  obtain ⟨hlt, _⟩ := List.getElem?_eq_some_iff.mp hn
  have hr : n < r.length := by rw [← g.len]; exact hlt
  obtain ⟨b, hb, x⟩ := g.at_ n r[n] (List.getElem?_eq_getElem hr)
  rw [hn] at hb
  cases hb
  cases hro : r[n] with
  | lst ds => rw [hro] at x; obtain ⟨_, xs, e, _⟩ := x; rw [e]; intro z; cases z
  | dic ds => rw [hro] at x; obtain ⟨_, xs, e, _⟩ := x; rw [e]; intro z; cases z
theorem tr_new {K : PySem.W.Frag} {w : Wd} {r : Rs} {H : Hp} (g : Good K w r H) {p : Addr} {o : HO} (h : H p = none) : Tr w H (w.see p o) (upd H p o) where
  sub := fun a u e => by
    have hne : a ≠ p := by rintro rfl; rw [g.none_of h] at e; cases e
    show upd w.v p o a = some u
    rw [upd_ne hne]; exact e
  pre := .refl _
  keep := fun b u e _ => by rw [upd_ne (ne_of_none e h)]; exact e
  live := fun b e => by
    by_cases hb : b = p
    · subst hb; rw [upd_same]; intro z; cases z
    · rw [upd_ne hb]; exact e
  newv := fun b e => by
    by_cases hb : b = p
    · subst hb; exact .inr h
    · have e' : upd w.v p o b ≠ none := e
      rw [upd_ne hb] at e'; exact .inl e'
  newm := fun b e => .inl e
  tups := fun b xs e => by
    rcases e with e | ⟨u, e⟩
    · exact .inl (by rw [upd_ne (ne_of_none e h)]; exact e)
    · exact .inr ⟨u, by rw [upd_ne (ne_of_none e h)]; exact e⟩
theorem roAt_mono {K : PySem.W.Frag} {m m' : List Addr} {v v' H H' : Hp} {a : Addr} {o : RO} (s : SubT v v') (p : Pre m m') (e : H' a = H a) (h : RoAt K m v H a o) : RoAt K m' v' H' a o := by
  cases o with
  | lst ds => obtain ⟨i, xs, h1, h2⟩ := h; exact ⟨i, xs, e.trans h1, h2.immM s p i⟩
  | dic ds => obtain ⟨i, xs, h1, h2⟩ := h; exact ⟨i, xs, e.trans h1, h2.immM s p i⟩
theorem good_new {K : PySem.W.Frag} {w : Wd} {r : Rs} {H : Hp} (g : Good K w r H) {p : Addr} {o : HO} (h : H p = none) : Good K (w.see p o) r (upd H p o) where
  sub := fun a u e => by
    have e' : upd w.v p o a = some u := e
    by_cases ha : a = p
    · subst ha; rw [upd_same] at e' ⊢; exact e'
    · rw [upd_ne ha] at e' ⊢; exact g.sub a u e'
  dis := fun a ha => by
    have hne : a ≠ p := by rintro rfl; exact g.live ha h
    show upd w.v p o a = none
    rw [upd_ne hne]; exact g.dis a ha
  len := g.len
  nd := g.nd
  at_ := fun n u e => by
    obtain ⟨a, ha, x⟩ := g.at_ n u e
    refine ⟨a, ha, roAt_mono (tr_new g h).sub.subT (.refl _) ?_ x⟩
    have hne : a ≠ p := by rintro rfl; exact g.live (List.mem_iff_getElem?.mpr ⟨n, ha⟩) h
    exact upd_ne hne
theorem see_at {w : Wd} {p : Addr} {o : HO} : (w.see p o).v p = some o := upd_same

/-! ### outcomes -/
inductive Out (α : Type) where
  | ok (a : α) (r : Rs)
  | exc (c : Addr) (fs : List D) (r : Rs)
  | bad
abbrev Ex := En → Rs → Out D
abbrev Tx := En → Rs → Out Bool
abbrev Ax := En → Rs → Out (List D)

def Out.bind {α β : Type} (o : Out α) (f : α → Rs → Out β) : Out β := match o with
  | .ok a r => f a r
  | .exc c fs r => .exc c fs r
  | .bad => .bad

/-- the slots hold what the environment tells -/
structure Slots (K : PySem.W.Frag) (w : Wd) (ρ : En) (σ : St) : Prop where
  len : ρ.length = σ.length
  at_ : ∀ (i : Nat) (d : D), ρ[i]? = some (some d) → ∃ v, σ[i]? = some (some v) ∧ Rp K w.m w.v d v
theorem Slots.mono {K : PySem.W.Frag} {w w' : Wd} {H H' : Hp} {ρ : En} {σ : St} (s : Slots K w ρ σ) (t : Tr w H w' H') : Slots K w' ρ σ := ⟨s.len, fun i d e => by
  obtain ⟨v, h, r⟩ := s.at_ i d e
  exact ⟨v, h, t.rp r⟩⟩

/-- what an exception bears: cls its class's address, its own dict -/
def ExcAt (c : Addr) (fs : List D) (cls : Value) (dd : Option Addr) (H : Hp) : Prop := cls = .ref c ∧ fs = [] ∧ dd = none

/-- behind an outcome -/
def After (K : PySem.W.Frag) (W : WX) (w : Wd) (H : Hp) (σ : St) {α : Type} (o : Out α) (Q : α → Wd → Rs → Hp → Prop) : Prop := match o with
  | .ok a r => ∀ w' H', Tr w H w' H' → Good K w' r H' → Q a w' r H'
  | .exc c fs r => ∀ w' H' cls dd, Tr w H w' H' → Good K w' r H' → ExcAt c fs cls dd H' → W cls dd σ H'
  | .bad => False

def tE (K : PySem.W.Frag) (W : WX) (f : Ex) : TE := fun σ H Q => ∃ ρ r w, Good K w r H ∧ Slots K w ρ σ ∧
  After K W w H σ (f ρ r) fun d w' _ H' => ∀ v, Rp K w'.m w'.v d v → Q v H'
def tT (K : PySem.W.Frag) (W : WX) (f : Tx) : TT := fun σ H Q => ∃ ρ r w, Good K w r H ∧ Slots K w ρ σ ∧
  After K W w H σ (f ρ r) fun b _ _ H' => Q b H'
def tA (K : PySem.W.Frag) (W : WX) (f : Ax) : TA := fun σ H Q => ∃ ρ r w, Good K w r H ∧ Slots K w ρ σ ∧
  After K W w H σ (f ρ r) fun ds w' _ H' => ∀ vs, Rps K w'.m w'.v ds vs → Q vs H'

theorem _root_.L2.PE.imp {X : Cx} {e : Expr} {t t' : TE} (h : PE X e t) (i : ∀ σ H Q, t' σ H Q → t σ H Q) : PE X e t' := ⟨fun pins s σ H Q I q => h.run pins s σ H Q I (i σ H Q q)⟩
theorem _root_.L2.PT.imp {X : Cx} {e : Expr} {t t' : TT} (h : PT X e t) (i : ∀ σ H Q, t' σ H Q → t σ H Q) : PT X e t' := ⟨fun pins s σ H Q I q => h.run pins s σ H Q I (i σ H Q q)⟩
theorem _root_.L2.PA.imp {X : Cx} {e : List Expr} {t t' : TA} (h : PA X e t) (i : ∀ σ H Q, t' σ H Q → t σ H Q) : PA X e t' := ⟨fun pos pins s σ H Q I q => h.run pos pins s σ H Q I (i σ H Q q)⟩
theorem _root_.L2.PS.imp {X : Cx} {e : Stmt} {t t' : TS} (h : PS X e t) (i : ∀ D σ H, t' D σ H → t D σ H) : PS X e t' := ⟨fun pins s σ H D I q => h.run pins s σ H D I (i D σ H q)⟩
theorem _root_.L2.PSs.imp {X : Cx} {e : List Stmt} {t t' : TS} (h : PSs X e t) (i : ∀ D σ H, t' D σ H → t D σ H) : PSs X e t' := ⟨fun pins s σ H D I q => h.run pins s σ H D I (i D σ H q)⟩

/-- two in a row -/
theorem After.bind {K : PySem.W.Frag} {W : WX} {w : Wd} {H : Hp} {σ : St} {α β : Type} {o : Out α} {f : α → Rs → Out β} {Q : β → Wd → Rs → Hp → Prop} {Q1 : α → Wd → Rs → Hp → Prop}
    (h : After K W w H σ (o.bind f) Q) (k : ∀ a w1 r1 H1, Tr w H w1 H1 → Good K w1 r1 H1 → After K W w1 H1 σ (f a r1) Q → Q1 a w1 r1 H1) : After K W w H σ o Q1 := by
  cases o with
  | ok a r =>
    intro w1 H1 t1 g1
    refine k a w1 r H1 t1 g1 ?_
    have h' : After K W w H σ (f a r) Q := h
    revert h'
    generalize f a r = o2
    intro h'
    cases o2 with
    | ok b r2 => exact fun w2 H2 t2 g2 => h' w2 H2 (t1.trans t2) g2
    | exc c fs r2 => exact fun w2 H2 cls dd t2 g2 x => h' w2 H2 cls dd (t1.trans t2) g2 x
    | bad => exact h'
  | exc c fs r => exact h
  | bad => exact h
theorem After.mono {K : PySem.W.Frag} {W : WX} {w : Wd} {H : Hp} {σ : St} {α : Type} {o : Out α} {Q Q1 : α → Wd → Rs → Hp → Prop}
    (h : After K W w H σ o Q) (k : ∀ a w1 r1 H1, Tr w H w1 H1 → Good K w1 r1 H1 → Q a w1 r1 H1 → Q1 a w1 r1 H1) : After K W w H σ o Q1 := by
  cases o with
  | ok a r => exact fun w1 H1 t1 g1 => k a w1 r H1 t1 g1 (h w1 H1 t1 g1)
  | exc c fs r => exact h
  | bad => exact h
theorem After.ok {K : PySem.W.Frag} {W : WX} {w : Wd} {r : Rs} {H : Hp} {σ : St} {α : Type} {a : α} {Q : α → Wd → Rs → Hp → Prop} (g : Good K w r H) (h : After K W w H σ (Out.ok a r) Q) : Q a w r H := h w H (.refl _ _) g
end DL

/-! DL2: expressions. -/
namespace DL
open PySem L2

section
variable {X : Cx} {W : WX}

/-! ### names, constants -/
def xVar (i : Nat) : Ex := fun ρ r => match ρ[i]? with
  | some (some d) => .ok d r
  | _ => .bad
def xC (d : D) : Ex := fun _ r => .ok d r
theorem de_var (i : Nat) {x : Str} {pos : Pos} (hN : X.N[i]? = some x := by rfl) (hv : Vis X.env.scope x := by first | exact Or.inl rfl | exact Or.inr (Or.inl rfl) | exact Or.inr (Or.inr rfl)) (hd : (x == ("__debug__" : Str)) = false := by decide)
    (hcd : (x == ("__classdict__" : Str)) = false := by decide) : PE X (.Name x pos) (tE X.K W (xVar i)) :=
  (pe_var hN hv hd hcd).imp fun σ H Q ⟨ρ, r, w, g, s, h⟩ => by
    unfold xVar at h
    split at h
    · rename_i d e
      obtain ⟨v, hv, rp⟩ := s.at_ i d e
      exact ⟨v, hv, h.ok g v rp⟩
    · exact h.elim
theorem de_const {e : Expr} {v : V} {d : D} (h : PE X e (tC v)) (hd : ∀ (m : List Addr) (H : Hp), Rp X.K m H d v) : PE X e (tE X.K W (xC d)) :=
  h.imp fun σ H Q ⟨ρ, r, w, g, s, h⟩ => h.ok g v (hd _ _)
theorem de_int {i j pos} : PE X (.Constant (.int i) j pos) (tE X.K W (xC (.int i))) := de_const pe_int fun _ _ => .int i
theorem de_bl {b j pos} : PE X (.Constant (.bool b) j pos) (tE X.K W (xC (.bl b))) := de_const pe_bl fun _ _ => .bl b
theorem de_non {j pos} : PE X (.Constant .none j pos) (tE X.K W (xC .non)) := de_const pe_non fun _ _ => .non
theorem de_str {x j pos} : PE X (.Constant (.str x) j pos) (tE X.K W (xC (.str x))) := de_const pe_str fun _ _ => .str x

/-! ### two operands -/
def xOp (F : D → D → Option D) (f g : Ex) : Ex := fun ρ r => (f ρ r).bind fun a r1 => (g ρ r1).bind fun b r2 => match F a b with
  | some d => .ok d r2
  | none => .bad
/-- what follows a value -/
abbrev KD (K : PySem.W.Frag) (w : Wd) (r : Rs) (H : Hp) (d : D) (Q : VK) : Prop := ∀ w' H', Tr w H w' H' → Good K w' r H' → ∀ z, Rp K w'.m w'.v d z → Q z H'
theorem KD.now {K : PySem.W.Frag} {w : Wd} {r : Rs} {H : Hp} {d : D} {Q : VK} (k : KD K w r H d Q) (g : Good K w r H) {z : V} (h : Rp K w.m w.v d z) : Q z H := k w H (.refl _ _) g z h
theorem KD.new {K : PySem.W.Frag} {w : Wd} {r : Rs} {H : Hp} {d : D} {Q : VK} (k : KD K w r H d Q) (g : Good K w r H) {p : Addr} {o : HO} (hp : H p = none) (h : Rp K w.m (upd w.v p o) d (.ref p)) : Q (.ref p) (upd H p o) :=
  k (w.see p o) _ (tr_new g hp) (good_new g hp) _ h
def OpD (X : Cx) (fn : Value → Value → Sem Value) (F : D → D → Option D) : Prop := ∃ rr : R2, OpR X fn rr ∧
  ∀ (w : Wd) (r : Rs) (H : Hp) (x y : D) (v u : V) (d : D) (Q : VK), Good X.K w r H → Rp X.K w.m w.v x v → Rp X.K w.m w.v y u → F x y = some d → KD X.K w r H d Q → rr v u H Q
theorem OpD.or {fn : Value → Value → Sem Value} {F G : D → D → Option D} (h : OpD X fn F) (h' : OpD X fn G) : OpD X fn (fun x y => (F x y).orElse fun _ => G x y) := by
  obtain ⟨r1, o1, k1⟩ := h
  obtain ⟨r2, o2, k2⟩ := h'
  refine ⟨_, o1.or o2, fun w r H x y v u d Q g rx ry e k => ?_⟩
  dsimp only at e
  cases e1 : F x y with
  | some z =>
    rw [e1] at e
    cases e
    exact .inl (k1 w r H x y v u _ Q g rx ry e1 k)
  | none =>
    rw [e1] at e
    exact .inr (k2 w r H x y v u d Q g rx ry e k)
/-- the two operands evaluated -/
theorem tE_op {K : PySem.W.Frag} {f g : Ex} {F : D → D → Option D} {rr : R2} {σ : St} {H : Hp} {Q : VK}
    (k : ∀ (w : Wd) (r : Rs) (H : Hp) (x y : D) (v u : V) (d : D) (Q : VK), Good K w r H → Rp K w.m w.v x v → Rp K w.m w.v y u → F x y = some d → KD K w r H d Q → rr v u H Q)
    (h : tE K W (xOp F f g) σ H Q) : tOp rr (tE K W f) (tE K W g) σ H Q := by
  obtain ⟨ρ, r, w, gd, s, h⟩ := h
  refine ⟨ρ, r, w, gd, s, h.bind fun a w1 r1 H1 t1 g1 h1 v rv => ?_⟩
  refine ⟨ρ, r1, w1, g1, s.mono t1, h1.bind fun b w2 r2 H2 t2 g2 h2 u ru => ?_⟩
  split at h2
  · rename_i d e
    exact k w2 r2 H2 a b v u d Q g2 (t2.rp rv) ru e fun w' H' t g z rz => h2 w' H' t g z rz
  · exact h2.elim
theorem de_op {a b : Expr} {op : Operator} {pos : Pos} {F : D → D → Option D} {f g : Ex} (ho : OpD X (binaryOp op) F) (ha : PE X a (tE X.K W f)) (hb : PE X b (tE X.K W g)) : PE X (.BinOp a op b pos) (tE X.K W (xOp F f g)) := by
  obtain ⟨rr, o, k⟩ := ho
  exact (pe_op o ha hb).imp fun σ H Q h => tE_op k h
theorem de_cmp {a b : Expr} {op : CmpOp} {pos : Pos} {F : D → D → Option D} {f g : Ex} (ho : OpD X (compareOp op) F) (ha : PE X a (tE X.K W f)) (hb : PE X b (tE X.K W g)) (hm : behindInMarks op b = false := by first | exact nomark _ | rfl) : PE X (.Compare a [op] [b] pos) (tE X.K W (xOp F f g)) := by
  obtain ⟨rr, o, k⟩ := ho
  exact (pe_cmpR o ha hb hm).imp fun σ H Q h => tE_op k h

def lim : Nat := 1000000
theorem lim_le {n : Nat} (h : n ≤ lim) : n ≤ sizeLine := Nat.le_trans h (by decide)
theorem lim_lt {n : Nat} (h : n < lim) : n < sizeLine := Nat.lt_of_lt_of_le h (by decide)

/-! ### + -/
def dAddI : D → D → Option D
  | .int i, .int j => some (.int (i + j))
  | _, _ => none
def dAddS : D → D → Option D
  | .str a, .str b => if a.length + b.length ≤ lim then some (.str (a ++ b)) else none
  | _, _ => none
def dAddT : D → D → Option D
  | .tup a, .tup b => if a.length + b.length ≤ lim then some (.tup (a ++ b)) else none
  | _, _ => none
def dAddL : D → D → Option D
  | .lst a, .lst b => if a.length + b.length ≤ lim then some (.lst (a ++ b)) else none
  | _, _ => none
theorem od_addI : OpD X (binaryOp .Add) dAddI := ⟨_, op_add, fun w r H x y v u d Q g rx ry e k => by
  cases rx <;> cases ry <;> simp only [dAddI] at e <;> cases e
  exact ⟨_, _, rfl, rfl, k.now g (.int _)⟩⟩
theorem od_addS : OpD X (binaryOp .Add) dAddS := ⟨_, op_add_str, fun w r H x y v u d Q g rx ry e k => by
  cases rx <;> cases ry <;> simp only [dAddS] at e <;> try cases e
  split at e
  · rename_i h
    cases e
    exact ⟨_, _, rfl, rfl, lim_le h, k.now g (.str _)⟩
  · cases e⟩
theorem od_addT : OpD X (binaryOp .Add) dAddT := ⟨_, op_catA, fun w r H x y v u d Q g rx ry e k => by
  cases rx <;> cases ry <;> simp only [dAddT] at e <;> try cases e
  rename_i a xs ds hx rx b ys es hy ry
  split at e
  · rename_i h
    cases e
    refine ⟨a, b, xs, ys, rfl, rfl, g.sub.sqT hx, g.sub.sqT hy, by rw [← rx.length, ← ry.length]; exact lim_le h, fun e1 => ?_, fun e1 e2 => ?_, fun e1 e2 p hp => ?_⟩
    · subst e1
      cases rx
      exact k.now g (.tup hy ry)
    · subst e2
      cases ry
      rw [List.append_nil] at k
      exact k.now g (.tup hx rx)
    · refine k.new g hp (.tup (SqT.of upd_same) ?_)
      have t := (tr_new (o := .tup (xs ++ ys)) g hp)
      exact (t.rps rx).append (t.rps ry)
  · cases e⟩
theorem od_addL : OpD X (binaryOp .Add) dAddL := ⟨_, op_cat, fun w r H x y v u d Q g rx ry e k => by
  cases rx <;> cases ry <;> simp only [dAddL] at e <;> try cases e
  rename_i a xs ds hx rx b ys es hy ry
  split at e
  · rename_i h
    cases e
    refine ⟨a, b, xs, ys, rfl, rfl, g.sub _ _ hx, g.sub _ _ hy, by rw [← rx.length, ← ry.length]; exact lim_le h, fun p hp => ?_⟩
    refine k.new g hp (.lst upd_same ?_)
    have t := (tr_new (o := .lst (xs ++ ys)) g hp)
    exact (t.rps rx).append (t.rps ry)
  · cases e⟩
def dAdd : D → D → Option D
  | .int i, .int j => some (.int (i + j))
  | .str a, .str b => if a.length + b.length ≤ lim then some (.str (a ++ b)) else none
  | .tup a, .tup b => if a.length + b.length ≤ lim then some (.tup (a ++ b)) else none
  | .lst a, .lst b => if a.length + b.length ≤ lim then some (.lst (a ++ b)) else none
  | _, _ => none
theorem OpD.of {fn : Value → Value → Sem Value} {F G : D → D → Option D} (h : OpD X fn F) (e : ∀ x y d, G x y = some d → F x y = some d) : OpD X fn G := by
  obtain ⟨r1, o1, k1⟩ := h
  exact ⟨_, o1, fun w r H x y v u d Q g rx ry q k => k1 w r H x y v u d Q g rx ry (e x y d q) k⟩
theorem od_add : OpD X (binaryOp .Add) dAdd := ((od_addI.or (od_addS.or (od_addT.or od_addL)))).of fun x y d h => by
  cases x <;> cases y <;> simp only [dAdd] at h <;> (try cases h) <;> simp only [dAddI, dAddS, dAddT, dAddL, Option.orElse] <;> (try (split at h <;> (try cases h))) <;> simp_all
/-! ### other arithmetic -/
def dSub : D → D → Option D
  | .int i, .int j => some (.int (i - j))
  | _, _ => none
def small (i : Int) : Bool := decide (i.natAbs < 2 ^ 64)
theorem small_of {i : Int} (h : small i = true) : -(2 ^ 64) < i ∧ i < 2 ^ 64 := by
  unfold small at h
  rw [decide_eq_true_eq] at h
  omega
def dMul : D → D → Option D
  | .int i, .int j => if small i || small j then some (.int (i * j)) else none
  | _, _ => none
def dMod : D → D → Option D
  | .int i, .int j => if 0 < j then some (.int (i % j)) else none
  | _, _ => none
def dDiv : D → D → Option D
  | .int i, .int j => if 0 < j ∧ j < 1073741824 then some (.int (i / j)) else none
  | _, _ => none
def dPow : D → D → Option D
  | .int i, .int j => if 0 ≤ j ∧ j ≤ 1000000 ∧ i.natAbs < 2 ^ 64 then some (.int (i ^ j.toNat)) else none
  | _, _ => none
theorem od_sub : OpD X (binaryOp .Sub) dSub := ⟨_, op_sub, fun w r H x y v u d Q g rx ry e k => by
  cases rx <;> cases ry <;> simp only [dSub] at e <;> cases e
  exact ⟨_, _, rfl, rfl, k.now g (.int _)⟩⟩
theorem od_mul : OpD X (binaryOp .Mult) dMul := ⟨_, op_mul, fun w r H x y v u d Q g rx ry e k => by
  cases rx <;> cases ry <;> simp only [dMul] at e <;> try cases e
  split at e
  · rename_i h
    cases e
    rw [Bool.or_eq_true] at h
    exact ⟨_, _, rfl, rfl, h.imp small_of small_of, k.now g (.int _)⟩
  · cases e⟩
theorem od_mod : OpD X (binaryOp .Mod) dMod := ⟨_, op_mod, fun w r H x y v u d Q g rx ry e k => by
  cases rx <;> cases ry <;> simp only [dMod] at e <;> try cases e
  split at e
  · rename_i h
    cases e
    exact ⟨_, _, rfl, rfl, h, k.now g (.int _)⟩
  · cases e⟩
theorem od_div : OpD X (binaryOp .FloorDiv) dDiv := ⟨_, op_fdiv, fun w r H x y v u d Q g rx ry e k => by
  cases rx <;> cases ry <;> simp only [dDiv] at e <;> try cases e
  split at e
  · rename_i h
    cases e
    exact ⟨_, _, rfl, rfl, h, k.now g (.int _)⟩
  · cases e⟩
theorem od_pow : OpD X (binaryOp .Pow) dPow := ⟨_, op_pow, fun w r H x y v u d Q g rx ry e k => by
  cases rx <;> cases ry <;> simp only [dPow] at e <;> try cases e
  split at e
  · rename_i h
    cases e
    exact ⟨_, _, rfl, rfl, h, k.now g (.int _)⟩
  · cases e⟩
/-! ### order of ints and texts -/
def dLt : D → D → Option D
  | .int i, .int j => some (.bl (decide (i < j)))
  | .str i, .str j => some (.bl (decide (i.cps.toList < j.cps.toList)))
  | _, _ => none
def dLe : D → D → Option D
  | .int i, .int j => some (.bl (decide (i ≤ j)))
  | .str i, .str j => some (.bl (!decide (j.cps.toList < i.cps.toList)))
  | _, _ => none
def dGt : D → D → Option D
  | .int i, .int j => some (.bl (decide (j < i)))
  | .str i, .str j => some (.bl (decide (j.cps.toList < i.cps.toList)))
  | _, _ => none
def dGe : D → D → Option D
  | .int i, .int j => some (.bl (decide (j ≤ i)))
  | .str i, .str j => some (.bl (!decide (i.cps.toList < j.cps.toList)))
  | _, _ => none
theorem od_lt : OpD X (compareOp .Lt) dLt := ⟨_, op_lt.or op_lt_str, fun w r H x y v u d Q g rx ry e k => by
  cases rx <;> cases ry <;> simp only [dLt] at e <;> cases e
  · exact .inl ⟨_, _, rfl, rfl, k.now g (.bl _)⟩
  · exact .inr ⟨_, _, rfl, rfl, k.now g (.bl _)⟩⟩

theorem od_le : OpD X (compareOp .LtE) dLe := ⟨_, op_le.or op_le_str, fun w r H x y v u d Q g rx ry e k => by
  cases rx <;> cases ry <;> simp only [dLe] at e <;> cases e
  · exact .inl ⟨_, _, rfl, rfl, k.now g (.bl _)⟩
  · exact .inr ⟨_, _, rfl, rfl, k.now g (.bl _)⟩⟩
theorem od_gt : OpD X (compareOp .Gt) dGt := ⟨_, op_gt.or op_gt_str, fun w r H x y v u d Q g rx ry e k => by
  cases rx <;> cases ry <;> simp only [dGt] at e <;> cases e
  · exact .inl ⟨_, _, rfl, rfl, k.now g (.bl _)⟩
  · exact .inr ⟨_, _, rfl, rfl, k.now g (.bl _)⟩⟩
theorem od_ge : OpD X (compareOp .GtE) dGe := ⟨_, op_ge.or op_ge_str, fun w r H x y v u d Q g rx ry e k => by
  cases rx <;> cases ry <;> simp only [dGe] at e <;> cases e
  · exact .inl ⟨_, _, rfl, rfl, k.now g (.bl _)⟩
  · exact .inr ⟨_, _, rfl, rfl, k.now g (.bl _)⟩⟩
/-! ### == and in, over data at any depth -/
mutual
def D.py : D → PyData
  | .non => .none
  | .bl b => .bool b
  | .int i => .int i
  | .str x => .str x
  | .tup xs => .tuple (D.pys xs)
  | .lst xs => .list (D.pys xs)
  | _ => .dict []
def D.pys : List D → List PyData
  | [] => []
  | x :: xs => D.py x :: D.pys xs
end
def D.shaped (d : D) : Bool := SeqAt.shaped d.py
theorem lay_dict : PyData.canLay0 (.dict []) = false := by simp [PyData.canLay0]
mutual
theorem Rp.dp {K : PySem.W.Frag} {m : List Addr} {H : Hp} : ∀ {d : D} {v : V}, Rp K m H d v → d.py.canLay0 = true → Dp K H v d.py
  | _, _, .non, _ => by rw [D.py]; exact .non
  | _, _, .bl b, _ => by rw [D.py]; exact .bl b
  | _, _, .int i, _ => by rw [D.py]; exact .int i
  | _, _, .str x, _ => by rw [D.py]; exact .str x
  | .tup ds, _, .tup h r, e => by
    rw [D.py] at e ⊢
    exact .tup h (Rps.dp r (by simpa [PyData.canLay0] using e))
  | .lst ds, _, .lst h r, e => by
    rw [D.py] at e ⊢
    exact .lst (.inl (.inl h)) (Rps.dp r (by simpa [PyData.canLay0] using e))
  | .dic _, _, .dic _ _, e => by rw [D.py, lay_dict] at e; cases e; all_goals simp
  | .loc _, _, .loc _, e => by rw [D.py, lay_dict] at e; cases e; all_goals simp
  | .scr _, _, .scr _, e => by rw [D.py, lay_dict] at e; cases e; all_goals simp
  | .ty _, _, .ty _, e => by rw [D.py, lay_dict] at e; cases e; all_goals simp
  | .gl _, _, .gl _, e => by rw [D.py, lay_dict] at e; cases e; all_goals simp
theorem Rps.dp {K : PySem.W.Frag} {m : List Addr} {H : Hp} : ∀ {d : List D} {v : List V}, Rps K m H d v → PyData.canLayAll0 (D.pys d) = true → DpAll K H v (D.pys d)
  | _, _, .nil, _ => by rw [D.pys]; exact .nil
  | _ :: _, _, .cons h r, e => by
    rw [D.pys] at e ⊢
    rw [PyData.canLayAll0, Bool.and_eq_true] at e
    exact .cons (Rp.dp h e.1) (Rps.dp r e.2)
end
theorem Rp.dpS {K : PySem.W.Frag} {m : List Addr} {H : Hp} {d : D} {v : V} (h : Rp K m H d v) (e : d.shaped = true) : Dp K H v d.py := h.dp (SeqAt.canLay_of_shaped e)
def dEq (x y : D) : Option D := if x.shaped && y.shaped then some (.bl (PyData.eqv x.py y.py)) else none
def dNe (x y : D) : Option D := if x.shaped && y.shaped then some (.bl (!PyData.eqv x.py y.py)) else none
theorem dp_sub {K : PySem.W.Frag} {H H' : Hp} (s : Sub H H') : ∀ {v : V} {d : PyData}, Dp K H v d → Dp K H' v d := by
  intro v d h
  refine Dp.rec (K := K) (H := H) (motive_1 := fun v d _ => Dp K H' v d) (motive_2 := fun v d _ => DpAll K H' v d) .non .bl .int .str (fun h _ ih => .lst (s.sqL h) ih) (fun h _ ih => .tup (s.sqT h) ih) .nil (fun _ _ a b => .cons a b) h
theorem od_eq (hu : X.A.units + 64 < cLine) : OpD X (compareOp .Eq) dEq := ⟨_, op_eqD hu, fun w r H x y v u d Q g rx ry e k => by
  unfold dEq at e
  split at e
  · rename_i h
    cases e
    rw [Bool.and_eq_true] at h
    exact ⟨_, _, dp_sub g.sub (rx.dpS h.1), dp_sub g.sub (ry.dpS h.2), h.1, h.2, k.now g (.bl _)⟩
  · cases e⟩
theorem od_ne (hu : X.A.units + 64 < cLine) : OpD X (compareOp .NotEq) dNe := ⟨_, op_neD hu, fun w r H x y v u d Q g rx ry e k => by
  unfold dNe at e
  split at e
  · rename_i h
    cases e
    rw [Bool.and_eq_true] at h
    exact ⟨_, _, dp_sub g.sub (rx.dpS h.1), dp_sub g.sub (ry.dpS h.2), h.1, h.2, k.now g (.bl _)⟩
  · cases e⟩
end
end DL

/-! DL3: in, is, places, slices, tests, displays, calls. -/
namespace DL
open PySem L2
section
variable {X : Cx} {W : WX}

/-! ### in -/
def D.flat : D → Bool
  | .non => true
  | .bl _ => true
  | .int _ => true
  | .str _ => true
  | _ => false
def D.toV : D → V
  | .bl b => .bl b
  | .int i => .int i
  | .str x => .str x
  | _ => .non
theorem Rp.flat {K : PySem.W.Frag} {m : List Addr} {H : Hp} {d : D} {v : V} (h : Rp K m H d v) (f : d.flat = true) : v = d.toV := by
  cases h <;> first | rfl | (cases f)
theorem toV_flat {d : D} (f : d.flat = true) : flatV d.toV = true := by
  cases d <;> first | rfl | (cases f)
theorem Rps.flat {K : PySem.W.Frag} {m : List Addr} {H : Hp} : ∀ {ds : List D} {vs : List V}, Rps K m H ds vs → ds.all D.flat = true → vs = ds.map D.toV ∧ vs.all flatV = true
  | _, _, .nil, _ => ⟨rfl, rfl⟩
  | _, _, .cons r t, f => by
    rw [List.all_cons, Bool.and_eq_true] at f
    obtain ⟨e1, e2⟩ := Rps.flat t f.2
    have e := r.flat f.1
    refine ⟨by rw [List.map_cons, ← e1, ← e], ?_⟩
    rw [List.all_cons, e2, e, toV_flat f.1]
    rfl
theorem eqV_py {d e : D} (f : d.flat = true) (g : e.flat = true) : eqV d.toV e.toV = PyData.eqv d.py e.py := by
  cases d <;> (try cases f) <;> cases e <;> (try cases g) <;> simp only [D.toV, D.py, eqV, PyData.eqv]
theorem any_py {x : D} (g : x.flat = true) : ∀ {ds : List D}, ds.all D.flat = true → inV x.toV (ds.map D.toV) = ds.any fun z => PyData.eqv z.py x.py
  | [], _ => rfl
  | d :: ds, f => by
    rw [List.all_cons, Bool.and_eq_true] at f
    have q := any_py g f.2
    unfold inV at q ⊢
    rw [List.map_cons, List.any_cons, List.any_cons, q, eqV_py f.1 g]
theorem pys_any {x : PyData} : ∀ (ds : List D), ((D.pys ds).any fun z => PyData.eqv z x) = ds.any fun z => PyData.eqv z.py x
  | [] => by rw [D.pys]; rfl
  | d :: ds => by rw [D.pys, List.any_cons, List.any_cons, pys_any ds]
/-- x in y, as a Bool -/
def inD : D → D → Option Bool
  | x, .lst ds => if x.shaped && D.shaped (.lst ds) then some (ds.any fun z => PyData.eqv z.py x.py) else none
  | x, .tup ds => if x.flat && ds.all D.flat then some (ds.any fun z => PyData.eqv z.py x.py) else none
  | .str s, .str t => match s.cps.toList with
    | [c] => some (decide (c ∈ t.cps.toList))
    | _ => none
  | _, _ => none
def dIn (x y : D) : Option D := (inD x y).map D.bl
def dNotIn (x y : D) : Option D := (inD x y).map fun b => .bl (!b)
def inL (neg : Bool) : D → D → Option D
  | x, .lst ds => if x.shaped && D.shaped (.lst ds) then some (.bl (neg.xor (ds.any fun z => PyData.eqv z.py x.py))) else none
  | _, _ => none
def inT (neg : Bool) : D → D → Option D
  | x, .tup ds => if x.flat && ds.all D.flat then some (.bl (neg.xor (ds.any fun z => PyData.eqv z.py x.py))) else none
  | _, _ => none
def inS (neg : Bool) : D → D → Option D
  | .str s, .str t => match s.cps.toList with
    | [c] => some (.bl (neg.xor (decide (c ∈ t.cps.toList))))
    | _ => none
  | _, _ => none
theorem od_inL (hu : X.A.units + 65 < cLine) : OpD X (compareOp .In) (inL false) := ⟨_, op_inD hu, fun w r H x y v u d Q g rx ry e k => by
  cases ry <;> simp only [inL] at e <;> try cases e
  rename_i a xs ds hy ry
  split at e
  · rename_i h
    rw [Bool.and_eq_true] at h
    cases e
    refine ⟨_, D.pys ds, dp_sub g.sub (rx.dpS h.1), ?_, h.1, ?_, ?_⟩
    · have := dp_sub g.sub ((Rp.lst hy ry).dpS h.2)
      rwa [D.py] at this
    · have := h.2
      unfold D.shaped at this
      rwa [D.py] at this
    · rw [pys_any]
      rw [Bool.false_xor] at k
      exact k.now g (.bl _)
  · cases e⟩
theorem od_notInL (hu : X.A.units + 65 < cLine) : OpD X (compareOp .NotIn) (inL true) := ⟨_, op_notInD hu, fun w r H x y v u d Q g rx ry e k => by
  cases ry <;> simp only [inL] at e <;> try cases e
  rename_i a xs ds hy ry
  split at e
  · rename_i h
    rw [Bool.and_eq_true] at h
    cases e
    refine ⟨_, D.pys ds, dp_sub g.sub (rx.dpS h.1), ?_, h.1, ?_, ?_⟩
    · have := dp_sub g.sub ((Rp.lst hy ry).dpS h.2)
      rwa [D.py] at this
    · have := h.2
      unfold D.shaped at this
      rwa [D.py] at this
    · rw [pys_any]
      rw [Bool.true_xor] at k
      exact k.now g (.bl _)
  · cases e⟩
theorem od_inT : OpD X (compareOp .In) (inT false) := ⟨_, op_in_seq, fun w r H x y v u d Q g rx ry e k => by
  cases ry <;> simp only [inT] at e <;> try cases e
  rename_i a xs ds hy ry
  split at e
  · rename_i h
    rw [Bool.and_eq_true] at h
    cases e
    obtain ⟨e1, e2⟩ := ry.flat h.2
    have e3 := rx.flat h.1
    refine ⟨a, xs, rfl, .inr (g.sub.sqT hy), by rw [e3]; exact toV_flat h.1, e2, ?_⟩
    rw [e1, e3, any_py h.1 h.2]
    rw [Bool.false_xor] at k
    exact k.now g (.bl _)
  · cases e⟩
theorem od_notInT : OpD X (compareOp .NotIn) (inT true) := ⟨_, op_notIn_seq, fun w r H x y v u d Q g rx ry e k => by
  cases ry <;> simp only [inT] at e <;> try cases e
  rename_i a xs ds hy ry
  split at e
  · rename_i h
    rw [Bool.and_eq_true] at h
    cases e
    obtain ⟨e1, e2⟩ := ry.flat h.2
    have e3 := rx.flat h.1
    refine ⟨a, xs, rfl, .inr (g.sub.sqT hy), by rw [e3]; exact toV_flat h.1, e2, ?_⟩
    rw [e1, e3, any_py h.1 h.2]
    rw [Bool.true_xor] at k
    exact k.now g (.bl _)
  · cases e⟩
theorem str_of_list {s : Str} {c : Nat} (e : s.cps.toList = [c]) : s = ⟨#[c]⟩ := by
  obtain ⟨⟨l⟩⟩ := s
  have q : l = [c] := e
  rw [q]
theorem od_inS : OpD X (compareOp .In) (inS false) := ⟨_, op_in_sign, fun w r H x y v u d Q g rx ry e k => by
  cases rx <;> cases ry <;> simp only [inS] at e <;> try cases e
  split at e
  · rename_i c h
    cases e
    rw [str_of_list h]
    rw [Bool.false_xor] at k
    exact ⟨c, _, rfl, rfl, k.now g (.bl _)⟩
  · cases e⟩
theorem od_notInS : OpD X (compareOp .NotIn) (inS true) := ⟨_, op_notIn_sign, fun w r H x y v u d Q g rx ry e k => by
  cases rx <;> cases ry <;> simp only [inS] at e <;> try cases e
  split at e
  · rename_i c h
    cases e
    rw [str_of_list h]
    rw [Bool.true_xor] at k
    exact ⟨c, _, rfl, rfl, k.now g (.bl _)⟩
  · cases e⟩
theorem in_or (neg : Bool) (x y d : D) (h : (inD x y).map (fun b => D.bl (neg.xor b)) = some d) : ((inL neg x y).orElse fun _ => (inT neg x y).orElse fun _ => inS neg x y) = some d := by
  cases y with
  | lst ds =>
    have e1 : inD x (.lst ds) = if x.shaped && D.shaped (.lst ds) then some (ds.any fun z => PyData.eqv z.py x.py) else none := by cases x <;> rfl
    have e2 : inL neg x (.lst ds) = if x.shaped && D.shaped (.lst ds) then some (.bl (neg.xor (ds.any fun z => PyData.eqv z.py x.py))) else none := by cases x <;> rfl
    rw [e1] at h
    rw [e2]
    split at h
    · rename_i c
      rw [if_pos c]
      exact h
    · cases h
  | tup ds =>
    have e1 : inD x (.tup ds) = if x.flat && ds.all D.flat then some (ds.any fun z => PyData.eqv z.py x.py) else none := by cases x <;> rfl
    have e2 : inT neg x (.tup ds) = if x.flat && ds.all D.flat then some (.bl (neg.xor (ds.any fun z => PyData.eqv z.py x.py))) else none := by cases x <;> rfl
    have e3 : inL neg x (.tup ds) = none := by cases x <;> rfl
    rw [e1] at h
    rw [e2, e3]
    split at h
    · rename_i c
      rw [if_pos c]
      exact h
    · cases h
  | str t =>
    cases x with
    | str s =>
      have e1 : inS neg (.str s) (.str t) = (match s.cps.toList with | [c] => some (.bl (neg.xor (decide (c ∈ t.cps.toList)))) | _ => none) := rfl
      have e2 : inD (.str s) (.str t) = (match s.cps.toList with | [c] => some (decide (c ∈ t.cps.toList)) | _ => none) := rfl
      show inS neg (.str s) (.str t) = some d
      rw [e1]
      rw [e2] at h
      generalize s.cps.toList = l at h ⊢
      match l, h with
      | [c], h => exact h
      | [], h => cases h
      | _ :: _ :: _, h => cases h
    | _ => simp only [inD] at h; cases h
  | _ => cases x <;> simp only [inD] at h <;> cases h
theorem od_in (hu : X.A.units + 65 < cLine) : OpD X (compareOp .In) dIn := ((od_inL hu).or (od_inT.or od_inS)).of fun x y d h => in_or false x y d (by
  rw [← h]; unfold dIn; congr 1; funext b; rw [Bool.false_xor])
theorem od_notIn (hu : X.A.units + 65 < cLine) : OpD X (compareOp .NotIn) dNotIn := ((od_notInL hu).or (od_notInT.or od_notInS)).of fun x y d h => in_or true x y d (by
  rw [← h]; unfold dNotIn; congr 1; funext b; rw [Bool.true_xor])
/-! ### is -/
def D.isN : D → Bool
  | .non => true
  | _ => false
def dIs : D → D → Option D
  | x, .non => some (.bl x.isN)
  | .bl a, .bl b => some (.bl (decide (a = b)))
  | _, _ => none
def dIsNot : D → D → Option D
  | x, .non => some (.bl (!x.isN))
  | .bl a, .bl b => some (.bl (!decide (a = b)))
  | _, _ => none
theorem Rp.isN {K : PySem.W.Frag} {m : List Addr} {H : Hp} {d : D} {v : V} (h : Rp K m H d v) : decide (v = .non) = d.isN := by
  cases h <;> rfl
theorem od_is : OpD X (compareOp .Is) dIs := ⟨_, op_isN.or op_is_bl, fun w r H x y v u d Q g rx ry e k => by
  cases ry
  case non => 
    have e' : some (D.bl x.isN) = some d := by cases x <;> exact e
    cases e'
    exact .inl ⟨rfl, by rw [rx.isN]; exact k.now g (.bl _)⟩
  case bl => 
    cases rx <;> simp only [dIs] at e <;> cases e
    exact .inr ⟨_, _, rfl, rfl, k.now g (.bl _)⟩
  all_goals (cases x <;> simp only [dIs] at e <;> cases e)⟩
theorem od_isNot : OpD X (compareOp .IsNot) dIsNot := ⟨_, op_notN.or op_isnot_bl, fun w r H x y v u d Q g rx ry e k => by
  cases ry
  case non => 
    have e' : some (D.bl (!x.isN)) = some d := by cases x <;> exact e
    cases e'
    exact .inl ⟨rfl, by rw [rx.isN]; exact k.now g (.bl _)⟩
  case bl => 
    cases rx <;> simp only [dIsNot] at e <;> cases e
    exact .inr ⟨_, _, rfl, rfl, k.now g (.bl _)⟩
  all_goals (cases x <;> simp only [dIsNot] at e <;> cases e)⟩
end
end DL

/-! DL4: places, slices, tests, displays, calls. -/
namespace DL
open PySem L2
section
variable {X : Cx} {W : WX}

/-! ### places -/
def dIx (r : Rs) : D → D → Option D
  | .lst ds, .int i => atI ds i
  | .tup ds, .int i => atI ds i
  | .str s, .int i => if s.length ≤ lim then (atI s.cps.toList i).map (fun c => .str ⟨#[c]⟩) else none
  | .scr ns, .int i => (atI ns i).map .int
  | .loc n, .int i => match r[n]? with
    | some (.lst ds) => atI ds i
    | _ => none
  | _, _ => none
def xIx (f g : Ex) : Ex := fun ρ r => (f ρ r).bind fun a r1 => (g ρ r1).bind fun b r2 => match dIx r2 a b with
  | some d => .ok d r2
  | none => .bad
theorem atI_rps {K : PySem.W.Frag} {m : List Addr} {H : Hp} {ds : List D} {vs : List V} {i : Int} {d : D} (h : Rps K m H ds vs) (e : atI ds i = some d) : ∃ v, atI vs i = some v ∧ Rp K m H d v := by
  unfold atI at e ⊢
  rw [← h.length]
  cases q : ixN ds.length i with
  | none => rw [q] at e; cases e
  | some j =>
    rw [q] at e
    exact h.get e
theorem atI_map {α β : Type} {f : α → β} {xs : List α} {i : Int} {x : α} (h : atI xs i = some x) : atI (xs.map f) i = some (f x) := by
  unfold atI at h ⊢
  rw [List.length_map]
  cases q : ixN xs.length i with
  | none => rw [q] at h; cases h
  | some j =>
    rw [q] at h
    show (xs.map f)[j]? = some (f x)
    have h' : xs[j]? = some x := h
    rw [List.getElem?_map, h']
    rfl
theorem good_loc {K : PySem.W.Frag} {w : Wd} {r : Rs} {H : Hp} (g : Good K w r H) {n : Nat} {a : Addr} (h : w.m[n]? = some a) {ds : List D} (e : r[n]? = some (.lst ds)) : D.imms ds = true ∧ ∃ xs, H a = some (.lst xs) ∧ Rps K w.m w.v ds xs := by
  obtain ⟨b, hb, x⟩ := g.at_ n _ e
  rw [h] at hb
  cases hb
  exact x
theorem ix_dl {w : Wd} {r : Rs} {H : Hp} {x y : D} {v u : V} {d : D} {Q : VK} (g : Good X.K w r H) (rx : Rp X.K w.m w.v x v) (ry : Rp X.K w.m w.v y u) (e : dIx r x y = some d) (k : KD X.K w r H d Q) : rIx X.K v u H Q := by
  cases ry <;> (try (cases rx <;> simp only [dIx] at e <;> cases e; done))
  rename_i i
  cases rx <;> simp only [dIx] at e <;> try cases e
  case str x =>
    split at e
    · rename_i hl
      cases q : atI x.cps.toList i with
      | none => rw [q] at e; cases e
      | some c =>
        rw [q] at e
        cases e
        exact .inr (.inr ⟨_, _, c, rfl, rfl, lim_le hl, q, k.now g (.str _)⟩)
    · cases e
  case tup a xs ds hx rx =>
    obtain ⟨v, q, rv⟩ := atI_rps rx e
    exact .inr (.inl ⟨_, _, _, v, rfl, rfl, g.sub.sqT hx, q, k.now g rv⟩)
  case lst a xs ds hx rx =>
    obtain ⟨v, q, rv⟩ := atI_rps rx e
    exact .inl ⟨_, _, _, v, rfl, rfl, SqL.of (g.sub _ _ hx), q, k.now g rv⟩
  case loc n a hn =>
    split at e
    · rename_i ds hr
      obtain ⟨_, xs, h1, h2⟩ := good_loc g hn hr
      obtain ⟨v, q, rv⟩ := atI_rps h2 e
      exact .inl ⟨_, _, _, v, rfl, rfl, SqL.of h1, q, k.now g rv⟩
    · cases e
  case scr a ns hs =>
    cases q : atI ns i with
    | none => rw [q] at e; cases e
    | some j =>
      rw [q] at e
      cases e
      exact .inl ⟨_, _, _, .int j, rfl, rfl, g.sub.sqL hs, atI_map q, k.now g (.int _)⟩
theorem de_ix {a b : Expr} {pos : Pos} {f g : Ex} (ha : PE X a (tE X.K W f)) (hb : PE X b (tE X.K W g)) (hs : PlainIx b := by exact fun _ _ => rfl) : PE X (.Subscript a b pos) (tE X.K W (xIx f g)) :=
  (pe_ix ix_seq ha hb hs).imp fun σ H Q h => by
    obtain ⟨ρ, r, w, gd, s, h⟩ := h
    refine ⟨ρ, r, w, gd, s, h.bind fun a w1 r1 H1 t1 g1 h1 v rv => ?_⟩
    refine ⟨ρ, r1, w1, g1, s.mono t1, h1.bind fun b w2 r2 H2 t2 g2 h2 u ru => ?_⟩
    split at h2
    · rename_i d e
      exact ix_dl g2 (t2.rp rv) ru e fun w' H' t g z rz => h2 w' H' t g z rz
    · exact h2.elim

/-! ### slices -/
abbrev Ox := En → Rs → Out (Option Int)
def tO (K : PySem.W.Frag) (W : WX) (f : Ox) : TO := fun σ H Q => ∃ ρ r w, Good K w r H ∧ Slots K w ρ σ ∧
  After K W w H σ (f ρ r) fun d w' _ H' => Q d H'
def xNoP : Ox := fun _ r => .ok none r
def xPart (f : Ex) : Ox := fun ρ r => (f ρ r).bind fun d r1 => match d with
  | .int i => .ok (some i) r1
  | _ => .bad
theorem _root_.L2.PO.imp {X : Cx} {e : Option Expr} {t t' : TO} (h : PO X e t) (i : ∀ σ H Q, t' σ H Q → t σ H Q) : PO X e t' := ⟨fun pins s σ H Q I q => h.run pins s σ H Q I (i σ H Q q)⟩
theorem do_none : PO X none (tO X.K W xNoP) := po_none.imp fun σ H Q ⟨ρ, r, w, g, s, h⟩ => h.ok g
theorem do_some {e : Expr} {f : Ex} (h : PE X e (tE X.K W f)) : PO X (some e) (tO X.K W (xPart f)) := (po_some h).imp fun σ H Q ⟨ρ, r, w, g, s, h⟩ =>
  ⟨ρ, r, w, g, s, h.bind fun d w1 r1 H1 t1 g1 h1 v rv => by
    split at h1
    · cases rv
      exact ⟨_, rfl, h1.ok g1⟩
    · exact h1.elim⟩
def cutA {α : Type} (xs : List α) (lo hi : Option Int) : List α := (xs.drop (HT.sIx xs.length 0 lo)).take (HT.sIx xs.length xs.length hi - HT.sIx xs.length 0 lo)
def dSl : D → Option Int → Option Int → Option D
  | .lst ds, lo, hi => some (.lst (cutA ds lo hi))
  | .tup ds, lo, hi => some (.tup (cutA ds lo hi))
  | .str s, lo, hi => if s.length ≤ lim then some (.str ⟨(cutA s.cps.toList lo hi).toArray⟩) else none
  | _, _, _ => none
def xSl (f : Ex) (lo hi : Ox) : Ex := fun ρ r => (f ρ r).bind fun a r1 => (lo ρ r1).bind fun l r2 => (hi ρ r2).bind fun u r3 => match dSl a l u with
  | some d => .ok d r3
  | none => .bad
theorem cut_rps {K : PySem.W.Frag} {m : List Addr} {H : Hp} {ds : List D} {vs : List V} (h : Rps K m H ds vs) (lo hi : Option Int) : Rps K m H (cutA ds lo hi) (cutV vs lo hi) := by
  unfold cutA cutV
  rw [h.length]
  exact (h.drop _).take _
theorem cutA_all {α : Type} {xs : List α} {lo hi : Option Int} (h : HT.sIx xs.length 0 lo = 0 ∧ HT.sIx xs.length xs.length hi = xs.length) : cutA xs lo hi = xs := by
  unfold cutA
  rw [h.1, h.2, List.drop_zero, Nat.sub_zero, List.take_length]
theorem cutS_is (s : Str) (lo hi : Option Int) : cutS s lo hi = ⟨(cutA s.cps.toList lo hi).toArray⟩ := by
  unfold cutS cutA
  have e : s.length = s.cps.toList.length := by simp [Str.length]
  rw [e]
theorem sl_dl {w : Wd} {r : Rs} {H : Hp} {x : D} {v : V} {lo hi : Option Int} {d : D} {Q : VK} (g : Good X.K w r H) (rx : Rp X.K w.m w.v x v) (e : dSl x lo hi = some d) (k : KD X.K w r H d Q) :
    rSlL X.K v lo hi H Q ∨ rSlA X.K v lo hi H Q ∨ rSlS v lo hi H Q := by
  cases rx <;> simp only [dSl] at e <;> try cases e
  case str x =>
    split at e
    · rename_i hl
      cases e
      exact .inr (.inr ⟨_, rfl, lim_le hl, by rw [cutS_is]; exact k.now g (.str _)⟩)
    · cases e
  case tup a xs ds hx rx =>
    refine .inr (.inl ⟨a, xs, rfl, g.sub.sqT hx, fun hw => ?_, fun _ p hp => ?_⟩)
    · rw [← rx.length] at hw
      rw [cutA_all hw] at k
      exact k.now g (.tup hx rx)
    · exact k.new g hp (.tup (SqT.of upd_same) (cut_rps ((tr_new (o := .tup (cutV xs lo hi)) g hp).rps rx) lo hi))
  case lst a xs ds hx rx =>
    refine .inl ⟨a, xs, rfl, SqL.of (g.sub _ _ hx), fun p hp => ?_⟩
    exact k.new g hp (.lst upd_same (cut_rps ((tr_new (o := .lst (cutV xs lo hi)) g hp).rps rx) lo hi))
theorem de_sl {e : Expr} {lo hi : Option Expr} {p2 pos : Pos} {f : Ex} {fl fh : Ox} (he : PE X e (tE X.K W f)) (hl : PO X lo (tO X.K W fl)) (hh : PO X hi (tO X.K W fh)) : PE X (.Subscript e (.Slice lo hi none p2) pos) (tE X.K W (xSl f fl fh)) :=
  (pe_slice (sl_list.or (sl_tupA.or sl_str)) he hl hh).imp fun σ H Q h => by
    obtain ⟨ρ, r, w, gd, s, h⟩ := h
    refine ⟨ρ, r, w, gd, s, h.bind fun a w1 r1 H1 t1 g1 h1 v rv => ?_⟩
    refine ⟨ρ, r1, w1, g1, s.mono t1, h1.bind fun b w2 r2 H2 t2 g2 h2 => ?_⟩
    refine ⟨ρ, r2, w2, g2, s.mono (t1.trans t2), h2.bind fun c w3 r3 H3 t3 g3 h3 => ?_⟩
    split at h3
    · rename_i d e
      exact sl_dl g3 ((t2.trans t3).rp rv) e fun w' H' t g z rz => h3 w' H' t g z rz
    · exact h3.elim

/-! ### tests -/
def truth (r : Rs) : D → Option Bool
  | .non => some false
  | .bl b => some b
  | .int i => some (i != 0)
  | .str s => if s.length ≤ lim then some ((s.length : Int) != 0) else none
  | .lst ds => some (!ds.isEmpty)
  | .tup ds => some (!ds.isEmpty)
  | .dic ds => some (!ds.isEmpty)
  | .scr ns => some (!ns.isEmpty)
  | .loc n => match r[n]? with
    | some (.lst ds) => some (!ds.isEmpty)
    | some (.dic ds) => some (!ds.isEmpty)
    | _ => none
  | _ => none
theorem Rps.isEmpty {K : PySem.W.Frag} {m : List Addr} {H : Hp} {ds : List D} {vs : List V} (h : Rps K m H ds vs) : ds.isEmpty = vs.isEmpty := by cases h <;> rfl
theorem Rpk.isEmpty {K : PySem.W.Frag} {m : List Addr} {H : Hp} {ds : List (Key × D)} {vs : List (Key × V)} (h : Rpk K m H ds vs) : ds.isEmpty = vs.isEmpty := by cases h <;> rfl
theorem truth_v {w : Wd} {r : Rs} {H : Hp} {x : D} {v : V} {b : Bool} (g : Good X.K w r H) (rx : Rp X.K w.m w.v x v) (e : truth r x = some b) : TruV X.K v H b := by
  cases rx <;> simp only [truth] at e <;> try cases e
  case non => exact rfl
  case bl => exact rfl
  case int => exact rfl
  case str x =>
    split at e
    · rename_i h
      cases e
      exact ⟨lim_le h, rfl⟩
    · cases e
  case tup a xs ds hx rx => exact .inr (.inl ⟨xs, g.sub.sqT hx, by rw [rx.isEmpty]⟩)
  case lst a xs ds hx rx => exact .inl ⟨xs, SqL.of (g.sub _ _ hx), by rw [rx.isEmpty]⟩
  case dic a xs ds hx rx => exact .inr (.inr ⟨xs, g.sub _ _ hx, by rw [rx.isEmpty]⟩)
  case loc n a hn =>
    split at e
    · rename_i ds hr
      cases e
      obtain ⟨_, xs, h1, h2⟩ := good_loc g hn hr
      exact .inl ⟨xs, SqL.of h1, by rw [h2.isEmpty]⟩
    · rename_i ds hr
      cases e
      obtain ⟨a', ha', _, xs, h1, h2⟩ := g.at_ n _ hr
      rw [hn] at ha'
      cases ha'
      exact .inr (.inr ⟨xs, h1, by rw [h2.isEmpty]⟩)
    · cases e
  case scr a ns hs => exact .inl ⟨_, g.sub.sqL hs, by cases ns <;> rfl⟩
def xTr (f : Ex) : Tx := fun ρ r => (f ρ r).bind fun d r1 => match truth r1 d with
  | some b => .ok b r1
  | none => .bad
def xB (f : Ex) : Tx := fun ρ r => (f ρ r).bind fun d r1 => match d with
  | .bl b => .ok b r1
  | _ => .bad
theorem dt_tr {e : Expr} {f : Ex} (h : PE X e (tE X.K W f)) (he : ∀ whole, isTrue e X.env whole = (do let v ← whole; standAt e.pos; holding [v] (truthy v)) := by intro _; rfl) : PT X e (tT X.K W (xTr f)) :=
  (pt_truth h he).imp fun σ H Q ⟨ρ, r, w, g, s, h⟩ => ⟨ρ, r, w, g, s, h.bind fun d w1 r1 H1 t1 g1 h1 v rv => by
    split at h1
    · rename_i b e
      exact ⟨b, truth_v g1 rv e, h1.ok g1⟩
    · exact h1.elim⟩
theorem dt_cmp {a b : Expr} {op : CmpOp} {pos : Pos} {F : D → D → Option D} {f g : Ex} (ho : OpD X (compareOp op) F) (ha : PE X a (tE X.K W f)) (hb : PE X b (tE X.K W g)) (hm : behindInMarks op b = false := by first | exact nomark _ | rfl) : PT X (.Compare a [op] [b] pos) (tT X.K W (xB (xOp F f g))) := by
  obtain ⟨rr, o, k⟩ := ho
  refine (pt_cmpR o ha hb hm).imp fun σ H Q h => ?_
  refine tE_op k ?_
  obtain ⟨ρ, r, w, g, s, h⟩ := h
  refine ⟨ρ, r, w, g, s, h.bind fun d w1 r1 H1 t1 g1 h1 v rv => ?_⟩
  split at h1
  · cases rv
    exact ⟨_, rfl, h1.ok g1⟩
  · exact h1.elim
/-- a < b < c -/
def xCh (F G : D → D → Option D) (f g h : Ex) : Tx := fun ρ r => (f ρ r).bind fun a r1 => (g ρ r1).bind fun b r2 => match F a b with
  | some (.bl true) => (h ρ r2).bind fun c r3 => match G b c with
    | some (.bl k) => .ok k r3
    | _ => .bad
  | some (.bl false) => .ok false r2
  | _ => .bad
theorem ch_dl {K : PySem.W.Frag} {F G : D → D → Option D} {f g h : Ex} {rr rr' : R2} {σ : L2.St} {H : Hp} {Q : Bool → Hp → Prop} {Q' : VK}
    (k : ∀ (w : Wd) (r : Rs) (H : Hp) (x y : D) (v u : V) (d : D) (Q : VK), Good K w r H → Rp K w.m w.v x v → Rp K w.m w.v y u → F x y = some d → KD K w r H d Q → rr v u H Q)
    (k' : ∀ (w : Wd) (r : Rs) (H : Hp) (x y : D) (v u : V) (d : D) (Q : VK), Good K w r H → Rp K w.m w.v x v → Rp K w.m w.v y u → G x y = some d → KD K w r H d Q → rr' v u H Q)
    (hQ : ∀ b H, Q b H → Q' (.bl b) H) (q : tT K W (xCh F G f g h) σ H Q) : tChain rr rr' (tE K W f) (tE K W g) (tE K W h) σ H Q' := by
  obtain ⟨ρ, r, w, gd, s, q⟩ := q
  refine ⟨ρ, r, w, gd, s, q.bind fun a w1 r1 H1 t1 g1 h1 v rv => ?_⟩
  refine ⟨ρ, r1, w1, g1, s.mono t1, h1.bind fun b w2 r2 H2 t2 g2 h2 u ru => ?_⟩
  split at h2
  · rename_i e
    refine k w2 r2 H2 a b v u _ _ g2 (t2.rp rv) ru e fun w3 H3 t3 g3 z rz => ?_
    cases rz
    refine ⟨true, rfl, ?_⟩
    rw [if_pos rfl]
    refine ⟨ρ, r2, w3, g3, s.mono ((t1.trans t2).trans t3), ?_⟩
    have h3 : After K W w3 H3 σ ((h ρ r2).bind fun c r3 => match G b c with
      | some (.bl k) => .ok k r3
      | _ => .bad) (fun b _ _ H' => Q b H') := by
      revert h2
      generalize ((h ρ r2).bind fun c r3 => match G b c with
        | some (.bl k) => Out.ok k r3
        | _ => .bad) = o
      intro h2
      cases o with
      | ok b r => exact fun w' H' t' g' => h2 w' H' (t3.trans t') g'
      | exc c fs r => exact fun w' H' cls dd t' g' x => h2 w' H' cls dd (t3.trans t') g' x
      | bad => exact h2
    refine h3.bind fun c w4 r4 H4 t4 g4 h4 x rx => ?_
    split at h4
    · rename_i e4
      refine k' w4 r4 H4 b c u x _ _ g4 ((t3.trans t4).rp ru) rx e4 fun w5 H5 t5 g5 z rz => ?_
      cases rz
      exact hQ _ _ (h4 w5 H5 t5 g5)
    · exact h4.elim
  · rename_i e
    refine k w2 r2 H2 a b v u _ _ g2 (t2.rp rv) ru e fun w3 H3 t3 g3 z rz => ?_
    cases rz
    refine ⟨false, rfl, ?_⟩
    rw [if_neg Bool.false_ne_true]
    exact hQ _ _ (h2 w3 H3 t3 g3)
  · exact h2.elim
theorem dt_ch {a b c : Expr} {op op' : CmpOp} {pos : Pos} {F G : D → D → Option D} {f g h : Ex} (ho : OpD X (compareOp op) F) (ho' : OpD X (compareOp op') G) (ha : PE X a (tE X.K W f)) (hb : PE X b (tE X.K W g)) (hc : PE X c (tE X.K W h))
    (hm : lastMarks [op, op'] [b, c] = false := by with_unfolding_all rfl) : PT X (.Compare a [op, op'] [b, c] pos) (tT X.K W (xCh F G f g h)) := by
  obtain ⟨rr, o, k⟩ := ho
  obtain ⟨rr', o', k'⟩ := ho'
  exact (pt_chain o o' ha hb hc hm).imp fun σ H Q q => ch_dl k k' (fun b H h => ⟨b, rfl, h⟩) q
def xV (t : Tx) : Ex := fun ρ r => (t ρ r).bind fun b r1 => .ok (.bl b) r1
theorem tT_V {K : PySem.W.Frag} {t : Tx} {σ : L2.St} {H : Hp} {Q : VK} (h : tE K W (xV t) σ H Q) : tT K W t σ H (fun b H' => Q (.bl b) H') := by
  obtain ⟨ρ, r, w, g, s, h⟩ := h
  exact ⟨ρ, r, w, g, s, h.bind fun b w1 r1 H1 t1 g1 h1 => h1.ok g1 _ (.bl b)⟩
theorem de_ch {a b c : Expr} {op op' : CmpOp} {pos : Pos} {F G : D → D → Option D} {f g h : Ex} (ho : OpD X (compareOp op) F) (ho' : OpD X (compareOp op') G) (ha : PE X a (tE X.K W f)) (hb : PE X b (tE X.K W g)) (hc : PE X c (tE X.K W h))
    (hm : lastMarks [op, op'] [b, c] = false := by with_unfolding_all rfl) : PE X (.Compare a [op, op'] [b, c] pos) (tE X.K W (xV (xCh F G f g h))) := by
  obtain ⟨rr, o, k⟩ := ho
  obtain ⟨rr', o', k'⟩ := ho'
  exact (pe_chain o o' ha hb hc hm).imp fun σ H Q q => ch_dl k k' (fun b H h => h) (tT_V q)
def xAnd (f g : Tx) : Tx := fun ρ r => (f ρ r).bind fun b r1 => if b = true then g ρ r1 else .ok false r1
def xOr (f g : Tx) : Tx := fun ρ r => (f ρ r).bind fun b r1 => if b = true then .ok true r1 else g ρ r1
def xNot (f : Tx) : Tx := fun ρ r => (f ρ r).bind fun b r1 => .ok (!b) r1
theorem tT_and {K : PySem.W.Frag} {f g : Tx} {σ : L2.St} {H : Hp} {Q : Bool → Hp → Prop} (h : tT K W (xAnd f g) σ H Q) : tAnd (tT K W f) (tT K W g) σ H Q := by
  obtain ⟨ρ, r, w, gd, s, h⟩ := h
  refine ⟨ρ, r, w, gd, s, h.bind fun b w1 r1 H1 t1 g1 h1 => ?_⟩
  cases b with
  | true => exact iteT ⟨ρ, r1, w1, g1, s.mono t1, h1⟩
  | false => exact iteF (h1.ok g1)
theorem tT_or {K : PySem.W.Frag} {f g : Tx} {σ : L2.St} {H : Hp} {Q : Bool → Hp → Prop} (h : tT K W (xOr f g) σ H Q) : tOr (tT K W f) (tT K W g) σ H Q := by
  obtain ⟨ρ, r, w, gd, s, h⟩ := h
  refine ⟨ρ, r, w, gd, s, h.bind fun b w1 r1 H1 t1 g1 h1 => ?_⟩
  cases b with
  | true => exact iteT (h1.ok g1)
  | false => exact iteF ⟨ρ, r1, w1, g1, s.mono t1, h1⟩
theorem _root_.L2.PW.imp {X : Cx} {e : Expr} {t t' : TT} (h : PW X e t) (i : ∀ σ H Q, t' σ H Q → t σ H Q) : PW X e t' := ⟨fun wh pins s σ H Q I q => h.run wh pins s σ H Q I (i σ H Q q)⟩
section
variable {a b : Expr} {rest : List Expr} {pos : Pos} {f g : Tx}
theorem dw_and1 (ha : PT X a (tT X.K W f)) : PW X (.BoolOp .And [a] pos) (tT X.K W f) := pw_and1 ha
theorem dw_or1 (ha : PT X a (tT X.K W f)) : PW X (.BoolOp .Or [a] pos) (tT X.K W f) := pw_or1 ha
theorem dw_and (ha : PT X a (tT X.K W f)) (hb : PW X (.BoolOp .And (b :: rest) pos) (tT X.K W g)) : PW X (.BoolOp .And (a :: b :: rest) pos) (tT X.K W (xAnd f g)) := (pw_and ha hb).imp fun _ _ _ h => tT_and h
theorem dw_or (ha : PT X a (tT X.K W f)) (hb : PW X (.BoolOp .Or (b :: rest) pos) (tT X.K W g)) : PW X (.BoolOp .Or (a :: b :: rest) pos) (tT X.K W (xOr f g)) := (pw_or ha hb).imp fun _ _ _ h => tT_or h
theorem dt_not (ha : PT X a (tT X.K W f)) : PT X (.UnaryOp .Not a pos) (tT X.K W (xNot f)) := (pt_not ha).imp fun σ H Q ⟨ρ, r, w, gd, s, h⟩ =>
  ⟨ρ, r, w, gd, s, h.bind fun b w1 r1 H1 t1 g1 h1 => h1.ok g1⟩
end
/-- a if t else b -/
def xIf (t : Tx) (f g : Ex) : Ex := fun ρ r => (t ρ r).bind fun b r1 => if b = true then f ρ r1 else g ρ r1
theorem de_if {c a b : Expr} {pos : Pos} {t : Tx} {f g : Ex} (hc : PT X c (tT X.K W t)) (ha : PE X a (tE X.K W f)) (hb : PE X b (tE X.K W g)) : PE X (.IfExp c a b pos) (tE X.K W (xIf t f g)) :=
  (pe_ifExp hc ha hb).imp fun σ H Q ⟨ρ, r, w, gd, s, h⟩ => ⟨ρ, r, w, gd, s, h.bind fun b w1 r1 H1 t1 g1 h1 => by
    cases b with
    | true => exact iteT ⟨ρ, r1, w1, g1, s.mono t1, h1⟩
    | false => exact iteF ⟨ρ, r1, w1, g1, s.mono t1, h1⟩⟩
/-- and, or, not as values -/
def xAndV (f g : Ex) : Ex := fun ρ r => (f ρ r).bind fun d r1 => match truth r1 d with
  | some true => g ρ r1
  | some false => .ok d r1
  | none => .bad
def xOrV (f g : Ex) : Ex := fun ρ r => (f ρ r).bind fun d r1 => match truth r1 d with
  | some true => .ok d r1
  | some false => g ρ r1
  | none => .bad
def xNotV (f : Ex) : Ex := fun ρ r => (f ρ r).bind fun d r1 => match truth r1 d with
  | some b => .ok (.bl (!b)) r1
  | none => .bad
section
variable {a b : Expr} {rest : List Expr} {pos : Pos} {f g : Ex}
theorem de_one {op} (h : PE X a (tE X.K W f)) : PE X (.BoolOp op [a] pos) (tE X.K W f) := pe_one h
theorem de_and (ha : PE X a (tE X.K W f)) (hb : PE X (.BoolOp .And (b :: rest) pos) (tE X.K W g)) : PE X (.BoolOp .And (a :: b :: rest) pos) (tE X.K W (xAndV f g)) :=
  (pe_andT ha hb).imp fun σ H Q ⟨ρ, r, w, gd, s, h⟩ => ⟨ρ, r, w, gd, s, h.bind fun d w1 r1 H1 t1 g1 h1 v rv => by
    split at h1
    · rename_i e
      exact ⟨true, truth_v g1 rv e, iteT ⟨ρ, r1, w1, g1, s.mono t1, h1⟩⟩
    · rename_i e
      exact ⟨false, truth_v g1 rv e, iteF (h1.ok g1 v rv)⟩
    · exact h1.elim⟩
theorem de_or (ha : PE X a (tE X.K W f)) (hb : PE X (.BoolOp .Or (b :: rest) pos) (tE X.K W g)) : PE X (.BoolOp .Or (a :: b :: rest) pos) (tE X.K W (xOrV f g)) :=
  (pe_orT ha hb).imp fun σ H Q ⟨ρ, r, w, gd, s, h⟩ => ⟨ρ, r, w, gd, s, h.bind fun d w1 r1 H1 t1 g1 h1 v rv => by
    split at h1
    · rename_i e
      exact ⟨true, truth_v g1 rv e, iteT (h1.ok g1 v rv)⟩
    · rename_i e
      exact ⟨false, truth_v g1 rv e, iteF ⟨ρ, r1, w1, g1, s.mono t1, h1⟩⟩
    · exact h1.elim⟩
theorem de_not (ha : PE X a (tE X.K W f)) : PE X (.UnaryOp .Not a pos) (tE X.K W (xNotV f)) :=
  (pe_notT ha).imp fun σ H Q ⟨ρ, r, w, gd, s, h⟩ => ⟨ρ, r, w, gd, s, h.bind fun d w1 r1 H1 t1 g1 h1 v rv => by
    split at h1
    · rename_i b e
      exact ⟨b, truth_v g1 rv e, h1.ok g1 _ (.bl _)⟩
    · exact h1.elim⟩
def xNeg (f : Ex) : Ex := fun ρ r => (f ρ r).bind fun d r1 => match d with
  | .int i => .ok (.int (-i)) r1
  | _ => .bad
theorem de_neg (ha : PE X a (tE X.K W f)) : PE X (.UnaryOp .USub a pos) (tE X.K W (xNeg f)) :=
  (pe_un un_neg ha).imp fun σ H Q ⟨ρ, r, w, gd, s, h⟩ => ⟨ρ, r, w, gd, s, h.bind fun d w1 r1 H1 t1 g1 h1 v rv => by
    split at h1
    · cases rv
      exact ⟨_, rfl, h1.ok g1 _ (.int _)⟩
    · exact h1.elim⟩
end
/-! ### argument lists, displays -/
def xNil : Ax := fun _ r => .ok [] r
def xCons (f : Ex) (g : Ax) : Ax := fun ρ r => (f ρ r).bind fun d r1 => (g ρ r1).bind fun ds r2 => .ok (d :: ds) r2
theorem da_nil : PA X [] (tA X.K W xNil) := pa_nil.imp fun σ H Q ⟨ρ, r, w, gd, s, h⟩ => h.ok gd [] .nil
theorem da_cons {e : Expr} {es : List Expr} {f : Ex} {g : Ax} (ha : PE X e (tE X.K W f)) (hr : PA X es (tA X.K W g)) (hs : starEach (e :: es) X.env = (false, eval e X.env) :: starEach es X.env := by rfl) : PA X (e :: es) (tA X.K W (xCons f g)) :=
  (pa_cons ha hr hs).imp fun σ H Q ⟨ρ, r, w, gd, s, h⟩ => ⟨ρ, r, w, gd, s, h.bind fun d w1 r1 H1 t1 g1 h1 v rv => ⟨ρ, r1, w1, g1, s.mono t1, h1.bind fun ds w2 r2 H2 t2 g2 h2 vs rvs => h2.ok g2 _ (.cons (t2.rp rv) rvs)⟩⟩
def xTup (f : Ax) : Ex := fun ρ r => (f ρ r).bind fun ds r1 => if ds.length ≤ lim then .ok (.tup ds) r1 else .bad
def xLst (f : Ax) : Ex := fun ρ r => (f ρ r).bind fun ds r1 => if ds.length ≤ lim then .ok (.lst ds) r1 else .bad
section
variable {es : List Expr} {pos : Pos} {f : Ax}
theorem de_tup {x1} (h : PA X es (tA X.K W f)) : PE X (.Tuple es x1 pos) (tE X.K W (xTup f)) :=
  (pe_tup h).imp fun σ H Q ⟨ρ, r, w, gd, s, h⟩ => ⟨ρ, r, w, gd, s, h.bind fun ds w1 r1 H1 t1 g1 h1 vs rvs => by
    split at h1
    · rename_i hl
      refine ⟨by rw [← rvs.length]; exact lim_le hl, fun p hp => ?_⟩
      exact h1 (w1.see p (.tup vs)) _ (tr_new g1 hp) (good_new g1 hp) _ (.tup (SqT.of see_at) ((tr_new (o := .tup vs) g1 hp).rps rvs))
    · exact h1.elim⟩
theorem de_lst (h : PA X es (tA X.K W f)) : PE X (.List es pos) (tE X.K W (xLst f)) :=
  (pe_lst h).imp fun σ H Q ⟨ρ, r, w, gd, s, h⟩ => ⟨ρ, r, w, gd, s, h.bind fun ds w1 r1 H1 t1 g1 h1 vs rvs => by
    split at h1
    · rename_i hl
      refine ⟨by rw [← rvs.length]; exact lim_le hl, fun p hp => ?_⟩
      exact h1 (w1.see p (.lst vs)) _ (tr_new g1 hp) (good_new g1 hp) _ (.lst see_at ((tr_new (o := .lst vs) g1 hp).rps rvs))
    · exact h1.elim⟩
end
end
end DL

/-! DL5: calls of built-ins, of defs; comprehensions. -/
namespace DL
open PySem L2
section
variable {X : Cx} {W : WX}

/-! ### built-ins -/
def CalD (X : Cx) (fn : Value) (F : Rs → List D → Option D) : Prop := ∃ rr : List V → Hp → VK → Prop, CallR X fn rr ∧
  ∀ (w : Wd) (r : Rs) (H : Hp) (ds : List D) (vs : List V) (d : D) (Q : VK), Good X.K w r H → Rps X.K w.m w.v ds vs → F r ds = some d → KD X.K w r H d Q → rr vs H Q
def xCB (F : Rs → List D → Option D) (f : Ax) : Ex := fun ρ r => (f ρ r).bind fun ds r1 => match F r1 ds with
  | some d => .ok d r1
  | none => .bad
theorem cb_dl {K : PySem.W.Frag} {F : Rs → List D → Option D} {f : Ax} {rr : List V → Hp → VK → Prop} {σ : L2.St} {H : Hp} {Q : VK}
    (k : ∀ (w : Wd) (r : Rs) (H : Hp) (ds : List D) (vs : List V) (d : D) (Q : VK), Good K w r H → Rps K w.m w.v ds vs → F r ds = some d → KD K w r H d Q → rr vs H Q)
    (h : tE K W (xCB F f) σ H Q) : tCB rr (tA K W f) σ H Q := by
  obtain ⟨ρ, r, w, gd, s, h⟩ := h
  refine ⟨ρ, r, w, gd, s, h.bind fun ds w1 r1 H1 t1 g1 h1 vs rvs => ?_⟩
  split at h1
  · rename_i d e
    exact k w1 r1 H1 ds vs d Q g1 rvs e h1
  · exact h1.elim
section
variable {x : Str} {p pos : Pos} {e : Expr} {es : List Expr} {f : Ax} {id T : String} {F : Rs → List D → Option D}
theorem de_callB (hc : CalD X (.builtin id) F) (hg : Gl X x) (hm : X.mg x = none) (hv : bootBuiltins x = some (.builtin id)) (ha : PA X (e :: es) (tA X.K W f)) (hn : x ≠ "__name__" := by decide) (hdb : (x == ("__debug__" : Str)) = false := by decide)
    (he : starEach (e :: es) X.env = (false, eval e X.env) :: starEach es X.env := by rfl) (hpl : (backTo pos (starEach es X.env)).any (·.1) = false := by rfl) : PE X (.Call (.Name x p) (e :: es) [] pos) (tE X.K W (xCB F f)) := by
  obtain ⟨rr, o, k⟩ := hc
  exact (pe_callB o hg hm hv ha hn hdb he hpl).imp fun σ H Q h => cb_dl k h
theorem de_callTy (hc : CalD X (.type T) F) (hg : Gl X x) (hm : X.mg x = none) (hv : bootBuiltins x = some (.type T)) (ha : PA X (e :: es) (tA X.K W f)) (hn : x ≠ "__name__" := by decide) (hdb : (x == ("__debug__" : Str)) = false := by decide)
    (he : starEach (e :: es) X.env = (false, eval e X.env) :: starEach es X.env := by rfl) (hpl : (backTo pos (starEach es X.env)).any (·.1) = false := by rfl) : PE X (.Call (.Name x p) (e :: es) [] pos) (tE X.K W (xCB F f)) := by
  obtain ⟨rr, o, k⟩ := hc
  exact (pe_callTy o hg hm hv ha hn hdb he hpl).imp fun σ H Q h => cb_dl k h
/-- a built-in class as a value -/
theorem de_ty (hg : Gl X x) (hm : X.mg x = none) (hv : bootBuiltins x = some (.type T)) (hn : x ≠ "__name__" := by decide) (hdb : (x == ("__debug__" : Str)) = false := by decide) : PE X (.Name x pos) (tE X.K W (xC (.ty T))) :=
  de_const (pe_bltn (v := .ty T) hg hm hv rfl hn hdb) fun _ _ => .ty T
/-- a def's or class's name as a value -/
theorem de_gl {a : Addr} (hg : Gl X x) (hm : X.mg x = some (.ref a)) (hdb : (x == ("__debug__" : Str)) = false := by decide) : PE X (.Name x pos) (tE X.K W (xC (.gl a))) :=
  de_const (pe_glob (v := .ref a) hg hm rfl hdb) fun _ _ => .gl a
end
def cLen (r : Rs) : List D → Option D
  | [.lst ds] => some (.int ds.length)
  | [.tup ds] => some (.int ds.length)
  | [.str s] => if s.length ≤ lim then some (.int s.length) else none
  | [.scr ns] => some (.int ns.length)
  | [.loc n] => match r[n]? with
    | some (.lst ds) => some (.int ds.length)
    | _ => none
  | _ => none
theorem cd_len : CalD X (.builtin "len") cLen := ⟨_, call_len, fun w r H ds vs d Q g rvs e k => by
  cases rvs with
  | nil => cases e
  | cons rv rt =>
    cases rt with
    | cons _ _ => cases rv <;> cases e
    | nil =>
      cases rv <;> simp only [cLen] at e <;> first | (cases e; done) | skip
      case str x =>
        split at e
        · rename_i h
          cases e
          exact ⟨_, _, rfl, ⟨lim_le h, rfl⟩, k.now g (.int _)⟩
        · cases e
      case tup a xs ds hx rx => cases e; exact ⟨_, ds.length, rfl, .inr ⟨xs, g.sub.sqT hx, rx.length⟩, k.now g (.int _)⟩
      case lst a xs ds hx rx => cases e; exact ⟨_, ds.length, rfl, .inl ⟨xs, SqL.of (g.sub _ _ hx), rx.length⟩, k.now g (.int _)⟩
      case loc n a hn =>
        split at e
        · rename_i ds hr
          cases e
          obtain ⟨_, xs, h1, h2⟩ := good_loc g hn hr
          exact ⟨_, ds.length, rfl, .inl ⟨xs, SqL.of h1, h2.length⟩, k.now g (.int _)⟩
        · cases e
      case scr a ns hs => cases e; exact ⟨_, ns.length, rfl, .inl ⟨_, g.sub.sqL hs, by rw [List.length_map]⟩, k.now g (.int _)⟩⟩
def cAbs (_ : Rs) : List D → Option D
  | [.int i] => some (.int (if i < 0 then -i else i))
  | _ => none
theorem cd_abs : CalD X (.builtin "abs") cAbs := ⟨_, call_abs, fun w r H ds vs d Q g rvs e k => by
  cases rvs with
  | nil => cases e
  | cons rv rt =>
    cases rt with
    | cons _ _ => cases rv <;> cases e
    | nil =>
      cases rv <;> simp only [cAbs] at e <;> cases e
      exact ⟨_, rfl, k.now g (.int _)⟩⟩
def cInt (_ : Rs) : List D → Option D
  | [.int i] => some (.int i)
  | [.bl b] => some (.int (if b then 1 else 0))
  | _ => none
theorem cd_int : CalD X (.type "int") cInt := ⟨_, call_int1, fun w r H ds vs d Q g rvs e k => by
  cases rvs with
  | nil => cases e
  | cons rv rt =>
    cases rt with
    | cons _ _ => cases rv <;> cases e
    | nil =>
      cases rv <;> simp only [cInt] at e <;> cases e
      · exact .inr ⟨_, rfl, k.now g (.int _)⟩
      · exact .inl ⟨_, rfl, k.now g (.int _)⟩⟩
def cList (_ : Rs) : List D → Option D
  | [.lst ds] => some (.lst ds)
  | [.tup ds] => some (.lst ds)
  | _ => none
theorem cd_list : CalD X (.type "list") cList := ⟨_, call_list_of, fun w r H ds vs d Q g rvs e k => by
  cases rvs with
  | nil => cases e
  | cons rv rt =>
    cases rt with
    | cons _ _ => cases rv <;> cases e
    | nil =>
      cases rv <;> simp only [cList] at e <;> first | (cases e; done) | skip
      case tup a xs ds hx rx => cases e; exact ⟨a, xs, rfl, .inr (g.sub.sqT hx), fun p hp => k.new g hp (.lst upd_same ((tr_new (o := .lst xs) g hp).rps rx))⟩
      case lst a xs ds hx rx => cases e; exact ⟨a, xs, rfl, .inl (SqL.of (g.sub _ _ hx)), fun p hp => k.new g hp (.lst upd_same ((tr_new (o := .lst xs) g hp).rps rx))⟩⟩
def cTuple (_ : Rs) : List D → Option D
  | [.lst ds] => some (.tup ds)
  | [.tup ds] => some (.tup ds)
  | _ => none
theorem cd_tuple : CalD X (.type "tuple") cTuple := ⟨_, call_tuple_of, fun w r H ds vs d Q g rvs e k => by
  cases rvs with
  | nil => cases e
  | cons rv rt =>
    cases rt with
    | cons _ _ => cases rv <;> cases e
    | nil =>
      cases rv <;> simp only [cTuple] at e <;> first | (cases e; done) | skip
      case tup a xs ds hx rx => cases e; exact ⟨a, xs, rfl, .inr ⟨g.sub.sqT hx, k.now g (.tup hx rx)⟩⟩
      case lst a xs ds hx rx => cases e; exact ⟨a, xs, rfl, .inl ⟨SqL.of (g.sub _ _ hx), fun p hp => k.new g hp (.tup (SqT.of upd_same) ((tr_new (o := .tup xs) g hp).rps rx))⟩⟩⟩
def intsOf : List D → Option (List Int)
  | [] => some []
  | .int i :: r => (intsOf r).map (i :: ·)
  | _ => none
theorem Rps.ints {K : PySem.W.Frag} {m : List Addr} {H : Hp} : ∀ {ds : List D} {vs : List V} {ns : List Int}, Rps K m H ds vs → intsOf ds = some ns → vs = ns.map V.int
  | _, _, _, .nil, e => by cases e; rfl
  | _, _, _, .cons r t, e => by
    cases r <;> simp only [intsOf] at e <;> try cases e
    cases q : intsOf _ with
    | none => rw [q] at e; cases e
    | some l =>
      rw [q] at e
      cases e
      rw [Rps.ints t q]
      rfl
def cSum (_ : Rs) : List D → Option D
  | [.lst ds] => (intsOf ds).map fun ns => .int ns.sum
  | _ => none
theorem cd_sum (hc : X.calm = true) : CalD X (.builtin "sum") cSum := ⟨_, cr_sum hc, fun w r H ds vs d Q g rvs e k => by
  cases rvs with
  | nil => cases e
  | cons rv rt =>
    cases rt with
    | cons _ _ => cases rv <;> cases e
    | nil =>
      cases rv <;> simp only [cSum] at e <;> try cases e
      rename_i a xs ds hx rx
      cases q : intsOf ds with
      | none => rw [q] at e; cases e
      | some ns =>
        rw [q] at e
        cases e
        have z := rx.ints q
        subst z
        exact ⟨a, ns, rfl, SqL.of (g.sub _ _ hx), k.now g (.int _)⟩⟩
/-! isinstance against a built-in class -/
def D.cls : D → Option String
  | .non => some "NoneType"
  | .bl _ => some "bool"
  | .int _ => some "int"
  | .str _ => some "str"
  | .tup _ => some "tuple"
  | .lst _ => some "list"
  | .dic _ => some "dict"
  | _ => none
def isiB (c T : String) : Option Bool := if ["NoneType", "bool", "int", "str", "tuple", "list", "dict"].contains c && ["bool", "int", "str", "tuple", "list", "dict"].contains T then some (c == T || (c == "bool" && T == "int")) else none
def cIsi (_ : Rs) : List D → Option D
  | [d, .ty T] => (d.cls.bind fun c => isiB c T).map D.bl
  | _ => none
theorem isiB_kit {c T : String} {b : Bool} (h : isiB c T = some b) : kitB c T = some b := by
  have all : ∀ c ∈ ["NoneType", "bool", "int", "str", "tuple", "list", "dict"], ∀ T ∈ ["bool", "int", "str", "tuple", "list", "dict"], kitB c T = some (c == T || (c == "bool" && T == "int")) := by decide +kernel
  unfold isiB at h
  split at h
  · rename_i q
    cases h
    rw [Bool.and_eq_true] at q
    exact all c (List.contains_iff_mem.mp q.1) T (List.contains_iff_mem.mp q.2)
  · cases h
theorem Rp.tyX {K : PySem.W.Frag} {m : List Addr} {v H : Hp} (s : Sub v H) {d : D} {x : V} {c : String} (h : Rp K m v d x) (e : d.cls = some c) : TyX K H x (.type c) := by
  cases h <;> simp only [D.cls] at e <;> cases e
  case non => exact .base .non
  case bl => exact .base (.bl _)
  case int => exact .base (.int _)
  case str => exact .base (.str _)
  case tup a xs ds hx rx =>
    rcases hx with (hx | ⟨o, hx⟩) | ⟨o, its, n, h1, h2, _⟩
    · exact .base (.tup (s _ _ hx))
    · exact .fTuple (s _ _ hx)
    · exact .kTuple h1 h2
  case lst a xs ds hx rx => exact .base (.lst (s _ _ hx))
  case dic a xs ds hx rx => exact .base (.dK (s _ _ hx))
theorem cd_isi : CalD X (.builtin "isinstance") cIsi := ⟨_, call_isi, fun w r H ds vs d Q g rvs e k => by
  cases rvs with
  | nil => cases e
  | cons rv rt =>
    rename_i x dt v vt
    cases rt with
    | nil => cases rv <;> cases e
    | cons rv2 rt2 =>
      rename_i T _ v2 _
      cases rt2 with
      | cons _ _ => cases rv2 <;> cases e
      | nil =>
        cases rv2 <;> simp only [cIsi] at e <;> try cases e
        cases q : x.cls with
        | none => rw [q] at e; cases e
        | some c =>
          rw [q] at e
          rename_i n
          cases q2 : isiB c n with
          | none => rw [Option.bind_some, q2] at e; cases e
          | some b =>
            rw [Option.bind_some, q2] at e
            cases e
            exact ⟨v, .ty n, .type c, .type n, b, rfl, .ty n, rv.tyX g.sub q, kit_ty (isiB_kit q2), k.now g (.bl _)⟩⟩
/-! ### calls of defs -/
/-- a def's promise by a plain function -/
def spD (K : PySem.W.Frag) (n : Nat) (F : List D → Rs → Out D) : Sp := fun vs H Q E => vs.length = n ∧ ∃ ds r w, Good K w r H ∧ Rps K w.m w.v ds vs ∧ match F ds r with
  | .ok d r' => ∀ w' H', Tr w H w' H' → Good K w' r' H' → ∀ v, Rp K w'.m w'.v d v → Q v H'
  | .exc c fs r' => ∀ w' H' cls dd, Tr w H w' H' → Good K w' r' H' → ExcAt c fs cls dd H' → E cls dd H'
  | .bad => False
def xCall (F : List D → Rs → Out D) (f : Ax) : Ex := fun ρ r => (f ρ r).bind fun ds r1 => F ds r1
section
variable {k : Nat} {f : Addr} {fd : FuncData} {ps : List Str} {n : Nat} {x : Str} {p pos : Pos} {e : Expr} {es : List Expr} {F : List D → Rs → Out D} {fa : Ax}
theorem Out.bind_len {fa : Ax} {n : Nat} : True := trivial
theorem de_call (G : FnOk X.prog X.w X.K X.mg X.base (L2.CX X.prog X.w) k f fd ps (spD X.K n F)) (hr : Room k X.A) (hg : Gl X x) (hm : X.mg x = some (.ref f)) (hk : PySem.W.keepIn X.K (.ref f) = true) (hb : Binds X.K fd ps []) (tk : Takes X W)
    (ha : PA X (e :: es) (tA X.K W fa)) (hn : ∀ ρ r ds r', fa ρ r = .ok ds r' → ds.length = n) (hdb : (x == ("__debug__" : Str)) = false := by decide) (he : starEach (e :: es) X.env = (false, eval e X.env) :: starEach es X.env := by rfl) (hpl : (backTo pos (starEach es X.env)).any (·.1) = false := by rfl) :
    PE X (.Call (.Name x p) (e :: es) [] pos) (tE X.K W (xCall F fa)) :=
  (pe_callS G hr hg hm hk hb (fun σ => passAt tk σ) ha hdb he hpl).imp fun σ H Q ⟨ρ, r, w, gd, s, h⟩ => by
    refine ⟨ρ, r, w, gd, s, ?_⟩
    have hl := hn ρ r
    unfold xCall at h
    revert h hl
    generalize fa ρ r = o
    intro h hl
    cases o with
    | ok ds r1 =>
      intro w1 H1 t1 g1 vs rvs
      refine ⟨by rw [← rvs.length]; exact hl ds r1 rfl, ds, r1, w1, g1, rvs, ?_⟩
      have h' : After X.K W w H σ (F ds r1) (fun d w' _ H' => ∀ v, Rp X.K w'.m w'.v d v → Q v H') := h
      revert h'
      generalize F ds r1 = o2
      intro h'
      cases o2 with
      | ok d r2 => exact fun w2 H2 t2 g2 => h' w2 H2 (t1.trans t2) g2
      | exc c fs r2 => exact fun w2 H2 cls dd t2 g2 x => h' w2 H2 cls dd (t1.trans t2) g2 x
      | bad => exact h'
    | exc c fs r1 => exact h
    | bad => exact h
end
theorem nil_len {ρ : En} {r r' : Rs} {ds : List D} (h : xNil ρ r = .ok ds r') : ds.length = 0 := by cases h; rfl
theorem cons_len {f : Ex} {g : Ax} {n : Nat} (hg : ∀ ρ r ds r', g ρ r = .ok ds r' → ds.length = n) : ∀ ρ r ds r', xCons f g ρ r = .ok ds r' → ds.length = n + 1 := fun ρ r ds r' h => by
  unfold xCons at h
  cases q : f ρ r with
  | ok d r1 =>
    rw [q] at h
    have h' : (g ρ r1).bind (fun ds r2 => .ok (d :: ds) r2) = Out.ok ds r' := h
    cases q2 : g ρ r1 with
    | ok es r2 =>
      rw [q2] at h'
      cases h'
      rw [List.length_cons, hg _ _ _ _ q2]
    | exc c fs r2 => rw [q2] at h'; cases h'
    | bad => rw [q2] at h'; cases h'
  | exc c fs r1 => rw [q] at h; cases h
  | bad => rw [q] at h; cases h
/-- the number of arguments, by the term -/
theorem len0 : ∀ (ρ : En) (r : Rs) (ds : List D) (r' : Rs), xNil ρ r = .ok ds r' → ds.length = 0 := fun _ _ _ _ h => nil_len h
end
end DL

/-! DL6: new lists; what is walked; comprehensions. -/
namespace DL
open PySem L2
section
variable {X : Cx} {W : WX}

/-! ### a new list -/
/-- what is known of a new list's place -/
structure NewL (K : PySem.W.Frag) (w : Wd) (H0 H : Hp) (ds : List D) (p : Addr) : Prop where
  fresh : H0 p = none
  nv : w.v p = none
  nm : p ∉ w.m
  at_ : ∃ xs, H p = some (.lst xs) ∧ Rps K w.m w.v ds xs
abbrev Lx := En → Rs → Out (List D)
def tN (K : PySem.W.Frag) (W : WX) (f : Lx) : TE := fun σ H Q => ∃ ρ r w, Good K w r H ∧ Slots K w ρ σ ∧
  After K W w H σ (f ρ r) fun ds w' _ H' => ∀ p, NewL K w' H H' ds p → Q (.ref p) H'
def xL (f : Lx) : Ex := fun ρ r => (f ρ r).bind fun ds r1 => .ok (.lst ds) r1
/-- an unseen object of one's own is shown -/
theorem tr_see {K : PySem.W.Frag} {w w0 : Wd} {r : Rs} {H0 H : Hp} {p : Addr} {o : HO} (g : Good K w r H) (t : Tr w0 H0 w H) (h0 : H0 p = none) (hv : w.v p = none) (hm : p ∉ w.m) (hp : H p = some o) : Tr w0 H0 (w.see p o) H ∧ Good K (w.see p o) r H := by
  have sb : Sub w.v (w.see p o).v := fun a u e => by
    have hne : a ≠ p := by rintro rfl; rw [hv] at e; cases e
    show upd w.v p o a = some u
    rw [upd_ne hne]; exact e
  refine ⟨⟨t.sub.trans sb, t.pre, t.keep, t.live, fun b e => ?_, t.newm, t.tups⟩, ⟨fun a u e => ?_, fun a ha => ?_, g.len, g.nd, fun n u e => ?_⟩⟩
  · by_cases hb : b = p
    · subst hb; exact .inr h0
    · have e' : upd w.v p o b ≠ none := e
      rw [upd_ne hb] at e'; exact t.newv b e'
  · have e' : upd w.v p o a = some u := e
    by_cases ha : a = p
    · subst ha; rw [upd_same] at e'; cases e'; exact hp
    · rw [upd_ne ha] at e'; exact g.sub a u e'
  · have hne : a ≠ p := by rintro rfl; exact hm ha
    show upd w.v p o a = none
    rw [upd_ne hne]; exact g.dis a ha
  · obtain ⟨a, ha, x⟩ := g.at_ n u e
    exact ⟨a, ha, roAt_mono sb.subT (.refl _) rfl x⟩
theorem de_n {e : Expr} {f : Lx} (h : PE X e (tN X.K W f)) : PE X e (tE X.K W (xL f)) := h.imp fun σ H Q ⟨ρ, r, w, g, s, h⟩ => by
  refine ⟨ρ, r, w, g, s, ?_⟩
  unfold xL at h
  revert h
  generalize f ρ r = o
  intro h
  cases o with
  | ok ds r1 =>
    intro w1 H1 t1 g1 p n
    obtain ⟨xs, hp, rx⟩ := n.at_
    obtain ⟨t2, g2⟩ := tr_see g1 t1 n.fresh n.nv n.nm hp
    refine h (w1.see p (.lst xs)) H1 t2 g2 (.ref p) (.lst see_at ?_)
    exact rx.mono (fun a u e => by
      have hne : a ≠ p := by rintro rfl; rw [n.nv] at e; cases e
      show upd w1.v p _ a = some u
      rw [upd_ne hne]; exact e) (.refl _)
  | exc c fs r1 => exact h
  | bad => exact h
/-- a new object that is not seen -/
theorem tr_hid {K : PySem.W.Frag} {w : Wd} {r : Rs} {H : Hp} (g : Good K w r H) {p : Addr} {o : HO} (h : H p = none) : Tr w H w (upd H p o) ∧ Good K w r (upd H p o) := by
  refine ⟨⟨.refl _, .refl _, fun b u e _ => by rw [upd_ne (ne_of_none e h)]; exact e, (tr_new (o := o) g h).live, fun b e => .inl e, fun b e => .inl e, (tr_new (o := o) g h).tups⟩, ⟨fun a u e => ?_, g.dis, g.len, g.nd, fun n u e => ?_⟩⟩
  · have hne : a ≠ p := by rintro rfl; rw [g.none_of h] at e; cases e
    rw [upd_ne hne]; exact g.sub a u e
  · obtain ⟨a, ha, x⟩ := g.at_ n u e
    refine ⟨a, ha, roAt_mono (fun _ _ h => h) (.refl _) ?_ x⟩
    have hne : a ≠ p := by rintro rfl; exact g.live (List.mem_iff_getElem?.mpr ⟨n, ha⟩) h
    exact upd_ne hne
theorem newL_hid {K : PySem.W.Frag} {w w0 : Wd} {r : Rs} {H0 H : Hp} (g : Good K w r H) (t : Tr w0 H0 w H) {p : Addr} {ds : List D} {xs : List V} (h : H p = none) (rx : Rps K w.m w.v ds xs) : NewL K w H0 (upd H p (.lst xs)) ds p :=
  ⟨t.fresh h, g.none_of h, fun hm => g.live hm h, xs, upd_same, rx⟩
def xLst' (f : Ax) : Lx := fun ρ r => (f ρ r).bind fun ds r1 => if ds.length ≤ lim then .ok ds r1 else .bad
theorem After.fst {K : PySem.W.Frag} {w : Wd} {H : Hp} {σ : L2.St} {α β : Type} {o : Out α} {f : α → Rs → Out β} {Q : β → Wd → Rs → Hp → Prop} {Q1 : α → Wd → Rs → Hp → Prop}
    (h : After K W w H σ (o.bind f) Q) (k : ∀ a w1 r1 H1, o = .ok a r1 → Tr w H w1 H1 → Good K w1 r1 H1 → (∀ b r2, f a r1 = .ok b r2 → ∀ w2 H2, Tr w H w2 H2 → Good K w2 r2 H2 → Q b w2 r2 H2) → After K W w1 H1 σ (f a r1) Q → Q1 a w1 r1 H1) : After K W w H σ o Q1 := by
  cases o with
  | ok a r =>
    intro w1 H1 t1 g1
    have h' : After K W w H σ (f a r) Q := h
    refine k a w1 r H1 rfl t1 g1 (fun b r2 e w2 H2 t2 g2 => ?_) ?_
    · rw [e] at h'
      exact h' w2 H2 t2 g2
    · revert h'
      generalize f a r = o2
      intro h'
      cases o2 with
      | ok b r2 => exact fun w2 H2 t2 g2 => h' w2 H2 (t1.trans t2) g2
      | exc c fs r2 => exact fun w2 H2 cls dd t2 g2 x => h' w2 H2 cls dd (t1.trans t2) g2 x
      | bad => exact h'
  | exc c fs r => exact h
  | bad => exact h
theorem dn_lst {es : List Expr} {pos : Pos} {f : Ax} (h : PA X es (tA X.K W f)) : PE X (.List es pos) (tN X.K W (xLst' f)) :=
  (pe_lst h).imp fun σ H Q ⟨ρ, r, w, gd, s, h⟩ => ⟨ρ, r, w, gd, s, h.fst fun ds w1 r1 H1 _ t1 g1 q h1 vs rvs => by
    split at h1
    · rename_i hl
      refine ⟨by rw [← rvs.length]; exact lim_le hl, fun p hp => ?_⟩
      obtain ⟨t2, g2⟩ := tr_hid (o := .lst vs) g1 hp
      exact q ds r1 (if_pos hl) w1 _ (t1.trans t2) g2 p (newL_hid g1 t1 hp rvs)
    · exact h1.elim⟩
/-- list(x) -/
def cListN : List D → Option (List D)
  | [.lst ds] => some ds
  | [.tup ds] => some ds
  | _ => none
def xListN (f : Ax) : Lx := fun ρ r => (f ρ r).bind fun ds r1 => match cListN ds with
  | some es => .ok es r1
  | none => .bad
theorem dn_list {x : Str} {p pos : Pos} {e : Expr} {es : List Expr} {f : Ax} (hg : Gl X x) (hm : X.mg x = none) (hv : bootBuiltins x = some (.type "list")) (ha : PA X (e :: es) (tA X.K W f)) (hn : x ≠ "__name__" := by decide) (hdb : (x == ("__debug__" : Str)) = false := by decide)
    (he : starEach (e :: es) X.env = (false, eval e X.env) :: starEach es X.env := by rfl) (hpl : (backTo pos (starEach es X.env)).any (·.1) = false := by rfl) : PE X (.Call (.Name x p) (e :: es) [] pos) (tN X.K W (xListN f)) :=
  (pe_callTy call_list_of hg hm hv ha hn hdb he hpl).imp fun σ H Q ⟨ρ, r, w, gd, s, h⟩ => ⟨ρ, r, w, gd, s, h.fst fun ds w1 r1 H1 _ t1 g1 q h1 vs rvs => by
    split at h1
    · rename_i es e
      have e' : (match cListN ds with | some es => Out.ok es r1 | none => .bad) = .ok es r1 := by rw [e]
      cases rvs with
      | nil => cases e
      | cons rv rt =>
        cases rt with
        | cons _ _ => cases rv <;> cases e
        | nil =>
          cases rv with
          | tup hx rx =>
            cases e
            refine ⟨_, _, rfl, .inr (g1.sub.sqT hx), fun p hp => ?_⟩
            obtain ⟨t2, g2⟩ := tr_hid g1 hp
            exact q _ r1 e' w1 _ (t1.trans t2) g2 p (newL_hid g1 t1 hp rx)
          | lst hx rx =>
            cases e
            refine ⟨_, _, rfl, .inl (SqL.of (g1.sub _ _ hx)), fun p hp => ?_⟩
            obtain ⟨t2, g2⟩ := tr_hid g1 hp
            exact q _ r1 e' w1 _ (t1.trans t2) g2 p (newL_hid g1 t1 hp rx)
          | _ => cases e
    · exact h1.elim⟩

/-! ### what is walked -/
/-- the iterator gives the data one by one, as long as what is seen stands -/
def Walks (K : PySem.W.Frag) (J : It) (w : Wd) (ds : List D) : Prop := ∀ w' r' H', Sub w.v w'.v → Pre w.m w'.m → Good K w' r' H' → ∀ i : Nat,
  (∀ d, ds[i]? = some d → J.go i H' ∧ ∀ x H2, J.yld i H' x H2 → ∃ w2, Tr w' H' w2 H2 ∧ Good K w2 r' H2 ∧ Rp K w2.m w2.v d x) ∧ (ds.length ≤ i → J.stop i H')
def tI (K : PySem.W.Frag) (W : WX) (f : Lx) : TI := fun σ H R => ∃ ρ r w, Good K w r H ∧ Slots K w ρ σ ∧
  After K W w H σ (f ρ r) fun ds w' _ H' => ∀ J, Walks K J w' ds → R J H'
theorem _root_.L2.PI.imp {X : Cx} {tg e : Expr} {t t' : TI} (h : PI X tg e t) (i : ∀ σ H Q, t' σ H Q → t σ H Q) : PI X tg e t' := ⟨fun pins s σ H Q I q => h.run pins s σ H Q I (i σ H Q q)⟩
theorem _root_.L2.PI.or {X : Cx} {tg e : Expr} {t t' : TI} (h : PI X tg e t) (h' : PI X tg e t') : PI X tg e (fun σ H R => t σ H R ∨ t' σ H R) := ⟨fun pins s σ H Q I q => by
  rcases q with q | q
  · exact h.run pins s σ H Q I q
  · exact h'.run pins s σ H Q I q⟩
def signs (s : Str) : List D := s.cps.toList.map fun c => .str ⟨#[c]⟩
def items : D → Option (List D)
  | .lst ds => some ds
  | .tup ds => some ds
  | .str s => some (signs s)
  | _ => none
def xItems (f : Ex) : Lx := fun ρ r => (f ρ r).bind fun d r1 => match items d with
  | some ds => .ok ds r1
  | none => .bad
theorem Rps.at_ {K : PySem.W.Frag} {m : List Addr} {H : Hp} {ds : List D} {vs : List V} {i : Nat} {d : D} {v : V} (h : Rps K m H ds vs) (e : ds[i]? = some d) (e' : vs[i]? = some v) : Rp K m H d v := by
  obtain ⟨v', h1, h2⟩ := h.get e
  rw [h1] at e'
  cases e'
  exact h2
theorem walks_lst {K : PySem.W.Frag} {w : Wd} {a : Addr} {xs : List V} {ds : List D} (hx : w.v a = some (.lst xs)) (rx : Rps K w.m w.v ds xs) : Walks K (Itl K a) w ds := by
  intro w' r' H' sb pr g i
  have h1 : SqL K H' a xs := SqL.of (g.sub _ _ (sb _ _ hx))
  refine ⟨fun d e => ?_, fun hl => ⟨xs, h1, by rw [← rx.length]; exact hl⟩⟩
  obtain ⟨v, hv, _⟩ := rx.get e
  refine ⟨⟨xs, v, h1, hv⟩, fun x H2 y => ?_⟩
  obtain ⟨e2, y⟩ := y
  subst e2
  have := y xs h1
  exact ⟨w', .refl _ _, g, (rx.mono sb pr).at_ e this⟩
theorem walks_tup {K : PySem.W.Frag} {w : Wd} {a : Addr} {xs : List V} {ds : List D} (hx : SqT K w.v a xs) (rx : Rps K w.m w.v ds xs) : Walks K (Itt K a) w ds := by
  intro w' r' H' sb pr g i
  have h1 : SqT K H' a xs := g.sub.sqT (sb.sqT hx)
  refine ⟨fun d e => ?_, fun hl => ⟨xs, h1, by rw [← rx.length]; exact hl⟩⟩
  obtain ⟨v, hv, _⟩ := rx.get e
  refine ⟨⟨xs, v, h1, hv⟩, fun x H2 y => ?_⟩
  obtain ⟨e2, y⟩ := y
  subst e2
  have := y xs h1
  exact ⟨w', .refl _ _, g, (rx.mono sb pr).at_ e this⟩
theorem signs_len (s : Str) : (signs s).length = s.cps.size := by simp [signs]
theorem walks_str {K : PySem.W.Frag} {w : Wd} (s : Str) : Walks K (Its s) w (signs s) := by
  intro w' r' H' sb pr g i
  refine ⟨fun d e => ?_, fun hl => by rw [signs_len] at hl; exact hl⟩
  have hi : i < s.cps.size := by
    rw [← signs_len]
    exact (List.getElem?_eq_some_iff.mp e).1
  refine ⟨hi, fun x H2 y => ?_⟩
  obtain ⟨e2, c, hc, ex⟩ := y
  subst e2
  subst ex
  refine ⟨w', .refl _ _, g, ?_⟩
  have hd : d = .str ⟨#[c]⟩ := by
    unfold signs at e
    rw [List.getElem?_map] at e
    have hc' : s.cps.toList[i]? = some c := by rw [Array.getElem?_toList]; exact hc
    rw [hc'] at e
    exact (Option.some.inj e).symm
  rw [hd]
  exact .str _
theorem di_seq {tg e : Expr} {f : Ex} (h : PE X e (tE X.K W f)) : PI X tg e (tI X.K W (xItems f)) :=
  ((pi_list h).or ((pi_tup h).or (pi_str h))).imp fun σ H R ⟨ρ, r, w, gd, s, q⟩ => by
    unfold xItems at q
    have q' := q
    revert q
    generalize ho : f ρ r = o
    intro q
    cases o with
    | ok d r1 =>
      have q1 : After X.K W w H σ (match items d with | some ds => .ok ds r1 | none => .bad) (fun ds w' _ H' => ∀ J, Walks X.K J w' ds → R J H') := q
      cases d with
      | lst ds =>
        refine .inl ⟨ρ, r, w, gd, s, ?_⟩
        rw [ho]
        intro w1 H1 t1 g1 v rv
        cases rv with
        | lst hx rx => exact ⟨_, rfl, ⟨_, SqL.of (g1.sub _ _ hx)⟩, q1 w1 H1 t1 g1 _ (walks_lst hx rx)⟩
      | tup ds =>
        refine .inr (.inl ⟨ρ, r, w, gd, s, ?_⟩)
        rw [ho]
        intro w1 H1 t1 g1 v rv
        cases rv with
        | tup hx rx => exact ⟨_, rfl, ⟨_, g1.sub.sqT hx⟩, q1 w1 H1 t1 g1 _ (walks_tup hx rx)⟩
      | str x =>
        refine .inr (.inr ⟨ρ, r, w, gd, s, ?_⟩)
        rw [ho]
        intro w1 H1 t1 g1 v rv
        cases rv with
        | str => exact ⟨_, rfl, q1 w1 H1 t1 g1 _ (walks_str x)⟩
      | _ => exact False.elim q1
    | exc c fs r1 =>
      refine .inl ⟨ρ, r, w, gd, s, ?_⟩
      rw [ho]
      exact q
    | bad => exact False.elim q
/-- range -/
def rng (lo : Int) (n : Nat) : List D := (List.range n).map fun i => .int (lo + (i : Nat))
theorem rng_len (lo : Int) (n : Nat) : (rng lo n).length = n := by simp [rng]
theorem walks_rng {K : PySem.W.Frag} {w : Wd} (lo : Int) (n : Nat) : Walks K (Itr lo n) w (rng lo n) := by
  intro w' r' H' sb pr g i
  refine ⟨fun d e => ?_, fun hl => by rw [rng_len] at hl; exact hl⟩
  have hi : i < n := by
    have := (List.getElem?_eq_some_iff.mp e).1
    rwa [rng_len] at this
  refine ⟨hi, fun x H2 y => ?_⟩
  obtain ⟨e2, ex⟩ := y
  subst e2
  subst ex
  refine ⟨w', .refl _ _, g, ?_⟩
  have hd : d = .int (lo + (i : Nat)) := by
    unfold rng at e
    rw [List.getElem?_map, List.getElem?_range hi] at e
    exact (Option.some.inj e).symm
  rw [hd]
  exact .int _
def big (i : Int) : Bool := decide (i.natAbs < 2 ^ 62)
theorem big_of {i : Int} (h : big i = true) : -(2 ^ 62) ≤ i ∧ i < 2 ^ 62 := by
  unfold big at h
  rw [decide_eq_true_eq] at h
  omega
def xRng1 (f : Ax) : Lx := fun ρ r => (f ρ r).bind fun ds r1 => match ds with
  | [.int j] => if big j then .ok (rng 0 j.toNat) r1 else .bad
  | _ => .bad
def xRng2 (f : Ax) : Lx := fun ρ r => (f ρ r).bind fun ds r1 => match ds with
  | [.int i, .int j] => if big i && big j then .ok (rng i (j - i).toNat) r1 else .bad
  | _ => .bad
theorem di_rng1 {tg a : Expr} {f : Ax} {p pos : Pos} (hg : Gl X "range") (hm : X.mg "range" = none) (ha : PA X [a] (tA X.K W f)) (hs : starEach [a] X.env = [(false, eval a X.env)] := by rfl) : PI X tg (.Call (.Name "range" p) [a] [] pos) (tI X.K W (xRng1 f)) :=
  (pi_range1 hg hm ha hs).imp fun σ H R ⟨ρ, r, w, gd, s, q⟩ => ⟨ρ, r, w, gd, s, q.bind fun ds w1 r1 H1 t1 g1 q1 vs rvs => by
    split at q1
    · rename_i j
      split at q1
      · rename_i hb
        cases rvs with
        | cons r1 r2 =>
          cases r1
          cases r2
          exact ⟨j, rfl, (big_of hb).1, (big_of hb).2, q1.ok g1 _ (walks_rng 0 _)⟩
      · exact q1.elim
    · exact q1.elim⟩
theorem di_rng2 {tg a b : Expr} {f : Ax} {p pos : Pos} (hg : Gl X "range") (hm : X.mg "range" = none) (ha : PA X [a, b] (tA X.K W f)) (hs : starEach [a, b] X.env = [(false, eval a X.env), (false, eval b X.env)] := by rfl) (hs2 : starEach [b] X.env = [(false, eval b X.env)] := by rfl) :
    PI X tg (.Call (.Name "range" p) [a, b] [] pos) (tI X.K W (xRng2 f)) :=
  (pi_range2 hg hm ha hs hs2).imp fun σ H R ⟨ρ, r, w, gd, s, q⟩ => ⟨ρ, r, w, gd, s, q.bind fun ds w1 r1 H1 t1 g1 q1 vs rvs => by
    split at q1
    · rename_i i j
      split at q1
      · rename_i hb
        rw [Bool.and_eq_true] at hb
        cases rvs with
        | cons r1 r2 =>
          cases r1
          cases r2 with
          | cons r3 r4 =>
            cases r3
            cases r4
            exact ⟨i, j, rfl, ⟨(big_of hb.1).1, (big_of hb.1).2, (big_of hb.2).1, (big_of hb.2).2⟩, q1.ok g1 _ (walks_rng i _)⟩
      · exact q1.elim
    · exact q1.elim⟩

/-! ### targets -/
abbrev Tg := D → En → Option En
/-- a target that stores into slots alone, those of js -/
def TgD (K : PySem.W.Frag) (g : TG) (t : Tg) (js : List Nat) : Prop := ∀ (w : Wd) (r : Rs) (H : Hp) (ρ ρ' : En) (σ : L2.St) (d : D) (v : V), Good K w r H → ρ.length = σ.length → Rp K w.m w.v d v → t d ρ = some ρ' →
  ∃ σ', (∀ Q : L2.St → Hp → Prop, Q σ' H → g v σ H Q) ∧ ρ'.length = ρ.length ∧ σ'.length = σ.length ∧ ∀ i : Nat, (ρ'[i]? = ρ[i]? ∧ σ'[i]? = σ[i]?) ∨ (i ∈ js ∧ ∃ e x, ρ'[i]? = some (some e) ∧ σ'[i]? = some (some x) ∧ Rp K w.m w.v e x)
def gNm (i : Nat) : Tg := fun d ρ => if i < ρ.length then some (ρ.set i (some d)) else none
theorem tg_name (K : PySem.W.Frag) (i : Nat) : TgD K (gName i) (gNm i) [i] := fun w r H ρ ρ' σ d v g hl rv e => by
  unfold gNm at e
  split at e
  · rename_i hi
    cases e
    refine ⟨σ.set i (some v), fun Q q => q, List.length_set, List.length_set, fun j => ?_⟩
    by_cases hj : i = j
    · subst hj
      exact .inr ⟨List.mem_singleton.mpr rfl, d, v, List.getElem?_set_self hi, List.getElem?_set_self (by rw [← hl]; exact hi), rv⟩
    · exact .inl ⟨List.getElem?_set_ne hj, List.getElem?_set_ne hj⟩
  · cases e
/-- several names in a row -/
def TgsD (K : PySem.W.Frag) (g : TGs) (t : List D → En → Option En) (js : List Nat) : Prop := ∀ (w : Wd) (r : Rs) (H : Hp) (ρ ρ' : En) (σ : L2.St) (ds : List D) (vs : List V), Good K w r H → ρ.length = σ.length → Rps K w.m w.v ds vs → t ds ρ = some ρ' →
  ∃ σ', (∀ Q : L2.St → Hp → Prop, Q σ' H → g vs σ H Q) ∧ ρ'.length = ρ.length ∧ σ'.length = σ.length ∧ ∀ i : Nat, (ρ'[i]? = ρ[i]? ∧ σ'[i]? = σ[i]?) ∨ (i ∈ js ∧ ∃ e x, ρ'[i]? = some (some e) ∧ σ'[i]? = some (some x) ∧ Rp K w.m w.v e x)
def gNil' : List D → En → Option En
  | [], ρ => some ρ
  | _, _ => none
def gCons' (t : Tg) (u : List D → En → Option En) : List D → En → Option En
  | d :: ds, ρ => (t d ρ).bind fun ρ1 => u ds ρ1
  | _, _ => none
theorem tgs_nil (K : PySem.W.Frag) : TgsD K gNil gNil' [] := fun w r H ρ ρ' σ ds vs g hl rv e => by
  cases rv with
  | nil =>
    cases e
    exact ⟨σ, fun Q q => ⟨rfl, q⟩, rfl, rfl, fun i => .inl ⟨rfl, rfl⟩⟩
  | cons _ _ => cases e
theorem tgs_cons {K : PySem.W.Frag} {g : TG} {t : Tg} {js : List Nat} {gs : TGs} {u : List D → En → Option En} {ks : List Nat} (h : TgD K g t js) (h' : TgsD K gs u ks) : TgsD K (gCons g gs) (gCons' t u) (js ++ ks) := fun w r H ρ ρ' σ ds vs gd hl rv e => by
  cases rv with
  | nil => cases e
  | cons rv rt =>
    rename_i d ds v vs
    cases e1 : t d ρ with
    | none =>
      have e' : (t d ρ).bind (fun ρ1 => u ds ρ1) = some ρ' := e
      rw [e1] at e'
      cases e'
    | some ρ1 =>
      have e' : (t d ρ).bind (fun ρ1 => u ds ρ1) = some ρ' := e
      rw [e1] at e'
      obtain ⟨σ1, a1, a2, a3, a4⟩ := h w r H ρ ρ1 σ d v gd hl rv e1
      obtain ⟨σ2, b1, b2, b3, b4⟩ := h' w r H ρ1 ρ' σ1 ds vs gd (by rw [a2, a3, hl]) rt e'
      refine ⟨σ2, fun Q q => ⟨v, vs, rfl, a1 _ (b1 Q q)⟩, by rw [b2, a2], by rw [b3, a3], fun i => ?_⟩
      rcases b4 i with ⟨q1, q2⟩ | ⟨m, q⟩
      · rcases a4 i with ⟨p1, p2⟩ | ⟨m, e, x, p1, p2, p3⟩
        · exact .inl ⟨q1.trans p1, q2.trans p2⟩
        · exact .inr ⟨List.mem_append_left _ m, e, x, q1.trans p1, q2.trans p2, p3⟩
      · exact .inr ⟨List.mem_append_right _ m, q⟩
/-- a, b = a tuple -/
def gTp (n : Nat) (u : List D → En → Option En) : Tg := fun d ρ => match d with
  | .tup ds => if ds.length = n then u ds ρ else none
  | _ => none
theorem tg_tup {K : PySem.W.Frag} {gs : TGs} {u : List D → En → Option En} {ks : List Nat} (n : Nat) (h : TgsD K gs u ks) : TgD K (gTup K n gs) (gTp n u) ks := fun w r H ρ ρ' σ d v gd hl rv e => by
  cases rv <;> simp only [gTp] at e <;> first | (cases e; done) | skip
  rename_i a xs ds hx rx
  split at e
  · rename_i hn
    obtain ⟨σ1, a1, a2, a3, a4⟩ := h w r H ρ ρ' σ _ _ gd hl rx e
    exact ⟨σ1, fun Q q => ⟨_, _, rfl, gd.sub.sqT hx, by rw [← rx.length]; exact hn, a1 Q q⟩, a2, a3, a4⟩
  · cases e
/-- a, b = a list -/
def gLs (n : Nat) (u : List D → En → Option En) : Tg := fun d ρ => match d with
  | .lst ds => if ds.length = n then u ds ρ else none
  | _ => none
theorem tg_lst {K : PySem.W.Frag} {gs : TGs} {u : List D → En → Option En} {ks : List Nat} (n : Nat) (h : TgsD K gs u ks) : TgD K (gLst K n gs) (gLs n u) ks := fun w r H ρ ρ' σ d v gd hl rv e => by
  cases rv <;> simp only [gLs] at e <;> first | (cases e; done) | skip
  rename_i a xs ds hx rx
  split at e
  · rename_i hn
    obtain ⟨σ1, a1, a2, a3, a4⟩ := h w r H ρ ρ' σ _ _ gd hl rx e
    exact ⟨σ1, fun Q q => ⟨_, _, rfl, SqL.of (gd.sub _ _ hx), by rw [← rx.length]; exact hn, a1 Q q⟩, a2, a3, a4⟩
  · cases e
theorem TgD.slots {K : PySem.W.Frag} {g : TG} {t : Tg} {js : List Nat} (h : TgD K g t js) {w : Wd} {r : Rs} {H : Hp} {ρ ρ' : En} {σ : L2.St} {d : D} {v : V} (gd : Good K w r H) (s : Slots K w ρ σ) (rv : Rp K w.m w.v d v) (e : t d ρ = some ρ') :
    ∃ σ', (∀ Q : L2.St → Hp → Prop, Q σ' H → g v σ H Q) ∧ Slots K w ρ' σ' ∧ σ'.length = σ.length ∧ ∀ i, i ∉ js → σ'[i]? = σ[i]? := by
  obtain ⟨σ', h1, h2, h4, h3⟩ := h w r H ρ ρ' σ d v gd s.len rv e
  refine ⟨σ', h1, ⟨by rw [h2, h4, s.len], fun i d' e' => ?_⟩, h4, fun i hi => ?_⟩
  · rcases h3 i with ⟨q1, q2⟩ | ⟨_, e2, x, q1, q2, q3⟩
    · rw [q1] at e'
      rw [q2]
      exact s.at_ i d' e'
    · rw [q1] at e'
      cases e'
      exact ⟨x, q2, q3⟩
  · rcases h3 i with ⟨_, q2⟩ | ⟨m, _⟩
    · exact q2
    · exact absurd m hi
end
end DL

/-! DL7: comprehensions. -/
namespace DL
open PySem L2
section
variable {X : Cx} {W : WX}
abbrev W0 : WX := fun _ _ _ _ => False

/-- an unseen object of one's own is changed -/
theorem tr_own {K : PySem.W.Frag} {w w0 : Wd} {r : Rs} {H0 H : Hp} {p : Addr} {o u : HO} (g : Good K w r H) (t : Tr w0 H0 w H) (h0 : H0 p = none) (hv : w.v p = none) (hm : p ∉ w.m) (hp : H p = some o) : Tr w0 H0 w (upd H p u) ∧ Good K w r (upd H p u) := by
  refine ⟨⟨t.sub, t.pre, fun b x e n => ?_, fun b e => ?_, t.newv, t.newm, fun b xs e => ?_⟩, ⟨fun a x e => ?_, g.dis, g.len, g.nd, fun n x e => ?_⟩⟩
  · have hne : b ≠ p := by rintro rfl; rw [h0] at e; cases e
    rw [upd_ne hne]; exact t.keep b x e n
  · by_cases hb : b = p
    · subst hb; rw [upd_same]; intro z; cases z
    · rw [upd_ne hb]; exact t.live b e
  · have hne : b ≠ p := by
      rintro rfl
      rcases e with e | ⟨y, e⟩ <;> (rw [h0] at e; cases e)
    rcases t.tups b xs e with e | ⟨y, e⟩
    · exact .inl (by rw [upd_ne hne]; exact e)
    · exact .inr ⟨y, by rw [upd_ne hne]; exact e⟩
  · have hne : a ≠ p := by rintro rfl; rw [hv] at e; cases e
    rw [upd_ne hne]; exact g.sub a x e
  · obtain ⟨a, ha, q⟩ := g.at_ n x e
    have hne : a ≠ p := by rintro rfl; exact hm (List.mem_iff_getElem?.mpr ⟨n, ha⟩)
    exact ⟨a, ha, roAt_mono (fun _ _ h => h) (.refl _) (upd_ne hne) q⟩

def wipeE (ρ : En) : List Nat → En
  | [] => ρ
  | v :: vs => (wipeE ρ vs).set v none
theorem wipeE_len (ρ : En) : ∀ vs, (wipeE ρ vs).length = ρ.length
  | [] => rfl
  | v :: vs => by unfold wipeE; rw [List.length_set, wipeE_len ρ vs]
theorem wipeE_some {ρ : En} {i : Nat} {x : D} : ∀ {vs : List Nat}, (wipeE ρ vs)[i]? = some (some x) → ρ[i]? = some (some x) ∧ i ∉ vs
  | [], h => ⟨h, by simp⟩
  | v :: vs, h => by
    unfold wipeE at h
    by_cases hi : v = i
    · subst hi
      by_cases hv : v < (wipeE ρ vs).length
      · rw [List.getElem?_set_self hv] at h; cases h
      · rw [List.getElem?_eq_none (by simpa using hv)] at h; cases h
    · rw [List.getElem?_set_ne hi] at h
      obtain ⟨h1, h2⟩ := wipeE_some h
      exact ⟨h1, by simp only [List.mem_cons, not_or]; exact ⟨fun e => hi e.symm, h2⟩⟩
theorem Slots.wipe {K : PySem.W.Frag} {w : Wd} {ρ : En} {σ : L2.St} (s : Slots K w ρ σ) (vs : List Nat) : Slots K w (wipeE ρ vs) (wipe σ vs) := by
  refine ⟨by rw [wipeE_len, wipe_length, s.len], fun i d e => ?_⟩
  obtain ⟨h1, h2⟩ := wipeE_some e
  rw [wipe_out h2]
  exact s.at_ i d h1
theorem wipe_in {σ : L2.St} {i : Nat} : ∀ {vs : List Nat}, i ∈ vs → i < σ.length → (wipe σ vs)[i]? = some none
  | [], h, _ => by cases h
  | v :: vs, h, hl => by
    unfold L2.wipe
    by_cases hv : v = i
    · subst hv
      exact List.getElem?_set_self (by rw [wipe_length]; exact hl)
    · rw [List.getElem?_set_ne hv]
      rcases List.mem_cons.mp h with e | h
      · exact absurd e.symm hv
      · exact wipe_in h hl
theorem wipe_eq {σ τ : L2.St} {vs : List Nat} (hl : σ.length = τ.length) (h : ∀ i, i ∉ vs → σ[i]? = τ[i]?) : wipe σ vs = wipe τ vs := by
  apply List.ext_getElem?
  intro i
  by_cases hi : i ∈ vs
  · by_cases hlt : i < σ.length
    · rw [wipe_in hi hlt, wipe_in hi (by rw [← hl]; exact hlt)]
    · rw [List.getElem?_eq_none (by rw [wipe_length]; omega), List.getElem?_eq_none (by rw [wipe_length]; omega)]
  · rw [wipe_out hi, wipe_out hi]
    exact h i hi
theorem wipe_wipe {σ : L2.St} (vs : List Nat) : wipe (wipe σ vs) vs = wipe σ vs := wipe_eq (wipe_length _ _) fun _ hi => wipe_out hi

/-- a comprehension's turns -/
def lcGo (tg : Tg) (t : Tx) (f : Ex) (ρ : En) : List D → Rs → Option (List D × Rs)
  | [], r => some ([], r)
  | d :: ds, r => (tg d ρ).bind fun ρ1 => match t ρ1 r with
    | .ok true r1 => match f ρ1 r1 with
      | .ok e r2 => (lcGo tg t f ρ ds r2).map fun p => (e :: p.1, p.2)
      | _ => none
    | .ok false r1 => lcGo tg t f ρ ds r1
    | _ => none
def xLc (it : Lx) (tg : Tg) (t : Tx) (f : Ex) (vs : List Nat) : Lx := fun ρ r => (it ρ r).bind fun ds r1 => match lcGo tg t f (wipeE ρ vs) ds r1 with
  | some p => if p.1.length ≤ lim then .ok p.1 p.2 else .bad
  | none => .bad
def xYes : Tx := fun _ r => .ok true r
def tTs (K : PySem.W.Frag) (f : Tx) : TT := tT K W0 f
theorem _root_.L2.PTs.imp {X : Cx} {e : List Expr} {t t' : TT} (h : PTs X e t) (i : ∀ σ H Q, t' σ H Q → t σ H Q) : PTs X e t' := ⟨fun pins s σ H Q I q => h.run pins s σ H Q I (i σ H Q q)⟩
theorem dts_nil : PTs X [] (tT X.K W0 xYes) := pts_nil.imp fun σ H Q ⟨ρ, r, w, gd, s, h⟩ => h.ok gd
theorem dts_one {c : Expr} {f : Tx} (h : PT X c (tT X.K W0 f)) : PTs X [c] (tT X.K W0 f) := pts_one h
structure LcInv (K : PySem.W.Frag) (w1 : Wd) (H1 : Hp) (ps : Addr) (ds es : List D) (rE : Rs) (tg : Tg) (t : Tx) (f : Ex) (ρ : En) (i : Nat) (H : Hp) : Prop where
  le : i ≤ ds.length
  ex : ∃ w r acc done rest, Tr w1 H1 w H ∧ Good K w r H ∧ w.v ps = none ∧ ps ∉ w.m ∧ H ps = some (.lst acc) ∧ Rps K w.m w.v done acc ∧ lcGo tg t f ρ (ds.drop i) r = some (rest, rE) ∧ es = done ++ rest
theorem lc_dl {K : PySem.W.Frag} {it : Lx} {g : TG} {tg : Tg} {js : List Nat} {t : Tx} {f : Ex} {vs : List Nat} (hg : TgD K g tg js) (hj : ∀ j ∈ js, j ∈ vs) {σ : L2.St} {H : Hp} {Q : VK} (h : tN K W (xLc it tg t f vs) σ H Q) :
    tLc (tI K W it) g (tT K W0 t) (tE K W0 f) vs σ H Q := by
  obtain ⟨ρ, r, w, gd, s, h⟩ := h
  refine ⟨ρ, r, w, gd, s, h.fst fun ds w1 r1 H1 _ t1 g1 q h1 J wk D hD => ?_⟩
  cases e : lcGo tg t f (wipeE ρ vs) ds r1 with
  | none => rw [e] at h1; exact h1.elim
  | some p =>
    obtain ⟨es, rE⟩ := p
    rw [e] at h1 q
    dsimp only at h1 q
    split at h1
    · rename_i hl
      have q := q es rE (if_pos hl)
      have s1 := s.mono t1
      refine ⟨fun i m H => m = ds.length - i ∧ LcInv K w1 H1 D ds es rE tg t f (wipeE ρ vs) i H, ⟨ds.length, by simp, ⟨Nat.zero_le _, ?_⟩⟩, ?_⟩
      · obtain ⟨t2, g2⟩ := tr_hid (o := .lst []) g1 hD
        exact ⟨w1, r1, [], [], es, t2, g2, g1.none_of hD, fun hm => g1.live hm hD, upd_same, .nil, by rw [List.drop_zero]; exact e, rfl⟩
      · rintro i m H' ⟨rfl, le, w', r', acc, done, rest, t', g', nv, nm, hDl, rd, hgo, hes⟩
        by_cases hlt : i < ds.length
        · refine .inr ?_
          have hd : ds[i]? = some ds[i] := List.getElem?_eq_getElem hlt
          obtain ⟨go, yl⟩ := (wk w' r' H' t'.sub t'.pre g' i).1 _ hd
          refine ⟨go, fun H2 => LcInv K w1 H1 D ds es rE tg t f (wipeE ρ vs) (i + 1) H2, fun H2 p => ⟨ds.length - (i + 1), by omega, rfl, p⟩, fun x H2 y => ?_⟩
          obtain ⟨w2, t2, g2, rx⟩ := yl x H2 y
          rw [List.drop_eq_getElem_cons hlt] at hgo
          unfold lcGo at hgo
          cases e1 : tg ds[i] (wipeE ρ vs) with
          | none => rw [e1] at hgo; cases hgo
          | some ρ1 =>
            rw [e1] at hgo
            have hgo : (match t ρ1 r' with
              | .ok true r1 => match f ρ1 r1 with
                | .ok e r2 => (lcGo tg t f (wipeE ρ vs) (ds.drop (i + 1)) r2).map fun p => (e :: p.1, p.2)
                | _ => none
              | .ok false r1 => lcGo tg t f (wipeE ρ vs) (ds.drop (i + 1)) r1
              | _ => none) = some (rest, rE) := hgo
            have sw : Slots K w2 (wipeE ρ vs) (wipe σ vs) := ((s1.mono t').mono t2).wipe vs
            obtain ⟨σ2, k1, s2, k2, k3⟩ := hg.slots g2 sw rx e1
            refine k1 _ ⟨?_, ρ1, r', w2, g2, s2, ?_⟩
            · rw [← wipe_wipe (σ := σ) vs]
              exact wipe_eq k2 fun j hj' => k3 j fun m => hj' (hj j m)
            · have t12 := t'.trans t2
              have keepD : ∀ {w3 : Wd} {H3 : Hp}, Tr w2 H2 w3 H3 → w3.v D = none ∧ D ∉ w3.m ∧ H3 D = some (.lst acc) := fun {w3 H3} t3 => by
                have a := t2.trans t3
                refine ⟨?_, fun hm => ?_, a.keep D _ hDl nm⟩
                · cases ev : w3.v D with
                  | none => rfl
                  | some o =>
                    rcases a.newv D (by rw [ev]; intro z; cases z) with z | z
                    · exact absurd nv z
                    · rw [hDl] at z; cases z
                · rcases a.newm D hm with z | z
                  · exact nm z
                  · rw [hDl] at z; cases z
              cases et : t ρ1 r' with
              | exc c fs r3 => rw [et] at hgo; cases hgo
              | bad => rw [et] at hgo; cases hgo
              | ok b r3 =>
                rw [et] at hgo
                intro w3 H3 t3 g3
                cases b with
                | false =>
                  refine iteF ⟨hlt, w3, r3, acc, done, rest, t12.trans t3, g3, (keepD t3).1, (keepD t3).2.1, (keepD t3).2.2, (t2.trans t3).rps rd, hgo, hes⟩
                | true =>
                  refine iteT ⟨ρ1, r3, w3, g3, s2.mono t3, ?_⟩
                  have hgo : (match f ρ1 r3 with
                    | .ok e r2 => (lcGo tg t f (wipeE ρ vs) (ds.drop (i + 1)) r2).map fun p => (e :: p.1, p.2)
                    | _ => none) = some (rest, rE) := hgo
                  cases ef : f ρ1 r3 with
                  | exc c fs r4 => rw [ef] at hgo; cases hgo
                  | bad => rw [ef] at hgo; cases hgo
                  | ok d r4 =>
                    rw [ef] at hgo
                    have hgo : (lcGo tg t f (wipeE ρ vs) (ds.drop (i + 1)) r4).map (fun p => (d :: p.1, p.2)) = some (rest, rE) := hgo
                    cases el : lcGo tg t f (wipeE ρ vs) (ds.drop (i + 1)) r4 with
                    | none => rw [el] at hgo; cases hgo
                    | some p =>
                      rw [el] at hgo
                      obtain ⟨rest', rE'⟩ := p
                      cases hgo
                      intro w4 H4 t4 g4 y ry
                      obtain ⟨n1, n2, n3⟩ := keepD (t3.trans t4)
                      refine ⟨acc, n3, ?_, hlt, ?_⟩
                      · rw [← rd.length]
                        have : es.length = done.length + (rest'.length + 1) := by rw [hes, List.length_append, List.length_cons]
                        exact lim_lt (by omega)
                      · have tt := (t12.trans t3).trans t4
                        obtain ⟨t5, g5⟩ := tr_own (u := .lst (acc ++ [y])) g4 tt hD n1 n2 n3
                        refine ⟨w4, r4, acc ++ [y], done ++ [d], rest', t5, g5, n1, n2, upd_same, ?_, el, by rw [hes, List.append_assoc]; rfl⟩
                        exact (((t2.trans t3).trans t4).rps rd).append (.cons ry .nil)
        · have ei : i = ds.length := by omega
          subst ei
          refine .inl ⟨(wk w' r' H' t'.sub t'.pre g' ds.length).2 (Nat.le_refl _), ?_⟩
          rw [List.drop_length] at hgo
          cases hgo
          rw [List.append_nil] at hes
          subst hes
          exact q w' H' (t1.trans t') g' D ⟨t1.fresh hD, nv, nm, acc, hDl, rd⟩
    · exact h1.elim
section
variable {elt tg iter : Expr} {ifs : List Expr} {scope : Scope} {own : List (Str × Nat)} {pos : Pos} {it : Lx} {g : TG} {dt : Tg} {js : List Nat} {t : Tx} {f : Ex}
theorem dn_lc (hc : X.calm = true) (hN : X.N.Nodup) (hi : PI X tg iter (tI X.K W it)) (ok : BlkOk X.N X.env.scope scope own) (hd : TgD X.K g dt js) (hj : ∀ j ∈ js, j ∈ own.map (·.2))
    (hg : ∀ (s : Shared) (H : Hp) (C : Addr) (cl : List (Str × Addr)) (fp : List Addr), PG (X.blk s H scope (compEnvC scope cl C X.env) fp) tg g) (ht : ∀ (s : Shared) (H : Hp) (C : Addr) (cl : List (Str × Addr)) (fp : List Addr), PTs (X.blk s H scope (compEnvC scope cl C X.env) fp) ifs (tT X.K W0 t))
    (he : ∀ (s : Shared) (H : Hp) (C : Addr) (cl : List (Str × Addr)) (fp : List Addr), PE (X.blk s H scope (compEnvC scope cl C X.env) fp) elt (tE X.K W0 f)) (hs : ∀ x, foldedSetIterable iter X.env x = pure x := by intro _; rfl) :
    PE X (.ListComp elt [⟨tg, iter, ifs, 0⟩] scope pos) (tN X.K W (xLc it dt t f (own.map (·.2)))) :=
  (pe_lc hc hN hi ok hg ht he hs).imp fun σ H Q h => lc_dl hd hj h
theorem dn_setLc {i : Nat} {y : Str} {py spos : Pos} (hc : X.calm = true) (hN : X.N.Nodup) (hy : X.N[i]? = some y) (hyl : X.env.scope.names.lookup y = some .local)
    (hsw : swapsWith (.ListComp elt [⟨tg, iter, ifs, 0⟩] scope pos) (some (.Name y py)) spos.line X.env = pure true) (hi : PI X tg iter (tI X.K W it)) (ok : BlkOk X.N X.env.scope scope own) (hd : TgD X.K g dt js) (hj : ∀ j ∈ js, j ∈ own.map (·.2))
    (hg : ∀ (s : Shared) (H : Hp) (C : Addr) (cl : List (Str × Addr)) (fp : List Addr), PG (X.blk s H scope (compEnvC scope cl C X.env) fp) tg g) (ht : ∀ (s : Shared) (H : Hp) (C : Addr) (cl : List (Str × Addr)) (fp : List Addr), PTs (X.blk s H scope (compEnvC scope cl C X.env) fp) ifs (tT X.K W0 t))
    (he : ∀ (s : Shared) (H : Hp) (C : Addr) (cl : List (Str × Addr)) (fp : List Addr), PE (X.blk s H scope (compEnvC scope cl C X.env) fp) elt (tE X.K W0 f)) (hs : ∀ x, foldedSetIterable iter X.env x = pure x := by intro _; rfl) :
    PS X (.Assign [.Name y py] (.ListComp elt [⟨tg, iter, ifs, 0⟩] scope pos) spos) (tAsg (tN X.K W (xLc it dt t f (own.map (·.2)))) (gName i)) :=
  (ps_setLc hc hN hy hyl hsw hi ok hg ht he hs).imp fun D σ H h => lc_dl hd hj h
end
end
end DL

/-! DL8: statements. -/
namespace DL
open PySem L2

structure Ent where
  w : Wd
  H : Hp
/-- an object of one's own, unseen -/
def OwnD (K : PySem.W.Frag) (w : Wd) (H : Hp) (p : Addr) : D → Prop
  | .lst ds => ∃ xs, H p = some (.lst xs) ∧ Rps K w.m w.v ds xs
  | .dic ds => ∃ xs, H p = some (.dK xs) ∧ Rpk K w.m w.v ds xs
  | _ => False
theorem OwnD.live {K : PySem.W.Frag} {w : Wd} {H : Hp} {p : Addr} {d : D} (h : OwnD K w H p d) : ∃ o, H p = some o ∧ ∀ xs, ¬ Rd H p (.tup xs) := by
  cases d <;> try exact h.elim
  · obtain ⟨xs, e, _⟩ := h
    exact ⟨_, e, fun ys z => by rcases z with z | ⟨u, z⟩ <;> (rw [e] at z; cases z)⟩
  · obtain ⟨xs, e, _⟩ := h
    exact ⟨_, e, fun ys z => by rcases z with z | ⟨u, z⟩ <;> (rw [e] at z; cases z)⟩
theorem OwnD.mono {K : PySem.W.Frag} {w w' : Wd} {H H' : Hp} {p : Addr} {d : D} (h : OwnD K w H p d) (s : Sub w.v w'.v) (q : Pre w.m w'.m) (e : H' p = H p) : OwnD K w' H' p d := by
  cases d <;> try exact h.elim
  · obtain ⟨xs, e1, r⟩ := h
    exact ⟨xs, e.trans e1, r.mono s q⟩
  · obtain ⟨xs, e1, r⟩ := h
    exact ⟨xs, e.trans e1, r.mono s q⟩
/-- the state between statements: O the slots that hold objects of one's own -/
structure SIw (K : PySem.W.Frag) (E : Ent) (lo : Wd) (O : List Nat) (ρ : En) (r : Rs) (σ : St) (H : Hp) (w : Wd) : Prop where
  tr : Tr E.w E.H w H
  los : Sub lo.v w.v
  lop : Pre lo.m w.m
  gd : Good K w r H
  len : ρ.length = σ.length
  fr : ∀ (i : Nat) (d : D), ρ[i]? = some (some d) → i ∉ O → ∃ v, σ[i]? = some (some v) ∧ Rp K w.m w.v d v
  ow : ∀ (i : Nat) (d : D), ρ[i]? = some (some d) → i ∈ O → ∃ p, σ[i]? = some (some (.ref p)) ∧ OwnD K w H p d ∧ w.v p = none ∧ p ∉ w.m ∧ E.H p = none
  dj : ∀ (i j : Nat) (d e : D) (p : Addr), i ∈ O → j ∈ O → i ≠ j → ρ[i]? = some (some d) → ρ[j]? = some (some e) → σ[i]? = some (some (.ref p)) → σ[j]? ≠ some (some (.ref p))
def SI (K : PySem.W.Frag) (E : Ent) (lo : Wd) (O : List Nat) (ρ : En) (r : Rs) (σ : St) (H : Hp) : Prop := ∃ w, SIw K E lo O ρ r σ H w
section
variable {K : PySem.W.Frag} {E : Ent} {lo lo' : Wd} {O : List Nat} {ρ : En} {r r' : Rs} {σ : St} {H H' : Hp} {w w' : Wd}
theorem SI.lower (h : SI K E lo O ρ r σ H) (a : Sub lo'.v lo.v) (b : Pre lo'.m lo.m) : SI K E lo' O ρ r σ H := by
  obtain ⟨w, s⟩ := h
  exact ⟨w, s.tr, a.trans s.los, b.trans s.lop, s.gd, s.len, s.fr, s.ow, s.dj⟩
theorem SIw.slots (s : SIw K E lo O ρ r σ H w) : Slots K w (wipeE ρ O) σ := by
  refine ⟨by rw [wipeE_len]; exact s.len, fun i d e => ?_⟩
  obtain ⟨h1, h2⟩ := wipeE_some e
  exact s.fr i d h1 h2
theorem own_keep (t : Tr w H w' H') {p : Addr} {o : HO} (hp : H p = some o) (hv : w.v p = none) (hm : p ∉ w.m) : H' p = H p ∧ w'.v p = none ∧ p ∉ w'.m := by
  refine ⟨(t.keep p o hp hm).trans hp.symm, ?_, fun z => ?_⟩
  · cases e : w'.v p with
    | none => rfl
    | some u =>
      rcases t.newv p (by rw [e]; intro z; cases z) with z | z
      · exact absurd hv z
      · rw [hp] at z; cases z
  · rcases t.newm p z with z | z
    · exact hm z
    · rw [hp] at z; cases z
/-- behind an expression that saw no object of one's own -/
theorem SIw.step (s : SIw K E lo O ρ r σ H w) (t : Tr w H w' H') (g : Good K w' r' H') : SIw K E lo O ρ r' σ H' w' where
  tr := s.tr.trans t
  los := s.los.trans t.sub
  lop := s.lop.trans t.pre
  gd := g
  len := s.len
  fr := fun i d e ho => by
    obtain ⟨v, h1, h2⟩ := s.fr i d e ho
    exact ⟨v, h1, t.rp h2⟩
  ow := fun i d e ho => by
    obtain ⟨p, h1, h2, h3, h4, h5⟩ := s.ow i d e ho
    obtain ⟨o, hp, _⟩ := h2.live
    obtain ⟨k1, k2, k3⟩ := own_keep t hp h3 h4
    exact ⟨p, h1, h2.mono t.sub t.pre k1, k2, k3, h5⟩
  dj := s.dj
/-- the addresses of one's own objects -/
def Own (O : List Nat) (ρ : En) (σ : St) (b : Addr) : Prop := ∃ i ∈ O, (∃ d, ρ[i]? = some (some d)) ∧ σ[i]? = some (some (.ref b))
noncomputable instance ownDec (O : List Nat) (ρ : En) (σ : St) (b : Addr) : Decidable (Own O ρ σ b) := Classical.propDecidable _
noncomputable def visW (w : Wd) (O : List Nat) (ρ : En) (σ : St) (H : Hp) : Wd := ⟨w.m, fun b => if Own O ρ σ b then H b else w.v b⟩
noncomputable def hidW (w : Wd) (O : List Nat) (ρ : En) (σ : St) : Wd := ⟨w.m, fun b => if Own O ρ σ b then none else w.v b⟩
theorem SIw.own (s : SIw K E lo O ρ r σ H w) {b : Addr} (h : Own O ρ σ b) : (∃ o, H b = some o ∧ ∀ xs, ¬ Rd H b (.tup xs)) ∧ w.v b = none ∧ b ∉ w.m ∧ E.H b = none := by
  obtain ⟨i, hi, ⟨d, hd⟩, hs⟩ := h
  obtain ⟨p, h1, h2, h3, h4, h5⟩ := s.ow i d hd hi
  rw [hs] at h1
  cases h1
  exact ⟨h2.live, h3, h4, h5⟩
theorem SIw.vis_sub (s : SIw K E lo O ρ r σ H w) : Sub w.v (visW w O ρ σ H).v := fun a o e => by
  have hn : ¬ Own O ρ σ a := fun z => by rw [(s.own z).2.1] at e; cases e
  show (if Own O ρ σ a then H a else w.v a) = some o
  rw [if_neg hn]; exact e
theorem SIw.all (s : SIw K E lo O ρ r σ H w) : Good K (visW w O ρ σ H) r H ∧ Slots K (visW w O ρ σ H) ρ σ ∧
    ∀ (w1 : Wd) (H1 : Hp) (r1 : Rs), Tr (visW w O ρ σ H) H w1 H1 → Good K w1 r1 H1 → Tr w H (hidW w1 O ρ σ) H1 ∧ Good K (hidW w1 O ρ σ) r1 H1 ∧ SubT w1.v (hidW w1 O ρ σ).v := by
  refine ⟨⟨fun a o e => ?_, fun a ha => ?_, s.gd.len, s.gd.nd, fun n o e => ?_⟩, ⟨s.len, fun i d e => ?_⟩, fun w1 H1 r1 t g => ?_⟩
  · have e' : (if Own O ρ σ a then H a else w.v a) = some o := e
    split at e'
    · exact e'
    · exact s.gd.sub a o e'
  · have hn : ¬ Own O ρ σ a := fun z => (s.own z).2.2.1 ha
    show (if Own O ρ σ a then H a else w.v a) = none
    rw [if_neg hn]; exact s.gd.dis a ha
  · obtain ⟨a, ha, x⟩ := s.gd.at_ n o e
    exact ⟨a, ha, roAt_mono s.vis_sub.subT (.refl _) rfl x⟩
  · by_cases ho : i ∈ O
    · obtain ⟨p, h1, h2, h3, h4, h5⟩ := s.ow i d e ho
      have hp : Own O ρ σ p := ⟨i, ho, ⟨d, e⟩, h1⟩
      have ev : (visW w O ρ σ H).v p = H p := if_pos hp
      refine ⟨_, h1, ?_⟩
      cases d <;> try exact h2.elim
      · obtain ⟨xs, e1, q⟩ := h2
        exact .lst (ev.trans e1) (q.mono s.vis_sub (.refl _))
      · obtain ⟨xs, e1, q⟩ := h2
        exact .dic (ev.trans e1) (q.mono s.vis_sub (.refl _))
    · obtain ⟨v, h1, h2⟩ := s.fr i d e ho
      exact ⟨v, h1, h2.mono s.vis_sub (.refl _)⟩
  · have keepO : ∀ b, Own O ρ σ b → H1 b = H b ∧ b ∉ w1.m := fun b z => by
      obtain ⟨⟨o, ho, _⟩, hv, hm, _⟩ := s.own z
      refine ⟨(t.keep b o ho hm).trans ho.symm, fun q => ?_⟩
      rcases t.newm b q with q | q
      · exact hm q
      · rw [ho] at q; cases q
    have hT : SubT w1.v (hidW w1 O ρ σ).v := fun b xs q => by
      have hn : ¬ Own O ρ σ b := fun z => by
        obtain ⟨⟨o, ho, nt⟩, _⟩ := s.own z
        have q1 := g.sub.rd q
        rcases q1 with q1 | ⟨u, q1⟩
        · exact nt xs (.inl (by rw [← (keepO b z).1]; exact q1))
        · exact nt xs (.inr ⟨u, by rw [← (keepO b z).1]; exact q1⟩)
      have ev : (hidW w1 O ρ σ).v b = w1.v b := if_neg hn
      rcases q with q | ⟨u, q⟩
      · exact .inl (ev.trans q)
      · exact .inr ⟨u, ev.trans q⟩
    refine ⟨⟨fun b o e => ?_, t.pre, t.keep, t.live, fun b e => ?_, t.newm, t.tups⟩, ⟨fun b o e => ?_, fun b hb => ?_, g.len, g.nd, fun n o e => ?_⟩, hT⟩
    · have hn : ¬ Own O ρ σ b := fun z => by rw [(s.own z).2.1] at e; cases e
      have ev : (hidW w1 O ρ σ).v b = w1.v b := if_neg hn
      rw [ev]
      exact t.sub b o (s.vis_sub b o e)
    · have e' : (if Own O ρ σ b then none else w1.v b) ≠ none := e
      split at e'
      · exact absurd rfl e'
      · rename_i hn
        rcases t.newv b e' with z | z
        · have ev : (visW w O ρ σ H).v b = w.v b := if_neg hn
          rw [ev] at z
          exact .inl z
        · exact .inr z
    · have e' : (if Own O ρ σ b then none else w1.v b) = some o := e
      split at e'
      · cases e'
      · exact g.sub b o e'
    · show (if Own O ρ σ b then none else w1.v b) = none
      split
      · rfl
      · exact g.dis b hb
    · obtain ⟨a, ha, x⟩ := g.at_ n o e
      exact ⟨a, ha, roAt_mono hT (.refl _) rfl x⟩
end

/-! ### outcomes of statements -/
inductive SOut where
  | next (ρ : En) (r : Rs)
  | ret (d : D) (r : Rs)
  | brk (ρ : En) (r : Rs)
  | cont (ρ : En) (r : Rs)
  | exc (c : Addr) (fs : List D) (ρ : En) (r : Rs)
  | bad
abbrev Sx := En → Rs → SOut
/-- what is known of a def's answer; fr: a list is new -/
def PostD (K : PySem.W.Frag) (fr : Bool) (H0 : Hp) (w : Wd) (H : Hp) (d : D) (v : V) : Prop := match fr, d with
  | true, .lst ds => ∃ p, v = .ref p ∧ NewL K w H0 H ds p
  | _, _ => Rp K w.m w.v d v
structure Sc where
  K : PySem.W.Frag
  W : WX
  E : Ent
  fr : Bool
  O : List Nat
def AfterS (c : Sc) (lo : Wd) (D : Ends) : SOut → Prop
  | .next ρ r => ∀ σ H, SI c.K c.E lo c.O ρ r σ H → D.nx σ H
  | .brk ρ r => ∀ σ H, SI c.K c.E lo c.O ρ r σ H → D.bk σ H
  | .cont ρ r => ∀ σ H, SI c.K c.E lo c.O ρ r σ H → D.ct σ H
  | .ret d r => ∀ w H v, Tr c.E.w c.E.H w H → Good c.K w r H → PostD c.K c.fr c.E.H w H d v → D.rt v H
  | .exc x fs ρ r => ∀ σ H cls dd, SI c.K c.E lo c.O ρ r σ H → ExcAt x fs cls dd H → c.W cls dd σ H
  | .bad => False
def tS (c : Sc) (g : Sx) : TS := fun D σ H => ∃ ρ r lo, SI c.K c.E lo c.O ρ r σ H ∧ AfterS c lo D (g ρ r)
def SOut.bind (o : SOut) (g : Sx) : SOut := match o with
  | .next ρ r => g ρ r
  | o => o
def sSeq (f g : Sx) : Sx := fun ρ r => (f ρ r).bind g
def sNext : Sx := fun ρ r => .next ρ r
section
variable {X : Cx} {c : Sc} {st : Stmt} {rest body orelse : List Stmt} {f g h : Sx} {pos : Pos}
theorem AfterS.bind {lo : Wd} {D : Ends} {o : SOut} (h : AfterS c lo D (o.bind g)) : AfterS c lo { D with nx := tS c g D } o := by
  cases o with
  | next ρ r => exact fun σ H s => ⟨ρ, r, lo, s, h⟩
  | _ => exact h
theorem dss_nil : PSs X [] (tS c sNext) := pss_nil.imp fun D σ H ⟨ρ, r, lo, s, h⟩ => h σ H s
theorem dss_cons (h1 : PS X st (tS c f)) (h2 : PSs X rest (tS c g)) : PSs X (st :: rest) (tS c (sSeq f g)) := (pss_cons h1 h2).imp fun D σ H ⟨ρ, r, lo, s, h⟩ => ⟨ρ, r, lo, s, h.bind⟩
theorem dss_one (h1 : PS X st (tS c f)) : PSs X [st] (tS c f) := pss_one h1
theorem ds_pass : PS X (.Pass pos) (tS c sNext) := ps_pass.imp fun D σ H ⟨ρ, r, lo, s, h⟩ => h σ H s
def sBrk : Sx := fun ρ r => .brk ρ r
def sCont : Sx := fun ρ r => .cont ρ r
theorem ds_break : PS X (.Break pos) (tS c sBrk) := ps_break.imp fun D σ H ⟨ρ, r, lo, s, h⟩ => h σ H s
theorem ds_continue : PS X (.Continue pos) (tS c sCont) := ps_continue.imp fun D σ H ⟨ρ, r, lo, s, h⟩ => h σ H s
/-- an exception of an expression -/
theorem exc_after {lo : Wd} {D : Ends} {α : Type} {w w' : Wd} {H : Hp} {σ : St} {ρ : En} {r : Rs} {x : Addr} {fs : List DL.D} {r1 : Rs} {Q : α → Wd → Rs → Hp → Prop} (s : SIw c.K c.E lo c.O ρ r σ H w)
    (h : AfterS c lo D (.exc x fs ρ r1)) : After c.K c.W w H σ (Out.exc (α := α) x fs r1) Q := fun w' H' cls dd t g e => h σ H' cls dd ⟨w', s.step t g⟩ e
/-- an expression that sees no object of one's own -/
def evF {α : Type} (O : List Nat) (f : En → Rs → Out α) (k : α → En → Rs → SOut) : Sx := fun ρ r => match f (wipeE ρ O) r with
  | .ok a r1 => k a ρ r1
  | .exc x fs r1 => .exc x fs ρ r1
  | .bad => .bad
/-- one that sees all -/
def evI {α : Type} (f : En → Rs → Out α) (k : α → En → Rs → SOut) : Sx := fun ρ r => match f ρ r with
  | .ok a r1 => k a ρ r1
  | .exc x fs r1 => .exc x fs ρ r1
  | .bad => .bad
theorem evF_dl {α : Type} {f : En → Rs → Out α} {k : α → En → Rs → SOut} {D : Ends} {σ : St} {H : Hp} {Q : α → Wd → Rs → Hp → Prop} {ρ : En} {r : Rs} {lo w : Wd} (s : SIw c.K c.E lo c.O ρ r σ H w) (h : AfterS c lo D (evF c.O f k ρ r))
    (q : ∀ a r1 w1 H1, Tr w H w1 H1 → SIw c.K c.E lo c.O ρ r1 σ H1 w1 → AfterS c lo D (k a ρ r1) → Q a w1 r1 H1) : After c.K c.W w H σ (f (wipeE ρ c.O) r) Q := by
  unfold evF at h
  revert h
  generalize f (wipeE ρ c.O) r = o
  intro h
  cases o with
  | ok a r1 => exact fun w1 H1 t g => q a r1 w1 H1 t (s.step t g) h
  | exc x fs r1 => exact fun w1 H1 cls dd t g e => h σ H1 cls dd ⟨w1, s.step t g⟩ e
  | bad => exact h
theorem evI_dl {α : Type} {f : En → Rs → Out α} {k : α → En → Rs → SOut} {D : Ends} {σ : St} {H : Hp} {Q : α → Wd → Rs → Hp → Prop} {ρ : En} {r : Rs} {lo w : Wd} (s : SIw c.K c.E lo c.O ρ r σ H w) (h : AfterS c lo D (evI f k ρ r))
    (q : ∀ a r1 w1 H1, Tr (visW w c.O ρ σ H) H w1 H1 → Good c.K w1 r1 H1 → SIw c.K c.E lo c.O ρ r1 σ H1 (hidW w1 c.O ρ σ) → SubT w1.v (hidW w1 c.O ρ σ).v → AfterS c lo D (k a ρ r1) → Q a w1 r1 H1) : After c.K c.W (visW w c.O ρ σ H) H σ (f ρ r) Q := by
  obtain ⟨_, _, u⟩ := s.all
  unfold evI at h
  revert h
  generalize f ρ r = o
  intro h
  cases o with
  | ok a r1 =>
    intro w1 H1 t g
    obtain ⟨t1, g1, st⟩ := u w1 H1 r1 t g
    exact q a r1 w1 H1 t g (s.step t1 g1) st h
  | exc x fs r1 =>
    intro w1 H1 cls dd t g e
    obtain ⟨t1, g1, st⟩ := u w1 H1 r1 t g
    exact h σ H1 cls dd ⟨_, s.step t1 g1⟩ e
  | bad => exact h
end
end DL

/-! DL9: the rules of statements; a def's promise. -/
namespace DL
open PySem L2

section
variable {K : PySem.W.Frag} {E : Ent} {lo : Wd} {O : List Nat} {ρ ρ' : En} {r r' : Rs} {σ σ' : St} {H H' : Hp} {w w' : Wd}
/-- slots stored into that are not one's own -/
theorem SIw.store {js : List Nat} (s : SIw K E lo O ρ r σ H w) (hl : ρ'.length = ρ.length) (hl' : σ'.length = σ.length) (hj : ∀ j ∈ js, j ∉ O)
    (h : ∀ i : Nat, (ρ'[i]? = ρ[i]? ∧ σ'[i]? = σ[i]?) ∨ (i ∈ js ∧ ∃ e x, ρ'[i]? = some (some e) ∧ σ'[i]? = some (some x) ∧ Rp K w.m w.v e x)) : SIw K E lo O ρ' r σ' H w where
  tr := s.tr
  los := s.los
  lop := s.lop
  gd := s.gd
  len := by rw [hl, hl', s.len]
  fr := fun i d e ho => by
    rcases h i with ⟨q1, q2⟩ | ⟨_, e2, x, q1, q2, q3⟩
    · rw [q1] at e
      rw [q2]
      exact s.fr i d e ho
    · rw [q1] at e
      cases e
      exact ⟨x, q2, q3⟩
  ow := fun i d e ho => by
    rcases h i with ⟨q1, q2⟩ | ⟨m, _⟩
    · rw [q1] at e
      rw [q2]
      exact s.ow i d e ho
    · exact absurd ho (hj i m)
  dj := fun i j d e p hi hj' hne h1 h2 h3 => by
    rcases h i with ⟨q1, q2⟩ | ⟨m, _⟩
    · rcases h j with ⟨p1, p2⟩ | ⟨m, _⟩
      · rw [q1] at h1
        rw [q2] at h3
        rw [p1] at h2
        rw [p2]
        exact s.dj i j d e p hi hj' hne h1 h2 h3
      · exact absurd hj' (hj j m)
    · exact absurd hi (hj i m)
/-- a slot forgotten -/
theorem SIw.forget (s : SIw K E lo O ρ r σ H w) (i : Nat) : SIw K E lo O (ρ.set i none) r σ H w := by
  have back : ∀ {j : Nat} {d : D}, (ρ.set i none)[j]? = some (some d) → ρ[j]? = some (some d) := fun {j d} e => by
    by_cases hj : i = j
    · subst hj
      by_cases hl : i < ρ.length
      · rw [List.getElem?_set_self hl] at e; cases e
      · rw [List.getElem?_eq_none (by simpa using hl)] at e; cases e
    · rwa [List.getElem?_set_ne hj] at e
  exact ⟨s.tr, s.los, s.lop, s.gd, by rw [List.length_set]; exact s.len, fun j d e ho => s.fr j d (back e) ho, fun j d e ho => s.ow j d (back e) ho, fun a b d e p ha hb hne h1 h2 h3 => s.dj a b d e p ha hb hne (back h1) (back h2) h3⟩
/-- an own slot gets an own object -/
theorem SIw.setOwn {i : Nat} {d : D} {p : Addr} (s : SIw K E lo O ρ r σ H w) (hi : i ∈ O) (hil : i < ρ.length) (ho : OwnD K w H p d) (hv : w.v p = none) (hm : p ∉ w.m) (hE : E.H p = none)
    (hne : ∀ j e, j ∈ O → j ≠ i → ρ[j]? = some (some e) → σ[j]? ≠ some (some (.ref p))) : SIw K E lo O (ρ.set i (some d)) r (σ.set i (some (.ref p))) H w := by
  have hil' : i < σ.length := by rw [← s.len]; exact hil
  refine ⟨s.tr, s.los, s.lop, s.gd, by rw [List.length_set, List.length_set]; exact s.len, fun j e q hj => ?_, fun j e q hj => ?_, fun a b e1 e2 q ha hb hab h1 h2 h3 => ?_⟩
  · have hji : i ≠ j := by rintro rfl; exact hj hi
    rw [List.getElem?_set_ne hji] at q ⊢
    exact s.fr j e q hj
  · by_cases hji : i = j
    · subst hji
      rw [List.getElem?_set_self hil] at q
      cases q
      exact ⟨p, List.getElem?_set_self hil', ho, hv, hm, hE⟩
    · rw [List.getElem?_set_ne hji] at q ⊢
      exact s.ow j e q hj
  · by_cases hai : i = a
    · subst hai
      rw [List.getElem?_set_self hil'] at h3
      cases h3
      rw [List.getElem?_set_ne hab] at h2 ⊢
      exact hne b e2 hb (Ne.symm hab) h2
    · rw [List.getElem?_set_ne hai] at h1 h3
      by_cases hbi : i = b
      · subst hbi
        rw [List.getElem?_set_self hil']
        intro z
        cases z
        exact hne a e1 ha (Ne.symm hai) h1 h3
      · rw [List.getElem?_set_ne hbi] at h2 ⊢
        exact s.dj a b e1 e2 q ha hb hab h1 h2 h3
/-- an own object is changed -/
theorem SIw.mut {i : Nat} {d d' : D} {p : Addr} {o : HO} (s : SIw K E lo O ρ r σ H w) (hi : i ∈ O) (hρ : ρ[i]? = some (some d)) (hσ : σ[i]? = some (some (.ref p))) (ho : OwnD K w (upd H p o) p d') : SIw K E lo O (ρ.set i (some d')) r σ (upd H p o) w := by
  obtain ⟨p', h1, h2, h3, h4, h5⟩ := s.ow i d hρ hi
  rw [hσ] at h1
  cases h1
  obtain ⟨u, hu, _⟩ := h2.live
  obtain ⟨t, g⟩ := tr_own (u := o) s.gd s.tr h5 h3 h4 hu
  have hil : i < ρ.length := (List.getElem?_eq_some_iff.mp hρ).1
  refine ⟨t, s.los, s.lop, g, by rw [List.length_set]; exact s.len, fun j e q hj => ?_, fun j e q hj => ?_, fun a b e1 e2 q ha hb hab k1 k2 k3 => ?_⟩
  · have hji : i ≠ j := by rintro rfl; exact hj hi
    rw [List.getElem?_set_ne hji] at q
    exact s.fr j e q hj
  · by_cases hji : i = j
    · subst hji
      rw [List.getElem?_set_self hil] at q
      cases q
      exact ⟨p, hσ, ho, h3, h4, h5⟩
    · rw [List.getElem?_set_ne hji] at q
      obtain ⟨p2, a1, a2, a3, a4, a5⟩ := s.ow j e q hj
      have hpp : p2 ≠ p := by
        rintro rfl
        exact s.dj i j d e p2 hi hj hji hρ q hσ a1
      exact ⟨p2, a1, a2.mono (.refl _) (.refl _) (upd_ne hpp), a3, a4, a5⟩
  · have k1' : ∃ z, ρ[a]? = some (some z) := by
      by_cases z : i = a
      · subst z; exact ⟨d, hρ⟩
      · rw [List.getElem?_set_ne z] at k1; exact ⟨e1, k1⟩
    have k2' : ∃ z, ρ[b]? = some (some z) := by
      by_cases z : i = b
      · subst z; exact ⟨d, hρ⟩
      · rw [List.getElem?_set_ne z] at k2; exact ⟨e2, k2⟩
    obtain ⟨z1, k1'⟩ := k1'
    obtain ⟨z2, k2'⟩ := k2'
    exact s.dj a b z1 z2 q ha hb hab k1' k2' k3
/-- an own object is shown, its slot forgotten -/
theorem SIw.show_ {i : Nat} {d : D} {p : Addr} (s : SIw K E lo O ρ r σ H w) (hi : i ∈ O) (hρ : ρ[i]? = some (some d)) (hσ : σ[i]? = some (some (.ref p))) : ∃ w', SIw K E lo O (ρ.set i none) r σ H w' ∧ Rp K w'.m w'.v d (.ref p) := by
  obtain ⟨p', h1, h2, h3, h4, h5⟩ := s.ow i d hρ hi
  rw [hσ] at h1
  cases h1
  obtain ⟨o, hp, _⟩ := h2.live
  obtain ⟨t, g⟩ := tr_see s.gd s.tr h5 h3 h4 hp
  have sb : Sub w.v (w.see p o).v := fun a u e => by
    have hne : a ≠ p := by rintro rfl; rw [h3] at e; cases e
    show upd w.v p o a = some u
    rw [upd_ne hne]; exact e
  have back : ∀ {j : Nat} {e : D}, (ρ.set i none)[j]? = some (some e) → ρ[j]? = some (some e) ∧ j ≠ i := fun {j e} q => by
    by_cases hj : i = j
    · subst hj
      by_cases hl : i < ρ.length
      · rw [List.getElem?_set_self hl] at q; cases q
      · rw [List.getElem?_eq_none (by simpa using hl)] at q; cases q
    · rw [List.getElem?_set_ne hj] at q
      exact ⟨q, fun z => hj z.symm⟩
  refine ⟨w.see p o, ⟨t, s.los.trans sb, s.lop, g, by rw [List.length_set]; exact s.len, fun j e q hj => ?_, fun j e q hj => ?_, fun a b e1 e2 q ha hb hab k1 k2 k3 => s.dj a b e1 e2 q ha hb hab (back k1).1 (back k2).1 k3⟩, ?_⟩
  · obtain ⟨v, a1, a2⟩ := s.fr j e (back q).1 hj
    exact ⟨v, a1, a2.mono sb (.refl _)⟩
  · obtain ⟨q1, q2⟩ := back q
    obtain ⟨p2, a1, a2, a3, a4, a5⟩ := s.ow j e q1 hj
    have hpp : p2 ≠ p := by
      rintro rfl
      exact s.dj i j d e p2 hi hj (Ne.symm q2) hρ q1 hσ a1
    refine ⟨p2, a1, a2.mono sb (.refl _) rfl, ?_, a4, a5⟩
    show upd w.v p o p2 = none
    rw [upd_ne hpp]; exact a3
  · cases d <;> try exact h2.elim
    · obtain ⟨xs, e1, q⟩ := h2
      rw [hp] at e1
      cases e1
      exact .lst upd_same (q.mono sb (.refl _))
    · obtain ⟨xs, e1, q⟩ := h2
      rw [hp] at e1
      cases e1
      exact .dic upd_same (q.mono sb (.refl _))
theorem SIw.newL {H0 : Hp} {w0 : Wd} {ds : List D} {p : Addr} {i : Nat} (s : SIw K E lo O ρ r σ H w) (s0 : SIw K E lo O ρ r' σ H0 w0) (hi : i ∈ O) (hil : i < ρ.length) (n : NewL K w H0 H ds p) : SIw K E lo O (ρ.set i (some (.lst ds))) r (σ.set i (some (.ref p))) H w := by
  refine s.setOwn hi hil n.at_ n.nv n.nm (s0.tr.fresh n.fresh) fun j e hj hji q z => ?_
  obtain ⟨p2, a1, a2, _⟩ := s0.ow j e q hj
  rw [z] at a1
  cases a1
  obtain ⟨o, ho, _⟩ := a2.live
  rw [n.fresh] at ho
  cases ho
end

section
variable {X : Cx} {c : Sc} {st : Stmt} {pos : Pos}
/-! ### assignments -/
def kStore (tg : Tg) : D → En → Rs → SOut := fun d ρ r => match tg d ρ with
  | some ρ' => .next ρ' r
  | none => .bad
def sAsg (O : List Nat) (tg : Tg) (f : Ex) : Sx := evF O f (kStore tg)
def sAsgI (tg : Tg) (f : Ex) : Sx := evI f fun d ρ r => if d.imm = true then kStore tg d ρ r else .bad
theorem store_dl {g : TG} {tg : Tg} {js : List Nat} {lo w : Wd} {ρ : En} {r : Rs} {σ : St} {H : Hp} {D : Ends} {d : DL.D} {v : V} (hg : TgD c.K g tg js) (hj : ∀ j ∈ js, j ∉ c.O) (s : SIw c.K c.E lo c.O ρ r σ H w) (rv : Rp c.K w.m w.v d v)
    (h : AfterS c lo D (kStore tg d ρ r)) : g v σ H D.nx := by
  unfold kStore at h
  split at h
  · rename_i ρ' e
    obtain ⟨σ', h1, h2, h3, h4⟩ := hg w r H ρ ρ' σ d v s.gd s.len rv e
    exact h1 _ (h σ' H ⟨w, s.store h2 h3 hj h4⟩)
  · exact h.elim
theorem ds_asg {f : Ex} {g : TG} {tg : Tg} {js : List Nat} (h : PS X st (tAsg (tE c.K c.W f) g)) (hg : TgD c.K g tg js) (hj : ∀ j ∈ js, j ∉ c.O) : PS X st (tS c (sAsg c.O tg f)) :=
  h.imp fun D σ H ⟨ρ, r, lo, ⟨w, s⟩, h⟩ => ⟨wipeE ρ c.O, r, w, s.gd, s.slots, evF_dl s h fun d r1 w1 H1 t s1 h1 v rv => store_dl hg hj s1 rv h1⟩
theorem ds_asgI {f : Ex} {g : TG} {tg : Tg} {js : List Nat} (h : PS X st (tAsg (tE c.K c.W f) g)) (hg : TgD c.K g tg js) (hj : ∀ j ∈ js, j ∉ c.O) : PS X st (tS c (sAsgI tg f)) :=
  h.imp fun D σ H ⟨ρ, r, lo, ⟨w, s⟩, h⟩ => ⟨ρ, r, visW w c.O ρ σ H, s.all.1, s.all.2.1, evI_dl s h fun d r1 w1 H1 t g1 s1 sT h1 v rv => by
    split at h1
    · rename_i hi
      exact store_dl hg hj s1 (rv.immM sT (.refl _) hi) h1
    · exact h1.elim⟩
/-- a new list of one's own -/
def kOwn (i : Nat) : List D → En → Rs → SOut := fun ds ρ r => if i < ρ.length then .next (ρ.set i (some (.lst ds))) r else .bad
def sAsgN (O : List Nat) (i : Nat) (f : Lx) : Sx := evF O f (kOwn i)
def sAsgNI (i : Nat) (f : Lx) : Sx := evI f fun ds ρ r => if D.imms ds = true then kOwn i ds ρ r else .bad
theorem ds_asgN {f : Lx} {i : Nat} (h : PS X st (tAsg (tN c.K c.W f) (gName i))) (hi : i ∈ c.O) : PS X st (tS c (sAsgN c.O i f)) :=
  h.imp fun D σ H ⟨ρ, r, lo, ⟨w, s⟩, h⟩ => ⟨wipeE ρ c.O, r, w, s.gd, s.slots, evF_dl s h fun ds r1 w1 H1 t s1 h1 p n => by
    unfold kOwn at h1
    split at h1
    · rename_i hl
      exact h1 _ _ ⟨w1, s1.newL s hi hl n⟩
    · exact h1.elim⟩
theorem ds_asgNI {f : Lx} {i : Nat} (h : PS X st (tAsg (tN c.K c.W f) (gName i))) (hi : i ∈ c.O) : PS X st (tS c (sAsgNI i f)) :=
  h.imp fun D σ H ⟨ρ, r, lo, ⟨w, s⟩, h⟩ => ⟨ρ, r, visW w c.O ρ σ H, s.all.1, s.all.2.1, evI_dl s h fun ds r1 w1 H1 t g1 s1 sT h1 p n => by
    split at h1
    · rename_i hm
      unfold kOwn at h1
      split at h1
      · rename_i hl
        obtain ⟨xs, e1, q⟩ := n.at_
        refine h1 _ _ ⟨_, s1.newL s hi hl ⟨n.fresh, ?_, n.nm, xs, e1, q.immM sT (.refl _) hm⟩⟩
        show (if Own c.O ρ σ p then none else w1.v p) = none
        split
        · rfl
        · exact n.nv
      · exact h1.elim
    · exact h1.elim⟩
/-- y's own object goes to x -/
def sMove (i j : Nat) : Sx := fun ρ r => match ρ[j]? with
  | some (some d) => if i < ρ.length then .next ((ρ.set j none).set i (some d)) r else .bad
  | _ => .bad
theorem ds_move {i j : Nat} (h : PS X st (tAsg (tVar j) (gName i))) (hi : i ∈ c.O) (hj : j ∈ c.O) (hij : i ≠ j) : PS X st (tS c (sMove i j)) :=
  h.imp fun D σ H ⟨ρ, r, lo, ⟨w, s⟩, h⟩ => by
    unfold sMove at h
    split at h
    · rename_i d e
      split at h
      · rename_i hl
        obtain ⟨p, h1, h2, h3, h4, h5⟩ := s.ow j d e hj
        refine ⟨_, h1, h _ _ ⟨w, (s.forget j).setOwn hi (by rw [List.length_set]; exact hl) h2 h3 h4 h5 fun k z hk hki q q2 => ?_⟩⟩
        by_cases hkj : j = k
        · subst hkj
          rw [List.getElem?_set_self (List.getElem?_eq_some_iff.mp e).1] at q
          cases q
        · rw [List.getElem?_set_ne hkj] at q
          exact s.dj j k d z p hj hk hkj e q h1 q2
      · exact h.elim
    · exact h.elim
/-- y's own object goes to x, which is not one's own: nothing changes it from here on -/
def sGive (tg : Tg) (j : Nat) : Sx := fun ρ r => match ρ[j]? with
  | some (some d) => kStore tg d (ρ.set j none) r
  | _ => .bad
theorem ds_give {j : Nat} {g : TG} {tg : Tg} {js : List Nat} (h : PS X st (tAsg (tVar j) g)) (hg : TgD c.K g tg js) (hjs : ∀ j ∈ js, j ∉ c.O) (hj : j ∈ c.O) : PS X st (tS c (sGive tg j)) :=
  h.imp fun D σ H ⟨ρ, r, lo, ⟨w, s⟩, h⟩ => by
    unfold sGive at h
    split at h
    · rename_i d e
      obtain ⟨p, h1, _⟩ := s.ow j d e hj
      obtain ⟨w', s', rv⟩ := s.show_ hj e h1
      exact ⟨_, h1, store_dl hg hjs s' rv h⟩
    · exact h.elim
/-! ### a list of one's own changed -/
def kApp (i : Nat) : List D → En → Rs → SOut := fun ds ρ r => match ds, ρ[i]? with
  | [d], some (some (.lst xs)) => if xs.length < lim then .next (ρ.set i (some (.lst (xs ++ [d])))) r else .bad
  | _, _ => .bad
def sApp (O : List Nat) (i : Nat) (f : Ax) : Sx := evF O f (kApp i)
def sAppI (i : Nat) (f : Ax) : Sx := evI f fun ds ρ r => if D.imms ds = true then kApp i ds ρ r else .bad
theorem app_dl {i : Nat} {lo w : Wd} {ρ : En} {r : Rs} {σ : St} {H : Hp} {D : Ends} {ds : List DL.D} {vs : List V} {p : Addr} (hi : i ∈ c.O) (hσ : σ[i]? = some (some (.ref p))) (s : SIw c.K c.E lo c.O ρ r σ H w) (rv : Rps c.K w.m w.v ds vs)
    (h : AfterS c lo D (kApp i ds ρ r)) : rAppend (.ref p) vs H (fun _ H1 => D.nx σ H1) := by
  unfold kApp at h
  split at h
  · rename_i d xs e
    split at h
    · rename_i hl
      obtain ⟨p', h1, h2, h3, h4, h5⟩ := s.ow i _ e hi
      rw [hσ] at h1
      cases h1
      obtain ⟨ys, e1, q⟩ := h2
      cases rv with
      | cons rv rt =>
        cases rt
        refine ⟨p, ys, _, rfl, rfl, e1, by rw [← q.length]; exact lim_lt hl, h _ _ ⟨w, s.mut hi e hσ ⟨_, upd_same, q.append (.one rv)⟩⟩⟩
    · exact h.elim
  · exact h.elim
theorem own_ty {i : Nat} {lo w : Wd} {ρ : En} {r : Rs} {σ : St} {H : Hp} {xs : List DL.D} (hi : i ∈ c.O) (s : SIw c.K c.E lo c.O ρ r σ H w) (e : ρ[i]? = some (some (.lst xs))) : ∃ p, σ[i]? = some (some (.ref p)) ∧ tyV c.K "list" (.ref p) H := by
  obtain ⟨p, h1, h2, _⟩ := s.ow i _ e hi
  obtain ⟨ys, e1, q⟩ := h2
  exact ⟨p, h1, .inl ⟨rfl, ys, SqL.of e1⟩⟩
def isOwnL (i : Nat) (g : Sx) : Sx := fun ρ r => match ρ[i]? with
  | some (some (.lst _)) => g ρ r
  | _ => .bad
theorem isOwnL_dl {i : Nat} {g : Sx} {lo : Wd} {ρ : En} {r : Rs} {D : Ends} (h : AfterS c lo D (isOwnL i g ρ r)) : ∃ xs, ρ[i]? = some (some (.lst xs)) ∧ AfterS c lo D (g ρ r) := by
  unfold isOwnL at h
  split at h
  · rename_i xs e
    exact ⟨xs, e, h⟩
  · exact h.elim
theorem ds_app {i : Nat} {f : Ax} (h : PS X st (tDrop (tBM c.K "list" rAppend (tVar i) (tA c.K c.W f)))) (hi : i ∈ c.O) : PS X st (tS c (isOwnL i (sApp c.O i f))) :=
  h.imp fun D σ H ⟨ρ, r, lo, ⟨w, s⟩, h⟩ => by
    obtain ⟨xs, e, h⟩ := isOwnL_dl h
    obtain ⟨p, h1, ty⟩ := own_ty hi s e
    exact ⟨_, h1, ty, wipeE ρ c.O, r, w, s.gd, s.slots, evF_dl s h fun ds r1 w1 H1 t s1 h2 vs rvs => app_dl hi h1 s1 rvs h2⟩
theorem ds_appI {i : Nat} {f : Ax} (h : PS X st (tDrop (tBM c.K "list" rAppend (tVar i) (tA c.K c.W f)))) (hi : i ∈ c.O) : PS X st (tS c (isOwnL i (sAppI i f))) :=
  h.imp fun D σ H ⟨ρ, r, lo, ⟨w, s⟩, h⟩ => by
    obtain ⟨xs, e, h⟩ := isOwnL_dl h
    obtain ⟨p, h1, ty⟩ := own_ty hi s e
    refine ⟨_, h1, ty, ρ, r, visW w c.O ρ σ H, s.all.1, s.all.2.1, evI_dl s h fun ds r1 w1 H1 t g1 s1 sT h2 vs rvs => ?_⟩
    split at h2
    · rename_i hm
      exact app_dl hi h1 s1 (rvs.immM sT (.refl _) hm) h2
    · exact h2.elim
/-! ### expressions as statements, returns, branches -/
def sExp (O : List Nat) (f : Ex) : Sx := evF O f fun _ ρ r => .next ρ r
theorem ds_exp {f : Ex} (h : PS X st (tDrop (tE c.K c.W f))) : PS X st (tS c (sExp c.O f)) :=
  h.imp fun D σ H ⟨ρ, r, lo, ⟨w, s⟩, h⟩ => ⟨wipeE ρ c.O, r, w, s.gd, s.slots, evF_dl s h fun d r1 w1 H1 t s1 h1 v rv => h1 σ H1 ⟨w1, s1⟩⟩
def D.isL : D → Bool
  | .lst _ => true
  | _ => false
theorem postD_of {K : PySem.W.Frag} {fr : Bool} {H0 H : Hp} {w : Wd} {d : D} {v : V} (h : Rp K w.m w.v d v) (e : (fr && d.isL) = false) : PostD K fr H0 w H d v := by
  unfold PostD
  cases fr with
  | false => exact h
  | true => cases d <;> first | exact h | cases e
def sRet (fr : Bool) (O : List Nat) (f : Ex) : Sx := evF O f fun d _ r => if (fr && d.isL) = true then .bad else .ret d r
def sRetI (f : Ex) : Sx := evI f fun d _ r => if d.imm = true then .ret d r else .bad
theorem imm_notL {d : D} (h : d.imm = true) (fr : Bool) : (fr && d.isL) = false := by
  have e : d.isL = false := by
    cases d <;> first | rfl | (simp [D.imm] at h)
  rw [e, Bool.and_false]
theorem ds_ret {f : Ex} (h : PS X st (tRet (tE c.K c.W f))) : PS X st (tS c (sRet c.fr c.O f)) :=
  h.imp fun D σ H ⟨ρ, r, lo, ⟨w, s⟩, h⟩ => ⟨wipeE ρ c.O, r, w, s.gd, s.slots, evF_dl s h fun d r1 w1 H1 t s1 h1 v rv => by
    split at h1
    · exact h1.elim
    · rename_i hn
      exact h1 w1 H1 v s1.tr s1.gd (postD_of rv (by simpa using hn))⟩
theorem ds_retI {f : Ex} (h : PS X st (tRet (tE c.K c.W f))) : PS X st (tS c (sRetI f)) :=
  h.imp fun D σ H ⟨ρ, r, lo, ⟨w, s⟩, h⟩ => ⟨ρ, r, visW w c.O ρ σ H, s.all.1, s.all.2.1, evI_dl s h fun d r1 w1 H1 t g1 s1 sT h1 v rv => by
    split at h1
    · rename_i hm
      exact h1 _ H1 v s1.tr s1.gd (postD_of (rv.immM sT (.refl _) hm) (imm_notL hm _))
    · exact h1.elim⟩
theorem ds_retN0 (h : PS X st tRetN) : PS X st (tS c (fun _ r => .ret .non r)) :=
  h.imp fun D σ H ⟨ρ, r, lo, ⟨w, s⟩, h⟩ => h w H .non s.tr s.gd (postD_of .non (by cases c.fr <;> rfl))
/-- a new list is handed back -/
theorem postD_new {K : PySem.W.Frag} {fr : Bool} {E : Ent} {H : Hp} {w : Wd} {r : Rs} {ds : List D} {p : Addr} (t : Tr E.w E.H w H) (g : Good K w r H) (n : NewL K w E.H H ds p) : ∃ w', Tr E.w E.H w' H ∧ Good K w' r H ∧ PostD K fr E.H w' H (.lst ds) (.ref p) := by
  cases fr with
  | true => exact ⟨w, t, g, p, rfl, n⟩
  | false =>
    obtain ⟨xs, e, q⟩ := n.at_
    obtain ⟨t2, g2⟩ := tr_see g t n.fresh n.nv n.nm e
    refine ⟨_, t2, g2, .lst upd_same (q.mono (fun a u z => ?_) (.refl _))⟩
    have hne : a ≠ p := by rintro rfl; rw [n.nv] at z; cases z
    show upd w.v p _ a = some u
    rw [upd_ne hne]; exact z
def sRetN (O : List Nat) (f : Lx) : Sx := evF O f fun ds _ r => .ret (.lst ds) r
def sRetNI (f : Lx) : Sx := evI f fun ds _ r => if D.imms ds = true then .ret (.lst ds) r else .bad
theorem ds_retN {f : Lx} (h : PS X st (tRet (tN c.K c.W f))) : PS X st (tS c (sRetN c.O f)) :=
  h.imp fun D σ H ⟨ρ, r, lo, ⟨w, s⟩, h⟩ => ⟨wipeE ρ c.O, r, w, s.gd, s.slots, evF_dl s h fun ds r1 w1 H1 t s1 h1 p n => by
    obtain ⟨w', t', g', q⟩ := postD_new (fr := c.fr) s1.tr s1.gd ⟨s.tr.fresh n.fresh, n.nv, n.nm, n.at_⟩
    exact h1 w' H1 _ t' g' q⟩
theorem ds_retNI {f : Lx} (h : PS X st (tRet (tN c.K c.W f))) : PS X st (tS c (sRetNI f)) :=
  h.imp fun D σ H ⟨ρ, r, lo, ⟨w, s⟩, h⟩ => ⟨ρ, r, visW w c.O ρ σ H, s.all.1, s.all.2.1, evI_dl s h fun ds r1 w1 H1 t g1 s1 sT h1 p n => by
    split at h1
    · rename_i hm
      obtain ⟨xs, e1, q⟩ := n.at_
      obtain ⟨w', t', g', q⟩ := postD_new (fr := c.fr) s1.tr s1.gd ⟨s.tr.fresh n.fresh, (by
        show (if Own c.O ρ σ p then none else w1.v p) = none
        split
        · rfl
        · exact n.nv), n.nm, xs, e1, q.immM sT (.refl _) hm⟩
      exact h1 w' H1 _ t' g' q
    · exact h1.elim⟩
def sRetO (i : Nat) : Sx := fun ρ r => match ρ[i]? with
  | some (some (.lst ds)) => .ret (.lst ds) r
  | _ => .bad
theorem ds_retO {i : Nat} (h : PS X st (tRet (tVar i))) (hi : i ∈ c.O) : PS X st (tS c (sRetO i)) :=
  h.imp fun D σ H ⟨ρ, r, lo, ⟨w, s⟩, h⟩ => by
    unfold sRetO at h
    split at h
    · rename_i ds e
      obtain ⟨p, h1, h2, h3, h4, h5⟩ := s.ow i _ e hi
      obtain ⟨w', t', g', q⟩ := postD_new (fr := c.fr) s.tr s.gd ⟨h5, h3, h4, h2⟩
      exact ⟨_, h1, h w' H _ t' g' q⟩
    · exact h.elim
def sIf (t : Tx) (f g : Sx) : Sx := evI t fun b ρ r => if b = true then f ρ r else g ρ r
theorem ds_if {e : Expr} {a b : List Stmt} {t : Tx} {f g : Sx} (hc : PT X e (tT c.K c.W t)) (ha : PSs X a (tS c f)) (hb : PSs X b (tS c g)) : PS X (.If e a b pos) (tS c (sIf t f g)) :=
  (ps_if hc ha hb).imp fun D σ H ⟨ρ, r, lo, ⟨w, s⟩, h⟩ => ⟨ρ, r, visW w c.O ρ σ H, s.all.1, s.all.2.1, evI_dl s h fun b r1 w1 H1 t g1 s1 sT h1 => by
    cases b with
    | true => exact iteT ⟨ρ, r1, lo, ⟨_, s1⟩, h1⟩
    | false => exact iteF ⟨ρ, r1, lo, ⟨_, s1⟩, h1⟩⟩
/-! ### loops -/
def forGo (tg : Tg) (body : Sx) : List D → En → Rs → SOut
  | [], ρ, r => .next ρ r
  | d :: ds, ρ, r => match tg d ρ with
    | none => .bad
    | some ρ1 => match body ρ1 r with
      | .next ρ2 r2 => forGo tg body ds ρ2 r2
      | .cont ρ2 r2 => forGo tg body ds ρ2 r2
      | .brk ρ2 r2 => .next ρ2 r2
      | o => o
def sFor (O : List Nat) (it : Lx) (tg : Tg) (body : Sx) : Sx := evF O it (forGo tg body)
def sForI (it : Lx) (tg : Tg) (body : Sx) : Sx := evI it fun ds ρ r => if D.imms ds = true then forGo tg body ds ρ r else .bad
theorem AfterS.lower {lo lo' : Wd} {D : Ends} {o : SOut} (h : AfterS c lo' D o) (a : Sub lo'.v lo.v) (b : Pre lo'.m lo.m) : AfterS c lo D o := by
  cases o with
  | next ρ r => exact fun σ H s => h σ H (s.lower a b)
  | brk ρ r => exact fun σ H s => h σ H (s.lower a b)
  | cont ρ r => exact fun σ H s => h σ H (s.lower a b)
  | ret d r => exact h
  | exc x fs ρ r => exact fun σ H cls dd s => h σ H cls dd (s.lower a b)
  | bad => exact h
theorem SIw.self {K : PySem.W.Frag} {E : Ent} {lo : Wd} {O : List Nat} {ρ : En} {r : Rs} {σ : St} {H : Hp} {w : Wd} (s : SIw K E lo O ρ r σ H w) : SIw K E w O ρ r σ H w := ⟨s.tr, .refl _, .refl _, s.gd, s.len, s.fr, s.ow, s.dj⟩
theorem for_dl {g : TG} {tg : Tg} {js : List Nat} {body : Sx} {tb : TS} (hg : TgD c.K g tg js) (hj : ∀ j ∈ js, j ∉ c.O) (hb : ∀ D σ H, tS c body D σ H → tb D σ H) {J : It} {lo w wk0 : Wd} {ρ : En} {r : Rs} {σ : St} {H : Hp} {D : Ends} {ds : List DL.D}
    (wk : Walks c.K J wk0 ds) (hsub : Sub wk0.v w.v) (hpre : Pre wk0.m w.m) (s : SIw c.K c.E lo c.O ρ r σ H w) (h : AfterS c lo D (forGo tg body ds ρ r)) :
    ∃ W : Nat → Nat → St → Hp → Prop, (∃ m, W 0 m σ H) ∧ ∀ i m σ H, W i m σ H →
      (J.stop i H ∧ D.nx σ H) ∨ (J.go i H ∧ ∃ N : St → Hp → Prop, (∀ σ' H', N σ' H' → ∃ m', m' < m ∧ W (i + 1) m' σ' H') ∧ ∀ x H', J.yld i H x H' → g x σ H' fun σ2 H2 => tb { D with nx := N, ct := N, bk := D.nx } σ2 H2) := by
  have hA : AfterS c w D (forGo tg body ds ρ r) := h.lower s.los s.lop
  refine ⟨fun i m σ H => m = ds.length - i ∧ i ≤ ds.length ∧ ∃ ρ r, SI c.K c.E w c.O ρ r σ H ∧ AfterS c w D (forGo tg body (ds.drop i) ρ r), ⟨ds.length, by simp, Nat.zero_le _, ρ, r, ⟨w, s.self⟩, by rw [List.drop_zero]; exact hA⟩, ?_⟩
  rintro i m σ' H' ⟨rfl, hi, ρ', r', ⟨w', s'⟩, h'⟩
  obtain ⟨hgo, hstop⟩ := wk w' r' H' (hsub.trans s'.los) (hpre.trans s'.lop) s'.gd i
  by_cases hlt : i < ds.length
  · refine .inr ?_
    obtain ⟨go, yl⟩ := hgo ds[i] (List.getElem?_eq_getElem hlt)
    rw [List.drop_eq_getElem_cons hlt] at h'
    refine ⟨go, fun σ2 H2 => ∃ ρ2 r2, SI c.K c.E w c.O ρ2 r2 σ2 H2 ∧ AfterS c w D (forGo tg body (ds.drop (i + 1)) ρ2 r2), fun σ2 H2 q => ⟨ds.length - (i + 1), by omega, rfl, hlt, q⟩, fun x H2 y => ?_⟩
    obtain ⟨w2, t2, g2, rx⟩ := yl x H2 y
    have s2 := s'.step t2 g2
    unfold forGo at h'
    cases e : tg ds[i] ρ' with
    | none => rw [e] at h'; exact h'.elim
    | some ρ1 =>
      rw [e] at h'
      obtain ⟨σ1, k1, k2, k3, k4⟩ := hg w2 r' H2 ρ' ρ1 σ' ds[i] x s2.gd s2.len rx e
      refine k1 _ (hb _ _ _ ⟨ρ1, r', w, ⟨w2, s2.store k2 k3 hj k4⟩, ?_⟩)
      have h2 : AfterS c w D (match body ρ1 r' with
        | .next ρ2 r2 => forGo tg body (ds.drop (i + 1)) ρ2 r2
        | .cont ρ2 r2 => forGo tg body (ds.drop (i + 1)) ρ2 r2
        | .brk ρ2 r2 => .next ρ2 r2
        | o => o) := h'
      revert h2
      generalize body ρ1 r' = o
      intro h2
      cases o with
      | next ρ2 r2 => exact fun σ3 H3 s3 => ⟨ρ2, r2, s3, h2⟩
      | cont ρ2 r2 => exact fun σ3 H3 s3 => ⟨ρ2, r2, s3, h2⟩
      | brk ρ2 r2 => exact fun σ3 H3 s3 => h2 σ3 H3 s3
      | ret d r2 => exact h2
      | exc y fs ρ2 r2 => exact h2
      | bad => exact h2
  · have ei : i = ds.length := by omega
    subst ei
    rw [List.drop_length] at h'
    exact .inl ⟨hstop (Nat.le_refl _), h' σ' H' ⟨w', s'⟩⟩
theorem ds_for {tgt iter : Expr} {body : List Stmt} {it : Lx} {g : TG} {tg : Tg} {js : List Nat} {f : Sx} (hp : PassesOwn (model X.prog X.w) X.A X.env X.xe) (hc : X.calm = true) (hi : PI X tgt iter (tI c.K c.W it)) (hg : PG X tgt g) (hd : TgD c.K g tg js) (hj : ∀ j ∈ js, j ∉ c.O) (hb : PSs X body (tS c f)) (hs : ∀ x, foldedSetIterable iter X.env x = pure x := by intro _; rfl) :
    PS X (.For tgt iter body [] pos) (tS c (sFor c.O it tg f)) :=
  (ps_for hp hc hi hg hb hs).imp fun D σ H ⟨ρ, r, lo, ⟨w, s⟩, h⟩ => ⟨wipeE ρ c.O, r, w, s.gd, s.slots, evF_dl s h fun ds r1 w1 H1 t s1 h1 J wk => for_dl hd hj (fun _ _ _ h => h) wk (.refl _) (.refl _) s1 h1⟩
def whileGo (t : Tx) (body : Sx) : Nat → Sx
  | 0 => fun _ _ => .bad
  | n + 1 => evI t fun b ρ r => if b = true then (match body ρ r with
    | .next ρ2 r2 => whileGo t body n ρ2 r2
    | .cont ρ2 r2 => whileGo t body n ρ2 r2
    | .brk ρ2 r2 => .next ρ2 r2
    | o => o) else .next ρ r
theorem ds_while {e : Expr} {body : List Stmt} {t : Tx} {f : Sx} (n : Nat) (hp : PassesOwn (model X.prog X.w) X.A X.env X.xe) (hc : PT X e (tT c.K c.W t)) (hb : PSs X body (tS c f)) : PS X (.While e body [] pos) (tS c (whileGo t f n)) :=
  (ps_while hp hc hb).imp fun D σ H ⟨ρ, r, lo, s, h⟩ => by
    refine ⟨fun m σ H => ∃ ρ r, SI c.K c.E lo c.O ρ r σ H ∧ AfterS c lo D (whileGo t f m ρ r), ⟨n, ρ, r, s, h⟩, ?_⟩
    rintro m σ H ⟨ρ, r, ⟨w, s⟩, h⟩
    cases m with
    | zero => exact h.elim
    | succ m =>
      refine ⟨ρ, r, visW w c.O ρ σ H, s.all.1, s.all.2.1, evI_dl s h fun b r1 w1 H1 t1 g1 s1 sT h1 => ?_⟩
      cases b with
      | false =>
        rw [if_neg Bool.false_ne_true] at h1 ⊢
        exact h1 σ H1 ⟨_, s1⟩
      | true =>
        rw [if_pos rfl] at h1 ⊢
        refine ⟨fun σ2 H2 => ∃ ρ2 r2, SI c.K c.E lo c.O ρ2 r2 σ2 H2 ∧ AfterS c lo D (whileGo t f m ρ2 r2), fun σ2 H2 q => ⟨m, Nat.lt_succ_self _, q⟩, ρ, r1, lo, ⟨_, s1⟩, ?_⟩
        revert h1
        generalize f ρ r1 = o
        intro h2
        cases o with
        | next ρ2 r2 => exact fun σ3 H3 s3 => ⟨ρ2, r2, s3, h2⟩
        | cont ρ2 r2 => exact fun σ3 H3 s3 => ⟨ρ2, r2, s3, h2⟩
        | brk ρ2 r2 => exact fun σ3 H3 s3 => h2 σ3 H3 s3
        | ret d r2 => exact h2
        | exc y fs ρ2 r2 => exact h2
        | bad => exact h2
/-! ### x += e over ints, raise -/
def kAug (i : Nat) (op : Int → Int → Int) : D → En → Rs → SOut := fun d ρ r => match ρ[i]?, d with
  | some (some (.int a)), .int b => .next (ρ.set i (some (.int (op a b)))) r
  | _, _ => .bad
def sAug (i : Nat) (op : Int → Int → Int) (f : Ex) : Sx := fun ρ r => match ρ[i]? with
  | some (some (.int _)) => evI f (kAug i op) ρ r
  | _ => .bad
theorem ds_aug {i : Nat} {op : Int → Int → Int} {f : Ex} (h : PS X st (tAug i (tE c.K c.W f) (ipI op))) (hi : i ∉ c.O) : PS X st (tS c (sAug i op f)) :=
  h.imp fun D σ H ⟨ρ, r, lo, ⟨w, s⟩, h⟩ => by
    unfold sAug at h
    split at h
    · rename_i a e
      obtain ⟨v, h1, h2⟩ := s.fr i _ e hi
      cases h2
      refine ⟨_, h1, ρ, r, visW w c.O ρ σ H, s.all.1, s.all.2.1, evI_dl s h fun d r1 w1 H1 t1 g1 s1 sT h3 v rv => ?_⟩
      cases rv with
      | int b =>
        have h4 : AfterS c lo D (.next (ρ.set i (some (.int (op a b)))) r1) := by
          unfold kAug at h3
          rw [e] at h3
          exact h3
        refine ⟨_, _, rfl, rfl, h4 _ _ ⟨_, s1.store (js := [i]) List.length_set List.length_set (fun j hj => by rw [List.mem_singleton.mp hj]; exact hi) fun j => ?_⟩⟩
        by_cases hj : i = j
        · subst hj
          have hl := (List.getElem?_eq_some_iff.mp e).1
          exact .inr ⟨List.mem_singleton.mpr rfl, _, _, List.getElem?_set_self hl, List.getElem?_set_self (by rw [← s.len]; exact hl), .int _⟩
        · exact .inl ⟨List.getElem?_set_ne hj, List.getElem?_set_ne hj⟩
      | _ =>
        unfold kAug at h3
        rw [e] at h3
        exact h3.elim
    · exact h.elim
def sRaise (x : Addr) : Sx := fun ρ r => .exc x [] ρ r
theorem ds_raise {e : Expr} {x : Addr} (hc : X.calm = true) (tk : Takes X c.W) (he : PMk X e (fun _ H Q => Q (.ref x) none H)) : PS X (.Raise (some e) none pos) (tS c (sRaise x)) :=
  (ps_raise hc tk he).imp fun D σ H ⟨ρ, r, lo, s, h⟩ => h σ H _ _ s ⟨rfl, rfl, rfl⟩
end
/-! ### a def -/
def runF (N : Nat) (g : Sx) : List D → Rs → Out D := fun ds r => match g (ds.map some ++ List.replicate (N - ds.length) none) r with
  | .next _ r' => .ok .non r'
  | .ret d r' => .ok d r'
  | .exc x fs _ r' => .exc x fs r'
  | _ => .bad
/-- a def's promise by a plain function; fr: a list that it hands back is new -/
def spF (K : PySem.W.Frag) (n : Nat) (fr : Bool) (F : List D → Rs → Out D) : Sp := fun vs H Q E => vs.length = n ∧ ∃ ds r w, Good K w r H ∧ Rps K w.m w.v ds vs ∧ match F ds r with
  | .ok d r' => ∀ w' H' v, Tr w H w' H' → Good K w' r' H' → PostD K fr H w' H' d v → Q v H'
  | .exc c fs r' => ∀ w' H' cls dd, Tr w H w' H' → Good K w' r' H' → ExcAt c fs cls dd H' → E cls dd H'
  | .bad => False
theorem getE_map {ds : List D} {N i : Nat} {d : D} (h : (ds.map some ++ List.replicate N none)[i]? = some (some d)) : ds[i]? = some d := by
  by_cases hi : i < ds.length
  · rw [List.getElem?_append_left (by rw [List.length_map]; exact hi), List.getElem?_map] at h
    cases e : ds[i]? with
    | none => rw [e] at h; cases h
    | some x => rw [e] at h; cases h; rfl
  · rw [List.getElem?_append_right (by rw [List.length_map]; omega)] at h
    rw [List.getElem?_replicate] at h
    split at h <;> cases h
open PyProof.Rows in
theorem ok_fn {P : Program} {w : World} {K : PySem.W.Frag} {mg : Str → Option Value} {base : Heap} {x qual : Str} {st : Stmt} {f : Addr} {fd : FuncData} {N ps : List Str} {k : Nat} {fr : Bool} (O : List Nat) {g : Sx}
    (F : Fun K x qual st f fd) (S : FnScope N ps (defScope st)) (hO : ∀ i ∈ O, ps.length ≤ i)
    (hb : ∀ (cdv : Value) (A : Around) (outer : List Env) (s : Shared) (H : Hp) (E : XK) (En : Ent), Room k (A.deeper (envOfC qual (defScope st) s.heap.objs.size f cdv)) →
      PSs (cxOf (L2.CX P w) P w K mg base N qual (defScope st) f cdv A outer s H E) (defBody st) (tS ⟨K, fun cls d _ H => E cls d H, En, fr, O⟩ g)) :
    FnOk P w K mg base (L2.CX P w) (k + 1) f fd ps (spF K ps.length fr (runF N.length g)) := by
  refine F.okX S (fun vs H Q E h => h.1) fun cdv A outer s H vs Q E hr h => ?_
  obtain ⟨hl, ds, r, w0, gd, rv, h⟩ := h
  refine ⟨_, hb cdv A outer s H E ⟨w0, H⟩ hr, ds.map some ++ List.replicate (N.length - ds.length) none, r, w0, ⟨w0, .refl _ _, .refl _, .refl _, gd, ?_, fun i d e _ => ?_, fun i d e hi => ?_, fun i j d e p hi _ _ e1 => ?_⟩, ?_⟩
  · unfold L2.start
    rw [List.length_append, List.length_append, List.length_map, List.length_map, List.length_replicate, List.length_replicate, rv.length]
  · obtain ⟨v, h1, h2⟩ := rv.get (getE_map e)
    refine ⟨v, ?_, h2⟩
    unfold L2.start
    have hi : i < vs.length := (List.getElem?_eq_some_iff.mp h1).1
    rw [List.getElem?_append_left (by rw [List.length_map]; exact hi), List.getElem?_map, h1]
    rfl
  · have hi2 := (List.getElem?_eq_some_iff.mp (getE_map e)).1
    have := hO i hi
    have := rv.length
    omega
  · have hi2 := (List.getElem?_eq_some_iff.mp (getE_map e1)).1
    have := hO i hi
    have := rv.length
    omega
  · unfold runF at h
    revert h
    generalize g (ds.map some ++ List.replicate (N.length - ds.length) none) r = o
    intro h
    cases o with
    | next ρ r' =>
      intro σ H' s
      obtain ⟨w1, s⟩ := s
      exact h w1 H' .non s.tr s.gd (postD_of .non (by cases fr <;> rfl))
    | ret d r' => exact fun w1 H' v t g q => h w1 H' v t g q
    | exc c fs ρ r' =>
      intro σ H' cls dd s e
      obtain ⟨w1, s⟩ := s
      exact h w1 H' cls dd s.tr s.gd e
    | brk ρ r' => exact h.elim
    | cont ρ r' => exact h.elim
    | bad => exact h.elim
/-- the weaker promise, as calls take it -/
theorem spF_D {K : PySem.W.Frag} {n : Nat} {fr : Bool} {F : List D → Rs → Out D} (vs : List V) (H : Hp) (Q : VK) (E : XK) (h : spD K n F vs H Q E) : spF K n fr F vs H Q E := by
  obtain ⟨hl, ds, r, w, g, rv, h⟩ := h
  refine ⟨hl, ds, r, w, g, rv, ?_⟩
  revert h
  generalize F ds r = o
  intro h
  cases o with
  | ok d r' =>
    intro w' H' v t gd q
    unfold PostD at q
    split at q
    · obtain ⟨p, rfl, n⟩ := q
      obtain ⟨xs, e, rx⟩ := n.at_
      obtain ⟨t2, g2⟩ := tr_see gd t n.fresh n.nv n.nm e
      refine h _ H' t2 g2 _ (.lst see_at (rx.mono (fun a u z => ?_) (.refl _)))
      have hne : a ≠ p := by rintro rfl; rw [n.nv] at z; cases z
      show upd w'.v p _ a = some u
      rw [upd_ne hne]; exact z
    · exact h w' H' t gd v q
  | exc c fs r' => exact h
  | bad => exact h
theorem FnOk.d {P : Program} {w : World} {K : PySem.W.Frag} {mg : Str → Option Value} {base : Heap} {CX : CXT} {k n : Nat} {f : Addr} {fd : FuncData} {ps : List Str} {fr : Bool} {F : List D → Rs → Out D} (G : FnOk P w K mg base CX k f fd ps (spF K n fr F)) :
    FnOk P w K mg base CX k f fd ps (spD K n F) := G.imp fun vs H Q E h => spF_D vs H Q E h
end DL

/-! DL10: dicts; resources. -/
namespace DL
open PySem L2

/-! ### dicts, as data -/
def getK (kds : List (Key × D)) (k : Key) : Option D := (kds.find? fun p => decide (p.1 = k)).map (·.2)
def setK (kds : List (Key × D)) (k : Key) (d : D) : List (Key × D) :=
  if (kds.any fun p => decide (p.1 = k)) = true then kds.map (fun p => if p.1 = k then (p.1, d) else p) else kds ++ [(k, d)]
def keyOf : D → Option Key
  | .int i => some (.inl i)
  | .str x => some (.inr x)
  | _ => none
section
variable {K : PySem.W.Frag} {m : List Addr} {H : Hp}
theorem Rp.key {d : D} {v : V} {k : Key} (h : Rp K m H d v) (e : keyOf d = some k) : v = kV k := by
  cases h <;> simp only [keyOf] at e <;> cases e <;> rfl
theorem Rpk.length : ∀ {kds : List (Key × D)} {kvs : List (Key × V)}, Rpk K m H kds kvs → kds.length = kvs.length
  | _, _, .nil => rfl
  | _, _, .cons _ r => congrArg (· + 1) r.length
theorem Rpk.get (k : Key) : ∀ {kds : List (Key × D)} {kvs : List (Key × V)}, Rpk K m H kds kvs → (∃ d v, getK kds k = some d ∧ valV kvs k = some v ∧ Rp K m H d v) ∨ (getK kds k = none ∧ valV kvs k = none)
  | _, _, .nil => .inr ⟨rfl, rfl⟩
  | (k', d) :: kds, (_, v) :: kvs, .cons h r => by
    by_cases e : k' = k
    · refine .inl ⟨d, v, ?_, valV_pos e, h⟩
      unfold getK
      rw [List.find?_cons]
      simp [e]
    · have e1 : getK ((k', d) :: kds) k = getK kds k := by
        unfold getK
        rw [List.find?_cons]
        simp [e]
      rw [e1, valV_neg (p := (k', v)) e]
      exact Rpk.get k r
theorem Rpk.any (k : Key) : ∀ {kds : List (Key × D)} {kvs : List (Key × V)}, Rpk K m H kds kvs → (kds.any fun p => decide (p.1 = k)) = (kvs.any fun p => decide (p.1 = k))
  | _, _, .nil => rfl
  | _ :: _, _ :: _, .cons _ r => by rw [List.any_cons, List.any_cons, Rpk.any k r]
theorem Rpk.repl (k : Key) {d : D} {v : V} (h : Rp K m H d v) : ∀ {kds : List (Key × D)} {kvs : List (Key × V)}, Rpk K m H kds kvs → Rpk K m H (kds.map fun p => if p.1 = k then (p.1, d) else p) (kvs.map fun p => if p.1 = k then (p.1, v) else p)
  | _, _, .nil => .nil
  | (k', _) :: _, _ :: _, .cons q r => by
    rw [List.map_cons, List.map_cons]
    by_cases e : k' = k
    · rw [if_pos e, if_pos e]
      exact .cons h (Rpk.repl k h r)
    · rw [if_neg e, if_neg e]
      exact .cons q (Rpk.repl k h r)
theorem Rpk.snoc {k : Key} {d : D} {v : V} (h : Rp K m H d v) : ∀ {kds : List (Key × D)} {kvs : List (Key × V)}, Rpk K m H kds kvs → Rpk K m H (kds ++ [(k, d)]) (kvs ++ [(k, v)])
  | _, _, .nil => .cons h .nil
  | _, _, .cons q r => .cons q (Rpk.snoc h r)
theorem Rpk.put (k : Key) {d : D} {v : V} (h : Rp K m H d v) {kds : List (Key × D)} {kvs : List (Key × V)} (r : Rpk K m H kds kvs) : Rpk K m H (setK kds k d) (putK kvs k v) := by
  unfold setK putK
  rw [r.any k]
  split
  · exact r.repl k h
  · exact r.snoc h
end
section
variable {X : Cx} {W : WX}
/-- d[k], d.get(k), d.get(k, x), k in d -/
def dGet : D → D → Option (Option D)
  | .dic kds, k => (keyOf k).map fun k => getK kds k
  | _, _ => none
theorem dGet_dl {w : Wd} {r : Rs} {H : Hp} {x y : D} {v u : V} {o : Option D} (g : Good X.K w r H) (rx : Rp X.K w.m w.v x v) (ry : Rp X.K w.m w.v y u) (e : dGet x y = some o) :
    ∃ a o', v = .ref a ∧ IsD H a ∧ DGet H a u o' ∧ ((o = none ∧ o' = none) ∨ ∃ d z, o = some d ∧ o' = some z ∧ Rp X.K w.m w.v d z) := by
  cases rx <;> simp only [dGet] at e <;> try cases e
  rename_i a kvs kds hx rx
  cases q : keyOf y with
  | none => rw [q] at e; cases e
  | some k =>
    rw [q] at e
    cases e
    have hk := ry.key q
    have hH := g.sub _ _ hx
    rcases rx.get k with ⟨d, z, h1, h2, h3⟩ | ⟨h1, h2⟩
    · refine ⟨a, some z, rfl, .inl ⟨kvs, .inl hH⟩, ?_, .inr ⟨d, z, h1, rfl, h3⟩⟩
      rw [hk, ← h2]
      exact DGet.k hH
    · refine ⟨a, none, rfl, .inl ⟨kvs, .inl hH⟩, ?_, .inl ⟨h1, rfl⟩⟩
      rw [hk, ← h2]
      exact DGet.k hH
def xDGet (f g : Ex) : Ex := fun ρ r => (f ρ r).bind fun a r1 => (g ρ r1).bind fun b r2 => match dGet a b with
  | some (some d) => .ok d r2
  | _ => .bad
theorem de_dget {a b : Expr} {pos : Pos} {f g : Ex} {k : Nat} (hr : Room k X.A) (ha : PE X a (tE X.K W f)) (hb : PE X b (tE X.K W g)) (hs : NoSl b := by exact fun _ _ => rfl) : PE X (.Subscript a b pos) (tE X.K W (xDGet f g)) :=
  (pe_dget (hu_of hr) ha hb hs).imp fun σ H Q ⟨ρ, r, w, gd, s, h⟩ => ⟨ρ, r, w, gd, s, h.bind fun a w1 r1 H1 t1 g1 h1 v rv => ⟨ρ, r1, w1, g1, s.mono t1, h1.bind fun b w2 r2 H2 t2 g2 h2 u ru => by
    split at h2
    · rename_i d e
      obtain ⟨p, o', e1, _, e3, e4⟩ := dGet_dl g2 (t2.rp rv) ru e
      rcases e4 with ⟨z, _⟩ | ⟨d', z, e5, e6, e7⟩
      · cases z
      · cases e5
        subst e6
        exact ⟨p, z, e1, e3, h2.ok g2 _ e7⟩
    · exact h2.elim⟩⟩
def D.isD : D → Bool
  | .dic _ => true
  | _ => false
def xDGet1 (f g : Ex) : Ex := fun ρ r => (f ρ r).bind fun a r1 => if a.isD = true then (g ρ r1).bind fun b r2 => (match dGet a b with
  | some o => .ok (o.getD .non) r2
  | _ => .bad) else .bad
def xDGet2 (f g h : Ex) : Ex := fun ρ r => (f ρ r).bind fun a r1 => if a.isD = true then (g ρ r1).bind fun b r2 => (h ρ r2).bind fun c r3 => (match dGet a b with
  | some o => .ok (o.getD c) r3
  | _ => .bad) else .bad
theorem isD_dl {w : Wd} {r : Rs} {H : Hp} {x : D} {v : V} (g : Good X.K w r H) (rx : Rp X.K w.m w.v x v) (e : x.isD = true) : ∃ a, v = .ref a ∧ IsD H a := by
  cases rx <;> first | (cases e; done) | skip
  rename_i a kvs kds hx rx
  exact ⟨a, rfl, .inl ⟨kvs, .inl (g.sub _ _ hx)⟩⟩
def xDIn (f g : Ex) : Tx := fun ρ r => (f ρ r).bind fun a r1 => (g ρ r1).bind fun b r2 => match dGet b a with
  | some o => .ok o.isSome r2
  | _ => .bad
theorem dIn_dl {K : PySem.W.Frag} {neg : Bool} {f g : Ex} {σ : L2.St} {H : Hp} {Q : Bool → Hp → Prop} {X : Cx} (eK : X.K = K) (h : tT K W (xDIn f g) σ H (fun b H => Q (neg.xor b) H)) :
    tE K W f σ H fun y H1 => tE K W g σ H1 fun x H2 => ∃ a o, x = .ref a ∧ DGet H2 a y o ∧ Q (neg.xor o.isSome) H2 := by
  subst eK
  obtain ⟨ρ, r, w, gd, s, h⟩ := h
  refine ⟨ρ, r, w, gd, s, h.bind fun a w1 r1 H1 t1 g1 h1 v rv => ⟨ρ, r1, w1, g1, s.mono t1, h1.bind fun b w2 r2 H2 t2 g2 h2 u ru => ?_⟩⟩
  split at h2
  · rename_i o e
    obtain ⟨p, o', e1, _, e3, e4⟩ := dGet_dl g2 ru (t2.rp rv) e
    refine ⟨p, o', e1, e3, ?_⟩
    have h3 := h2.ok g2
    rcases e4 with ⟨z1, z2⟩ | ⟨d', z, e5, e6, e7⟩
    · subst z1; subst z2; exact h3
    · subst e5; subst e6; exact h3
  · exact h2.elim
theorem dt_din {a b : Expr} {pos : Pos} {f g : Ex} {k : Nat} (hr : Room k X.A) (ha : PE X a (tE X.K W f)) (hb : PE X b (tE X.K W g)) (hm : behindInMarks .In b = false := by rfl) : PT X (.Compare a [.In] [b] pos) (tT X.K W (xDIn f g)) :=
  (pt_cmp (pc_din (hu_of hr) ha hb) hm).imp fun σ H Q h => by
    have q := dIn_dl (neg := false) (X := X) (Q := Q) rfl (by simpa using h)
    obtain ⟨ρ, r, w, gd, s, q⟩ := q
    exact ⟨ρ, r, w, gd, s, q.mono fun d w1 r1 H1 t1 g1 q v rv => by
      obtain ⟨ρ2, r2, w2, gd2, s2, q2⟩ := q v rv
      exact ⟨ρ2, r2, w2, gd2, s2, q2.mono fun d2 w3 r3 H3 t3 g3 q3 v3 rv3 => by
        obtain ⟨a, o, e1, e2, e3⟩ := q3 v3 rv3
        exact ⟨a, o, e1, e2, _, rfl, by simpa using e3⟩⟩⟩
theorem dt_dnotin {a b : Expr} {pos : Pos} {f g : Ex} {k : Nat} (hr : Room k X.A) (ha : PE X a (tE X.K W f)) (hb : PE X b (tE X.K W g)) (hm : behindInMarks .NotIn b = false := by rfl) : PT X (.Compare a [.NotIn] [b] pos) (tT X.K W (xNot (xDIn f g))) :=
  (pt_cmp (pc_dnotin (hu_of hr) ha hb) hm).imp fun σ H Q h => by
    have h' : tT X.K W (xDIn f g) σ H (fun b H => Q (!b) H) := by
      obtain ⟨ρ, r, w, gd, s, h⟩ := h
      exact ⟨ρ, r, w, gd, s, h.bind fun b w1 r1 H1 t1 g1 h1 => h1.ok g1⟩
    have q := dIn_dl (neg := true) (X := X) (Q := Q) rfl (by simpa using h')
    obtain ⟨ρ, r, w, gd, s, q⟩ := q
    exact ⟨ρ, r, w, gd, s, q.mono fun d w1 r1 H1 t1 g1 q v rv => by
      obtain ⟨ρ2, r2, w2, gd2, s2, q2⟩ := q v rv
      exact ⟨ρ2, r2, w2, gd2, s2, q2.mono fun d2 w3 r3 H3 t3 g3 q3 v3 rv3 => by
        obtain ⟨a, o, e1, e2, e3⟩ := q3 v3 rv3
        exact ⟨a, o, e1, e2, _, rfl, by simpa using e3⟩⟩⟩
section
variable {o e f : Expr} {apos cpos : Pos} {fo fe ff : Ex} {k : Nat}
theorem de_get1 (hr : Room k X.A) (ho : PE X o (tE X.K W fo)) (he : PE X e (tE X.K W fe)) (m : M1 X o "get" apos e cpos := by exact ⟨rfl, rfl, rfl, rfl⟩) : PE X (.Call (.Attribute o "get" apos) [e] [] cpos) (tE X.K W (xDGet1 fo fe)) :=
  (pe_dget1 (hu_of hr) ho he m).imp fun σ H Q ⟨ρ, r, w, gd, s, h⟩ => ⟨ρ, r, w, gd, s, h.bind fun a w1 r1 H1 t1 g1 h1 v rv => by
    split at h1
    · rename_i hd
      obtain ⟨p, ep, ip⟩ := isD_dl g1 rv hd
      refine ⟨p, ep, ip, ρ, r1, w1, g1, s.mono t1, h1.bind fun b w2 r2 H2 t2 g2 h2 u ru => ?_⟩
      split at h2
      · rename_i o e
        obtain ⟨p', o', e1, _, e3, e4⟩ := dGet_dl g2 (t2.rp rv) ru e
        rw [ep] at e1
        cases e1
        refine ⟨o', e3, ?_⟩
        rcases e4 with ⟨z1, z2⟩ | ⟨d', z, e5, e6, e7⟩
        · subst z1; subst z2
          exact h2.ok g2 _ .non
        · subst e5; subst e6
          exact h2.ok g2 _ e7
      · exact h2.elim
    · exact h1.elim⟩
theorem de_get2 (hr : Room k X.A) (ho : PE X o (tE X.K W fo)) (he : PE X e (tE X.K W fe)) (hf : PE X f (tE X.K W ff)) (m : M2 X o "get" apos e f cpos := by exact ⟨rfl, rfl, rfl, rfl⟩) : PE X (.Call (.Attribute o "get" apos) [e, f] [] cpos) (tE X.K W (xDGet2 fo fe ff)) :=
  (pe_dget2 (hu_of hr) ho he hf m).imp fun σ H Q ⟨ρ, r, w, gd, s, h⟩ => ⟨ρ, r, w, gd, s, h.bind fun a w1 r1 H1 t1 g1 h1 v rv => by
    split at h1
    · rename_i hd
      obtain ⟨p, ep, ip⟩ := isD_dl g1 rv hd
      refine ⟨p, ep, ip, ρ, r1, w1, g1, s.mono t1, h1.bind fun b w2 r2 H2 t2 g2 h2 u ru => ⟨ρ, r2, w2, g2, s.mono (t1.trans t2), h2.bind fun c w3 r3 H3 t3 g3 h3 x rx => ?_⟩⟩
      split at h3
      · rename_i o e
        obtain ⟨p', o', e1, _, e3, e4⟩ := dGet_dl g3 ((t2.trans t3).rp rv) (t3.rp ru) e
        rw [ep] at e1
        cases e1
        refine ⟨o', e3, ?_⟩
        rcases e4 with ⟨z1, z2⟩ | ⟨d', z, e5, e6, e7⟩
        · subst z1; subst z2
          exact h3.ok g3 _ rx
        · subst e5; subst e6
          exact h3.ok g3 _ e7
      · exact h3.elim
    · exact h1.elim⟩
end
/-- a written dict's item -/
def xKD (tab : List (Str × D)) (g : Ex) : Ex := fun ρ r => (g ρ r).bind fun b r1 => match b with
  | .str x => (match tab.lookup x with
    | some d => .ok d r1
    | none => .bad)
  | _ => .bad
theorem de_kd {a b : Expr} {pos : Pos} {g : Ex} {p : Addr} {tab : List (Str × D)} (ha : PE X a (tC (.ref p))) (hb : PE X b (tE X.K W g)) (ht : ∀ x d, tab.lookup x = some d → ∃ v, KDct X.K X.w p x v ∧ ∀ m H, Rp X.K m H d v) (hs : PlainIx b := by exact fun _ _ => rfl) :
    PE X (.Subscript a b pos) (tE X.K W (xKD tab g)) :=
  (pe_ix ix_kdict ha hb hs).imp fun σ H Q ⟨ρ, r, w, gd, s, h⟩ => ⟨ρ, r, w, gd, s, h.bind fun b w1 r1 H1 t1 g1 h1 v rv => by
    split at h1
    · split at h1
      · rename_i d e
        obtain ⟨z, k1, k2⟩ := ht _ d e
        cases rv
        exact ⟨p, _, z, rfl, rfl, k1, h1.ok g1 _ (k2 _ _)⟩
      · exact h1.elim
    · exact h1.elim⟩
/-! ### a new dict -/
structure NewD (K : PySem.W.Frag) (w : Wd) (H0 H : Hp) (ds : List (Key × D)) (p : Addr) : Prop where
  fresh : H0 p = none
  nv : w.v p = none
  nm : p ∉ w.m
  at_ : ∃ xs, H p = some (.dK xs) ∧ Rpk K w.m w.v ds xs
abbrev Dx := En → Rs → Out (List (Key × D))
def tND (K : PySem.W.Frag) (W : WX) (f : Dx) : TE := fun σ H Q => ∃ ρ r w, Good K w r H ∧ Slots K w ρ σ ∧
  After K W w H σ (f ρ r) fun ds w' _ H' => ∀ p, NewD K w' H H' ds p → Q (.ref p) H'
def xD (f : Dx) : Ex := fun ρ r => (f ρ r).bind fun ds r1 => .ok (.dic ds) r1
theorem de_nd {e : Expr} {f : Dx} (h : PE X e (tND X.K W f)) : PE X e (tE X.K W (xD f)) := h.imp fun σ H Q ⟨ρ, r, w, g, s, h⟩ => ⟨ρ, r, w, g, s, h.fst fun ds w1 r1 H1 _ t1 g1 q _ p n => by
  obtain ⟨xs, hp, rx⟩ := n.at_
  obtain ⟨t2, g2⟩ := tr_see g1 t1 n.fresh n.nv n.nm hp
  refine q _ r1 rfl (w1.see p (.dK xs)) H1 t2 g2 (.ref p) (.dic see_at ?_)
  exact rx.mono (fun a u e => by
    have hne : a ≠ p := by rintro rfl; rw [n.nv] at e; cases e
    show upd w1.v p _ a = some u
    rw [upd_ne hne]; exact e) (.refl _)⟩
theorem newD_hid {K : PySem.W.Frag} {w w0 : Wd} {r : Rs} {H0 H : Hp} (g : Good K w r H) (t : Tr w0 H0 w H) {p : Addr} {ds : List (Key × D)} {xs : List (Key × V)} (h : H p = none) (rx : Rpk K w.m w.v ds xs) : NewD K w H0 (upd H p (.dK xs)) ds p :=
  ⟨t.fresh h, g.none_of h, fun hm => g.live hm h, xs, upd_same, rx⟩
def xDNew : Dx := fun _ r => .ok [] r
theorem dnd_new {pos : Pos} : PE X (.Dict [] [] pos) (tND X.K W xDNew) := pe_dnewK.imp fun σ H Q ⟨ρ, r, w, g, s, h⟩ p hp => by
  obtain ⟨t2, g2⟩ := tr_hid (o := .dK []) g hp
  exact h w _ t2 g2 p (newD_hid g (.refl _ _) hp .nil)
/-- dict(x): a copy -/
theorem call_dictC : CallR X (.type "dict") (fun xs H Q => ∃ a kvs, xs = [.ref a] ∧ Rd H a (.dK kvs) ∧ ∀ p, H p = none → Q (.ref p) (upd H p (.dK kvs))) := by
  intro pins s σ H xs us Q I r h
  obtain ⟨a, kvs, rfl, e, q⟩ := h
  obtain ⟨u, rfl, ru⟩ := vals1 r
  obtain rfl : u = Value.ref a := ru
  exact d_copyOf I e fun p s' hp I' => ⟨.ref p, _, I', rfl, q p hp⟩
def dicOf : List D → Option (List (Key × D))
  | [.dic kds] => some kds
  | _ => none
def xDCopy (f : Ax) : Dx := fun ρ r => (f ρ r).bind fun ds r1 => match dicOf ds with
  | some kds => .ok kds r1
  | none => .bad
theorem dnd_copy {x : Str} {p pos : Pos} {e : Expr} {es : List Expr} {f : Ax} (hg : Gl X x) (hm : X.mg x = none) (hv : bootBuiltins x = some (.type "dict")) (ha : PA X (e :: es) (tA X.K W f)) (hn : x ≠ "__name__" := by decide) (hdb : (x == ("__debug__" : Str)) = false := by decide)
    (he : starEach (e :: es) X.env = (false, eval e X.env) :: starEach es X.env := by rfl) (hpl : (backTo pos (starEach es X.env)).any (·.1) = false := by rfl) : PE X (.Call (.Name x p) (e :: es) [] pos) (tND X.K W (xDCopy f)) :=
  (pe_callTy call_dictC hg hm hv ha hn hdb he hpl).imp fun σ H Q ⟨ρ, r, w, gd, s, h⟩ => ⟨ρ, r, w, gd, s, h.fst fun ds w1 r1 H1 _ t1 g1 q h1 vs rvs => by
    split at h1
    · rename_i kds e
      have e' : (match dicOf ds with | some kds => Out.ok kds r1 | none => .bad) = .ok kds r1 := by rw [e]
      cases rvs with
      | nil => cases e
      | cons rv rt =>
        cases rt with
        | cons _ _ => cases rv <;> cases e
        | nil =>
          cases rv with
          | dic hx rx =>
            cases e
            refine ⟨_, _, rfl, .inl (g1.sub _ _ hx), fun p hp => ?_⟩
            obtain ⟨t2, g2⟩ := tr_hid g1 hp
            exact q _ r1 e' w1 _ (t1.trans t2) g2 p (newD_hid g1 t1 hp rx)
          | _ => cases e
    · exact h1.elim⟩
/-! the display {k: v, ..} -/
def xPs : List (Ex × Ex) → En → Rs → Out (List (Key × D))
  | [], _, r => .ok [] r
  | (f, g) :: ps, ρ, r => (f ρ r).bind fun a r1 => (g ρ r1).bind fun b r2 => match keyOf a with
    | some k => (xPs ps ρ r2).bind fun l r3 => .ok ((k, b) :: l) r3
    | none => .bad
def mergeD (kds more : List (Key × D)) : List (Key × D) := more.foldl (fun acc p => setK acc p.1 p.2) kds
theorem Rpk.merge {K : PySem.W.Frag} {m : List Addr} {H : Hp} : ∀ {more : List (Key × D)} {mv : List (Key × V)} {kds : List (Key × D)} {kvs : List (Key × V)}, Rpk K m H more mv → Rpk K m H kds kvs → Rpk K m H (mergeD kds more) (mergeK kvs mv)
  | _, _, _, _, .nil, r => r
  | (k, d) :: more, (_, v) :: mv, kds, kvs, .cons h t, r => by
    show Rpk K m H (mergeD (setK kds k d) more) (mergeK (putK kvs k v) mv)
    exact Rpk.merge t (r.put k h)
/-- the pairs' readings -/
def tPr (K : PySem.W.Frag) (W : WX) (ps : List (Ex × Ex)) : List (TE × TE) := ps.map fun p => (tE K W p.1, tE K W p.2)
theorem pairs_dl {K : PySem.W.Frag} {σ : L2.St} : ∀ (ps : List (Ex × Ex)) {H : Hp} {Q : List (V × V) → Hp → Prop} {ρ : En} {r : Rs} {w : Wd}, Good K w r H → Slots K w ρ σ →
    After K W w H σ (xPs ps ρ r) (fun l w' _ H' => ∀ vs : List (Key × V), Rpk K w'.m w'.v l vs → Q (vs.map fun kv => (kV kv.1, kv.2)) H') → tPairs (tPr K W ps) σ H Q
  | [], H, Q, ρ, r, w, g, s, h => h.ok g [] .nil
  | (f, k) :: ps, H, Q, ρ, r, w, g, s, h => by
    refine ⟨ρ, r, w, g, s, h.bind fun a w1 r1 H1 t1 g1 h1 v rv => ⟨ρ, r1, w1, g1, s.mono t1, h1.bind fun b w2 r2 H2 t2 g2 h2 u ru => ?_⟩⟩
    split at h2
    · rename_i k e
      refine pairs_dl ps g2 (s.mono (t1.trans t2)) (h2.bind fun l w3 r3 H3 t3 g3 h3 vs rvs => ?_)
      have := h3.ok g3 ((k, u) :: vs) (.cons (t3.rp ru) rvs)
      rw [List.map_cons] at this
      rw [rv.key e]
      exact this
    · exact h2.elim
def xDisp (ps : List (Ex × Ex)) : Dx := fun ρ r => (xPs ps ρ r).bind fun l r1 => if l.length ≤ 15 then .ok (mergeD [] l) r1 else .bad
theorem xPs_len : ∀ {ps : List (Ex × Ex)} {ρ : En} {r : Rs} {l : List (Key × D)} {r' : Rs}, xPs ps ρ r = .ok l r' → l.length = ps.length := by
  intro ps
  induction ps with
  | nil => intro ρ r l r' h; cases h; rfl
  | cons p ps ih =>
    intro ρ r l r' h
    obtain ⟨f, g⟩ := p
    unfold xPs at h
    cases e1 : f ρ r with
    | exc c fs r1 => rw [e1] at h; cases h
    | bad => rw [e1] at h; cases h
    | ok a r1 =>
      rw [e1] at h
      have h : ((g ρ r1).bind fun b r2 => match keyOf a with | some k => (xPs ps ρ r2).bind fun l r3 => .ok ((k, b) :: l) r3 | none => .bad) = Out.ok l r' := h
      cases e2 : g ρ r1 with
      | exc c fs r2 => rw [e2] at h; cases h
      | bad => rw [e2] at h; cases h
      | ok b r2 =>
        rw [e2] at h
        have h : (match keyOf a with | some k => (xPs ps ρ r2).bind fun l r3 => .ok ((k, b) :: l) r3 | none => .bad) = Out.ok l r' := h
        cases e3 : keyOf a with
        | none => rw [e3] at h; cases h
        | some k =>
          rw [e3] at h
          have h : ((xPs ps ρ r2).bind fun l r3 => .ok ((k, b) :: l) r3) = Out.ok l r' := h
          cases e4 : xPs ps ρ r2 with
          | exc c fs r2 => rw [e4] at h; cases h
          | bad => rw [e4] at h; cases h
          | ok l2 r3 =>
            rw [e4] at h
            cases h
            rw [List.length_cons, List.length_cons, ih e4]
theorem dnd_disp {pos : Pos} {keys : List (Option Expr)} {values : List Expr} {ps : List (Ex × Ex)} (h : PPs X pos keys values (tPr X.K W ps)) (hall : keys.all (·.isSome) = true) (hl : keys.length = values.length) (h0 : keys ≠ []) (h15 : keys.length ≤ 15) :
    PE X (.Dict keys values pos) (tND X.K W (xDisp ps)) :=
  (pe_disp h hall hl h0 h15).imp fun σ H Q ⟨ρ, r, w, g, s, h⟩ p hp => by
    obtain ⟨t0, g0⟩ := tr_hid (o := .dK []) g hp
    have hv := g.none_of hp
    have hm : p ∉ w.m := fun z => g.live z hp
    have h' : After X.K W w (upd H p (.dK [])) σ (xPs ps ρ r) (fun l w' _ H' => ∀ vs : List (Key × V), Rpk X.K w'.m w'.v l vs → H' p = some (.dK []) ∧ ∃ kvs : List (Key × V), vs.map (fun kv => (kV kv.1, kv.2)) = kvs.map (fun kv => (kV kv.1, kv.2)) ∧ kvs.length ≤ 15 ∧ Q (.ref p) (upd H' p (.dK (mergeK [] kvs)))) := by
      unfold xDisp at h
      revert h
      generalize xPs ps ρ r = o
      intro h
      cases o with
      | ok l r1 =>
        intro w1 H1 t1 g1 vs rvs
        have t := t0.trans t1
        obtain ⟨k1, k2, k3⟩ := own_keep t1 (upd_same : upd H p (.dK []) p = _) hv hm
        have hp1 : H1 p = some (.dK []) := k1.trans upd_same
        have h : After X.K W w H σ (if l.length ≤ 15 then Out.ok (mergeD [] l) r1 else .bad) _ := h
        split at h
        · rename_i hl15
          refine ⟨hp1, vs, rfl, by rw [← rvs.length]; exact hl15, ?_⟩
          obtain ⟨t2, g2⟩ := tr_own (u := .dK (mergeK [] vs)) g1 t hp k2 k3 hp1
          exact h w1 _ t2 g2 p ⟨hp, k2, k3, _, upd_same, Rpk.merge rvs .nil⟩
        · exact h.elim
      | exc c fs r1 => exact fun w1 H1 cls dd t1 g1 e => h w1 H1 cls dd (t0.trans t1) g1 e
      | bad => exact h
    exact pairs_dl ps g0 ⟨s.len, s.at_⟩ h'
end
/-! ### statements over dicts of one's own -/
section
variable {X : Cx} {c : Sc} {st : Stmt} {pos : Pos}
theorem SIw.newD {K : PySem.W.Frag} {E : Ent} {lo : Wd} {O : List Nat} {ρ : En} {r r' : Rs} {σ : L2.St} {H H0 : Hp} {w w0 : Wd} {ds : List (Key × D)} {p : Addr} {i : Nat} (s : SIw K E lo O ρ r σ H w) (s0 : SIw K E lo O ρ r' σ H0 w0) (hi : i ∈ O) (hil : i < ρ.length) (n : NewD K w H0 H ds p) :
    SIw K E lo O (ρ.set i (some (.dic ds))) r (σ.set i (some (.ref p))) H w := by
  refine s.setOwn hi hil n.at_ n.nv n.nm (s0.tr.fresh n.fresh) fun j e hj hji q z => ?_
  obtain ⟨p2, a1, a2, _⟩ := s0.ow j e q hj
  rw [z] at a1
  cases a1
  obtain ⟨o, ho, _⟩ := a2.live
  rw [n.fresh] at ho
  cases ho
def kOwnD (i : Nat) : List (Key × D) → En → Rs → SOut := fun ds ρ r => if i < ρ.length then .next (ρ.set i (some (.dic ds))) r else .bad
def sAsgD (O : List Nat) (i : Nat) (f : Dx) : Sx := evF O f (kOwnD i)
theorem ds_asgD {f : Dx} {i : Nat} (h : PS X st (tAsg (tND c.K c.W f) (gName i))) (hi : i ∈ c.O) : PS X st (tS c (sAsgD c.O i f)) :=
  h.imp fun D σ H ⟨ρ, r, lo, ⟨w, s⟩, h⟩ => ⟨wipeE ρ c.O, r, w, s.gd, s.slots, evF_dl s h fun ds r1 w1 H1 t s1 h1 p n => by
    unfold kOwnD at h1
    split at h1
    · rename_i hl
      exact h1 _ _ ⟨w1, s1.newD s hi hl n⟩
    · exact h1.elim⟩
/-- d[k] = v, d of one's own -/
def kDPut (i : Nat) (v : D) : D → En → Rs → SOut := fun k ρ r => match keyOf k, ρ[i]? with
  | some k, some (some (.dic kds)) => if kds.length < lim then .next (ρ.set i (some (.dic (setK kds k v)))) r else .bad
  | _, _ => .bad
def sDPut' (O : List Nat) (i : Nat) (fk fv : Ex) : Sx := evF O fv fun v => evF O fk (kDPut i v)
def isOwnD (i : Nat) (g : Sx) : Sx := fun ρ r => match ρ[i]? with
  | some (some (.dic _)) => g ρ r
  | _ => .bad
theorem ds_dput {i : Nat} {fk fv : Ex} (h : PS X st (sDPut (tVar i) (tE c.K c.W fk) (tE c.K c.W fv))) (hi : i ∈ c.O) : PS X st (tS c (isOwnD i (sDPut' c.O i fk fv))) :=
  h.imp fun D σ H ⟨ρ, r, lo, ⟨w, s⟩, h⟩ => by
    unfold isOwnD at h
    split at h
    · rename_i kds e
      obtain ⟨p, h1, h2, _⟩ := s.ow i _ e hi
      refine ⟨wipeE ρ c.O, r, w, s.gd, s.slots, evF_dl s h fun v r1 w1 H1 t s1 h2 x rx => ⟨_, h1, wipeE ρ c.O, r1, w1, s1.gd, s1.slots, evF_dl s1 h2 fun k r2 w2 H2 t2 s2 h3 y ry => ?_⟩⟩
      unfold kDPut at h3
      split at h3
      · rename_i k' kds' q1 q2
        split at h3
        · rename_i hl
          obtain ⟨p', a1, a2, _⟩ := s2.ow i _ q2 hi
          rw [h1] at a1
          cases a1
          obtain ⟨kvs, b1, b2⟩ := a2
          refine ⟨p, _, rfl, .inl ⟨kvs, k', b1, ry.key q1, by rw [← b2.length]; exact lim_lt hl, rfl⟩, h3 _ _ ⟨w2, s2.mut hi q2 h1 ⟨_, upd_same, b2.put k' (t2.rp rx)⟩⟩⟩
        · exact h3.elim
      · exact h3.elim
    · exact h.elim
end
/-! ### resources -/
section
variable {X : Cx} {W : WX}
theorem roAt_live {K : PySem.W.Frag} {m : List Addr} {v H : Hp} {a : Addr} {o : RO} (h : RoAt K m v H a o) : ∃ u, H a = some u ∧ ∀ xs, ¬ Rd H a (.tup xs) := by
  cases o with
  | lst ds => obtain ⟨_, xs, e, _⟩ := h; exact ⟨_, e, fun ys z => by rcases z with z | ⟨u, z⟩ <;> (rw [e] at z; cases z)⟩
  | dic ds => obtain ⟨_, xs, e, _⟩ := h; exact ⟨_, e, fun ys z => by rcases z with z | ⟨u, z⟩ <;> (rw [e] at z; cases z)⟩
/-- a resource is changed -/
theorem good_res {K : PySem.W.Frag} {w : Wd} {r : Rs} {H : Hp} (g : Good K w r H) {n : Nat} {a : Addr} {o o' : RO} {u : HO} (hm : w.m[n]? = some a) (hr : r[n]? = some o) (h : RoAt K w.m w.v (upd H a u) a o') : Tr w H w (upd H a u) ∧ Good K w (r.set n o') (upd H a u) := by
  have ha : a ∈ w.m := List.mem_iff_getElem?.mpr ⟨n, hm⟩
  obtain ⟨a', ha', x⟩ := g.at_ n o hr
  rw [hm] at ha'
  cases ha'
  obtain ⟨u0, hu, nt⟩ := roAt_live x
  refine ⟨⟨.refl _, .refl _, fun b q e n => ?_, fun b e => ?_, fun b e => .inl e, fun b e => .inl e, fun b xs e => ?_⟩, ⟨fun b q e => ?_, g.dis, by rw [List.length_set]; exact g.len, g.nd, fun j q e => ?_⟩⟩
  · have hne : b ≠ a := by rintro rfl; exact n ha
    rw [upd_ne hne]; exact e
  · by_cases hb : b = a
    · subst hb; rw [upd_same]; intro z; cases z
    · rw [upd_ne hb]; exact e
  · have hne : b ≠ a := by rintro rfl; exact nt xs e
    rcases e with e | ⟨z, e⟩
    · exact .inl (by rw [upd_ne hne]; exact e)
    · exact .inr ⟨z, by rw [upd_ne hne]; exact e⟩
  · have hne : b ≠ a := by rintro rfl; rw [g.dis b ha] at e; cases e
    rw [upd_ne hne]; exact g.sub b q e
  · by_cases hj : n = j
    · subst hj
      rw [List.getElem?_set_self (List.getElem?_eq_some_iff.mp hr).1] at e
      cases e
      exact ⟨a, hm, h⟩
    · rw [List.getElem?_set_ne hj] at e
      obtain ⟨b, hb, y⟩ := g.at_ j q e
      refine ⟨b, hb, roAt_mono (fun _ _ h => h) (.refl _) (upd_ne ?_) y⟩
      rintro rfl
      obtain ⟨l1, e1⟩ := List.getElem?_eq_some_iff.mp hm
      obtain ⟨l2, e2⟩ := List.getElem?_eq_some_iff.mp hb
      exact hj ((List.getElem_inj g.nd).mp (e1.trans e2.symm))
/-- xs.append(e), xs a resource -/
def xAppR (f : Ex) (g : Ax) : Ex := fun ρ r => (f ρ r).bind fun a r1 => match a with
  | .loc n => (match r1[n]? with
    | some (.lst _) => (g ρ r1).bind fun ds r2 => (match ds, r2[n]? with
      | [d], some (.lst xs) => if d.imm && decide (xs.length < lim) then .ok .non (r2.set n (.lst (xs ++ [d]))) else .bad
      | _, _ => .bad)
    | _ => .bad)
  | _ => .bad
theorem imms_snoc {d : D} (h : d.imm = true) : ∀ {xs : List D}, D.imms xs = true → D.imms (xs ++ [d]) = true
  | [], _ => by show D.imms [d] = true; simp [D.imms, h]
  | x :: xs, e => by
    rw [D.imms, Bool.and_eq_true] at e
    show D.imms (x :: (xs ++ [d])) = true
    rw [D.imms, e.1, imms_snoc h e.2]
    rfl
theorem imms_set {d : D} (h : d.imm = true) : ∀ {xs : List D} (n : Nat), D.imms xs = true → D.imms (xs.set n d) = true
  | [], _, _ => rfl
  | x :: xs, 0, e => by
    rw [D.imms, Bool.and_eq_true] at e
    show D.imms (d :: xs) = true
    rw [D.imms, h, e.2]
    rfl
  | x :: xs, n + 1, e => by
    rw [D.imms, Bool.and_eq_true] at e
    show D.imms (x :: xs.set n d) = true
    rw [D.imms, e.1, imms_set h n e.2]
    rfl
theorem de_appR {e : Expr} {f : Ex} {g : Ax} (h : PE X e (tBM X.K "list" rAppend (tE X.K W f) (tA X.K W g))) : PE X e (tE X.K W (xAppR f g)) :=
  h.imp fun σ H Q ⟨ρ, r, w, gd, s, h⟩ => ⟨ρ, r, w, gd, s, h.bind fun a w1 r1 H1 t1 g1 h1 v rv => by
    split at h1
    · rename_i n
      split at h1
      · rename_i ds0 hr0
        cases rv with
        | loc hm =>
          obtain ⟨_, ys, k1, _⟩ := good_loc g1 hm hr0
          refine ⟨.inl ⟨rfl, ys, SqL.of k1⟩, ρ, r1, w1, g1, s.mono t1, h1.bind fun ds w2 r2 H2 t2 g2 h2 vs rvs => ?_⟩
          split at h2
          · rename_i d xs hr
            split at h2
            · rename_i hc
              rw [Bool.and_eq_true, decide_eq_true_eq] at hc
              have hm2 := t2.pre _ _ hm
              obtain ⟨im, zs, q1, q2⟩ := good_loc g2 hm2 hr
              cases rvs with
              | cons ry rt =>
                cases rt
                refine ⟨_, zs, _, rfl, rfl, q1, by rw [← q2.length]; exact lim_lt hc.2, ?_⟩
                obtain ⟨t3, g3⟩ := good_res g2 hm2 hr (o' := .lst (xs ++ [d])) (u := .lst (zs ++ [_])) ⟨imms_snoc hc.1 im, _, upd_same, q2.append (.one ry)⟩
                exact h2 w2 _ t3 g3 _ .non
            · exact h2.elim
          · exact h2.elim
      · exact h1.elim
    · exact h1.elim⟩
/-- a new resource -/
theorem good_add {K : PySem.W.Frag} {w : Wd} {r : Rs} {H0 H : Hp} {w0 : Wd} (g : Good K w r H) (t : Tr w0 H0 w H) {ds : List D} {p : Addr} (n : NewL K w H0 H ds p) (hi : D.imms ds = true) :
    Tr w0 H0 ⟨w.m ++ [p], w.v⟩ H ∧ Good K ⟨w.m ++ [p], w.v⟩ (r ++ [.lst ds]) H ∧ (w.m ++ [p])[r.length]? = some p := by
  have pr : Pre w.m (w.m ++ [p]) := fun k a e => by rw [List.getElem?_append_left (List.getElem?_eq_some_iff.mp e).1]; exact e
  have hp : (w.m ++ [p])[r.length]? = some p := by
    rw [← g.len, List.getElem?_append_right (Nat.le_refl _), Nat.sub_self]
    rfl
  refine ⟨⟨t.sub, t.pre.trans pr, t.keep, t.live, t.newv, fun b hb => ?_, t.tups⟩, ⟨g.sub, fun a ha => ?_, ?_, ?_, fun k o e => ?_⟩, hp⟩
  · rcases List.mem_append.mp hb with z | z
    · exact t.newm b z
    · rw [List.mem_singleton.mp z]; exact .inr n.fresh
  · rcases List.mem_append.mp ha with z | z
    · exact g.dis a z
    · rw [List.mem_singleton.mp z]; exact n.nv
  · rw [List.length_append, List.length_append, g.len]; rfl
  · refine List.nodup_append.mpr ⟨g.nd, by simp, fun a ha b hb => ?_⟩
    rw [List.mem_singleton.mp hb]
    rintro rfl
    exact n.nm ha
  · by_cases hk : k < r.length
    · rw [List.getElem?_append_left hk] at e
      obtain ⟨a, ha, x⟩ := g.at_ k o e
      exact ⟨a, pr k a ha, roAt_mono (fun _ _ h => h) pr rfl x⟩
    · have hk2 : k = r.length := by
        have := (List.getElem?_eq_some_iff.mp e).1
        rw [List.length_append] at this
        simp only [List.length_singleton] at this
        omega
      subst hk2
      rw [List.getElem?_append_right (Nat.le_refl _), Nat.sub_self] at e
      cases e
      obtain ⟨xs, e1, q⟩ := n.at_
      exact ⟨p, hp, hi, xs, e1, q.mono (.refl _) pr⟩
def xRes (f : Lx) : Ex := fun ρ r => (f ρ r).bind fun ds r1 => if D.imms ds = true then .ok (.loc r1.length) (r1 ++ [.lst ds]) else .bad
theorem de_res {e : Expr} {f : Lx} (h : PE X e (tN X.K W f)) : PE X e (tE X.K W (xRes f)) := h.imp fun σ H Q ⟨ρ, r, w, g, s, h⟩ => ⟨ρ, r, w, g, s, h.fst fun ds w1 r1 H1 _ t1 g1 q h1 p n => by
  split at h1
  · rename_i hi
    obtain ⟨t2, g2, hp⟩ := good_add g1 t1 n hi
    have q := q (.loc r1.length) (r1 ++ [.lst ds]) (if_pos hi) ⟨w1.m ++ [p], w1.v⟩ H1 t2 g2
    exact q (.ref p) (.loc hp)
  · exact h1.elim⟩
end
section
variable {X : Cx} {c : Sc} {st : Stmt} {pos : Pos}
/-- xs[i] = e, xs a resource -/
def kSetR (v o : D) : D → En → Rs → SOut := fun i ρ r => match o, i with
  | .loc n, .int k => (match r[n]? with
    | some (.lst xs) => (match ixN xs.length k with
      | some j => if v.imm = true then .next ρ (r.set n (.lst (xs.set j v))) else .bad
      | none => .bad)
    | _ => .bad)
  | _, _ => .bad
def sSetR (O : List Nat) (fo fi fv : Ex) : Sx := evF O fv fun v => evF O fo fun o => evF O fi (kSetR v o)
theorem ds_setR {fo fi fv : Ex} (h : PS X st (tAsg (tE c.K c.W fv) (gSub (tE c.K c.W fo) (tE c.K c.W fi) rSetL))) : PS X st (tS c (sSetR c.O fo fi fv)) :=
  h.imp fun D σ H ⟨ρ, r, lo, ⟨w, s⟩, h⟩ => ⟨wipeE ρ c.O, r, w, s.gd, s.slots, evF_dl s h fun v r1 w1 H1 t1 s1 h1 x rx => ⟨wipeE ρ c.O, r1, w1, s1.gd, s1.slots, evF_dl s1 h1 fun o r2 w2 H2 t2 s2 h2 y ry => ⟨wipeE ρ c.O, r2, w2, s2.gd, s2.slots, evF_dl s2 h2 fun i r3 w3 H3 t3 s3 h3 z rz => by
    unfold kSetR at h3
    split at h3
    · rename_i n k
      split at h3
      · rename_i xs hr
        split at h3
        · rename_i j hj
          split at h3
          · rename_i hv
            cases rz
            cases (t3.rp ry) with
            | loc hm =>
              obtain ⟨im, zs, q1, q2⟩ := good_loc s3.gd hm hr
              refine ⟨_, zs, k, j, rfl, rfl, q1, by rw [← q2.length]; exact hj, ?_⟩
              obtain ⟨t4, g4⟩ := good_res s3.gd hm hr (o' := .lst (xs.set j v)) (u := .lst (zs.set j x)) ⟨imms_set hv j im, _, upd_same, q2.set ((t2.trans t3).rp rx) j⟩
              exact h3 _ _ ⟨w3, s3.step t4 g4⟩
          · exact h3.elim
        · exact h3.elim
      · exact h3.elim
    · exact h3.elim⟩⟩⟩
end
end DL

/-! DL11: the rest of the rules, the end. -/
namespace DL
open PySem L2
theorem r65 {k : Nat} {A : Around} (r : Room k A) : A.units + 65 < cLine := by have := r.un; omega
section
variable {X : Cx} {c : Sc} {st : Stmt} {pos : Pos}
/-- x = [..] that is not one's own -/
theorem asg_n {f : Lx} {g : TG} (h : PS X st (tAsg (tN c.K c.W f) g)) : PS X st (tAsg (tE c.K c.W (xL f)) g) := h.imp fun D σ H ⟨ρ, r, w, gd, s, q⟩ => ⟨ρ, r, w, gd, s, q.fst fun ds w1 r1 H1 _ t1 g1 q _ p n => by
  obtain ⟨xs, hp, rx⟩ := n.at_
  obtain ⟨t2, g2⟩ := tr_see g1 t1 n.fresh n.nv n.nm hp
  refine q _ r1 rfl (w1.see p (.lst xs)) H1 t2 g2 (.ref p) (.lst see_at ?_)
  exact rx.mono (fun a u e => by
    have hne : a ≠ p := by rintro rfl; rw [n.nv] at e; cases e
    show upd w1.v p _ a = some u
    rw [upd_ne hne]; exact e) (.refl _)⟩
/-- x, y = a, b -/
def kPar (i j : Nat) : List D → En → Rs → SOut := fun ds ρ r => match ds with
  | [a, b] => if i < ρ.length ∧ j < ρ.length then .next ((ρ.set i (some a)).set j (some b)) r else .bad
  | _ => .bad
def sPar (O : List Nat) (i j : Nat) (f : Ax) : Sx := evF O f (kPar i j)
theorem ds_par {i j : Nat} {f : Ax} (h : PS X st (tPar i j (tA c.K c.W f))) (hi : i ∉ c.O) (hj : j ∉ c.O) : PS X st (tS c (sPar c.O i j f)) :=
  h.imp fun D σ H ⟨ρ, r, lo, ⟨w, s⟩, h⟩ => ⟨wipeE ρ c.O, r, w, s.gd, s.slots, evF_dl s h fun ds r1 w1 H1 t s1 h1 vs rvs => by
    unfold kPar at h1
    split at h1
    · split at h1
      · rename_i hl
        cases rvs with
        | cons r1 r2 =>
          cases r2 with
          | cons r2 r3 =>
            cases r3
            refine ⟨_, _, rfl, h1 _ _ ⟨w1, s1.store (js := [i, j]) (by rw [List.length_set, List.length_set]) (by rw [List.length_set, List.length_set]) (fun k hk => ?_) fun k => ?_⟩⟩
            · rcases List.mem_cons.mp hk with z | z
              · rw [z]; exact hi
              · rw [List.mem_singleton.mp z]; exact hj
            · have l1 : i < σ.length := by rw [← s1.len]; exact hl.1
              have l2 : j < σ.length := by rw [← s1.len]; exact hl.2
              by_cases e2 : j = k
              · subst e2
                exact .inr ⟨by simp, _, _, List.getElem?_set_self (by rw [List.length_set]; exact hl.2), List.getElem?_set_self (by rw [List.length_set]; exact l2), r2⟩
              · rw [List.getElem?_set_ne e2, List.getElem?_set_ne e2]
                by_cases e1 : i = k
                · subst e1
                  exact .inr ⟨by simp, _, _, List.getElem?_set_self hl.1, List.getElem?_set_self l1, r1⟩
                · exact .inl ⟨List.getElem?_set_ne e1, List.getElem?_set_ne e1⟩
      · exact h1.elim
    · exact h1.elim⟩
end
theorem fnOk0 {P : Program} {w : World} {K : PySem.W.Frag} {mg : Str → Option Value} {base : Heap} {CX : CXT} {n : Nat} {f : Addr} {fd : FuncData} {ps : List Str} : FnOk P w K mg base CX 0 f fd ps (spF K n false fun _ _ => .bad) := by
  have no : ∀ vs H Q E, ¬ spF K n false (fun _ _ => .bad) vs H Q E := fun vs H Q E h => by
    obtain ⟨_, ds, r, w, g, rv, z⟩ := h
    exact z
  exact ⟨fun vs H Q E h => absurd h (no vs H Q E), fun A outer s H args us vs Q E _ _ _ _ h => absurd h (no vs H Q E)⟩
theorem lookup_mem {β : Type} {x : Str} {d : β} : ∀ {l : List (Str × β)}, l.lookup x = some d → (x, d) ∈ l
  | [], h => by cases h
  | (y, e) :: l, h => by
    rw [List.lookup_cons] at h
    split at h
    · rename_i q
      cases h
      rw [beq_iff_eq] at q
      subst q
      exact List.mem_cons_self
    · exact List.mem_cons_of_mem _ (lookup_mem h)
/-- what law(script) promises -/
def spLaw (K : PySem.W.Frag) : Sp := fun vs H Q _ => ∃ (a : Addr) (ns : List Int), vs = [.ref a] ∧ SqL K H a (ns.map V.int) ∧ ns.length ≤ 63 ∧ ∀ H', Q (.bl true) H'
theorem FnOk.law {P : Program} {w : World} {K : PySem.W.Frag} {mg : Str → Option Value} {base : Heap} {k : Nat} {f : Addr} {fd : FuncData} {ps : List Str} {F : List D → Rs → Out D} (G : FnOk P w K mg base (L2.CX P w) k f fd ps (spF K 1 false F))
    (h : ∀ ns : List Int, ns.length ≤ 63 → ∃ r, F [.scr ns] [] = .ok (.bl true) r) : FnOk P w K mg base (L2.CX P w) k f fd ps (spLaw K) := G.imp fun vs H Q E q => by
  obtain ⟨a, ns, rfl, hs, hl, q⟩ := q
  obtain ⟨r, e⟩ := h ns hl
  refine ⟨rfl, [.scr ns], [], ⟨[], H⟩, ⟨.refl _, (fun a h => absurd h (by simp)), rfl, List.nodup_nil, fun n o e => by simp at e⟩, .one (.scr hs), ?_⟩
  rw [e]
  intro w' H' v t g p
  cases p
  exact q H'
theorem walk {l : PySem.W.OpenLaw} {q : Program} {loose : List Str} {XP : (Str → Option Value) → Heap → Prop} {YP : World → Heap → Prop} {d : DefRec} {K : Params → PySem.W.Frag} {k : Nat} {x : Str} (hn : l.most = some 63) (hdf : d.params.defaults = []) (hr : Room k callerA)
    (hY : ∀ (w : World) (h : Heap), YP w h → (K w.params).In h)
    (F : ∀ (w : World) (mg : Str → Option Value) (fa : Addr) (h : Heap), (K w.params).In h → h.Ns mainGlobals mg → mg d.name = some (.ref fa) →
      ∃ fd : FuncData, (∀ (s : Shared) (u : Value), BindsTo s fd ⟨[u], []⟩ [(x, u)]) ∧ ∀ base : Heap, (K w.params).In base → base.Ns mainGlobals mg → FnOk l.prog w (K w.params) mg base (L2.CX l.prog w) k fa fd [x] (spLaw (K w.params))) :
    PySem.W.WalkO q loose XP YP l.row.toRowW d [] (fun f vs => PySem.call f vs) :=
  L2.walk_of (n := 63) (k := k) (x := x) (CX := fun w => L2.CX l.prog w) (sp := fun w => spLaw (K w.params)) hn (by decide) hdf hr hY F (fun _ _ a ns hl _ hS => ⟨a, ns, rfl, hS, hl, fun _ => rfl⟩) fun _ _ _ _ _ z => by
    obtain ⟨_, _, _, _, _, _, _, _, _, _, _, _, z⟩ := z
    exact z
end DL

/-! MS: the draws, at the data level: _law_start and _law_take, for all laws. -/
namespace DM
open PySem L2 DL

def bTake : Sx :=
    (sSeq (sAsg [] (gNm 2) (xIx (xVar 0) (xC (.int 1))))
    (sSeq (sSetR [] (xVar 0) (xC (.int 1)) (xOp dAdd (xVar 2) (xC (.int 1))))
    (sSeq (sIf (xB (xOp dLt (xVar 2) (xCB cLen (xCons (xIx (xVar 0) (xC (.int 0))) xNil)))) (sRet false [] (xOp dMod (xCB cInt (xCons (xIx (xIx (xVar 0) (xC (.int 0))) (xVar 2)) xNil)) (xVar 1))) sNext)
    (sSeq (sAsg [] (gNm 3) (xOp dMod (xCB cInt (xCons (xOp dMul (xOp dAdd (xIx (xVar 0) (xC (.int 2))) (xOp dMul (xVar 2) (xC (.int 40503)))) (xC (.int 48271))) xNil)) (xC (.int 2147483647))))
    (sSeq (sAsg [] (gNm 3) (xOp dMod (xCB cInt (xCons (xOp dAdd (xOp dMul (xVar 3) (xC (.int 69621))) (xOp dMul (xVar 2) (xVar 2))) xNil)) (xC (.int 2147483629))))
    (sRet false [] (xOp dMod (xOp dDiv (xVar 3) (xC (.int 11))) (xVar 1))))))))

/-- the law's state: the row of draws, how many were taken -/
structure LSt (R : Rs) (a : Nat) : Prop where
  ex : ∃ (row : List Int) (seed : Int), R = [.lst (row.map .int), .lst [.loc 0, .int a, .int seed]] ∧ row.length ≤ 100000

theorem small_nat {a : Nat} (h : a < 2 ^ 60) : small (a : Int) = true := by
  unfold small
  rw [decide_eq_true_eq]
  omega
theorem small_lit (i : Int) (h : decide (i.natAbs < 2 ^ 64) = true) : small i = true := h

def bTakeP (c1 c2 m1 c3 m2 d1 : Int) : Sx :=
    (sSeq (sAsg [] (gNm 2) (xIx (xVar 0) (xC (.int 1))))
    (sSeq (sSetR [] (xVar 0) (xC (.int 1)) (xOp dAdd (xVar 2) (xC (.int 1))))
    (sSeq (sIf (xB (xOp dLt (xVar 2) (xCB cLen (xCons (xIx (xVar 0) (xC (.int 0))) xNil)))) (sRet false [] (xOp dMod (xCB cInt (xCons (xIx (xIx (xVar 0) (xC (.int 0))) (xVar 2)) xNil)) (xVar 1))) sNext)
    (sSeq (sAsg [] (gNm 3) (xOp dMod (xCB cInt (xCons (xOp dMul (xOp dAdd (xIx (xVar 0) (xC (.int 2))) (xOp dMul (xVar 2) (xC (.int c1)))) (xC (.int c2))) xNil)) (xC (.int m1))))
    (sSeq (sAsg [] (gNm 3) (xOp dMod (xCB cInt (xCons (xOp dAdd (xOp dMul (xVar 3) (xC (.int c3))) (xOp dMul (xVar 2) (xVar 2))) xNil)) (xC (.int m2))))
    (sRet false [] (xOp dMod (xOp dDiv (xVar 3) (xC (.int d1))) (xVar 1))))))))
theorem sSeq_nx {f g : Sx} {ρ ρ' : En} {r r' : Rs} (h : f ρ r = .next ρ' r') : sSeq f g ρ r = g ρ' r' := by show (f ρ r).bind g = _; rw [h]; rfl
theorem sSeq_rt {f g : Sx} {ρ : En} {r r' : Rs} {d : D} (h : f ρ r = .ret d r') : sSeq f g ρ r = .ret d r' := by show (f ρ r).bind g = _; rw [h]; rfl
theorem for_nx {tg : Tg} {body : Sx} {d : D} {ds : List D} {ρ ρ1 ρ2 : En} {r r2 : Rs} (h : tg d ρ = some ρ1) (q : body ρ1 r = .next ρ2 r2) : forGo tg body (d :: ds) ρ r = forGo tg body ds ρ2 r2 := by
  rw [forGo]; simp only [h, q]
theorem for_rt {tg : Tg} {body : Sx} {d x : D} {ds : List D} {ρ ρ1 : En} {r r2 : Rs} (h : tg d ρ = some ρ1) (q : body ρ1 r = .ret x r2) : forGo tg body (d :: ds) ρ r = .ret x r2 := by
  rw [forGo]; simp only [h, q]
theorem runF_rt {N : Nat} {g : Sx} {ds : List D} {r r' : Rs} {d : D} (h : g (ds.map some ++ List.replicate (N - ds.length) none) r = .ret d r') : runF N g ds r = .ok d r' := by unfold runF; rw [h]
theorem sIf_t {t : Tx} {f g : Sx} {ρ : En} {r r' : Rs} (h : t ρ r = .ok true r') : sIf t f g ρ r = f ρ r' := by simp [sIf, evI, h]
theorem sIf_f {t : Tx} {f g : Sx} {ρ : En} {r r' : Rs} (h : t ρ r = .ok false r') : sIf t f g ρ r = g ρ r' := by simp [sIf, evI, h]
theorem tA {c1 c2 m1 : Int} (s1 : small c1 = true) (s2 : small c2 = true) (h1 : 0 < m1) (a seed : Int) (x : List D) (m : Int) : (sAsg [] (gNm 3) (xOp dMod (xCB cInt (xCons (xOp dMul (xOp dAdd (xIx (xVar 0) (xC (.int 2))) (xOp dMul (xVar 2) (xC (.int c1)))) (xC (.int c2))) xNil)) (xC (.int m1)))) [some (.loc 1), some (.int m), some (.int a), none] [.lst x, .lst [.loc 0, .int b, .int seed]] = .next [some (.loc 1), some (.int m), some (.int a), some (.int (((seed + a * c1) * c2) % m1))] [.lst x, .lst [.loc 0, .int b, .int seed]] := by
  simp [sAsg, evF, wipeE, kStore, gNm, xVar, xC, xOp, Out.bind, xIx, dIx, xCB, xCons, xNil, dAdd, dMul, dDiv, atI, ixN, cInt, dMod, s1, s2, h1]
theorem tB {c3 m2 : Int} (s1 : small c3 = true) (h1 : 0 < m2) (a x : Int) (m : Int) (R : Rs) (s2 : small a = true) : (sAsg [] (gNm 3) (xOp dMod (xCB cInt (xCons (xOp dAdd (xOp dMul (xVar 3) (xC (.int c3))) (xOp dMul (xVar 2) (xVar 2))) xNil)) (xC (.int m2)))) [some (.loc 1), some (.int m), some (.int a), some (.int x)] R = .next [some (.loc 1), some (.int m), some (.int a), some (.int ((x * c3 + a * a) % m2))] R := by
  simp [sAsg, evF, wipeE, kStore, gNm, xVar, xC, xOp, Out.bind, xIx, dIx, xCB, xCons, xNil, dAdd, dMul, dDiv, atI, ixN, cInt, dMod, s1, s2, h1]
theorem tC {d1 : Int} (h3 : 0 < d1) (h4 : d1 < 1073741824) (a x : Int) (m : Int) (hm : 0 < m) (R : Rs) : (sRet false [] (xOp dMod (xOp dDiv (xVar 3) (xC (.int d1))) (xVar 1))) [some (.loc 1), some (.int m), some (.int a), some (.int x)] R = .ret (.int ((x / d1) % m)) R := by
  simp [sRet, D.isL, evF, wipeE, kStore, gNm, xVar, xC, xOp, Out.bind, xIx, dIx, xCB, xCons, xNil, dAdd, dMul, dDiv, atI, ixN, cInt, dMod, h3, h4, hm]
theorem take_okP {c1 c2 m1 c3 m2 d1 : Int} (s1 : small c1 = true) (s2 : small c2 = true) (h1 : 0 < m1) (s3 : small c3 = true) (h2 : 0 < m2) (h3 : 0 < d1) (h4 : d1 < 1073741824) {R : Rs} {a : Nat} (h : LSt R a) (ha : small (a : Int) = true) {m : Int} (hm : 0 < m) : ∃ v R', runF 4 (bTakeP c1 c2 m1 c3 m2 d1) [.loc 1, .int m] R = .ok (.int v) R' ∧ LSt R' (a + 1) ∧ 0 ≤ v ∧ v < m := by
  obtain ⟨row, seed, rfl, hl⟩ := h.ex
  by_cases c : a < row.length
  · have hx : atI (row.map D.int) (a : Int) = some (.int row[a]) := atI_nat (by rw [List.getElem?_map, List.getElem?_eq_getElem c]; rfl)
    refine ⟨row[a] % m, [.lst (row.map .int), .lst [.loc 0, .int (a + 1 : Nat), .int seed]], ?_, ⟨row, seed, rfl, hl⟩, Int.emod_nonneg _ (by omega), Int.emod_lt_of_pos _ hm⟩
    simp [runF, bTakeP, sSeq, SOut.bind, sAsg, evF, wipeE, kStore, gNm, xVar, xC, xOp, Out.bind, xIx, dIx, xCB, xCons, xNil, sIf, evI, xB, sRet, D.isL, sSetR, kSetR, dAdd, atI, ixN, dLt, cLen, cInt, dMod, hm, c, D.imm, sNext, hx]
  · refine ⟨(((((seed + a * c1) * c2) % m1) * c3 + a * a) % m2) / d1 % m, [.lst (row.map .int), .lst [.loc 0, .int (a + 1 : Nat), .int seed]], ?_, ⟨row, seed, rfl, hl⟩, Int.emod_nonneg _ (by omega), Int.emod_lt_of_pos _ hm⟩
    have q : (bTakeP c1 c2 m1 c3 m2 d1) [some (.loc 1), some (.int m), none, none] [.lst (row.map .int), .lst [.loc 0, .int a, .int seed]] = .ret (.int ((((((seed + a * c1) * c2) % m1) * c3 + a * a) % m2) / d1 % m)) [.lst (row.map .int), .lst [.loc 0, .int (a + 1 : Nat), .int seed]] := by
      unfold bTakeP
      rw [sSeq_nx (ρ' := [some (.loc 1), some (.int m), some (.int a), none]) (r' := [.lst (row.map .int), .lst [.loc 0, .int a, .int seed]]) (by simp [sAsg, evF, wipeE, kStore, gNm, xVar, xC, xOp, Out.bind, xIx, dIx, atI, ixN])]
      rw [sSeq_nx (ρ' := [some (.loc 1), some (.int m), some (.int a), none]) (r' := [.lst (row.map .int), .lst [.loc 0, .int (a + 1 : Nat), .int seed]]) (by simp [evF, wipeE, kStore, gNm, xVar, xC, xOp, Out.bind, sSetR, kSetR, dAdd, D.imm, ixN])]
      rw [sSeq_nx (ρ' := [some (.loc 1), some (.int m), some (.int a), none]) (r' := [.lst (row.map .int), .lst [.loc 0, .int (a + 1 : Nat), .int seed]]) (by simp [sIf, evI, xB, dLt, cLen, xCB, xCons, xNil, xIx, dIx, atI, ixN, xVar, xC, xOp, Out.bind, c, sNext])]
      rw [sSeq_nx (tA s1 s2 h1 _ _ _ _), sSeq_nx (tB s3 h2 _ _ _ _ ha), tC h3 h4 _ _ _ hm]
    exact runF_rt q
theorem take_ok {R : Rs} {a : Nat} (h : LSt R a) (ha : a < 2 ^ 60) {m : Int} (hm : 0 < m) : ∃ v R', runF 4 bTake [.loc 1, .int m] R = .ok (.int v) R' ∧ LSt R' (a + 1) ∧ 0 ≤ v ∧ v < m :=
  take_okP (c1 := 40503) (c2 := 48271) (m1 := 2147483647) (c3 := 69621) (m2 := 2147483629) (d1 := 11) (by decide) (by decide) (by decide) (by decide) (by decide) (by decide) (by decide) h (small_nat ha) hm
/-! ### the start -/
def bStart : Sx :=
    (sSeq (sAsg [] (gNm 1) (xRes (xLst' xNil)))
    (sSeq (sAsg [] (gNm 2) (xC (.int 17)))
    (sSeq (sFor [] (xRng1 (xCons (xCB cLen (xCons (xVar 0) xNil)) xNil)) (gNm 3) (sSeq (sAsg [] (gNm 4) (xCB cAbs (xCons (xIx (xVar 0) (xVar 3)) xNil)))
    (sSeq (sAsg [] (gNm 2) (xOp dMod (xCB cInt (xCons (xOp dAdd (xOp dAdd (xOp dMul (xVar 2) (xC (.int 31))) (xVar 4)) (xVar 3)) xNil)) (xC (.int 2147483647))))
    (sIf (xB (xOp dGe (xVar 4) (xOp dPow (xC (.int 10)) (xC (.int 18))))) (sSeq (sAsg [] (gNm 4) (xOp dSub (xVar 4) (xOp dPow (xC (.int 10)) (xC (.int 18)))))
    (sFor [] (xRng1 (xCons (xC (.int 60)) xNil)) (gNm 5) (sIf (xB (xOp dGt (xVar 4) (xC (.int 0)))) (sSeq (sExp [] (xAppR (xVar 1) (xCons (xOp dMod (xCB cInt (xCons (xVar 4) xNil)) (xC (.int 840))) xNil)))
    (sAsg [] (gNm 4) (xOp dDiv (xVar 4) (xC (.int 840))))) sNext))) (sSeq (sAsg [] (gNm 6) (xOp dMod (xCB cInt (xCons (xOp dAdd (xOp dMul (xOp dAdd (xVar 4) (xC (.int 1))) (xC (.int 48271))) (xOp dMul (xVar 3) (xC (.int 69621)))) xNil)) (xC (.int 2147483647))))
    (sSeq (sAsg [] (gNm 6) (xOp dMod (xCB cInt (xCons (xOp dAdd (xOp dMul (xVar 6) (xC (.int 40692))) (xC (.int 5))) xNil)) (xC (.int 2147483399))))
    (sExp [] (xAppR (xVar 1) (xCons (xOp dMod (xOp dDiv (xVar 6) (xC (.int 13))) (xC (.int 840))) xNil)))))))))
    (sRet false [] (xRes (xLst' (xCons (xVar 1) (xCons (xC (.int 0)) (xCons (xVar 2) xNil)))))))))
def sInner : Sx := (sIf (xB (xOp dGt (xVar 4) (xC (.int 0)))) (sSeq (sExp [] (xAppR (xVar 1) (xCons (xOp dMod (xCB cInt (xCons (xVar 4) xNil)) (xC (.int 840))) xNil)))
    (sAsg [] (gNm 4) (xOp dDiv (xVar 4) (xC (.int 840))))) sNext)
def sOuter : Sx := (sSeq (sAsg [] (gNm 4) (xCB cAbs (xCons (xIx (xVar 0) (xVar 3)) xNil)))
    (sSeq (sAsg [] (gNm 2) (xOp dMod (xCB cInt (xCons (xOp dAdd (xOp dAdd (xOp dMul (xVar 2) (xC (.int 31))) (xVar 4)) (xVar 3)) xNil)) (xC (.int 2147483647))))
    (sIf (xB (xOp dGe (xVar 4) (xOp dPow (xC (.int 10)) (xC (.int 18))))) (sSeq (sAsg [] (gNm 4) (xOp dSub (xVar 4) (xOp dPow (xC (.int 10)) (xC (.int 18)))))
    (sFor [] (xRng1 (xCons (xC (.int 60)) xNil)) (gNm 5) sInner)) (sSeq (sAsg [] (gNm 6) (xOp dMod (xCB cInt (xCons (xOp dAdd (xOp dMul (xOp dAdd (xVar 4) (xC (.int 1))) (xC (.int 48271))) (xOp dMul (xVar 3) (xC (.int 69621)))) xNil)) (xC (.int 2147483647))))
    (sSeq (sAsg [] (gNm 6) (xOp dMod (xCB cInt (xCons (xOp dAdd (xOp dMul (xVar 6) (xC (.int 40692))) (xC (.int 5))) xNil)) (xC (.int 2147483399))))
    (sExp [] (xAppR (xVar 1) (xCons (xOp dMod (xOp dDiv (xVar 6) (xC (.int 13))) (xC (.int 840))) xNil))))))))
theorem imms_int : ∀ xs : List Int, D.imms (xs.map D.int) = true
  | [] => rfl
  | x :: xs => by rw [List.map_cons, D.imms, imms_int xs]; rfl
theorem imms_int1 (xs : List Int) (y : Int) : D.imms (xs.map D.int ++ [D.int y]) = true := by
  have := imms_int (xs ++ [y])
  rwa [List.map_append] at this
/-- the digits of a great number -/
theorem inner_ok : ∀ (n : Nat) (lo : Int) (row : List Int) (ns : List Int) (x2 x3 x4 : Int) (y5 y6 : Option D), row.length + n ≤ 100000 → ∃ (row' : List Int) (z4 : Int) (z5 : Option D), forGo (gNm 5) sInner ((List.range n).map fun i => D.int (lo + (i : Nat))) [some (.scr ns), some (.loc 0), some (.int x2), some (.int x3), some (.int x4), y5, y6] [.lst (row.map .int)] =
    .next [some (.scr ns), some (.loc 0), some (.int x2), some (.int x3), some (.int z4), z5, y6] [.lst (row'.map .int)] ∧ row'.length ≤ row.length + n
  | 0, lo, row, ns, x2, x3, x4, y5, y6, h => ⟨row, x4, y5, rfl, by omega⟩
  | n + 1, lo, row, ns, x2, x3, x4, y5, y6, h => by
    rw [List.range_succ_eq_map, List.map_cons, List.map_map]
    have e : ((fun i => D.int (lo + ((i : Nat) : Int))) ∘ Nat.succ) = fun i => D.int ((lo + 1) + ((i : Nat) : Int)) := by
      funext i
      show D.int (lo + ((i + 1 : Nat) : Int)) = _
      congr 1
      omega
    rw [e]
    by_cases c : 0 < x4
    · obtain ⟨row', z4, z5, q, hl⟩ := inner_ok n (lo + 1) (row ++ [x4 % 840]) ns x2 x3 (x4 / 840) (some (.int (lo + (0 : Nat)))) y6 (by rw [List.length_append, List.length_singleton]; omega)
      refine ⟨row', z4, z5, ?_, by rw [List.length_append, List.length_singleton] at hl; omega⟩
      rw [← q]
      have hs : row.length < lim := by show row.length < 1000000; omega
      simp [forGo, gNm, sInner, sIf, evI, xB, xOp, Out.bind, xVar, xC, dGt, c, sSeq, SOut.bind, sExp, evF, wipeE, xAppR, xCons, xNil, dMod, dDiv, cInt, xCB, D.imm, sAsg, kStore, hs]
    · obtain ⟨row', z4, z5, q, hl⟩ := inner_ok n (lo + 1) row ns x2 x3 x4 (some (.int (lo + (0 : Nat)))) y6 (by omega)
      refine ⟨row', z4, z5, ?_, by omega⟩
      rw [← q]
      simp [forGo, gNm, sInner, sIf, evI, xB, xOp, Out.bind, xVar, xC, dGt, c, sNext]
theorem T1_ {c0 : Int} {ns : List Int} {k : Int} {x2 cell : Int} {y5 : Option D} (ha : atI ns k = some c0) (hc : (if c0 < 0 then -c0 else c0) = cell) (x4 y6 : Option D) (R : Rs) : sAsg [] (gNm 4) (xCB cAbs (xCons (xIx (xVar 0) (xVar 3)) xNil)) [some (.scr ns), some (.loc 0), some (.int x2), some (.int k), x4, y5, y6] R = .next [some (.scr ns), some (.loc 0), some (.int x2), some (.int k), some (.int cell), y5, y6] R := by
  simp [sAsg, evF, wipeE, kStore, gNm, xCB, cAbs, xCons, xNil, xIx, dIx, xVar, Out.bind, ha, hc]
theorem T2_ {ns : List Int} {k : Int} {x2 cell : Int} {y5 : Option D} (y6 : Option D) (R : Rs) (m1 : Int) (h : 0 < m1) : sAsg [] (gNm 2) (xOp dMod (xCB cInt (xCons (xOp dAdd (xOp dAdd (xOp dMul (xVar 2) (xC (.int 31))) (xVar 4)) (xVar 3)) xNil)) (xC (.int m1))) [some (.scr ns), some (.loc 0), some (.int x2), some (.int k), some (.int cell), y5, y6] R = .next [some (.scr ns), some (.loc 0), some (.int ((x2 * 31 + cell + k) % m1)), some (.int k), some (.int cell), y5, y6] R := by
  simp [sAsg, evF, wipeE, kStore, gNm, xCB, xOp, dMod, dMul, dAdd, cInt, xC, show small 31 = true from by decide, h, xCons, xNil, xVar, Out.bind]
theorem T3_ {ns : List Int} {k : Int} {cell : Int} {y5 : Option D} (x2 : Int) (y6 : Option D) (R : Rs) (m1 c1 c2 : Int) (h : 0 < m1) (s1 : small c1 = true) (s2 : small c2 = true) : sAsg [] (gNm 6) (xOp dMod (xCB cInt (xCons (xOp dAdd (xOp dMul (xOp dAdd (xVar 4) (xC (.int 1))) (xC (.int c1))) (xOp dMul (xVar 3) (xC (.int c2)))) xNil)) (xC (.int m1))) [some (.scr ns), some (.loc 0), some (.int x2), some (.int k), some (.int cell), y5, y6] R = .next [some (.scr ns), some (.loc 0), some (.int x2), some (.int k), some (.int cell), y5, some (.int (((cell + 1) * c1 + k * c2) % m1))] R := by
  simp [sAsg, evF, wipeE, kStore, gNm, xCB, xOp, dMod, dMul, dAdd, cInt, xC, show small 31 = true from by decide, h, xCons, xNil, xVar, Out.bind, s1, s2]
theorem T4_ {ns : List Int} {k : Int} {cell : Int} {y5 : Option D} (x2 x6 : Int) (R : Rs) (m1 c1 : Int) (h : 0 < m1) (s1 : small c1 = true) : sAsg [] (gNm 6) (xOp dMod (xCB cInt (xCons (xOp dAdd (xOp dMul (xVar 6) (xC (.int c1))) (xC (.int 5))) xNil)) (xC (.int m1))) [some (.scr ns), some (.loc 0), some (.int x2), some (.int k), some (.int cell), y5, some (.int x6)] R = .next [some (.scr ns), some (.loc 0), some (.int x2), some (.int k), some (.int cell), y5, some (.int ((x6 * c1 + 5) % m1))] R := by
  simp [sAsg, evF, wipeE, kStore, gNm, xCB, xOp, dMod, dMul, dAdd, cInt, xC, show small 31 = true from by decide, h, xCons, xNil, xVar, Out.bind, s1]
theorem T5_ {ns : List Int} {k : Int} {cell : Int} {y5 : Option D} {row : List Int} (hs : row.length < lim) (x2 x6 : Int) : sExp [] (xAppR (xVar 1) (xCons (xOp dMod (xOp dDiv (xVar 6) (xC (.int 13))) (xC (.int 840))) xNil)) [some (.scr ns), some (.loc 0), some (.int x2), some (.int k), some (.int cell), y5, some (.int x6)] [.lst (row.map .int)] = .next [some (.scr ns), some (.loc 0), some (.int x2), some (.int k), some (.int cell), y5, some (.int x6)] [.lst ((row ++ [x6 / 13 % 840]).map .int)] := by
  simp [sExp, evF, wipeE, xAppR, xCons, xNil, xOp, xVar, xC, Out.bind, dMod, dDiv, D.imm, hs]
theorem sOuter_small {c0 : Int} {ns : List Int} {k : Int} {x2 cell : Int} {y4 y5 y6 : Option D} {row : List Int} (ha : atI ns k = some c0) (hc : (if c0 < 0 then -c0 else c0) = cell) (c : ¬ (1000000000000000000 : Int) ≤ cell) (hs : row.length < lim) :
  sOuter [some (.scr ns), some (.loc 0), some (.int x2), some (.int k), y4, y5, y6] [.lst (row.map .int)] = .next [some (.scr ns), some (.loc 0), some (.int ((x2 * 31 + cell + k) % 2147483647)), some (.int k), some (.int cell), y5, some (.int ((((cell + 1) * 48271 + k * 69621) % 2147483647 * 40692 + 5) % 2147483399))] [.lst ((row ++ [(((cell + 1) * 48271 + k * 69621) % 2147483647 * 40692 + 5) % 2147483399 / 13 % 840]).map .int)] := by
  have n1 : (0 : Int) < 2147483647 := by decide
  have n2 : (0 : Int) < 2147483399 := by decide
  unfold sOuter
  rw [sSeq_nx (T1_ ha hc y4 y6 _), sSeq_nx (T2_ y6 _ _ n1)]
  rw [sIf_f (r' := [.lst (row.map .int)]) (by simp [xB, xOp, dGe, dPow, xC, Out.bind, xVar, c])]
  rw [sSeq_nx (T3_ _ _ _ _ _ _ n1 (by decide) (by decide)), sSeq_nx (T4_ _ _ _ _ _ n2 (by decide)), T5_ hs]
theorem outer_ok (ns : List Int) : ∀ (n k : Nat) (row : List Int) (x2 : Int) (y3 y4 y5 y6 : Option D), k + n = ns.length → ns.length ≤ 63 → row.length ≤ 60 * k → ∃ (row' : List Int) (z2 : Int) (z3 z4 z5 z6 : Option D), forGo (gNm 3) sOuter ((List.range n).map fun i => D.int ((k : Int) + (i : Nat))) [some (.scr ns), some (.loc 0), some (.int x2), y3, y4, y5, y6] [.lst (row.map .int)] =
    .next [some (.scr ns), some (.loc 0), some (.int z2), z3, z4, z5, z6] [.lst (row'.map .int)] ∧ row'.length ≤ 60 * ns.length
  | 0, k, row, x2, y3, y4, y5, y6, h, h63, hr => ⟨row, x2, y3, y4, y5, y6, rfl, by omega⟩
  | n + 1, k, row, x2, y3, y4, y5, y6, h, h63, hr => by
    rw [List.range_succ_eq_map, List.map_cons, List.map_map]
    have e : ((fun i => D.int ((k : Int) + ((i : Nat) : Int))) ∘ Nat.succ) = fun i => D.int (((k + 1 : Nat) : Int) + ((i : Nat) : Int)) := by
      funext i
      show D.int ((k : Int) + ((i + 1 : Nat) : Int)) = _
      congr 1
      omega
    rw [e]
    have hk : k < ns.length := by omega
    have ha : atI ns ((k : Int) + ((0 : Nat) : Int)) = some ns[k] := by
      have : ((k : Int) + ((0 : Nat) : Int)) = (k : Int) := by omega
      rw [this]
      exact atI_nat (List.getElem?_eq_getElem hk)
    generalize hc : (if ns[k] < 0 then -ns[k] else ns[k]) = cell
    have e1 : small 31 = true := by decide
    have e2 : small 48271 = true := by decide
    have e3 : small 69621 = true := by decide
    have e4 : small 40692 = true := by decide
    by_cases c : (1000000000000000000 : Int) ≤ cell
    · obtain ⟨r1, w4, w5, q1, l1⟩ := inner_ok 60 0 row ns ((x2 * 31 + cell + ((k : Int) + ((0 : Nat) : Int))) % 2147483647) ((k : Int) + ((0 : Nat) : Int)) (cell - 1000000000000000000) y5 y6 (by omega)
      obtain ⟨row', z2, z3, z4, z5, z6, q, hl⟩ := outer_ok ns n (k + 1) r1 ((x2 * 31 + cell + ((k : Int) + ((0 : Nat) : Int))) % 2147483647) (some (.int ((k : Int) + ((0 : Nat) : Int)))) (some (.int w4)) w5 y6 (by omega) h63 (by omega)
      refine ⟨row', z2, z3, z4, z5, z6, ?_, hl⟩
      rw [← q]
      have q1' : forGo (gNm 5) sInner (rng 0 60) _ _ = _ := q1
      have hb : big 60 = true := by decide
      simp only [Int.ofNat_eq_natCast, Int.add_zero, Int.natCast_zero] at *
      simp [forGo, gNm, sOuter, sSeq, SOut.bind, sAsg, evF, wipeE, kStore, xCB, cAbs, xCons, xNil, xIx, dIx, xVar, Out.bind, ha, hc, xOp, dMod, dMul, dAdd, cInt, e1, e2, e3, sIf, evI, xB, dGe, dPow, xC, c, dSub, sFor, xRng1, hb, q1']
    · obtain ⟨row', z2, z3, z4, z5, z6, q, hl⟩ := outer_ok ns n (k + 1) (row ++ [(((cell + 1) * 48271 + ((k : Int) + ((0 : Nat) : Int)) * 69621) % 2147483647 * 40692 + 5) % 2147483399 / 13 % 840]) ((x2 * 31 + cell + ((k : Int) + ((0 : Nat) : Int))) % 2147483647) (some (.int ((k : Int) + ((0 : Nat) : Int)))) (some (.int cell)) y5 (some (.int ((((cell + 1) * 48271 + ((k : Int) + ((0 : Nat) : Int)) * 69621) % 2147483647 * 40692 + 5) % 2147483399))) (by omega) h63 (by rw [List.length_append, List.length_singleton]; omega)
      refine ⟨row', z2, z3, z4, z5, z6, ?_, hl⟩
      rw [← q]
      have hs : row.length < lim := by show row.length < 1000000; omega
      have n1 : (0 : Int) < 2147483647 := by decide
      have n2 : (0 : Int) < 2147483399 := by decide
      simp only [Int.ofNat_eq_natCast, Int.add_zero, Int.natCast_zero] at *
      exact for_nx rfl (sOuter_small ha hc c hs)
theorem rng_eq (n : Nat) : rng 0 n = (List.range n).map fun i => D.int (((0 : Nat) : Int) + (i : Nat)) := rfl
theorem bStart_eq : bStart = sSeq (sAsg [] (gNm 1) (xRes (xLst' xNil))) (sSeq (sAsg [] (gNm 2) (xC (.int 17))) (sSeq (sFor [] (xRng1 (xCons (xCB cLen (xCons (xVar 0) xNil)) xNil)) (gNm 3) sOuter)
    (sRet false [] (xRes (xLst' (xCons (xVar 1) (xCons (xC (.int 0)) (xCons (xVar 2) xNil)))))))) := rfl
theorem big_len {ns : List Int} (h : ns.length ≤ 63) : big (ns.length : Int) = true := by
  unfold big
  rw [decide_eq_true_eq]
  omega
theorem start_it {ns : List Int} (h : ns.length ≤ 63) (x2 : Option D) : xRng1 (xCons (xCB cLen (xCons (xVar 0) xNil)) xNil) [some (.scr ns), some (.loc 0), x2, none, none, none, none] [.lst []] = .ok (rng 0 ns.length) [.lst []] := by
  have hb := big_len h
  simp [xRng1, xCons, xCB, cLen, xVar, xNil, Out.bind, hb]
theorem start_for {ns : List Int} (h : ns.length ≤ 63) (x2 : Int) : ∃ (row' : List Int) (z2 : Int) (z3 z4 z5 z6 : Option D), sFor [] (xRng1 (xCons (xCB cLen (xCons (xVar 0) xNil)) xNil)) (gNm 3) sOuter [some (.scr ns), some (.loc 0), some (.int x2), none, none, none, none] [.lst []] = .next [some (.scr ns), some (.loc 0), some (.int z2), z3, z4, z5, z6] [.lst (row'.map .int)] ∧ row'.length ≤ 60 * ns.length := by
  obtain ⟨row', z2, z3, z4, z5, z6, q, hl⟩ := outer_ok ns ns.length 0 [] x2 none none none none (by omega) h (by simp)
  refine ⟨row', z2, z3, z4, z5, z6, ?_, hl⟩
  rw [List.map_nil] at q
  simp only [sFor, evF, wipeE, start_it h, rng_eq]
  exact q
theorem start_end (ns : List Int) (z2 : Int) (z3 z4 z5 z6 : Option D) (x : RO) : (sRet false [] (xRes (xLst' (xCons (xVar 1) (xCons (xC (.int 0)) (xCons (xVar 2) xNil)))))) [some (.scr ns), some (.loc 0), some (.int z2), z3, z4, z5, z6] [x] = .ret (.loc 1) [x, .lst [.loc 0, .int 0, .int z2]] := by
  with_unfolding_all rfl
theorem p1' (ns : List Int) : (sAsg [] (gNm 1) (xRes (xLst' xNil))) [some (.scr ns), none, none, none, none, none, none] [] = .next [some (.scr ns), some (.loc 0), none, none, none, none, none] [.lst []] := rfl
theorem p2' (ns : List Int) : (sAsg [] (gNm 2) (xC (.int 17))) [some (.scr ns), some (.loc 0), none, none, none, none, none] [.lst []] = .next [some (.scr ns), some (.loc 0), some (.int 17), none, none, none, none] [.lst []] := rfl
theorem start_pre (ns : List Int) (g : Sx) : sSeq (sAsg [] (gNm 1) (xRes (xLst' xNil))) (sSeq (sAsg [] (gNm 2) (xC (.int 17))) g) [some (.scr ns), none, none, none, none, none, none] [] = g [some (.scr ns), some (.loc 0), some (.int 17), none, none, none, none] [.lst []] := (sSeq_nx (p1' ns)).trans (sSeq_nx (p2' ns))
theorem start_ok {ns : List Int} (h : ns.length ≤ 63) : ∃ R, runF 7 bStart [.scr ns] [] = .ok (.loc 1) R ∧ LSt R 0 := by
  obtain ⟨row', z2, z3, z4, z5, z6, q, hl⟩ := start_for h 17
  refine ⟨[.lst (row'.map .int), .lst [.loc 0, .int 0, .int z2]], runF_rt ?_, ⟨row', z2, rfl, by omega⟩⟩
  rw [bStart_eq]
  exact (start_pre ns _).trans ((sSeq_nx q).trans (start_end _ _ _ _ _ _ _))
end DM

/-! MD: == over data; small facts for the mathematics. -/
namespace DM
open PySem L2 DL
/-- data without dicts, of good texts, not deeper than n -/
structure Shp (n : Nat) (d : D) : Prop where
  lay : d.py.canLay0 = true
  dep : d.py.depth ≤ n
theorem Shp.up {n m : Nat} {d : D} (h : Shp n d) (l : n ≤ m) : Shp m d := ⟨h.lay, Nat.le_trans h.dep l⟩
theorem shp_bl (n : Nat) (b : Bool) : Shp n (.bl b) := ⟨by simp [D.py, PyData.canLay0], by simp [D.py, PyData.depth]⟩
theorem shp_int (n : Nat) (i : Int) : Shp n (.int i) := ⟨by simp [D.py, PyData.canLay0], by simp [D.py, PyData.depth]⟩
theorem shp_non (n : Nat) : Shp n .non := ⟨by simp [D.py, PyData.canLay0], by simp [D.py, PyData.depth]⟩
theorem shp_str (n : Nat) {x : Str} (h : PyData.strOk x = true) : Shp n (.str x) := ⟨by simp [D.py, PyData.canLay0, h], by simp [D.py, PyData.depth]⟩
theorem shps {n : Nat} : ∀ {xs : List D}, (∀ x ∈ xs, Shp n x) → PyData.canLayAll0 (D.pys xs) = true ∧ PyData.depthAll (D.pys xs) ≤ n
  | [], _ => ⟨by simp [D.pys, PyData.canLayAll0], by simp [D.pys, PyData.depthAll]⟩
  | x :: xs, h => by
    have a := h x List.mem_cons_self
    have b := shps (xs := xs) fun y m => h y (List.mem_cons_of_mem _ m)
    exact ⟨by simp [D.pys, PyData.canLayAll0, a.lay, b.1], by rw [D.pys, PyData.depthAll]; exact Nat.max_le.mpr ⟨a.dep, b.2⟩⟩
theorem shp_tup {n : Nat} {xs : List D} (h : ∀ x ∈ xs, Shp n x) : Shp (n + 1) (.tup xs) := ⟨by simp [D.py, PyData.canLay0, (shps h).1], by simp [D.py, PyData.depth, (shps h).2]⟩
theorem shp_lst {n : Nat} {xs : List D} (h : ∀ x ∈ xs, Shp n x) : Shp (n + 1) (.lst xs) := ⟨by simp [D.py, PyData.canLay0, (shps h).1], by simp [D.py, PyData.depth, (shps h).2]⟩
theorem Shp.shaped {n : Nat} {d : D} (h : Shp n d) (l : n ≤ 64) : d.shaped = true := by
  unfold D.shaped SeqAt.shaped
  rw [h.lay, decide_eq_true (Nat.le_trans h.dep l)]
  rfl
mutual
theorem eqv_self : ∀ (d : PyData), d.canLay0 = true → PyData.eqv d d = true
  | .none, _ => by simp [PyData.eqv]
  | .bool _, _ => by simp [PyData.eqv]
  | .int _, _ => by simp [PyData.eqv]
  | .str _, _ => by simp [PyData.eqv]
  | .tuple xs, h => by rw [PyData.eqv]; exact eqvAll_self xs (by simpa [PyData.canLay0] using h)
  | .list xs, h => by rw [PyData.eqv]; exact eqvAll_self xs (by simpa [PyData.canLay0] using h)
  | .dict _, h => by simp [PyData.canLay0] at h
theorem eqvAll_self : ∀ (xs : List PyData), PyData.canLayAll0 xs = true → PyData.eqvAll xs xs = true
  | [], _ => by rw [PyData.eqvAll]
  | x :: xs, h => by
    have h' : x.canLay0 = true ∧ PyData.canLayAll0 xs = true := by simpa [PyData.canLayAll0] using h
    rw [PyData.eqvAll, eqv_self x h'.1, eqvAll_self xs h'.2]
    rfl
end
theorem dEq_self {n : Nat} {d : D} (h : Shp n d) (l : n ≤ 64) : dEq d d = some (.bl true) := by
  unfold dEq
  rw [h.shaped l, eqv_self _ h.lay]
  rfl
theorem dNe_self {n : Nat} {d : D} (h : Shp n d) (l : n ≤ 64) : dNe d d = some (.bl false) := by
  unfold dNe
  rw [h.shaped l, eqv_self _ h.lay]
  rfl
theorem dEq_int (i j : Int) : dEq (.int i) (.int j) = some (.bl (decide (i = j))) := by
  unfold dEq
  rw [(shp_int 0 i).shaped (by decide), (shp_int 0 j).shaped (by decide)]
  simp only [D.py, PyData.eqv]
  by_cases h : i = j <;> simp [h]
theorem dNe_int (i j : Int) : dNe (.int i) (.int j) = some (.bl (decide (i ≠ j))) := by
  unfold dNe
  rw [(shp_int 0 i).shaped (by decide), (shp_int 0 j).shaped (by decide)]
  simp only [D.py, PyData.eqv]
  by_cases h : i = j <;> simp [h]
theorem dEq_bl (i j : Bool) : dEq (.bl i) (.bl j) = some (.bl (i == j)) := by
  unfold dEq
  rw [(shp_bl 0 i).shaped (by decide), (shp_bl 0 j).shaped (by decide)]
  simp only [D.py, PyData.eqv, Bool.and_self, if_true]
theorem dNe_bl (i j : Bool) : dNe (.bl i) (.bl j) = some (.bl (i != j)) := by
  unfold dNe
  rw [(shp_bl 0 i).shaped (by decide), (shp_bl 0 j).shaped (by decide)]
  simp only [D.py, PyData.eqv, Bool.and_self, if_true, bne]
theorem dEq_str {i j : Str} (hi : PyData.strOk i = true) (hj : PyData.strOk j = true) : dEq (.str i) (.str j) = some (.bl (decide (i = j))) := by
  unfold dEq
  rw [(shp_str 0 hi).shaped (by decide), (shp_str 0 hj).shaped (by decide)]
  simp only [D.py, PyData.eqv]
  by_cases h : i = j <;> simp [h]
theorem dNe_str {i j : Str} (hi : PyData.strOk i = true) (hj : PyData.strOk j = true) : dNe (.str i) (.str j) = some (.bl (decide (i ≠ j))) := by
  unfold dNe
  rw [(shp_str 0 hi).shaped (by decide), (shp_str 0 hj).shaped (by decide)]
  simp only [D.py, PyData.eqv]
  by_cases h : i = j <;> simp [h]
theorem getK_cons {k' k : Key} {d : D} {l : List (Key × D)} : getK ((k', d) :: l) k = if k' = k then some d else getK l k := by
  unfold getK
  rw [List.find?_cons]
  by_cases e : k' = k <;> simp [e]
theorem getK_map {k k' : Key} {d : D} : ∀ (l : List (Key × D)), getK (l.map fun p => if p.1 = k then (p.1, d) else p) k' = if k = k' then (if (l.any fun p => decide (p.1 = k)) = true then some d else none) else getK l k'
  | [] => by simp [getK]
  | (a, b) :: l => by
    rw [List.map_cons, List.any_cons]
    have ih := getK_map (k := k) (k' := k') (d := d) l
    by_cases e : a = k
    · subst e
      rw [if_pos rfl, getK_cons, ih, getK_cons]
      by_cases e2 : a = k' <;> simp [e2]
    · rw [if_neg (by exact e), getK_cons, ih, getK_cons]
      by_cases e2 : k = k'
      · subst e2
        simp only [if_true, decide_eq_false e, Bool.false_or, if_neg e]
      · simp [e2]
theorem getK_app {k k' : Key} {d : D} : ∀ (l : List (Key × D)), getK (l ++ [(k, d)]) k' = (getK l k').or (if k = k' then some d else none)
  | [] => by rw [List.nil_append, getK_cons]; simp [getK]
  | (a, b) :: l => by
    rw [List.cons_append, getK_cons, getK_cons, getK_app l]
    by_cases e : a = k' <;> simp [e]
theorem getK_none {k : Key} : ∀ {l : List (Key × D)}, ¬ (l.any fun p => decide (p.1 = k)) = true → getK l k = none
  | [], _ => rfl
  | (a, b) :: l, h => by
    rw [List.any_cons, Bool.or_eq_true] at h
    rw [getK_cons, if_neg (fun e => h (.inl (decide_eq_true e)))]
    exact getK_none fun q => h (.inr q)
theorem getK_set {kds : List (Key × D)} {k k' : Key} {d : D} : getK (setK kds k d) k' = if k = k' then some d else getK kds k' := by
  unfold setK
  split
  · rename_i h
    rw [getK_map, if_pos h]
  · rename_i h
    rw [getK_app]
    by_cases e : k = k'
    · subst e
      rw [getK_none h]
      simp
    · simp [e]
end DM

/-! DS: the combinators, step by step; a set for simp. -/
namespace DS
open PySem L2 DL DM
variable {α : Type}
def oK (x : Option D) (r : Rs) : Out D := match x with
  | some d => .ok d r
  | none => .bad
def oV (x : Option (Option D)) (r : Rs) : Out D := match x with
  | some (some d) => .ok d r
  | _ => .bad
theorem oK_s {d r} : oK (some d) r = .ok d r := rfl
theorem oV_s {d r} : oV (some (some d)) r = .ok d r := rfl
theorem var_ {i ρ r} : xVar i ρ r = oV ρ[i]? r := rfl
theorem c_ {d ρ r} : xC d ρ r = .ok d r := rfl
def kOp2 (F : D → D → Option D) (a : D) (o : Out D) : Out D := o.bind fun b r2 => match F a b with
  | some d => .ok d r2
  | none => .bad
def kOp1 (F : D → D → Option D) (g : Ex) (ρ : En) (o : Out D) : Out D := o.bind fun a r1 => kOp2 F a (g ρ r1)
theorem op_ {F f g ρ r} : xOp F f g ρ r = kOp1 F g ρ (f ρ r) := rfl
theorem op1 {F g ρ a r} : kOp1 F g ρ (.ok a r) = kOp2 F a (g ρ r) := rfl
theorem op2 {F a b r} : kOp2 F a (.ok b r) = oK (F a b) r := rfl
def kIx2 (a : D) (o : Out D) : Out D := o.bind fun b r2 => match dIx r2 a b with
  | some d => .ok d r2
  | none => .bad
def kIx1 (g : Ex) (ρ : En) (o : Out D) : Out D := o.bind fun a r1 => kIx2 a (g ρ r1)
theorem ix_ {f g ρ r} : xIx f g ρ r = kIx1 g ρ (f ρ r) := rfl
theorem ix1 {g ρ a r} : kIx1 g ρ (.ok a r) = kIx2 a (g ρ r) := rfl
theorem ix2 {a b r} : kIx2 a (.ok b r) = oK (dIx r a b) r := rfl
def kCB (F : Rs → List D → Option D) (o : Out (List D)) : Out D := o.bind fun ds r1 => match F r1 ds with
  | some d => .ok d r1
  | none => .bad
theorem cb_ {F f ρ r} : xCB F f ρ r = kCB F (f ρ r) := rfl
theorem cb1 {F ds r} : kCB F (.ok ds r) = oK (F r ds) r := rfl
def kCl (F : List D → Rs → Out D) (o : Out (List D)) : Out D := o.bind fun ds r1 => F ds r1
theorem cl_ {F f ρ r} : xCall F f ρ r = kCl F (f ρ r) := rfl
theorem cl1 {F ds r} : kCl F (.ok ds r) = F ds r := rfl
def kCn2 (d : D) (o : Out (List D)) : Out (List D) := o.bind fun ds r2 => .ok (d :: ds) r2
def kCn1 (g : Ax) (ρ : En) (o : Out D) : Out (List D) := o.bind fun d r1 => kCn2 d (g ρ r1)
theorem nil_ {ρ r} : xNil ρ r = .ok [] r := rfl
theorem cn_ {f g ρ r} : xCons f g ρ r = kCn1 g ρ (f ρ r) := rfl
theorem cn1 {g ρ d r} : kCn1 g ρ (.ok d r) = kCn2 d (g ρ r) := rfl
theorem cn2 {d ds r} : kCn2 d (.ok ds r) = .ok (d :: ds) r := rfl
def kTup (o : Out (List D)) : Out D := o.bind fun ds r1 => if ds.length ≤ lim then .ok (.tup ds) r1 else .bad
def kLst (o : Out (List D)) : Out D := o.bind fun ds r1 => if ds.length ≤ lim then .ok (.lst ds) r1 else .bad
def kLst' (o : Out (List D)) : Out (List D) := o.bind fun ds r1 => if ds.length ≤ lim then .ok ds r1 else .bad
def kL (o : Out (List D)) : Out D := o.bind fun ds r1 => .ok (.lst ds) r1
theorem tup_ {f ρ r} : xTup f ρ r = kTup (f ρ r) := rfl
theorem lst_ {f ρ r} : xLst f ρ r = kLst (f ρ r) := rfl
theorem lst_' {f ρ r} : xLst' f ρ r = kLst' (f ρ r) := rfl
theorem l_ {f ρ r} : xL f ρ r = kL (f ρ r) := rfl
theorem tup1 {ds r} : kTup (.ok ds r) = if ds.length ≤ lim then .ok (.tup ds) r else .bad := rfl
theorem lst1 {ds r} : kLst (.ok ds r) = if ds.length ≤ lim then .ok (.lst ds) r else .bad := rfl
theorem lst1' {ds r} : kLst' (.ok ds r) = if ds.length ≤ lim then .ok ds r else .bad := rfl
theorem l1 {ds r} : kL (.ok ds r) = .ok (.lst ds) r := rfl
def kIf (f g : Ex) (ρ : En) (o : Out Bool) : Out D := o.bind fun b r1 => if b = true then f ρ r1 else g ρ r1
theorem if_ {t f g ρ r} : xIf t f g ρ r = kIf f g ρ (t ρ r) := rfl
theorem if_t {f g ρ r} : kIf f g ρ (.ok true r) = f ρ r := rfl
theorem if_f {f g ρ r} : kIf f g ρ (.ok false r) = g ρ r := rfl
def kTr (o : Out D) : Out Bool := o.bind fun d r1 => match truth r1 d with
  | some b => .ok b r1
  | none => .bad
def oT (x : Option Bool) (r : Rs) : Out Bool := match x with
  | some b => .ok b r
  | none => .bad
theorem tr_ {f ρ r} : xTr f ρ r = kTr (f ρ r) := by unfold xTr kTr; rfl
theorem tr1 {d r} : kTr (.ok d r) = oT (truth r d) r := rfl
theorem oT_s {b r} : oT (some b) r = .ok b r := rfl
def kB (o : Out D) : Out Bool := o.bind fun d r1 => match d with
  | .bl b => .ok b r1
  | _ => .bad
theorem b_ {f ρ r} : xB f ρ r = kB (f ρ r) := rfl
theorem b1 {b r} : kB (.ok (.bl b) r) = .ok b r := rfl
def kAnd (g : Tx) (ρ : En) (o : Out Bool) : Out Bool := o.bind fun b r1 => if b = true then g ρ r1 else .ok false r1
def kOr (g : Tx) (ρ : En) (o : Out Bool) : Out Bool := o.bind fun b r1 => if b = true then .ok true r1 else g ρ r1
def kNot (o : Out Bool) : Out Bool := o.bind fun b r1 => .ok (!b) r1
theorem and_ {f g ρ r} : xAnd f g ρ r = kAnd g ρ (f ρ r) := rfl
theorem or_ {f g ρ r} : xOr f g ρ r = kOr g ρ (f ρ r) := rfl
theorem not_ {f ρ r} : xNot f ρ r = kNot (f ρ r) := rfl
theorem and_t {g ρ r} : kAnd g ρ (.ok true r) = g ρ r := rfl
theorem and_f {g ρ r} : kAnd g ρ (.ok false r) = .ok false r := rfl
theorem or_t {g ρ r} : kOr g ρ (.ok true r) = .ok true r := rfl
theorem or_f {g ρ r} : kOr g ρ (.ok false r) = g ρ r := rfl
theorem not1 {b r} : kNot (.ok b r) = .ok (!b) r := rfl
def kAV (g : Ex) (ρ : En) (o : Out D) : Out D := o.bind fun d r1 => match truth r1 d with
  | some true => g ρ r1
  | some false => .ok d r1
  | none => .bad
def kOV (g : Ex) (ρ : En) (o : Out D) : Out D := o.bind fun d r1 => match truth r1 d with
  | some true => .ok d r1
  | some false => g ρ r1
  | none => .bad
def kNV (o : Out D) : Out D := o.bind fun d r1 => match truth r1 d with
  | some b => .ok (.bl (!b)) r1
  | none => .bad
theorem av_ {f g ρ r} : xAndV f g ρ r = kAV g ρ (f ρ r) := rfl
theorem ov_ {f g ρ r} : xOrV f g ρ r = kOV g ρ (f ρ r) := rfl
theorem nv_ {f ρ r} : xNotV f ρ r = kNV (f ρ r) := rfl
theorem av_t {g ρ r} : kAV g ρ (.ok (.bl true) r) = g ρ r := rfl
theorem av_f {g ρ r} : kAV g ρ (.ok (.bl false) r) = .ok (.bl false) r := rfl
theorem ov_t {g ρ r} : kOV g ρ (.ok (.bl true) r) = .ok (.bl true) r := rfl
theorem ov_f {g ρ r} : kOV g ρ (.ok (.bl false) r) = g ρ r := rfl
theorem nv1 {b r} : kNV (.ok (.bl b) r) = .ok (.bl (!b)) r := rfl
theorem truth_b {b r} : truth r (.bl b) = some b := rfl
def kKD (tab : List (Str × D)) (o : Out D) : Out D := o.bind fun b r1 => match b with
  | .str x => (match tab.lookup x with
    | some d => .ok d r1
    | none => .bad)
  | _ => .bad
theorem kd_ {t g ρ r} : xKD t g ρ r = kKD t (g ρ r) := rfl
theorem kd1 {t x r} : kKD t (.ok (.str x) r) = oK (t.lookup x) r := by
  show (match t.lookup x with | some d => Out.ok d r | none => .bad) = _
  rfl
def oG (x : Option (Option D)) (r : Rs) : Out D := match x with
  | some (some d) => .ok d r
  | _ => .bad
theorem oG_s {d r} : oG (some (some d)) r = .ok d r := rfl
def kDG2 (a : D) (o : Out D) : Out D := o.bind fun b r2 => oG (dGet a b) r2
def kDG1 (g : Ex) (ρ : En) (o : Out D) : Out D := o.bind fun a r1 => kDG2 a (g ρ r1)
theorem dg_ {f g ρ r} : xDGet f g ρ r = kDG1 g ρ (f ρ r) := rfl
theorem dg1 {g ρ a r} : kDG1 g ρ (.ok a r) = kDG2 a (g ρ r) := rfl
theorem dg2 {a b r} : kDG2 a (.ok b r) = oG (dGet a b) r := rfl
def kSl3 (a : D) (l : Option Int) (o : Out (Option Int)) : Out D := o.bind fun u r3 => oK (dSl a l u) r3
def kSl2 (hi : Ox) (ρ : En) (a : D) (o : Out (Option Int)) : Out D := o.bind fun l r2 => kSl3 a l (hi ρ r2)
def kSl1 (lo hi : Ox) (ρ : En) (o : Out D) : Out D := o.bind fun a r1 => kSl2 hi ρ a (lo ρ r1)
theorem sl_ {f lo hi ρ r} : xSl f lo hi ρ r = kSl1 lo hi ρ (f ρ r) := rfl
theorem sl1 {lo hi ρ a r} : kSl1 lo hi ρ (.ok a r) = kSl2 hi ρ a (lo ρ r) := rfl
theorem sl2 {hi ρ a l r} : kSl2 hi ρ a (.ok l r) = kSl3 a l (hi ρ r) := rfl
theorem sl3 {a l u r} : kSl3 a l (.ok u r) = oK (dSl a l u) r := rfl
def kPart (o : Out D) : Out (Option Int) := o.bind fun d r1 => match d with
  | .int i => .ok (some i) r1
  | _ => .bad
theorem part_ {f ρ r} : xPart f ρ r = kPart (f ρ r) := rfl
theorem part1 {i r} : kPart (.ok (.int i) r) = .ok (some i) r := rfl
theorem nop_ {ρ r} : xNoP ρ r = .ok none r := rfl
def oL (x : Option (List D)) (r : Rs) : Out (List D) := match x with
  | some d => .ok d r
  | none => .bad
theorem oL_s {d r} : oL (some d) r = .ok d r := rfl
def kIt (o : Out D) : Out (List D) := o.bind fun d r1 => oL (items d) r1
theorem it_ {f ρ r} : xItems f ρ r = kIt (f ρ r) := rfl
theorem it_l {ds r} : kIt (.ok (.lst ds) r) = .ok ds r := rfl
theorem it_t {ds r} : kIt (.ok (.tup ds) r) = .ok ds r := rfl
def kR1 (o : Out (List D)) : Out (List D) := o.bind fun ds r1 => match ds with
  | [.int j] => if big j then .ok (rng 0 j.toNat) r1 else .bad
  | _ => .bad
theorem r1_ {f ρ r} : xRng1 f ρ r = kR1 (f ρ r) := rfl
theorem r11 {i r} : kR1 (.ok [.int i] r) = if big i then .ok (rng 0 i.toNat) r else .bad := rfl
def oLc (x : Option (List D × Rs)) : Out (List D) := match x with
  | some p => if p.1.length ≤ lim then .ok p.1 p.2 else .bad
  | none => .bad
def kLc (tg : Tg) (t : Tx) (f : Ex) (vs : List Nat) (ρ : En) (o : Out (List D)) : Out (List D) := o.bind fun ds r1 => oLc (lcGo tg t f (wipeE ρ vs) ds r1)
theorem lc_ {it tg t f vs ρ r} : xLc it tg t f vs ρ r = kLc tg t f vs ρ (it ρ r) := rfl
theorem lc1 {tg t f vs ρ ds r} : kLc tg t f vs ρ (.ok ds r) = oLc (lcGo tg t f (wipeE ρ vs) ds r) := rfl
theorem oLc_s {ds r} : oLc (some (ds, r)) = if ds.length ≤ lim then .ok ds r else .bad := rfl
def kD (o : Out (List (Key × D))) : Out D := o.bind fun ds r1 => .ok (.dic ds) r1
theorem d_ {f ρ r} : xD f ρ r = kD (f ρ r) := rfl
theorem d1 {ds r} : kD (.ok ds r) = .ok (.dic ds) r := rfl
/-! statements -/
theorem seq_ {f g ρ r} : sSeq f g ρ r = SOut.bind (f ρ r) g := rfl
theorem bd_n {g ρ r} : SOut.bind (.next ρ r) g = g ρ r := rfl
theorem bd_r {g d r} : SOut.bind (.ret d r) g = .ret d r := rfl
theorem nx_ {ρ r} : sNext ρ r = .next ρ r := rfl
def kEv (k : α → En → Rs → SOut) (ρ : En) (o : Out α) : SOut := match o with
  | .ok a r1 => k a ρ r1
  | .exc x fs r1 => .exc x fs ρ r1
  | .bad => .bad
theorem evF_ {O : List Nat} {f : En → Rs → Out α} {k ρ r} : evF O f k ρ r = kEv k ρ (f (wipeE ρ O) r) := rfl
theorem evI_ {f : En → Rs → Out α} {k ρ r} : evI f k ρ r = kEv k ρ (f ρ r) := rfl
theorem ev1 {k : α → En → Rs → SOut} {ρ a r} : kEv k ρ (.ok a r) = k a ρ r := rfl
theorem asg_ {O tg f ρ r} : sAsg O tg f ρ r = kEv (kStore tg) ρ (f (wipeE ρ O) r) := rfl
theorem store_ {i d ρ r} : kStore (gNm i) d ρ r = if i < ρ.length then .next (ρ.set i (some d)) r else .bad := by
  unfold kStore gNm
  split <;> rename_i h <;> split at h <;> simp_all

def kImm (tg : Tg) (d : D) (ρ : En) (r : Rs) : SOut := if d.imm = true then kStore tg d ρ r else .bad
theorem asgI_ {tg f ρ r} : sAsgI tg f ρ r = kEv (kImm tg) ρ (f ρ r) := rfl
theorem imm1 {tg d ρ r} : kImm tg d ρ r = if d.imm = true then kStore tg d ρ r else .bad := rfl
def kIfS (f g : Sx) (ρ : En) (o : Out Bool) : SOut := match o with
  | .ok b r1 => if b = true then f ρ r1 else g ρ r1
  | .exc x fs r1 => .exc x fs ρ r1
  | .bad => .bad
theorem ifs_ {t f g ρ r} : sIf t f g ρ r = kIfS f g ρ (t ρ r) := by
  unfold sIf evI kIfS
  cases t ρ r <;> rfl
theorem ifs_t {f g ρ r} : kIfS f g ρ (.ok true r) = f ρ r := rfl
theorem ifs_f {f g ρ r} : kIfS f g ρ (.ok false r) = g ρ r := rfl
def kRet (o : Out D) (ρ : En) : SOut := match o with
  | .ok d r => .ret d r
  | .exc x fs r1 => .exc x fs ρ r1
  | .bad => .bad
theorem ret_ {O f ρ r} : sRet false O f ρ r = kRet (f (wipeE ρ O) r) ρ := by
  unfold sRet evF kRet
  cases f (wipeE ρ O) r <;> simp
theorem ret1 {d r ρ} : kRet (.ok d r) ρ = .ret d r := rfl
theorem par_ {i j O f ρ r} : sPar O i j f ρ r = kEv (kPar i j) ρ (f (wipeE ρ O) r) := rfl
theorem par1 {i j a b ρ r} : kPar i j [a, b] ρ r = if i < ρ.length ∧ j < ρ.length then .next ((ρ.set i (some a)).set j (some b)) r else .bad := rfl
theorem for_ {O it tg b ρ r} : sFor O it tg b ρ r = kEv (forGo tg b) ρ (it (wipeE ρ O) r) := rfl
theorem exp_ {O f ρ r} : sExp O f ρ r = kEv (fun _ ρ r => .next ρ r) ρ (f (wipeE ρ O) r) := rfl
theorem dput_ {O i fk fv ρ r} : sDPut' O i fk fv ρ r = kEv (fun v => evF O fk (kDPut i v)) ρ (fv (wipeE ρ O) r) := rfl
theorem asgD_ {O i f ρ r} : sAsgD O i f ρ r = kEv (kOwnD i) ρ (f (wipeE ρ O) r) := rfl
theorem ownD1 {i ds ρ r} : kOwnD i ds ρ r = if i < ρ.length then .next (ρ.set i (some (.dic ds))) r else .bad := rfl
theorem wp0 {ρ} : wipeE ρ [] = ρ := rfl
theorem wp1 {ρ v vs} : wipeE ρ (v :: vs) = (wipeE ρ vs).set v none := rfl
theorem for0 {tg b ρ r} : forGo tg b [] ρ r = .next ρ r := rfl
def kRun (o : SOut) : Out D := match o with
  | .next _ r' => .ok .non r'
  | .ret d r' => .ok d r'
  | .exc x fs _ r' => .exc x fs r'
  | _ => .bad
theorem run_ {N g ds r} : runF N g ds r = kRun (g (ds.map some ++ List.replicate (N - ds.length) none) r) := rfl
theorem run_r {d r} : kRun (.ret d r) = .ok d r := rfl
theorem run_n {ρ r} : kRun (.next ρ r) = .ok .non r := rfl
def kDC (o : Out (List D)) : Out (List (Key × D)) := o.bind fun ds r1 => match dicOf ds with
  | some kds => .ok kds r1
  | none => .bad
theorem dc_ {f ρ r} : xDCopy f ρ r = kDC (f ρ r) := rfl
theorem dc1 {kds r} : kDC (.ok [.dic kds] r) = .ok kds r := rfl
def kOT (g : Sx) (ρ : En) (r : Rs) (o : Option (Option D)) : SOut := match o with
  | some (some (.dic _)) => g ρ r
  | _ => .bad
theorem ot_ {i g ρ r} : isOwnD i g ρ r = kOT g ρ r ρ[i]? := rfl
theorem ot1 {g ρ r k} : kOT g ρ r (some (some (.dic k))) = g ρ r := rfl
def kDP (i : Nat) (v : D) (k : Key) (ρ : En) (r : Rs) (o : Option (Option D)) : SOut := match o with
  | some (some (.dic kds)) => if kds.length < lim then .next (ρ.set i (some (.dic (setK kds k v)))) r else .bad
  | _ => .bad
theorem dp_s {i v x ρ r} : kDPut i v (.str x) ρ r = kDP i v (.inr x) ρ r ρ[i]? := by
  unfold kDPut kDP keyOf
  split <;> simp_all
theorem dp_i {i v x ρ r} : kDPut i v (.int x) ρ r = kDP i v (.inl x) ρ r ρ[i]? := by
  unfold kDPut kDP keyOf
  split <;> simp_all
theorem dp1 {i v k ρ r kds} : kDP i v k ρ r (some (some (.dic kds))) = if kds.length < lim then .next (ρ.set i (some (.dic (setK kds k v)))) r else .bad := rfl
def kFo2 (tg : Tg) (b : Sx) (ds : List D) (o : SOut) : SOut := match o with
  | .next ρ2 r2 => forGo tg b ds ρ2 r2
  | .cont ρ2 r2 => forGo tg b ds ρ2 r2
  | .brk ρ2 r2 => .next ρ2 r2
  | o => o
theorem for1 {i b d ds ρ r} : forGo (gNm i) b (d :: ds) ρ r = if i < ρ.length then kFo2 (gNm i) b ds (b (ρ.set i (some d)) r) else .bad := by
  by_cases h : i < ρ.length
  · have e : gNm i d ρ = some (ρ.set i (some d)) := if_pos h
    rw [if_pos h, forGo]
    simp only [e]
    cases b (ρ.set i (some d)) r <;> rfl
  · have e : gNm i d ρ = none := if_neg h
    rw [if_neg h, forGo]
    simp only [e]
theorem for2 {tg b ds ρ r} : kFo2 tg b ds (.next ρ r) = forGo tg b ds ρ r := rfl
theorem for3 {tg b ds d r} : kFo2 tg b ds (.ret d r) = .ret d r := rfl
def kLg3 (e : D) (o : Option (List D × Rs)) : Option (List D × Rs) := o.map fun p => (e :: p.1, p.2)
def kLg2 (tg : Tg) (t : Tx) (f : Ex) (ρ : En) (ds : List D) (o : Out D) : Option (List D × Rs) := match o with
  | .ok e r2 => kLg3 e (lcGo tg t f ρ ds r2)
  | _ => none
def kLg1 (tg : Tg) (t : Tx) (f : Ex) (ρ ρ1 : En) (ds : List D) (o : Out Bool) : Option (List D × Rs) := match o with
  | .ok true r1 => kLg2 tg t f ρ ds (f ρ1 r1)
  | .ok false r1 => lcGo tg t f ρ ds r1
  | _ => none
theorem lg0 {tg t f ρ r} : lcGo tg t f ρ [] r = some ([], r) := rfl
theorem lg_ {i t f ρ d ds r} : lcGo (gNm i) t f ρ (d :: ds) r = if i < ρ.length then kLg1 (gNm i) t f ρ (ρ.set i (some d)) ds (t (ρ.set i (some d)) r) else none := by
  rw [lcGo]
  unfold gNm
  split
  · simp only [Option.bind_some]
    unfold kLg1 kLg2 kLg3
    rfl
  · rfl
theorem lg1 {tg t f ρ ρ1 ds r} : kLg1 tg t f ρ ρ1 ds (.ok true r) = kLg2 tg t f ρ ds (f ρ1 r) := rfl
theorem lg1f {tg t f ρ ρ1 ds r} : kLg1 tg t f ρ ρ1 ds (.ok false r) = lcGo tg t f ρ ds r := rfl
theorem lg2 {tg t f ρ ds e r} : kLg2 tg t f ρ ds (.ok e r) = kLg3 e (lcGo tg t f ρ ds r) := rfl
theorem lg3 {e es r} : kLg3 e (some (es, r)) = some (e :: es, r) := rfl
def kDi (o : Out (List (Key × D))) : Out (List (Key × D)) := o.bind fun l r1 => if l.length ≤ 15 then .ok (mergeD [] l) r1 else .bad
theorem di_ {ps ρ r} : xDisp ps ρ r = kDi (xPs ps ρ r) := rfl
theorem di1 {l r} : kDi (.ok l r) = if l.length ≤ 15 then .ok (mergeD [] l) r else .bad := rfl
def kPs4 (k : Key) (b : D) (o : Out (List (Key × D))) : Out (List (Key × D)) := o.bind fun l r3 => .ok ((k, b) :: l) r3
def kPs3 (ps : List (Ex × Ex)) (ρ : En) (b : D) (r : Rs) (o : Option Key) : Out (List (Key × D)) := match o with
  | some k => kPs4 k b (xPs ps ρ r)
  | none => .bad
def kPs2 (ps : List (Ex × Ex)) (ρ : En) (a : D) (o : Out D) : Out (List (Key × D)) := o.bind fun b r2 => kPs3 ps ρ b r2 (keyOf a)
def kPs1 (g : Ex) (ps : List (Ex × Ex)) (ρ : En) (o : Out D) : Out (List (Key × D)) := o.bind fun a r1 => kPs2 ps ρ a (g ρ r1)
theorem ps0 {ρ r} : xPs [] ρ r = .ok [] r := rfl
theorem ps_ {f g ps ρ r} : xPs ((f, g) :: ps) ρ r = kPs1 g ps ρ (f ρ r) := rfl
theorem ps1 {g ps ρ a r} : kPs1 g ps ρ (.ok a r) = kPs2 ps ρ a (g ρ r) := rfl
theorem ps2 {ps ρ a b r} : kPs2 ps ρ a (.ok b r) = kPs3 ps ρ b r (keyOf a) := rfl
theorem ps3 {ps ρ b r k} : kPs3 ps ρ b r (some k) = kPs4 k b (xPs ps ρ r) := rfl
theorem ps4 {k b l r} : kPs4 k b (.ok l r) = .ok ((k, b) :: l) r := rfl
theorem ky_s {x} : keyOf (.str x) = some (.inr x) := rfl
theorem ky_i {x} : keyOf (.int x) = some (.inl x) := rfl
theorem imm_b {b} : D.imm (.bl b) = true := rfl
theorem imm_i {i} : D.imm (.int i) = true := rfl
theorem imm_s {x} : D.imm (.str x) = true := rfl
theorem yes_ {ρ r} : xYes ρ r = .ok true r := rfl
end DS

namespace Law
open PySem L2 DL
def topS (i : Nat) : Stmt := PySem.Challenge.pw_worldorpaper_k15_negation_form_says_the.main.body.getD i (.Pass ⟨0, 0, 0, 0⟩)
abbrev s_negation_form : Stmt := topS 4
abbrev N_negation_form : List Str := ["sentence"]
abbrev P_negation_form : List Str := ["sentence"]
theorem sc_negation_form : FnScope N_negation_form P_negation_form (defScope s_negation_form) := ⟨rfl, rfl, rfl, by decide +kernel, rfl, by decide +kernel, by decide +kernel⟩
abbrev s_signed_form : Stmt := topS 5
abbrev N_signed_form : List Str := ["sentence", "sign", "word", "left", "right", "there", "back"]
abbrev P_signed_form : List Str := ["sentence", "sign"]
theorem sc_signed_form : FnScope N_signed_form P_signed_form (defScope s_signed_form) := ⟨rfl, rfl, rfl, by decide +kernel, rfl, by decide +kernel, by decide +kernel⟩
abbrev s__law_start : Stmt := topS 7
abbrev N__law_start : List Str := ["_law_script", "_law_row", "_law_seed", "_law_k", "_law_cell", "_law_j", "_law_mixed"]
abbrev P__law_start : List Str := ["_law_script"]
theorem sc__law_start : FnScope N__law_start P__law_start (defScope s__law_start) := ⟨rfl, rfl, rfl, by decide +kernel, rfl, by decide +kernel, by decide +kernel⟩
abbrev s__law_take : Stmt := topS 8
abbrev N__law_take : List Str := ["_law_state", "_law_many", "_law_at", "_law_mixed"]
abbrev P__law_take : List Str := ["_law_state", "_law_many"]
theorem sc__law_take : FnScope N__law_take P__law_take (defScope s__law_take) := ⟨rfl, rfl, rfl, by decide +kernel, rfl, by decide +kernel, by decide +kernel⟩
abbrev s__law_entry : Stmt := topS 9
abbrev N__law_entry : List Str := ["_law_tables", "_law_size", "_law_name", "_law_things", "_law_at", "_law_thing"]
abbrev P__law_entry : List Str := ["_law_tables", "_law_size", "_law_name", "_law_things"]
theorem sc__law_entry : FnScope N__law_entry P__law_entry (defScope s__law_entry) := ⟨rfl, rfl, rfl, by decide +kernel, rfl, by decide +kernel, by decide +kernel⟩
abbrev s__law_value : Stmt := topS 10
abbrev N__law_value : List Str := ["_law_tables", "_law_size", "_law_term_here", "_law_values", "_law_part"]
abbrev P__law_value : List Str := ["_law_tables", "_law_size", "_law_term_here", "_law_values"]
theorem sc__law_value : FnScope N__law_value P__law_value (defScope s__law_value) := ⟨rfl, rfl, rfl, by decide +kernel, rfl, by decide +kernel, by decide +kernel⟩
abbrev s__law_bound : Stmt := topS 11
abbrev N__law_bound : List Str := ["_law_tables", "_law_size", "_law_sentence_here", "_law_values", "_law_want", "_law_thing", "_law_inner"]
abbrev P__law_bound : List Str := ["_law_tables", "_law_size", "_law_sentence_here", "_law_values"]
theorem sc__law_bound : FnScope N__law_bound P__law_bound (defScope s__law_bound) := ⟨rfl, rfl, rfl, by decide +kernel, rfl, by decide +kernel, by decide +kernel⟩
abbrev s__law_true : Stmt := topS 12
abbrev N__law_true : List Str := ["_law_tables", "_law_size", "_law_sentence_here", "_law_values", "_law_word", "_law_atom", "_law_part", "_law_one", "_law_two"]
abbrev P__law_true : List Str := ["_law_tables", "_law_size", "_law_sentence_here", "_law_values"]
theorem sc__law_true : FnScope N__law_true P__law_true (defScope s__law_true) := ⟨rfl, rfl, rfl, by decide +kernel, rfl, by decide +kernel, by decide +kernel⟩
abbrev s__law_term : Stmt := topS 13
abbrev N__law_term : List Str := ["_law_state", "_law_names", "_law_kind"]
abbrev P__law_term : List Str := ["_law_state", "_law_names"]
theorem sc__law_term : FnScope N__law_term P__law_term (defScope s__law_term) := ⟨rfl, rfl, rfl, by decide +kernel, rfl, by decide +kernel, by decide +kernel⟩
abbrev s__law_basic : Stmt := topS 14
abbrev N__law_basic : List Str := ["_law_state", "_law_names", "_law_kind"]
abbrev P__law_basic : List Str := ["_law_state", "_law_names"]
theorem sc__law_basic : FnScope N__law_basic P__law_basic (defScope s__law_basic) := ⟨rfl, rfl, rfl, by decide +kernel, rfl, by decide +kernel, by decide +kernel⟩
abbrev s__law_sentence : Stmt := topS 15
abbrev N__law_sentence : List Str := ["_law_state", "_law_names", "_law_depth", "_law_kind", "_law_name", "_law_inner", "_law_other", "_law_word"]
abbrev P__law_sentence : List Str := ["_law_state", "_law_names", "_law_depth"]
theorem sc__law_sentence : FnScope N__law_sentence P__law_sentence (defScope s__law_sentence) := ⟨rfl, rfl, rfl, by decide +kernel, rfl, by decide +kernel, by decide +kernel⟩
abbrev s__law_opposite : Stmt := topS 16
abbrev N__law_opposite : List Str := ["_law_formed_here", "_law_word"]
abbrev P__law_opposite : List Str := ["_law_formed_here"]
theorem sc__law_opposite : FnScope N__law_opposite P__law_opposite (defScope s__law_opposite) := ⟨rfl, rfl, rfl, by decide +kernel, rfl, by decide +kernel, by decide +kernel⟩
abbrev s__law_formed : Stmt := topS 17
abbrev N__law_formed : List Str := ["_law_sentence_here", "_law_word", "_law_one", "_law_two"]
abbrev P__law_formed : List Str := ["_law_sentence_here"]
theorem sc__law_formed : FnScope N__law_formed P__law_formed (defScope s__law_formed) := ⟨rfl, rfl, rfl, by decide +kernel, rfl, by decide +kernel, by decide +kernel⟩
abbrev s__law_shaped : Stmt := topS 18
abbrev N__law_shaped : List Str := ["_law_sentence_here", "_law_word"]
abbrev P__law_shaped : List Str := ["_law_sentence_here"]
theorem sc__law_shaped : FnScope N__law_shaped P__law_shaped (defScope s__law_shaped) := ⟨rfl, rfl, rfl, by decide +kernel, rfl, by decide +kernel, by decide +kernel⟩
abbrev s_law : Stmt := topS 19
abbrev N_law : List Str := ["_law_script", "_law_state", "_law_size", "_law_depth", "_law_tables", "_law_k", "_law_sentence_here", "_law_due", "_law_made", "_law_turned", "_law_x", "_law_y", "_law_values", "_law_said"]
abbrev P_law : List Str := ["_law_script"]
theorem sc_law : FnScope N_law P_law (defScope s_law) := ⟨rfl, rfl, rfl, by decide +kernel, rfl, by decide +kernel, by decide +kernel⟩
def k_BINDERS : D := (.tup [(.str "all"), (.str "some")])
def k_BASIC : D := (.tup [(.str "holds"), (.str "same")])
def k_OTHER : List (Str × D) := [("and", (.str "or")), ("or", (.str "and")), ("all", (.str "some")), ("some", (.str "all"))]
def b_negation_form (fuel : Nat) (C : Nat → List D → Rs → Out D) : Sx :=
    (sRet false [] (xCall (C 1) (xCons (xVar 0) (xCons (xC (.bl true)) xNil))))
def b_signed_form (fuel : Nat) (C : Nat → List D → Rs → Out D) : Sx :=
    (sSeq (sAsg [] (gNm 2) (xIx (xVar 0) (xC (.int 0))))
    (sSeq (sIf (xB (xOp dIn (xVar 2) (xC k_BASIC))) (sRet false [] (xIf (xTr (xVar 1)) (xVar 0) (xTup (xCons (xC (.str "not")) (xCons (xVar 0) xNil))))) sNext)
    (sSeq (sIf (xB (xOp dEq (xVar 2) (xC (.str "not")))) (sRet false [] (xCall (C 1) (xCons (xIx (xVar 0) (xC (.int 1))) (xCons (xNotV (xVar 1)) xNil)))) sNext)
    (sSeq (sIf (xB (xOp dIn (xVar 2) (xC k_BINDERS))) (sRet false [] (xTup (xCons (xIf (xTr (xVar 1)) (xVar 2) (xKD k_OTHER (xVar 2))) (xCons (xIx (xVar 0) (xC (.int 1))) (xCons (xCall (C 1) (xCons (xIx (xVar 0) (xC (.int 2))) (xCons (xVar 1) xNil))) xNil))))) sNext)
    (sSeq (sPar [] 3 4 (xCons (xIx (xVar 0) (xC (.int 1))) (xCons (xIx (xVar 0) (xC (.int 2))) xNil)))
    (sSeq (sIf (xB (xOp dEq (xVar 2) (xC (.str "iff")))) (sSeq (sPar [] 5 6 (xCons (xTup (xCons (xC (.str "implies")) (xCons (xVar 3) (xCons (xVar 4) xNil)))) (xCons (xTup (xCons (xC (.str "implies")) (xCons (xVar 4) (xCons (xVar 3) xNil)))) xNil)))
    (sRet false [] (xTup (xCons (xIf (xTr (xVar 1)) (xC (.str "and")) (xC (.str "or"))) (xCons (xCall (C 1) (xCons (xVar 5) (xCons (xVar 1) xNil))) (xCons (xCall (C 1) (xCons (xVar 6) (xCons (xVar 1) xNil))) xNil)))))) sNext)
    (sSeq (sIf (xB (xOp dEq (xVar 2) (xC (.str "implies")))) (sRet false [] (xTup (xCons (xIf (xTr (xVar 1)) (xC (.str "or")) (xC (.str "and"))) (xCons (xCall (C 1) (xCons (xVar 3) (xCons (xNotV (xVar 1)) xNil))) (xCons (xCall (C 1) (xCons (xVar 4) (xCons (xVar 1) xNil))) xNil))))) sNext)
    (sRet false [] (xTup (xCons (xIf (xTr (xVar 1)) (xVar 2) (xKD k_OTHER (xVar 2))) (xCons (xCall (C 1) (xCons (xVar 3) (xCons (xVar 1) xNil))) (xCons (xCall (C 1) (xCons (xVar 4) (xCons (xVar 1) xNil))) xNil))))))))))))
def b__law_start (fuel : Nat) (C : Nat → List D → Rs → Out D) : Sx :=
    (sSeq (sAsg [] (gNm 1) (xRes (xLst' xNil)))
    (sSeq (sAsg [] (gNm 2) (xC (.int 17)))
    (sSeq (sFor [] (xRng1 (xCons (xCB cLen (xCons (xVar 0) xNil)) xNil)) (gNm 3) (sSeq (sAsg [] (gNm 4) (xCB cAbs (xCons (xIx (xVar 0) (xVar 3)) xNil)))
    (sSeq (sAsg [] (gNm 2) (xOp dMod (xCB cInt (xCons (xOp dAdd (xOp dAdd (xOp dMul (xVar 2) (xC (.int 31))) (xVar 4)) (xVar 3)) xNil)) (xC (.int 2147483647))))
    (sIf (xB (xOp dGe (xVar 4) (xOp dPow (xC (.int 10)) (xC (.int 18))))) (sSeq (sAsg [] (gNm 4) (xOp dSub (xVar 4) (xOp dPow (xC (.int 10)) (xC (.int 18)))))
    (sFor [] (xRng1 (xCons (xC (.int 60)) xNil)) (gNm 5) (sIf (xB (xOp dGt (xVar 4) (xC (.int 0)))) (sSeq (sExp [] (xAppR (xVar 1) (xCons (xOp dMod (xCB cInt (xCons (xVar 4) xNil)) (xC (.int 840))) xNil)))
    (sAsg [] (gNm 4) (xOp dDiv (xVar 4) (xC (.int 840))))) sNext))) (sSeq (sAsg [] (gNm 6) (xOp dMod (xCB cInt (xCons (xOp dAdd (xOp dMul (xOp dAdd (xVar 4) (xC (.int 1))) (xC (.int 48271))) (xOp dMul (xVar 3) (xC (.int 69621)))) xNil)) (xC (.int 2147483647))))
    (sSeq (sAsg [] (gNm 6) (xOp dMod (xCB cInt (xCons (xOp dAdd (xOp dMul (xVar 6) (xC (.int 40692))) (xC (.int 5))) xNil)) (xC (.int 2147483399))))
    (sExp [] (xAppR (xVar 1) (xCons (xOp dMod (xOp dDiv (xVar 6) (xC (.int 13))) (xC (.int 840))) xNil)))))))))
    (sRet false [] (xRes (xLst' (xCons (xVar 1) (xCons (xC (.int 0)) (xCons (xVar 2) xNil)))))))))
def b__law_take (fuel : Nat) (C : Nat → List D → Rs → Out D) : Sx :=
    (sSeq (sAsg [] (gNm 2) (xIx (xVar 0) (xC (.int 1))))
    (sSeq (sSetR [] (xVar 0) (xC (.int 1)) (xOp dAdd (xVar 2) (xC (.int 1))))
    (sSeq (sIf (xB (xOp dLt (xVar 2) (xCB cLen (xCons (xIx (xVar 0) (xC (.int 0))) xNil)))) (sRet false [] (xOp dMod (xCB cInt (xCons (xIx (xIx (xVar 0) (xC (.int 0))) (xVar 2)) xNil)) (xVar 1))) sNext)
    (sSeq (sAsg [] (gNm 3) (xOp dMod (xCB cInt (xCons (xOp dMul (xOp dAdd (xIx (xVar 0) (xC (.int 2))) (xOp dMul (xVar 2) (xC (.int 40503)))) (xC (.int 48271))) xNil)) (xC (.int 2147483647))))
    (sSeq (sAsg [] (gNm 3) (xOp dMod (xCB cInt (xCons (xOp dAdd (xOp dMul (xVar 3) (xC (.int 69621))) (xOp dMul (xVar 2) (xVar 2))) xNil)) (xC (.int 2147483629))))
    (sRet false [] (xOp dMod (xOp dDiv (xVar 3) (xC (.int 11))) (xVar 1))))))))
def b__law_entry (fuel : Nat) (C : Nat → List D → Rs → Out D) : Sx :=
    (sSeq (sAsg [] (gNm 4) (xC (.int 0)))
    (sSeq (sFor [] (xItems (xVar 3)) (gNm 5) (sAsg [] (gNm 4) (xOp dAdd (xOp dMul (xVar 4) (xVar 1)) (xVar 5))))
    (sRet false [] (xIx (xDGet (xVar 0) (xVar 2)) (xVar 4)))))
def b__law_value (fuel : Nat) (C : Nat → List D → Rs → Out D) : Sx :=
    (sSeq (sIf (xTr (xCB cIsi (xCons (xVar 2) (xCons (xC (.ty "str")) xNil)))) (sRet false [] (xDGet (xVar 3) (xVar 2))) sNext)
    (sRet false [] (xCall (C 4) (xCons (xVar 0) (xCons (xVar 1) (xCons (xIx (xVar 2) (xC (.int 0))) (xCons (xL (xLc (xItems (xSl (xVar 2) (xPart (xC (.int 1))) xNoP)) (gNm 4) xYes (xCall (C 5) (xCons (xVar 0) (xCons (xVar 1) (xCons (xVar 4) (xCons (xVar 3) xNil))))) [4])) xNil)))))))
def b__law_bound (fuel : Nat) (C : Nat → List D → Rs → Out D) : Sx :=
    (sSeq (sAsg [6] (gNm 4) (xOp dEq (xIx (xVar 2) (xC (.int 0))) (xC (.str "some"))))
    (sSeq (sFor [6] (xRng1 (xCons (xVar 1) xNil)) (gNm 5) (sSeq (sAsgD [6] 6 (xDCopy (xCons (xVar 3) xNil)))
    (sSeq (isOwnD 6 (sDPut' [6] 6 (xIx (xVar 2) (xC (.int 1))) (xVar 5)))
    (sIf (xB (xOp dEq (xCall (C 7) (xCons (xVar 0) (xCons (xVar 1) (xCons (xIx (xVar 2) (xC (.int 2))) (xCons (xVar 6) xNil))))) (xVar 4))) (sRet false [6] (xVar 4)) sNext))))
    (sRet false [6] (xNotV (xVar 4)))))
def b__law_true (fuel : Nat) (C : Nat → List D → Rs → Out D) : Sx :=
    (sSeq (sAsg [] (gNm 4) (xIx (xVar 2) (xC (.int 0))))
    (sSeq (sIf (xB (xOp dEq (xVar 4) (xC (.str "holds")))) (sSeq (sAsg [] (gNm 5) (xIx (xVar 2) (xC (.int 1))))
    (sRet false [] (xCall (C 4) (xCons (xVar 0) (xCons (xVar 1) (xCons (xIx (xVar 5) (xC (.int 0))) (xCons (xL (xLc (xItems (xSl (xVar 5) (xPart (xC (.int 1))) xNoP)) (gNm 6) xYes (xCall (C 5) (xCons (xVar 0) (xCons (xVar 1) (xCons (xVar 6) (xCons (xVar 3) xNil))))) [6])) xNil))))))) sNext)
    (sSeq (sIf (xB (xOp dEq (xVar 4) (xC (.str "same")))) (sRet false [] (xOp dEq (xCall (C 5) (xCons (xVar 0) (xCons (xVar 1) (xCons (xIx (xVar 2) (xC (.int 1))) (xCons (xVar 3) xNil))))) (xCall (C 5) (xCons (xVar 0) (xCons (xVar 1) (xCons (xIx (xVar 2) (xC (.int 2))) (xCons (xVar 3) xNil))))))) sNext)
    (sSeq (sIf (xB (xOp dEq (xVar 4) (xC (.str "not")))) (sRet false [] (xNotV (xCall (C 7) (xCons (xVar 0) (xCons (xVar 1) (xCons (xIx (xVar 2) (xC (.int 1))) (xCons (xVar 3) xNil))))))) sNext)
    (sSeq (sIf (xB (xOp dIn (xVar 4) (xTup (xCons (xC (.str "all")) (xCons (xC (.str "some")) xNil))))) (sRet false [] (xCall (C 6) (xCons (xVar 0) (xCons (xVar 1) (xCons (xVar 2) (xCons (xVar 3) xNil)))))) sNext)
    (sSeq (sAsg [] (gNm 7) (xCall (C 7) (xCons (xVar 0) (xCons (xVar 1) (xCons (xIx (xVar 2) (xC (.int 1))) (xCons (xVar 3) xNil))))))
    (sSeq (sIf (xOr (xAnd (xB (xOp dEq (xVar 4) (xC (.str "and")))) (xNot (xTr (xVar 7)))) (xAnd (xB (xOp dEq (xVar 4) (xC (.str "or")))) (xTr (xVar 7)))) (sRet false [] (xVar 7)) sNext)
    (sSeq (sIf (xAnd (xB (xOp dEq (xVar 4) (xC (.str "implies")))) (xNot (xTr (xVar 7)))) (sRet false [] (xC (.bl true))) sNext)
    (sSeq (sAsg [] (gNm 8) (xCall (C 7) (xCons (xVar 0) (xCons (xVar 1) (xCons (xIx (xVar 2) (xC (.int 2))) (xCons (xVar 3) xNil))))))
    (sSeq (sIf (xB (xOp dEq (xVar 4) (xC (.str "iff")))) (sRet false [] (xOp dEq (xVar 7) (xVar 8))) sNext)
    (sRet false [] (xVar 8))))))))))))
def b__law_term (fuel : Nat) (C : Nat → List D → Rs → Out D) : Sx :=
    (sSeq (sAsg [] (gNm 2) (xCall (C 3) (xCons (xVar 0) (xCons (xC (.int 4)) xNil))))
    (sSeq (sIf (xB (xOp dEq (xVar 2) (xC (.int 0)))) (sRet false [] (xTup (xCons (xC (.str "a")) xNil))) sNext)
    (sSeq (sIf (xB (xOp dEq (xVar 2) (xC (.int 1)))) (sRet false [] (xTup (xCons (xC (.str "f")) (xCons (xIx (xVar 1) (xCall (C 3) (xCons (xVar 0) (xCons (xCB cLen (xCons (xVar 1) xNil)) xNil)))) xNil)))) sNext)
    (sRet false [] (xIx (xVar 1) (xCall (C 3) (xCons (xVar 0) (xCons (xCB cLen (xCons (xVar 1) xNil)) xNil))))))))
def b__law_basic (fuel : Nat) (C : Nat → List D → Rs → Out D) : Sx :=
    (sSeq (sAsg [] (gNm 2) (xCall (C 3) (xCons (xVar 0) (xCons (xC (.int 4)) xNil))))
    (sSeq (sIf (xB (xOp dEq (xVar 2) (xC (.int 0)))) (sRet false [] (xTup (xCons (xC (.str "same")) (xCons (xCall (C 8) (xCons (xVar 0) (xCons (xVar 1) xNil))) (xCons (xCall (C 8) (xCons (xVar 0) (xCons (xVar 1) xNil))) xNil))))) sNext)
    (sSeq (sIf (xB (xOp dEq (xVar 2) (xC (.int 1)))) (sRet false [] (xTup (xCons (xC (.str "holds")) (xCons (xTup (xCons (xC (.str "R")) (xCons (xCall (C 8) (xCons (xVar 0) (xCons (xVar 1) xNil))) (xCons (xCall (C 8) (xCons (xVar 0) (xCons (xVar 1) xNil))) xNil)))) xNil)))) sNext)
    (sSeq (sIf (xB (xOp dEq (xVar 2) (xC (.int 2)))) (sRet false [] (xTup (xCons (xC (.str "holds")) (xCons (xTup (xCons (xC (.str "P")) (xCons (xCall (C 8) (xCons (xVar 0) (xCons (xVar 1) xNil))) xNil))) xNil)))) sNext)
    (sRet false [] (xTup (xCons (xC (.str "holds")) (xCons (xTup (xCons (xC (.str "Q")) xNil)) xNil))))))))
def b__law_sentence (fuel : Nat) (C : Nat → List D → Rs → Out D) : Sx :=
    (sSeq (sAsg [] (gNm 3) (xCall (C 3) (xCons (xVar 0) (xCons (xC (.int 10)) xNil))))
    (sSeq (sIf (xOr (xB (xOp dEq (xVar 2) (xC (.int 0)))) (xB (xOp dEq (xVar 3) (xC (.int 0))))) (sRet false [] (xCall (C 9) (xCons (xVar 0) (xCons (xVar 1) xNil)))) sNext)
    (sSeq (sIf (xB (xOp dLt (xVar 3) (xC (.int 3)))) (sRet false [] (xTup (xCons (xC (.str "not")) (xCons (xCall (C 10) (xCons (xVar 0) (xCons (xVar 1) (xCons (xOp dSub (xVar 2) (xC (.int 1))) xNil)))) xNil)))) sNext)
    (sSeq (sIf (xB (xOp dLt (xVar 3) (xC (.int 5)))) (sSeq (sAsg [] (gNm 4) (xIx (xLst (xCons (xC (.str "x")) (xCons (xC (.str "y")) (xCons (xC (.str "z")) xNil)))) (xCall (C 3) (xCons (xVar 0) (xCons (xC (.int 3)) xNil)))))
    (sSeq (sAsg [] (gNm 5) (xOp dAdd (xL (xLc (xItems (xVar 1)) (gNm 6) (xB (xOp dNe (xVar 6) (xVar 4))) (xVar 6) [6])) (xLst (xCons (xVar 4) xNil))))
    (sRet false [] (xTup (xCons (xIx (xLst (xCons (xC (.str "all")) (xCons (xC (.str "some")) xNil))) (xCall (C 3) (xCons (xVar 0) (xCons (xC (.int 2)) xNil)))) (xCons (xVar 4) (xCons (xCall (C 10) (xCons (xVar 0) (xCons (xVar 5) (xCons (xOp dSub (xVar 2) (xC (.int 1))) xNil)))) xNil))))))) sNext)
    (sSeq (sAsg [] (gNm 7) (xIx (xLst (xCons (xC (.str "and")) (xCons (xC (.str "or")) (xCons (xC (.str "implies")) (xCons (xC (.str "iff")) (xCons (xC (.str "iff")) xNil)))))) (xOp dSub (xVar 3) (xC (.int 5)))))
    (sRet false [] (xTup (xCons (xVar 7) (xCons (xCall (C 10) (xCons (xVar 0) (xCons (xVar 1) (xCons (xOp dSub (xVar 2) (xC (.int 1))) xNil)))) (xCons (xCall (C 10) (xCons (xVar 0) (xCons (xVar 1) (xCons (xOp dSub (xVar 2) (xC (.int 1))) xNil)))) xNil))))))))))
def b__law_opposite (fuel : Nat) (C : Nat → List D → Rs → Out D) : Sx :=
    (sSeq (sAsg [] (gNm 1) (xIx (xVar 0) (xC (.int 0))))
    (sSeq (sIf (xB (xOp dEq (xVar 1) (xC (.str "not")))) (sRet false [] (xIx (xVar 0) (xC (.int 1)))) sNext)
    (sSeq (sIf (xB (xOp dIn (xVar 1) (xTup (xCons (xC (.str "holds")) (xCons (xC (.str "same")) xNil))))) (sRet false [] (xTup (xCons (xC (.str "not")) (xCons (xVar 0) xNil)))) sNext)
    (sSeq (sIf (xB (xOp dIn (xVar 1) (xTup (xCons (xC (.str "all")) (xCons (xC (.str "some")) xNil))))) (sRet false [] (xTup (xCons (xIf (xB (xOp dEq (xVar 1) (xC (.str "all")))) (xC (.str "some")) (xC (.str "all"))) (xCons (xIx (xVar 0) (xC (.int 1))) (xCons (xCall (C 11) (xCons (xIx (xVar 0) (xC (.int 2))) xNil)) xNil))))) sNext)
    (sRet false [] (xTup (xCons (xIf (xB (xOp dEq (xVar 1) (xC (.str "and")))) (xC (.str "or")) (xC (.str "and"))) (xCons (xCall (C 11) (xCons (xIx (xVar 0) (xC (.int 1))) xNil)) (xCons (xCall (C 11) (xCons (xIx (xVar 0) (xC (.int 2))) xNil)) xNil)))))))))
def b__law_formed (fuel : Nat) (C : Nat → List D → Rs → Out D) : Sx :=
    (sSeq (sAsg [] (gNm 1) (xIx (xVar 0) (xC (.int 0))))
    (sSeq (sIf (xB (xOp dIn (xVar 1) (xTup (xCons (xC (.str "holds")) (xCons (xC (.str "same")) xNil))))) (sRet false [] (xVar 0)) sNext)
    (sSeq (sIf (xB (xOp dEq (xVar 1) (xC (.str "not")))) (sRet false [] (xCall (C 11) (xCons (xCall (C 12) (xCons (xIx (xVar 0) (xC (.int 1))) xNil)) xNil))) sNext)
    (sSeq (sIf (xB (xOp dIn (xVar 1) (xTup (xCons (xC (.str "all")) (xCons (xC (.str "some")) xNil))))) (sRet false [] (xTup (xCons (xVar 1) (xCons (xIx (xVar 0) (xC (.int 1))) (xCons (xCall (C 12) (xCons (xIx (xVar 0) (xC (.int 2))) xNil)) xNil))))) sNext)
    (sSeq (sAsg [] (gNm 2) (xCall (C 12) (xCons (xIx (xVar 0) (xC (.int 1))) xNil)))
    (sSeq (sAsg [] (gNm 3) (xCall (C 12) (xCons (xIx (xVar 0) (xC (.int 2))) xNil)))
    (sSeq (sIf (xB (xOp dEq (xVar 1) (xC (.str "implies")))) (sRet false [] (xTup (xCons (xC (.str "or")) (xCons (xCall (C 11) (xCons (xVar 2) xNil)) (xCons (xVar 3) xNil))))) sNext)
    (sSeq (sIf (xB (xOp dEq (xVar 1) (xC (.str "iff")))) (sRet false [] (xTup (xCons (xC (.str "and")) (xCons (xTup (xCons (xC (.str "or")) (xCons (xCall (C 11) (xCons (xVar 2) xNil)) (xCons (xVar 3) xNil)))) (xCons (xTup (xCons (xC (.str "or")) (xCons (xCall (C 11) (xCons (xVar 3) xNil)) (xCons (xVar 2) xNil)))) xNil))))) sNext)
    (sRet false [] (xTup (xCons (xVar 1) (xCons (xVar 2) (xCons (xVar 3) xNil)))))))))))))
def b__law_shaped (fuel : Nat) (C : Nat → List D → Rs → Out D) : Sx :=
    (sSeq (sAsg [] (gNm 1) (xIx (xVar 0) (xC (.int 0))))
    (sSeq (sIf (xB (xOp dEq (xVar 1) (xC (.str "not")))) (sRet false [] (xOp dIn (xIx (xIx (xVar 0) (xC (.int 1))) (xC (.int 0))) (xTup (xCons (xC (.str "holds")) (xCons (xC (.str "same")) xNil))))) sNext)
    (sSeq (sIf (xB (xOp dIn (xVar 1) (xTup (xCons (xC (.str "all")) (xCons (xC (.str "some")) xNil))))) (sRet false [] (xCall (C 13) (xCons (xIx (xVar 0) (xC (.int 2))) xNil))) sNext)
    (sSeq (sIf (xB (xOp dIn (xVar 1) (xTup (xCons (xC (.str "and")) (xCons (xC (.str "or")) xNil))))) (sRet false [] (xAndV (xCall (C 13) (xCons (xIx (xVar 0) (xC (.int 1))) xNil)) (xCall (C 13) (xCons (xIx (xVar 0) (xC (.int 2))) xNil)))) sNext)
    (sRet false [] (xOp dIn (xVar 1) (xTup (xCons (xC (.str "holds")) (xCons (xC (.str "same")) xNil)))))))))
def b_law (fuel : Nat) (C : Nat → List D → Rs → Out D) : Sx :=
    (sSeq (sAsg [4] (gNm 1) (xCall (C 2) (xCons (xVar 0) xNil)))
    (sSeq (sAsg [4] (gNm 2) (xOp dAdd (xC (.int 1)) (xCall (C 3) (xCons (xVar 1) (xCons (xC (.int 3)) xNil)))))
    (sSeq (sAsg [4] (gNm 3) (xOp dAdd (xC (.int 1)) (xCall (C 3) (xCons (xVar 1) (xCons (xC (.int 4)) xNil)))))
    (sSeq (sAsgD [4] 4 (xDisp [((xC (.str "a")), (xLst (xCons (xCall (C 3) (xCons (xVar 1) (xCons (xVar 2) xNil))) xNil))), ((xC (.str "Q")), (xLst (xCons (xOp dEq (xCall (C 3) (xCons (xVar 1) (xCons (xC (.int 2)) xNil))) (xC (.int 1))) xNil)))]))
    (sSeq (isOwnD 4 (sDPut' [4] 4 (xC (.str "f")) (xL (xLc (xRng1 (xCons (xVar 2) xNil)) (gNm 5) xYes (xCall (C 3) (xCons (xVar 1) (xCons (xVar 2) xNil))) [5]))))
    (sSeq (isOwnD 4 (sDPut' [4] 4 (xC (.str "P")) (xL (xLc (xRng1 (xCons (xVar 2) xNil)) (gNm 5) xYes (xOp dEq (xCall (C 3) (xCons (xVar 1) (xCons (xC (.int 2)) xNil))) (xC (.int 1))) [5]))))
    (sSeq (isOwnD 4 (sDPut' [4] 4 (xC (.str "R")) (xL (xLc (xRng1 (xCons (xOp dMul (xVar 2) (xVar 2)) xNil)) (gNm 5) xYes (xOp dEq (xCall (C 3) (xCons (xVar 1) (xCons (xC (.int 2)) xNil))) (xC (.int 1))) [5]))))
    (sSeq (sAsg [4] (gNm 6) (xCall (C 10) (xCons (xVar 1) (xCons (xLst (xCons (xC (.str "x")) (xCons (xC (.str "y")) xNil))) (xCons (xVar 3) xNil)))))
    (sSeq (sAsg [4] (gNm 7) (xCall (C 12) (xCons (xVar 6) xNil)))
    (sSeq (sAsg [4] (gNm 8) (xCall (C 0) (xCons (xVar 6) xNil)))
    (sSeq (sAsg [4] (gNm 9) (xCall (C 0) (xCons (xTup (xCons (xC (.str "not")) (xCons (xVar 6) xNil))) xNil)))
    (sSeq (sIf (xOr (xB (xOp dNe (xVar 8) (xVar 7))) (xB (xOp dNe (xVar 9) (xCall (C 11) (xCons (xVar 7) xNil))))) (sRet false [4] (xC (.bl false))) sNext)
    (sSeq (sIf (xOr (xNot (xTr (xCall (C 13) (xCons (xVar 8) xNil)))) (xOr (xNot (xTr (xCall (C 13) (xCons (xVar 9) xNil)))) (xB (xOp dNe (xCall (C 0) (xCons (xVar 8) xNil)) (xVar 7))))) (sRet false [4] (xC (.bl false))) sNext)
    (sSeq (sFor [4] (xRng1 (xCons (xVar 2) xNil)) (gNm 10) (sFor [4] (xRng1 (xCons (xVar 2) xNil)) (gNm 11) (sSeq (sAsg [4] (gNm 12) (xD (xDisp [((xC (.str "x")), (xVar 10)), ((xC (.str "y")), (xVar 11))])))
    (sSeq (sAsgI (gNm 13) (xCall (C 7) (xCons (xVar 4) (xCons (xVar 2) (xCons (xVar 6) (xCons (xVar 12) xNil))))))
    (sSeq (sIf (xB (xOp dNe (xCall (C 7) (xCons (xVar 4) (xCons (xVar 2) (xCons (xVar 8) (xCons (xVar 12) xNil))))) (xVar 13))) (sRet false [4] (xC (.bl false))) sNext)
    (sIf (xB (xOp dEq (xCall (C 7) (xCons (xVar 4) (xCons (xVar 2) (xCons (xVar 9) (xCons (xVar 12) xNil))))) (xVar 13))) (sRet false [4] (xC (.bl false))) sNext))))))
    (sRet false [4] (xC (.bl true)))))))))))))))))
/-- the program, by the depth of its calls -/
def pr (fuel : Nat) : Nat → Nat → List D → Rs → Out D
  | 0, _ => fun _ _ => .bad
  | n + 1, i => match i with
    | 0 => runF (List.length N_negation_form) (b_negation_form fuel (pr fuel n))
    | 1 => runF (List.length N_signed_form) (b_signed_form fuel (pr fuel n))
    | 2 => runF (List.length N__law_start) (b__law_start fuel (pr fuel n))
    | 3 => runF (List.length N__law_take) (b__law_take fuel (pr fuel n))
    | 4 => runF (List.length N__law_entry) (b__law_entry fuel (pr fuel n))
    | 5 => runF (List.length N__law_value) (b__law_value fuel (pr fuel n))
    | 6 => runF (List.length N__law_bound) (b__law_bound fuel (pr fuel n))
    | 7 => runF (List.length N__law_true) (b__law_true fuel (pr fuel n))
    | 8 => runF (List.length N__law_term) (b__law_term fuel (pr fuel n))
    | 9 => runF (List.length N__law_basic) (b__law_basic fuel (pr fuel n))
    | 10 => runF (List.length N__law_sentence) (b__law_sentence fuel (pr fuel n))
    | 11 => runF (List.length N__law_opposite) (b__law_opposite fuel (pr fuel n))
    | 12 => runF (List.length N__law_formed) (b__law_formed fuel (pr fuel n))
    | 13 => runF (List.length N__law_shaped) (b__law_shaped fuel (pr fuel n))
    | 14 => runF (List.length N_law) (b_law fuel (pr fuel n))
    | _ => fun _ _ => .bad
end Law

namespace KM
open PySem L2 DL DM Law
theorem q_holds_holds : dEq (.str "holds") (.str "holds") = some (.bl true) := by with_unfolding_all rfl
theorem q_holds_same : dEq (.str "holds") (.str "same") = some (.bl false) := by with_unfolding_all rfl
theorem q_holds_not : dEq (.str "holds") (.str "not") = some (.bl false) := by with_unfolding_all rfl
theorem q_holds_all : dEq (.str "holds") (.str "all") = some (.bl false) := by with_unfolding_all rfl
theorem q_holds_some : dEq (.str "holds") (.str "some") = some (.bl false) := by with_unfolding_all rfl
theorem q_holds_and : dEq (.str "holds") (.str "and") = some (.bl false) := by with_unfolding_all rfl
theorem q_holds_or : dEq (.str "holds") (.str "or") = some (.bl false) := by with_unfolding_all rfl
theorem q_holds_implies : dEq (.str "holds") (.str "implies") = some (.bl false) := by with_unfolding_all rfl
theorem q_holds_iff : dEq (.str "holds") (.str "iff") = some (.bl false) := by with_unfolding_all rfl
theorem i_holds_hs : dIn (.str "holds") (.tup [.str "holds", .str "same"]) = some (.bl true) := by with_unfolding_all rfl
theorem i_holds_as : dIn (.str "holds") (.tup [.str "all", .str "some"]) = some (.bl false) := by with_unfolding_all rfl
theorem i_holds_ao : dIn (.str "holds") (.tup [.str "and", .str "or"]) = some (.bl false) := by with_unfolding_all rfl
theorem q_same_holds : dEq (.str "same") (.str "holds") = some (.bl false) := by with_unfolding_all rfl
theorem q_same_same : dEq (.str "same") (.str "same") = some (.bl true) := by with_unfolding_all rfl
theorem q_same_not : dEq (.str "same") (.str "not") = some (.bl false) := by with_unfolding_all rfl
theorem q_same_all : dEq (.str "same") (.str "all") = some (.bl false) := by with_unfolding_all rfl
theorem q_same_some : dEq (.str "same") (.str "some") = some (.bl false) := by with_unfolding_all rfl
theorem q_same_and : dEq (.str "same") (.str "and") = some (.bl false) := by with_unfolding_all rfl
theorem q_same_or : dEq (.str "same") (.str "or") = some (.bl false) := by with_unfolding_all rfl
theorem q_same_implies : dEq (.str "same") (.str "implies") = some (.bl false) := by with_unfolding_all rfl
theorem q_same_iff : dEq (.str "same") (.str "iff") = some (.bl false) := by with_unfolding_all rfl
theorem i_same_hs : dIn (.str "same") (.tup [.str "holds", .str "same"]) = some (.bl true) := by with_unfolding_all rfl
theorem i_same_as : dIn (.str "same") (.tup [.str "all", .str "some"]) = some (.bl false) := by with_unfolding_all rfl
theorem i_same_ao : dIn (.str "same") (.tup [.str "and", .str "or"]) = some (.bl false) := by with_unfolding_all rfl
theorem q_not_holds : dEq (.str "not") (.str "holds") = some (.bl false) := by with_unfolding_all rfl
theorem q_not_same : dEq (.str "not") (.str "same") = some (.bl false) := by with_unfolding_all rfl
theorem q_not_not : dEq (.str "not") (.str "not") = some (.bl true) := by with_unfolding_all rfl
theorem q_not_all : dEq (.str "not") (.str "all") = some (.bl false) := by with_unfolding_all rfl
theorem q_not_some : dEq (.str "not") (.str "some") = some (.bl false) := by with_unfolding_all rfl
theorem q_not_and : dEq (.str "not") (.str "and") = some (.bl false) := by with_unfolding_all rfl
theorem q_not_or : dEq (.str "not") (.str "or") = some (.bl false) := by with_unfolding_all rfl
theorem q_not_implies : dEq (.str "not") (.str "implies") = some (.bl false) := by with_unfolding_all rfl
theorem q_not_iff : dEq (.str "not") (.str "iff") = some (.bl false) := by with_unfolding_all rfl
theorem i_not_hs : dIn (.str "not") (.tup [.str "holds", .str "same"]) = some (.bl false) := by with_unfolding_all rfl
theorem i_not_as : dIn (.str "not") (.tup [.str "all", .str "some"]) = some (.bl false) := by with_unfolding_all rfl
theorem i_not_ao : dIn (.str "not") (.tup [.str "and", .str "or"]) = some (.bl false) := by with_unfolding_all rfl
theorem q_all_holds : dEq (.str "all") (.str "holds") = some (.bl false) := by with_unfolding_all rfl
theorem q_all_same : dEq (.str "all") (.str "same") = some (.bl false) := by with_unfolding_all rfl
theorem q_all_not : dEq (.str "all") (.str "not") = some (.bl false) := by with_unfolding_all rfl
theorem q_all_all : dEq (.str "all") (.str "all") = some (.bl true) := by with_unfolding_all rfl
theorem q_all_some : dEq (.str "all") (.str "some") = some (.bl false) := by with_unfolding_all rfl
theorem q_all_and : dEq (.str "all") (.str "and") = some (.bl false) := by with_unfolding_all rfl
theorem q_all_or : dEq (.str "all") (.str "or") = some (.bl false) := by with_unfolding_all rfl
theorem q_all_implies : dEq (.str "all") (.str "implies") = some (.bl false) := by with_unfolding_all rfl
theorem q_all_iff : dEq (.str "all") (.str "iff") = some (.bl false) := by with_unfolding_all rfl
theorem i_all_hs : dIn (.str "all") (.tup [.str "holds", .str "same"]) = some (.bl false) := by with_unfolding_all rfl
theorem i_all_as : dIn (.str "all") (.tup [.str "all", .str "some"]) = some (.bl true) := by with_unfolding_all rfl
theorem i_all_ao : dIn (.str "all") (.tup [.str "and", .str "or"]) = some (.bl false) := by with_unfolding_all rfl
theorem q_some_holds : dEq (.str "some") (.str "holds") = some (.bl false) := by with_unfolding_all rfl
theorem q_some_same : dEq (.str "some") (.str "same") = some (.bl false) := by with_unfolding_all rfl
theorem q_some_not : dEq (.str "some") (.str "not") = some (.bl false) := by with_unfolding_all rfl
theorem q_some_all : dEq (.str "some") (.str "all") = some (.bl false) := by with_unfolding_all rfl
theorem q_some_some : dEq (.str "some") (.str "some") = some (.bl true) := by with_unfolding_all rfl
theorem q_some_and : dEq (.str "some") (.str "and") = some (.bl false) := by with_unfolding_all rfl
theorem q_some_or : dEq (.str "some") (.str "or") = some (.bl false) := by with_unfolding_all rfl
theorem q_some_implies : dEq (.str "some") (.str "implies") = some (.bl false) := by with_unfolding_all rfl
theorem q_some_iff : dEq (.str "some") (.str "iff") = some (.bl false) := by with_unfolding_all rfl
theorem i_some_hs : dIn (.str "some") (.tup [.str "holds", .str "same"]) = some (.bl false) := by with_unfolding_all rfl
theorem i_some_as : dIn (.str "some") (.tup [.str "all", .str "some"]) = some (.bl true) := by with_unfolding_all rfl
theorem i_some_ao : dIn (.str "some") (.tup [.str "and", .str "or"]) = some (.bl false) := by with_unfolding_all rfl
theorem q_and_holds : dEq (.str "and") (.str "holds") = some (.bl false) := by with_unfolding_all rfl
theorem q_and_same : dEq (.str "and") (.str "same") = some (.bl false) := by with_unfolding_all rfl
theorem q_and_not : dEq (.str "and") (.str "not") = some (.bl false) := by with_unfolding_all rfl
theorem q_and_all : dEq (.str "and") (.str "all") = some (.bl false) := by with_unfolding_all rfl
theorem q_and_some : dEq (.str "and") (.str "some") = some (.bl false) := by with_unfolding_all rfl
theorem q_and_and : dEq (.str "and") (.str "and") = some (.bl true) := by with_unfolding_all rfl
theorem q_and_or : dEq (.str "and") (.str "or") = some (.bl false) := by with_unfolding_all rfl
theorem q_and_implies : dEq (.str "and") (.str "implies") = some (.bl false) := by with_unfolding_all rfl
theorem q_and_iff : dEq (.str "and") (.str "iff") = some (.bl false) := by with_unfolding_all rfl
theorem i_and_hs : dIn (.str "and") (.tup [.str "holds", .str "same"]) = some (.bl false) := by with_unfolding_all rfl
theorem i_and_as : dIn (.str "and") (.tup [.str "all", .str "some"]) = some (.bl false) := by with_unfolding_all rfl
theorem i_and_ao : dIn (.str "and") (.tup [.str "and", .str "or"]) = some (.bl true) := by with_unfolding_all rfl
theorem q_or_holds : dEq (.str "or") (.str "holds") = some (.bl false) := by with_unfolding_all rfl
theorem q_or_same : dEq (.str "or") (.str "same") = some (.bl false) := by with_unfolding_all rfl
theorem q_or_not : dEq (.str "or") (.str "not") = some (.bl false) := by with_unfolding_all rfl
theorem q_or_all : dEq (.str "or") (.str "all") = some (.bl false) := by with_unfolding_all rfl
theorem q_or_some : dEq (.str "or") (.str "some") = some (.bl false) := by with_unfolding_all rfl
theorem q_or_and : dEq (.str "or") (.str "and") = some (.bl false) := by with_unfolding_all rfl
theorem q_or_or : dEq (.str "or") (.str "or") = some (.bl true) := by with_unfolding_all rfl
theorem q_or_implies : dEq (.str "or") (.str "implies") = some (.bl false) := by with_unfolding_all rfl
theorem q_or_iff : dEq (.str "or") (.str "iff") = some (.bl false) := by with_unfolding_all rfl
theorem i_or_hs : dIn (.str "or") (.tup [.str "holds", .str "same"]) = some (.bl false) := by with_unfolding_all rfl
theorem i_or_as : dIn (.str "or") (.tup [.str "all", .str "some"]) = some (.bl false) := by with_unfolding_all rfl
theorem i_or_ao : dIn (.str "or") (.tup [.str "and", .str "or"]) = some (.bl true) := by with_unfolding_all rfl
theorem q_implies_holds : dEq (.str "implies") (.str "holds") = some (.bl false) := by with_unfolding_all rfl
theorem q_implies_same : dEq (.str "implies") (.str "same") = some (.bl false) := by with_unfolding_all rfl
theorem q_implies_not : dEq (.str "implies") (.str "not") = some (.bl false) := by with_unfolding_all rfl
theorem q_implies_all : dEq (.str "implies") (.str "all") = some (.bl false) := by with_unfolding_all rfl
theorem q_implies_some : dEq (.str "implies") (.str "some") = some (.bl false) := by with_unfolding_all rfl
theorem q_implies_and : dEq (.str "implies") (.str "and") = some (.bl false) := by with_unfolding_all rfl
theorem q_implies_or : dEq (.str "implies") (.str "or") = some (.bl false) := by with_unfolding_all rfl
theorem q_implies_implies : dEq (.str "implies") (.str "implies") = some (.bl true) := by with_unfolding_all rfl
theorem q_implies_iff : dEq (.str "implies") (.str "iff") = some (.bl false) := by with_unfolding_all rfl
theorem i_implies_hs : dIn (.str "implies") (.tup [.str "holds", .str "same"]) = some (.bl false) := by with_unfolding_all rfl
theorem i_implies_as : dIn (.str "implies") (.tup [.str "all", .str "some"]) = some (.bl false) := by with_unfolding_all rfl
theorem i_implies_ao : dIn (.str "implies") (.tup [.str "and", .str "or"]) = some (.bl false) := by with_unfolding_all rfl
theorem q_iff_holds : dEq (.str "iff") (.str "holds") = some (.bl false) := by with_unfolding_all rfl
theorem q_iff_same : dEq (.str "iff") (.str "same") = some (.bl false) := by with_unfolding_all rfl
theorem q_iff_not : dEq (.str "iff") (.str "not") = some (.bl false) := by with_unfolding_all rfl
theorem q_iff_all : dEq (.str "iff") (.str "all") = some (.bl false) := by with_unfolding_all rfl
theorem q_iff_some : dEq (.str "iff") (.str "some") = some (.bl false) := by with_unfolding_all rfl
theorem q_iff_and : dEq (.str "iff") (.str "and") = some (.bl false) := by with_unfolding_all rfl
theorem q_iff_or : dEq (.str "iff") (.str "or") = some (.bl false) := by with_unfolding_all rfl
theorem q_iff_implies : dEq (.str "iff") (.str "implies") = some (.bl false) := by with_unfolding_all rfl
theorem q_iff_iff : dEq (.str "iff") (.str "iff") = some (.bl true) := by with_unfolding_all rfl
theorem i_iff_hs : dIn (.str "iff") (.tup [.str "holds", .str "same"]) = some (.bl false) := by with_unfolding_all rfl
theorem i_iff_as : dIn (.str "iff") (.tup [.str "all", .str "some"]) = some (.bl false) := by with_unfolding_all rfl
theorem i_iff_ao : dIn (.str "iff") (.tup [.str "and", .str "or"]) = some (.bl false) := by with_unfolding_all rfl
inductive Tm where | vr (x : Str) | ca | fn (x : Str)
inductive Bs where | same (s t : Tm) | R (s t : Tm) | P (s : Tm) | Q
inductive Bw where | and | or | imp | iff
deriving DecidableEq
inductive Se where | b (x : Bs) | no (s : Se) | q (a : Bool) (x : Str) (s : Se) | bin (w : Bw) (s t : Se)
def Tm.d : Tm → D
  | .vr x => .str x
  | .ca => .tup [.str "a"]
  | .fn x => .tup [.str "f", .str x]
def Bs.w : Bs → Str
  | .same _ _ => "same"
  | _ => "holds"
def Bs.r : Bs → List D
  | .same s t => [s.d, t.d]
  | .R s t => [.tup [.str "R", s.d, t.d]]
  | .P s => [.tup [.str "P", s.d]]
  | .Q => [.tup [.str "Q"]]
def Bs.d (x : Bs) : D := .tup (.str x.w :: x.r)
def Bw.w : Bw → Str
  | .and => "and"
  | .or => "or"
  | .imp => "implies"
  | .iff => "iff"
def Se.d : Se → D
  | .b x => x.d
  | .no s => .tup [.str "not", s.d]
  | .q a x s => .tup [.str (if a then "all" else "some"), .str x, s.d]
  | .bin w s t => .tup [.str w.w, s.d, t.d]
def sgn : Se → Bool → Se
  | .b x, b => if b then .b x else .no (.b x)
  | .no s, b => sgn s (!b)
  | .q a x s, b => .q (if b then a else !a) x (sgn s b)
  | .bin .and s t, b => .bin (if b then .and else .or) (sgn s b) (sgn t b)
  | .bin .or s t, b => .bin (if b then .or else .and) (sgn s b) (sgn t b)
  | .bin .imp s t, b => .bin (if b then .or else .and) (sgn s (!b)) (sgn t b)
  | .bin .iff s t, b => .bin (if b then .and else .or) (.bin (if b then .or else .and) (sgn s (!b)) (sgn t b)) (.bin (if b then .or else .and) (sgn t (!b)) (sgn s b))
def opp : Se → Se
  | .b x => .no (.b x)
  | .no s => s
  | .q a x s => .q (!a) x (opp s)
  | .bin .and s t => .bin .or (opp s) (opp t)
  | .bin _ s t => .bin .and (opp s) (opp t)
def formed : Se → Se
  | .b x => .b x
  | .no s => opp (formed s)
  | .q a x s => .q a x (formed s)
  | .bin .imp s t => .bin .or (opp (formed s)) (formed t)
  | .bin .iff s t => .bin .and (.bin .or (opp (formed s)) (formed t)) (.bin .or (opp (formed t)) (formed s))
  | .bin w s t => .bin w (formed s) (formed t)
theorem opp_sgn : ∀ (s : Se) (b : Bool), opp (sgn s b) = sgn s (!b)
  | .b x, b => by cases b <;> rfl
  | .no s, b => by rw [sgn, sgn, opp_sgn s]
  | .q a x s, b => by rw [sgn, sgn, opp, opp_sgn s]; cases b <;> cases a <;> rfl
  | .bin w s t, b => by
    cases w <;> cases b <;> simp [sgn, opp, opp_sgn s, opp_sgn t]
theorem formed_sgn : ∀ s : Se, formed s = sgn s true
  | .b x => rfl
  | .no s => by rw [sgn, formed, formed_sgn s, opp_sgn]
  | .q a x s => by rw [sgn, formed, formed_sgn s]; rfl
  | .bin w s t => by cases w <;> simp [sgn, formed, formed_sgn s, formed_sgn t, opp_sgn]
theorem sgn_sgn : ∀ (s : Se) (b : Bool), sgn (sgn s b) true = sgn s b
  | .b x, b => by cases b <;> rfl
  | .no s, b => by rw [sgn, sgn_sgn s]
  | .q a x s, b => by rw [sgn, sgn, sgn_sgn s]; rfl
  | .bin w s t, b => by cases w <;> cases b <;> simp [sgn, sgn_sgn s, sgn_sgn t]
def lv : Se → Nat
  | .b _ => 1
  | .no s => lv s + 1
  | .q _ _ s => lv s + 1
  | .bin .iff s t => max (lv s) (lv t) + 2
  | .bin _ s t => max (lv s) (lv t) + 1
theorem lv_pos : ∀ s, 1 ≤ lv s
  | .b _ => Nat.le_refl _
  | .no s => by rw [lv]; omega
  | .q _ _ s => by rw [lv]; omega
  | .bin w s t => by cases w <;> rw [lv] <;> (try omega) <;> simp

variable {fuel : Nat}
theorem pr_1 (n : Nat) : pr fuel (n + 1) 1 = runF 7 (b_signed_form fuel (pr fuel n)) := rfl
theorem h_s (x : Bs) : x.w = "holds" ∨ x.w = "same" := by cases x <;> first | exact .inl rfl | exact .inr rfl
theorem l_and : List.lookup ("and" : Str) k_OTHER = some (D.str "or") := by with_unfolding_all rfl
theorem l_or : List.lookup ("or" : Str) k_OTHER = some (D.str "and") := by with_unfolding_all rfl
theorem l_all : List.lookup ("all" : Str) k_OTHER = some (D.str "some") := by with_unfolding_all rfl
theorem l_some : List.lookup ("some" : Str) k_OTHER = some (D.str "all") := by with_unfolding_all rfl
theorem signed_ok : ∀ (n : Nat) (s : Se) (b : Bool) (R : Rs), lv s ≤ n → pr fuel n 1 [s.d, .bl b] R = .ok (sgn s b).d R := by
  intro n
  induction n with
  | zero => intro s b R h; exact absurd (lv_pos s) (by omega)
  | succ n ih =>
    intro s b R h
    rw [pr_1]
    cases s with
    | b x =>
      rcases h_s x with e | e <;> cases b <;> simp [b_signed_form, k_BASIC, k_BINDERS, Se.d, sgn, Bs.d, e, DS.oK_s, DS.oV_s, DS.var_, DS.c_, DS.op_, DS.op1, DS.op2, DS.ix_, DS.ix1, DS.ix2, DS.cb_, DS.cb1, DS.cl_, DS.cl1, DS.nil_, DS.cn_, DS.cn1, DS.cn2, DS.tup_, DS.lst_, DS.lst_', DS.l_, DS.tup1, DS.lst1, DS.lst1', DS.l1, DS.if_, DS.if_t, DS.if_f, DS.tr_, DS.tr1, DS.oT_s, DS.b_, DS.b1, DS.and_, DS.or_, DS.not_, DS.and_t, DS.and_f, DS.or_t, DS.or_f, DS.not1, DS.av_, DS.ov_, DS.nv_, DS.av_t, DS.av_f, DS.ov_t, DS.ov_f, DS.nv1, DS.truth_b, DS.kd_, DS.kd1, DS.oG_s, DS.dg_, DS.dg1, DS.dg2, DS.sl_, DS.sl1, DS.sl2, DS.sl3, DS.part_, DS.part1, DS.nop_, DS.oL_s, DS.it_, DS.it_l, DS.it_t, DS.r1_, DS.r11, DS.lc_, DS.lc1, DS.oLc_s, DS.d_, DS.d1, DS.seq_, DS.bd_n, DS.bd_r, DS.nx_, DS.evF_, DS.evI_, DS.ev1, DS.asg_, DS.store_, DS.asgI_, DS.imm1, DS.ifs_, DS.ifs_t, DS.ifs_f, DS.ret_, DS.ret1, DS.par_, DS.par1, DS.for_, DS.exp_, DS.dput_, DS.asgD_, DS.ownD1, DS.wp0, DS.wp1, DS.for0, DS.run_, DS.run_r, DS.run_n, DS.dc_, DS.dc1, DS.ot_, DS.ot1, DS.dp_s, DS.dp_i, DS.dp1, DS.for1, DS.for2, DS.for3, DS.lg0, DS.lg_, DS.lg1, DS.lg1f, DS.lg2, DS.lg3, DS.di_, DS.di1, DS.ps0, DS.ps_, DS.ps1, DS.ps2, DS.ps3, DS.ps4, DS.ky_s, DS.ky_i, DS.imm_b, DS.imm_i, DS.imm_s, DS.yes_, dIx, atI, ixN, lim, List.map_cons, List.map_nil, List.replicate, List.set, cLen, q_holds_holds, q_holds_same, q_holds_not, q_holds_all, q_holds_some, q_holds_and, q_holds_or, q_holds_implies, q_holds_iff, i_holds_hs, i_holds_as, i_holds_ao, q_same_holds, q_same_same, q_same_not, q_same_all, q_same_some, q_same_and, q_same_or, q_same_implies, q_same_iff, i_same_hs, i_same_as, i_same_ao]
    | no s =>
      have e := ih s (!b) R (by simpa [lv] using h)
      cases b <;> simp at e <;> simp [b_signed_form, k_BASIC, k_BINDERS, Se.d, sgn, DS.oK_s, DS.oV_s, DS.var_, DS.c_, DS.op_, DS.op1, DS.op2, DS.ix_, DS.ix1, DS.ix2, DS.cb_, DS.cb1, DS.cl_, DS.cl1, DS.nil_, DS.cn_, DS.cn1, DS.cn2, DS.tup_, DS.lst_, DS.lst_', DS.l_, DS.tup1, DS.lst1, DS.lst1', DS.l1, DS.if_, DS.if_t, DS.if_f, DS.tr_, DS.tr1, DS.oT_s, DS.b_, DS.b1, DS.and_, DS.or_, DS.not_, DS.and_t, DS.and_f, DS.or_t, DS.or_f, DS.not1, DS.av_, DS.ov_, DS.nv_, DS.av_t, DS.av_f, DS.ov_t, DS.ov_f, DS.nv1, DS.truth_b, DS.kd_, DS.kd1, DS.oG_s, DS.dg_, DS.dg1, DS.dg2, DS.sl_, DS.sl1, DS.sl2, DS.sl3, DS.part_, DS.part1, DS.nop_, DS.oL_s, DS.it_, DS.it_l, DS.it_t, DS.r1_, DS.r11, DS.lc_, DS.lc1, DS.oLc_s, DS.d_, DS.d1, DS.seq_, DS.bd_n, DS.bd_r, DS.nx_, DS.evF_, DS.evI_, DS.ev1, DS.asg_, DS.store_, DS.asgI_, DS.imm1, DS.ifs_, DS.ifs_t, DS.ifs_f, DS.ret_, DS.ret1, DS.par_, DS.par1, DS.for_, DS.exp_, DS.dput_, DS.asgD_, DS.ownD1, DS.wp0, DS.wp1, DS.for0, DS.run_, DS.run_r, DS.run_n, DS.dc_, DS.dc1, DS.ot_, DS.ot1, DS.dp_s, DS.dp_i, DS.dp1, DS.for1, DS.for2, DS.for3, DS.lg0, DS.lg_, DS.lg1, DS.lg1f, DS.lg2, DS.lg3, DS.di_, DS.di1, DS.ps0, DS.ps_, DS.ps1, DS.ps2, DS.ps3, DS.ps4, DS.ky_s, DS.ky_i, DS.imm_b, DS.imm_i, DS.imm_s, DS.yes_, dIx, atI, ixN, lim, List.map_cons, List.map_nil, List.replicate, List.set, cLen, q_not_holds, q_not_same, q_not_not, q_not_all, q_not_some, q_not_and, q_not_or, q_not_implies, q_not_iff, i_not_hs, i_not_as, i_not_ao, e]
    | q a x s =>
      have e := ih s b R (by simpa [lv] using h)
      cases a <;> cases b <;> simp [b_signed_form, k_BASIC, k_BINDERS, Se.d, sgn, DS.oK_s, DS.oV_s, DS.var_, DS.c_, DS.op_, DS.op1, DS.op2, DS.ix_, DS.ix1, DS.ix2, DS.cb_, DS.cb1, DS.cl_, DS.cl1, DS.nil_, DS.cn_, DS.cn1, DS.cn2, DS.tup_, DS.lst_, DS.lst_', DS.l_, DS.tup1, DS.lst1, DS.lst1', DS.l1, DS.if_, DS.if_t, DS.if_f, DS.tr_, DS.tr1, DS.oT_s, DS.b_, DS.b1, DS.and_, DS.or_, DS.not_, DS.and_t, DS.and_f, DS.or_t, DS.or_f, DS.not1, DS.av_, DS.ov_, DS.nv_, DS.av_t, DS.av_f, DS.ov_t, DS.ov_f, DS.nv1, DS.truth_b, DS.kd_, DS.kd1, DS.oG_s, DS.dg_, DS.dg1, DS.dg2, DS.sl_, DS.sl1, DS.sl2, DS.sl3, DS.part_, DS.part1, DS.nop_, DS.oL_s, DS.it_, DS.it_l, DS.it_t, DS.r1_, DS.r11, DS.lc_, DS.lc1, DS.oLc_s, DS.d_, DS.d1, DS.seq_, DS.bd_n, DS.bd_r, DS.nx_, DS.evF_, DS.evI_, DS.ev1, DS.asg_, DS.store_, DS.asgI_, DS.imm1, DS.ifs_, DS.ifs_t, DS.ifs_f, DS.ret_, DS.ret1, DS.par_, DS.par1, DS.for_, DS.exp_, DS.dput_, DS.asgD_, DS.ownD1, DS.wp0, DS.wp1, DS.for0, DS.run_, DS.run_r, DS.run_n, DS.dc_, DS.dc1, DS.ot_, DS.ot1, DS.dp_s, DS.dp_i, DS.dp1, DS.for1, DS.for2, DS.for3, DS.lg0, DS.lg_, DS.lg1, DS.lg1f, DS.lg2, DS.lg3, DS.di_, DS.di1, DS.ps0, DS.ps_, DS.ps1, DS.ps2, DS.ps3, DS.ps4, DS.ky_s, DS.ky_i, DS.imm_b, DS.imm_i, DS.imm_s, DS.yes_, dIx, atI, ixN, lim, List.map_cons, List.map_nil, List.replicate, List.set, cLen, q_all_holds, q_all_same, q_all_not, q_all_all, q_all_some, q_all_and, q_all_or, q_all_implies, q_all_iff, i_all_hs, i_all_as, i_all_ao, q_some_holds, q_some_same, q_some_not, q_some_all, q_some_some, q_some_and, q_some_or, q_some_implies, q_some_iff, i_some_hs, i_some_as, i_some_ao, l_all, l_some, e]
    | bin w s t =>
      cases w with
      | and =>
        have e1 := ih s b R (by simp [lv] at h; omega)
        have e2 := ih t b R (by simp [lv] at h; omega)
        cases b <;> simp [b_signed_form, k_BASIC, k_BINDERS, Se.d, Bw.w, sgn, DS.oK_s, DS.oV_s, DS.var_, DS.c_, DS.op_, DS.op1, DS.op2, DS.ix_, DS.ix1, DS.ix2, DS.cb_, DS.cb1, DS.cl_, DS.cl1, DS.nil_, DS.cn_, DS.cn1, DS.cn2, DS.tup_, DS.lst_, DS.lst_', DS.l_, DS.tup1, DS.lst1, DS.lst1', DS.l1, DS.if_, DS.if_t, DS.if_f, DS.tr_, DS.tr1, DS.oT_s, DS.b_, DS.b1, DS.and_, DS.or_, DS.not_, DS.and_t, DS.and_f, DS.or_t, DS.or_f, DS.not1, DS.av_, DS.ov_, DS.nv_, DS.av_t, DS.av_f, DS.ov_t, DS.ov_f, DS.nv1, DS.truth_b, DS.kd_, DS.kd1, DS.oG_s, DS.dg_, DS.dg1, DS.dg2, DS.sl_, DS.sl1, DS.sl2, DS.sl3, DS.part_, DS.part1, DS.nop_, DS.oL_s, DS.it_, DS.it_l, DS.it_t, DS.r1_, DS.r11, DS.lc_, DS.lc1, DS.oLc_s, DS.d_, DS.d1, DS.seq_, DS.bd_n, DS.bd_r, DS.nx_, DS.evF_, DS.evI_, DS.ev1, DS.asg_, DS.store_, DS.asgI_, DS.imm1, DS.ifs_, DS.ifs_t, DS.ifs_f, DS.ret_, DS.ret1, DS.par_, DS.par1, DS.for_, DS.exp_, DS.dput_, DS.asgD_, DS.ownD1, DS.wp0, DS.wp1, DS.for0, DS.run_, DS.run_r, DS.run_n, DS.dc_, DS.dc1, DS.ot_, DS.ot1, DS.dp_s, DS.dp_i, DS.dp1, DS.for1, DS.for2, DS.for3, DS.lg0, DS.lg_, DS.lg1, DS.lg1f, DS.lg2, DS.lg3, DS.di_, DS.di1, DS.ps0, DS.ps_, DS.ps1, DS.ps2, DS.ps3, DS.ps4, DS.ky_s, DS.ky_i, DS.imm_b, DS.imm_i, DS.imm_s, DS.yes_, dIx, atI, ixN, lim, List.map_cons, List.map_nil, List.replicate, List.set, cLen, q_and_holds, q_and_same, q_and_not, q_and_all, q_and_some, q_and_and, q_and_or, q_and_implies, q_and_iff, i_and_hs, i_and_as, i_and_ao, l_and, e1, e2]
      | or =>
        have e1 := ih s b R (by simp [lv] at h; omega)
        have e2 := ih t b R (by simp [lv] at h; omega)
        cases b <;> simp [b_signed_form, k_BASIC, k_BINDERS, Se.d, Bw.w, sgn, DS.oK_s, DS.oV_s, DS.var_, DS.c_, DS.op_, DS.op1, DS.op2, DS.ix_, DS.ix1, DS.ix2, DS.cb_, DS.cb1, DS.cl_, DS.cl1, DS.nil_, DS.cn_, DS.cn1, DS.cn2, DS.tup_, DS.lst_, DS.lst_', DS.l_, DS.tup1, DS.lst1, DS.lst1', DS.l1, DS.if_, DS.if_t, DS.if_f, DS.tr_, DS.tr1, DS.oT_s, DS.b_, DS.b1, DS.and_, DS.or_, DS.not_, DS.and_t, DS.and_f, DS.or_t, DS.or_f, DS.not1, DS.av_, DS.ov_, DS.nv_, DS.av_t, DS.av_f, DS.ov_t, DS.ov_f, DS.nv1, DS.truth_b, DS.kd_, DS.kd1, DS.oG_s, DS.dg_, DS.dg1, DS.dg2, DS.sl_, DS.sl1, DS.sl2, DS.sl3, DS.part_, DS.part1, DS.nop_, DS.oL_s, DS.it_, DS.it_l, DS.it_t, DS.r1_, DS.r11, DS.lc_, DS.lc1, DS.oLc_s, DS.d_, DS.d1, DS.seq_, DS.bd_n, DS.bd_r, DS.nx_, DS.evF_, DS.evI_, DS.ev1, DS.asg_, DS.store_, DS.asgI_, DS.imm1, DS.ifs_, DS.ifs_t, DS.ifs_f, DS.ret_, DS.ret1, DS.par_, DS.par1, DS.for_, DS.exp_, DS.dput_, DS.asgD_, DS.ownD1, DS.wp0, DS.wp1, DS.for0, DS.run_, DS.run_r, DS.run_n, DS.dc_, DS.dc1, DS.ot_, DS.ot1, DS.dp_s, DS.dp_i, DS.dp1, DS.for1, DS.for2, DS.for3, DS.lg0, DS.lg_, DS.lg1, DS.lg1f, DS.lg2, DS.lg3, DS.di_, DS.di1, DS.ps0, DS.ps_, DS.ps1, DS.ps2, DS.ps3, DS.ps4, DS.ky_s, DS.ky_i, DS.imm_b, DS.imm_i, DS.imm_s, DS.yes_, dIx, atI, ixN, lim, List.map_cons, List.map_nil, List.replicate, List.set, cLen, q_or_holds, q_or_same, q_or_not, q_or_all, q_or_some, q_or_and, q_or_or, q_or_implies, q_or_iff, i_or_hs, i_or_as, i_or_ao, l_or, e1, e2]
      | imp =>
        have e1 := ih s (!b) R (by simp [lv] at h; omega)
        have e2 := ih t b R (by simp [lv] at h; omega)
        cases b <;> simp [Bool.not_true, Bool.not_false] at e1 <;> simp [b_signed_form, k_BASIC, k_BINDERS, Se.d, Bw.w, sgn, DS.oK_s, DS.oV_s, DS.var_, DS.c_, DS.op_, DS.op1, DS.op2, DS.ix_, DS.ix1, DS.ix2, DS.cb_, DS.cb1, DS.cl_, DS.cl1, DS.nil_, DS.cn_, DS.cn1, DS.cn2, DS.tup_, DS.lst_, DS.lst_', DS.l_, DS.tup1, DS.lst1, DS.lst1', DS.l1, DS.if_, DS.if_t, DS.if_f, DS.tr_, DS.tr1, DS.oT_s, DS.b_, DS.b1, DS.and_, DS.or_, DS.not_, DS.and_t, DS.and_f, DS.or_t, DS.or_f, DS.not1, DS.av_, DS.ov_, DS.nv_, DS.av_t, DS.av_f, DS.ov_t, DS.ov_f, DS.nv1, DS.truth_b, DS.kd_, DS.kd1, DS.oG_s, DS.dg_, DS.dg1, DS.dg2, DS.sl_, DS.sl1, DS.sl2, DS.sl3, DS.part_, DS.part1, DS.nop_, DS.oL_s, DS.it_, DS.it_l, DS.it_t, DS.r1_, DS.r11, DS.lc_, DS.lc1, DS.oLc_s, DS.d_, DS.d1, DS.seq_, DS.bd_n, DS.bd_r, DS.nx_, DS.evF_, DS.evI_, DS.ev1, DS.asg_, DS.store_, DS.asgI_, DS.imm1, DS.ifs_, DS.ifs_t, DS.ifs_f, DS.ret_, DS.ret1, DS.par_, DS.par1, DS.for_, DS.exp_, DS.dput_, DS.asgD_, DS.ownD1, DS.wp0, DS.wp1, DS.for0, DS.run_, DS.run_r, DS.run_n, DS.dc_, DS.dc1, DS.ot_, DS.ot1, DS.dp_s, DS.dp_i, DS.dp1, DS.for1, DS.for2, DS.for3, DS.lg0, DS.lg_, DS.lg1, DS.lg1f, DS.lg2, DS.lg3, DS.di_, DS.di1, DS.ps0, DS.ps_, DS.ps1, DS.ps2, DS.ps3, DS.ps4, DS.ky_s, DS.ky_i, DS.imm_b, DS.imm_i, DS.imm_s, DS.yes_, dIx, atI, ixN, lim, List.map_cons, List.map_nil, List.replicate, List.set, cLen, q_implies_holds, q_implies_same, q_implies_not, q_implies_all, q_implies_some, q_implies_and, q_implies_or, q_implies_implies, q_implies_iff, i_implies_hs, i_implies_as, i_implies_ao, e1, e2]
      | iff =>
        have e1 := ih (.bin .imp s t) b R (by simp [lv] at h ⊢; omega)
        have e2 := ih (.bin .imp t s) b R (by simp [lv] at h ⊢; omega)
        cases b <;> simp [Se.d, Bw.w, sgn] at e1 e2 <;> simp [b_signed_form, k_BASIC, k_BINDERS, Se.d, Bw.w, sgn, DS.oK_s, DS.oV_s, DS.var_, DS.c_, DS.op_, DS.op1, DS.op2, DS.ix_, DS.ix1, DS.ix2, DS.cb_, DS.cb1, DS.cl_, DS.cl1, DS.nil_, DS.cn_, DS.cn1, DS.cn2, DS.tup_, DS.lst_, DS.lst_', DS.l_, DS.tup1, DS.lst1, DS.lst1', DS.l1, DS.if_, DS.if_t, DS.if_f, DS.tr_, DS.tr1, DS.oT_s, DS.b_, DS.b1, DS.and_, DS.or_, DS.not_, DS.and_t, DS.and_f, DS.or_t, DS.or_f, DS.not1, DS.av_, DS.ov_, DS.nv_, DS.av_t, DS.av_f, DS.ov_t, DS.ov_f, DS.nv1, DS.truth_b, DS.kd_, DS.kd1, DS.oG_s, DS.dg_, DS.dg1, DS.dg2, DS.sl_, DS.sl1, DS.sl2, DS.sl3, DS.part_, DS.part1, DS.nop_, DS.oL_s, DS.it_, DS.it_l, DS.it_t, DS.r1_, DS.r11, DS.lc_, DS.lc1, DS.oLc_s, DS.d_, DS.d1, DS.seq_, DS.bd_n, DS.bd_r, DS.nx_, DS.evF_, DS.evI_, DS.ev1, DS.asg_, DS.store_, DS.asgI_, DS.imm1, DS.ifs_, DS.ifs_t, DS.ifs_f, DS.ret_, DS.ret1, DS.par_, DS.par1, DS.for_, DS.exp_, DS.dput_, DS.asgD_, DS.ownD1, DS.wp0, DS.wp1, DS.for0, DS.run_, DS.run_r, DS.run_n, DS.dc_, DS.dc1, DS.ot_, DS.ot1, DS.dp_s, DS.dp_i, DS.dp1, DS.for1, DS.for2, DS.for3, DS.lg0, DS.lg_, DS.lg1, DS.lg1f, DS.lg2, DS.lg3, DS.di_, DS.di1, DS.ps0, DS.ps_, DS.ps1, DS.ps2, DS.ps3, DS.ps4, DS.ky_s, DS.ky_i, DS.imm_b, DS.imm_i, DS.imm_s, DS.yes_, dIx, atI, ixN, lim, List.map_cons, List.map_nil, List.replicate, List.set, cLen, q_iff_holds, q_iff_same, q_iff_not, q_iff_all, q_iff_some, q_iff_and, q_iff_or, q_iff_implies, q_iff_iff, i_iff_hs, i_iff_as, i_iff_ao, e1, e2]

theorem neg_ok (n : Nat) (s : Se) (R : Rs) (h : lv s ≤ n) : pr fuel (n + 1) 0 [s.d] R = .ok (sgn s true).d R := by
  have e := signed_ok (fuel := fuel) n s true R h
  show runF 1 (b_negation_form fuel (pr fuel n)) _ _ = _
  simp [b_negation_form, DS.oK_s, DS.oV_s, DS.var_, DS.c_, DS.op_, DS.op1, DS.op2, DS.ix_, DS.ix1, DS.ix2, DS.cb_, DS.cb1, DS.cl_, DS.cl1, DS.nil_, DS.cn_, DS.cn1, DS.cn2, DS.tup_, DS.lst_, DS.lst_', DS.l_, DS.tup1, DS.lst1, DS.lst1', DS.l1, DS.if_, DS.if_t, DS.if_f, DS.tr_, DS.tr1, DS.oT_s, DS.b_, DS.b1, DS.and_, DS.or_, DS.not_, DS.and_t, DS.and_f, DS.or_t, DS.or_f, DS.not1, DS.av_, DS.ov_, DS.nv_, DS.av_t, DS.av_f, DS.ov_t, DS.ov_f, DS.nv1, DS.truth_b, DS.kd_, DS.kd1, DS.oG_s, DS.dg_, DS.dg1, DS.dg2, DS.sl_, DS.sl1, DS.sl2, DS.sl3, DS.part_, DS.part1, DS.nop_, DS.oL_s, DS.it_, DS.it_l, DS.it_t, DS.r1_, DS.r11, DS.lc_, DS.lc1, DS.oLc_s, DS.d_, DS.d1, DS.seq_, DS.bd_n, DS.bd_r, DS.nx_, DS.evF_, DS.evI_, DS.ev1, DS.asg_, DS.store_, DS.asgI_, DS.imm1, DS.ifs_, DS.ifs_t, DS.ifs_f, DS.ret_, DS.ret1, DS.par_, DS.par1, DS.for_, DS.exp_, DS.dput_, DS.asgD_, DS.ownD1, DS.wp0, DS.wp1, DS.for0, DS.run_, DS.run_r, DS.run_n, DS.dc_, DS.dc1, DS.ot_, DS.ot1, DS.dp_s, DS.dp_i, DS.dp1, DS.for1, DS.for2, DS.for3, DS.lg0, DS.lg_, DS.lg1, DS.lg1f, DS.lg2, DS.lg3, DS.di_, DS.di1, DS.ps0, DS.ps_, DS.ps1, DS.ps2, DS.ps3, DS.ps4, DS.ky_s, DS.ky_i, DS.imm_b, DS.imm_i, DS.imm_s, DS.yes_, dIx, atI, ixN, lim, List.map_cons, List.map_nil, List.replicate, List.set, cLen, e]
def ht : Se → Nat
  | .b _ => 0
  | .no s => ht s + 1
  | .q _ _ s => ht s + 1
  | .bin _ s t => max (ht s) (ht t) + 1
theorem lv_ht : ∀ s, lv s ≤ 2 * ht s + 1
  | .b _ => Nat.le_refl _
  | .no s => by have := lv_ht s; rw [lv, ht]; omega
  | .q _ _ s => by have := lv_ht s; rw [lv, ht]; omega
  | .bin w s t => by
    have := lv_ht s
    have := lv_ht t
    cases w <;> simp only [lv, ht] <;> omega
theorem ht_sgn : ∀ s b, ht (sgn s b) ≤ 2 * ht s + 1
  | .b _, b => by cases b <;> simp [sgn, ht]
  | .no s, b => by have := ht_sgn s (!b); rw [sgn, ht]; omega
  | .q _ _ s, b => by have := ht_sgn s b; rw [sgn, ht, ht]; omega
  | .bin w s t, b => by
    have := ht_sgn s b
    have := ht_sgn t b
    have := ht_sgn s (!b)
    have := ht_sgn t (!b)
    cases w <;> simp only [sgn, ht] <;> omega
theorem opp_ok : ∀ (n : Nat) (s : Se) (R : Rs), ht s + 1 ≤ n → pr fuel n 11 [s.d] R = .ok (opp s).d R := by
  intro n
  induction n with
  | zero => intro s R h; omega
  | succ n ih =>
    intro s R h
    show runF 2 (b__law_opposite fuel (pr fuel n)) _ _ = _
    cases s with
    | b x =>
      rcases h_s x with e | e <;> simp [b__law_opposite, Se.d, opp, Bs.d, e, DS.oK_s, DS.oV_s, DS.var_, DS.c_, DS.op_, DS.op1, DS.op2, DS.ix_, DS.ix1, DS.ix2, DS.cb_, DS.cb1, DS.cl_, DS.cl1, DS.nil_, DS.cn_, DS.cn1, DS.cn2, DS.tup_, DS.lst_, DS.lst_', DS.l_, DS.tup1, DS.lst1, DS.lst1', DS.l1, DS.if_, DS.if_t, DS.if_f, DS.tr_, DS.tr1, DS.oT_s, DS.b_, DS.b1, DS.and_, DS.or_, DS.not_, DS.and_t, DS.and_f, DS.or_t, DS.or_f, DS.not1, DS.av_, DS.ov_, DS.nv_, DS.av_t, DS.av_f, DS.ov_t, DS.ov_f, DS.nv1, DS.truth_b, DS.kd_, DS.kd1, DS.oG_s, DS.dg_, DS.dg1, DS.dg2, DS.sl_, DS.sl1, DS.sl2, DS.sl3, DS.part_, DS.part1, DS.nop_, DS.oL_s, DS.it_, DS.it_l, DS.it_t, DS.r1_, DS.r11, DS.lc_, DS.lc1, DS.oLc_s, DS.d_, DS.d1, DS.seq_, DS.bd_n, DS.bd_r, DS.nx_, DS.evF_, DS.evI_, DS.ev1, DS.asg_, DS.store_, DS.asgI_, DS.imm1, DS.ifs_, DS.ifs_t, DS.ifs_f, DS.ret_, DS.ret1, DS.par_, DS.par1, DS.for_, DS.exp_, DS.dput_, DS.asgD_, DS.ownD1, DS.wp0, DS.wp1, DS.for0, DS.run_, DS.run_r, DS.run_n, DS.dc_, DS.dc1, DS.ot_, DS.ot1, DS.dp_s, DS.dp_i, DS.dp1, DS.for1, DS.for2, DS.for3, DS.lg0, DS.lg_, DS.lg1, DS.lg1f, DS.lg2, DS.lg3, DS.di_, DS.di1, DS.ps0, DS.ps_, DS.ps1, DS.ps2, DS.ps3, DS.ps4, DS.ky_s, DS.ky_i, DS.imm_b, DS.imm_i, DS.imm_s, DS.yes_, dIx, atI, ixN, lim, List.map_cons, List.map_nil, List.replicate, List.set, cLen, q_holds_holds, q_holds_same, q_holds_not, q_holds_all, q_holds_some, q_holds_and, q_holds_or, q_holds_implies, q_holds_iff, i_holds_hs, i_holds_as, i_holds_ao, q_same_holds, q_same_same, q_same_not, q_same_all, q_same_some, q_same_and, q_same_or, q_same_implies, q_same_iff, i_same_hs, i_same_as, i_same_ao]
    | no s => simp [b__law_opposite, Se.d, opp, DS.oK_s, DS.oV_s, DS.var_, DS.c_, DS.op_, DS.op1, DS.op2, DS.ix_, DS.ix1, DS.ix2, DS.cb_, DS.cb1, DS.cl_, DS.cl1, DS.nil_, DS.cn_, DS.cn1, DS.cn2, DS.tup_, DS.lst_, DS.lst_', DS.l_, DS.tup1, DS.lst1, DS.lst1', DS.l1, DS.if_, DS.if_t, DS.if_f, DS.tr_, DS.tr1, DS.oT_s, DS.b_, DS.b1, DS.and_, DS.or_, DS.not_, DS.and_t, DS.and_f, DS.or_t, DS.or_f, DS.not1, DS.av_, DS.ov_, DS.nv_, DS.av_t, DS.av_f, DS.ov_t, DS.ov_f, DS.nv1, DS.truth_b, DS.kd_, DS.kd1, DS.oG_s, DS.dg_, DS.dg1, DS.dg2, DS.sl_, DS.sl1, DS.sl2, DS.sl3, DS.part_, DS.part1, DS.nop_, DS.oL_s, DS.it_, DS.it_l, DS.it_t, DS.r1_, DS.r11, DS.lc_, DS.lc1, DS.oLc_s, DS.d_, DS.d1, DS.seq_, DS.bd_n, DS.bd_r, DS.nx_, DS.evF_, DS.evI_, DS.ev1, DS.asg_, DS.store_, DS.asgI_, DS.imm1, DS.ifs_, DS.ifs_t, DS.ifs_f, DS.ret_, DS.ret1, DS.par_, DS.par1, DS.for_, DS.exp_, DS.dput_, DS.asgD_, DS.ownD1, DS.wp0, DS.wp1, DS.for0, DS.run_, DS.run_r, DS.run_n, DS.dc_, DS.dc1, DS.ot_, DS.ot1, DS.dp_s, DS.dp_i, DS.dp1, DS.for1, DS.for2, DS.for3, DS.lg0, DS.lg_, DS.lg1, DS.lg1f, DS.lg2, DS.lg3, DS.di_, DS.di1, DS.ps0, DS.ps_, DS.ps1, DS.ps2, DS.ps3, DS.ps4, DS.ky_s, DS.ky_i, DS.imm_b, DS.imm_i, DS.imm_s, DS.yes_, dIx, atI, ixN, lim, List.map_cons, List.map_nil, List.replicate, List.set, cLen, q_not_holds, q_not_same, q_not_not, q_not_all, q_not_some, q_not_and, q_not_or, q_not_implies, q_not_iff, i_not_hs, i_not_as, i_not_ao]
    | q a x s =>
      have e := ih s R (by simpa [ht] using h)
      cases a <;> simp [b__law_opposite, Se.d, opp, DS.oK_s, DS.oV_s, DS.var_, DS.c_, DS.op_, DS.op1, DS.op2, DS.ix_, DS.ix1, DS.ix2, DS.cb_, DS.cb1, DS.cl_, DS.cl1, DS.nil_, DS.cn_, DS.cn1, DS.cn2, DS.tup_, DS.lst_, DS.lst_', DS.l_, DS.tup1, DS.lst1, DS.lst1', DS.l1, DS.if_, DS.if_t, DS.if_f, DS.tr_, DS.tr1, DS.oT_s, DS.b_, DS.b1, DS.and_, DS.or_, DS.not_, DS.and_t, DS.and_f, DS.or_t, DS.or_f, DS.not1, DS.av_, DS.ov_, DS.nv_, DS.av_t, DS.av_f, DS.ov_t, DS.ov_f, DS.nv1, DS.truth_b, DS.kd_, DS.kd1, DS.oG_s, DS.dg_, DS.dg1, DS.dg2, DS.sl_, DS.sl1, DS.sl2, DS.sl3, DS.part_, DS.part1, DS.nop_, DS.oL_s, DS.it_, DS.it_l, DS.it_t, DS.r1_, DS.r11, DS.lc_, DS.lc1, DS.oLc_s, DS.d_, DS.d1, DS.seq_, DS.bd_n, DS.bd_r, DS.nx_, DS.evF_, DS.evI_, DS.ev1, DS.asg_, DS.store_, DS.asgI_, DS.imm1, DS.ifs_, DS.ifs_t, DS.ifs_f, DS.ret_, DS.ret1, DS.par_, DS.par1, DS.for_, DS.exp_, DS.dput_, DS.asgD_, DS.ownD1, DS.wp0, DS.wp1, DS.for0, DS.run_, DS.run_r, DS.run_n, DS.dc_, DS.dc1, DS.ot_, DS.ot1, DS.dp_s, DS.dp_i, DS.dp1, DS.for1, DS.for2, DS.for3, DS.lg0, DS.lg_, DS.lg1, DS.lg1f, DS.lg2, DS.lg3, DS.di_, DS.di1, DS.ps0, DS.ps_, DS.ps1, DS.ps2, DS.ps3, DS.ps4, DS.ky_s, DS.ky_i, DS.imm_b, DS.imm_i, DS.imm_s, DS.yes_, dIx, atI, ixN, lim, List.map_cons, List.map_nil, List.replicate, List.set, cLen, q_all_holds, q_all_same, q_all_not, q_all_all, q_all_some, q_all_and, q_all_or, q_all_implies, q_all_iff, i_all_hs, i_all_as, i_all_ao, q_some_holds, q_some_same, q_some_not, q_some_all, q_some_some, q_some_and, q_some_or, q_some_implies, q_some_iff, i_some_hs, i_some_as, i_some_ao, e]
    | bin w s t =>
      have e1 := ih s R (by simp [ht] at h; omega)
      have e2 := ih t R (by simp [ht] at h; omega)
      cases w <;> simp [b__law_opposite, Se.d, Bw.w, opp, DS.oK_s, DS.oV_s, DS.var_, DS.c_, DS.op_, DS.op1, DS.op2, DS.ix_, DS.ix1, DS.ix2, DS.cb_, DS.cb1, DS.cl_, DS.cl1, DS.nil_, DS.cn_, DS.cn1, DS.cn2, DS.tup_, DS.lst_, DS.lst_', DS.l_, DS.tup1, DS.lst1, DS.lst1', DS.l1, DS.if_, DS.if_t, DS.if_f, DS.tr_, DS.tr1, DS.oT_s, DS.b_, DS.b1, DS.and_, DS.or_, DS.not_, DS.and_t, DS.and_f, DS.or_t, DS.or_f, DS.not1, DS.av_, DS.ov_, DS.nv_, DS.av_t, DS.av_f, DS.ov_t, DS.ov_f, DS.nv1, DS.truth_b, DS.kd_, DS.kd1, DS.oG_s, DS.dg_, DS.dg1, DS.dg2, DS.sl_, DS.sl1, DS.sl2, DS.sl3, DS.part_, DS.part1, DS.nop_, DS.oL_s, DS.it_, DS.it_l, DS.it_t, DS.r1_, DS.r11, DS.lc_, DS.lc1, DS.oLc_s, DS.d_, DS.d1, DS.seq_, DS.bd_n, DS.bd_r, DS.nx_, DS.evF_, DS.evI_, DS.ev1, DS.asg_, DS.store_, DS.asgI_, DS.imm1, DS.ifs_, DS.ifs_t, DS.ifs_f, DS.ret_, DS.ret1, DS.par_, DS.par1, DS.for_, DS.exp_, DS.dput_, DS.asgD_, DS.ownD1, DS.wp0, DS.wp1, DS.for0, DS.run_, DS.run_r, DS.run_n, DS.dc_, DS.dc1, DS.ot_, DS.ot1, DS.dp_s, DS.dp_i, DS.dp1, DS.for1, DS.for2, DS.for3, DS.lg0, DS.lg_, DS.lg1, DS.lg1f, DS.lg2, DS.lg3, DS.di_, DS.di1, DS.ps0, DS.ps_, DS.ps1, DS.ps2, DS.ps3, DS.ps4, DS.ky_s, DS.ky_i, DS.imm_b, DS.imm_i, DS.imm_s, DS.yes_, dIx, atI, ixN, lim, List.map_cons, List.map_nil, List.replicate, List.set, cLen, q_and_holds, q_and_same, q_and_not, q_and_all, q_and_some, q_and_and, q_and_or, q_and_implies, q_and_iff, i_and_hs, i_and_as, i_and_ao, q_or_holds, q_or_same, q_or_not, q_or_all, q_or_some, q_or_and, q_or_or, q_or_implies, q_or_iff, i_or_hs, i_or_as, i_or_ao, q_implies_holds, q_implies_same, q_implies_not, q_implies_all, q_implies_some, q_implies_and, q_implies_or, q_implies_implies, q_implies_iff, i_implies_hs, i_implies_as, i_implies_ao, q_iff_holds, q_iff_same, q_iff_not, q_iff_all, q_iff_some, q_iff_and, q_iff_or, q_iff_implies, q_iff_iff, i_iff_hs, i_iff_as, i_iff_ao, e1, e2]
theorem formed_ok : ∀ (n : Nat) (s : Se) (R : Rs), 2 * ht s + 3 ≤ n → pr fuel n 12 [s.d] R = .ok (formed s).d R := by
  intro n
  induction n with
  | zero => intro s R h; omega
  | succ n ih =>
    intro s R h
    show runF 4 (b__law_formed fuel (pr fuel n)) _ _ = _
    cases s with
    | b x =>
      rcases h_s x with e | e <;> simp [b__law_formed, Se.d, formed, Bs.d, e, DS.oK_s, DS.oV_s, DS.var_, DS.c_, DS.op_, DS.op1, DS.op2, DS.ix_, DS.ix1, DS.ix2, DS.cb_, DS.cb1, DS.cl_, DS.cl1, DS.nil_, DS.cn_, DS.cn1, DS.cn2, DS.tup_, DS.lst_, DS.lst_', DS.l_, DS.tup1, DS.lst1, DS.lst1', DS.l1, DS.if_, DS.if_t, DS.if_f, DS.tr_, DS.tr1, DS.oT_s, DS.b_, DS.b1, DS.and_, DS.or_, DS.not_, DS.and_t, DS.and_f, DS.or_t, DS.or_f, DS.not1, DS.av_, DS.ov_, DS.nv_, DS.av_t, DS.av_f, DS.ov_t, DS.ov_f, DS.nv1, DS.truth_b, DS.kd_, DS.kd1, DS.oG_s, DS.dg_, DS.dg1, DS.dg2, DS.sl_, DS.sl1, DS.sl2, DS.sl3, DS.part_, DS.part1, DS.nop_, DS.oL_s, DS.it_, DS.it_l, DS.it_t, DS.r1_, DS.r11, DS.lc_, DS.lc1, DS.oLc_s, DS.d_, DS.d1, DS.seq_, DS.bd_n, DS.bd_r, DS.nx_, DS.evF_, DS.evI_, DS.ev1, DS.asg_, DS.store_, DS.asgI_, DS.imm1, DS.ifs_, DS.ifs_t, DS.ifs_f, DS.ret_, DS.ret1, DS.par_, DS.par1, DS.for_, DS.exp_, DS.dput_, DS.asgD_, DS.ownD1, DS.wp0, DS.wp1, DS.for0, DS.run_, DS.run_r, DS.run_n, DS.dc_, DS.dc1, DS.ot_, DS.ot1, DS.dp_s, DS.dp_i, DS.dp1, DS.for1, DS.for2, DS.for3, DS.lg0, DS.lg_, DS.lg1, DS.lg1f, DS.lg2, DS.lg3, DS.di_, DS.di1, DS.ps0, DS.ps_, DS.ps1, DS.ps2, DS.ps3, DS.ps4, DS.ky_s, DS.ky_i, DS.imm_b, DS.imm_i, DS.imm_s, DS.yes_, dIx, atI, ixN, lim, List.map_cons, List.map_nil, List.replicate, List.set, cLen, q_holds_holds, q_holds_same, q_holds_not, q_holds_all, q_holds_some, q_holds_and, q_holds_or, q_holds_implies, q_holds_iff, i_holds_hs, i_holds_as, i_holds_ao, q_same_holds, q_same_same, q_same_not, q_same_all, q_same_some, q_same_and, q_same_or, q_same_implies, q_same_iff, i_same_hs, i_same_as, i_same_ao]
    | no s =>
      have e := ih s R (by simp [ht] at h; omega)
      have e' := opp_ok (fuel := fuel) n (formed s) R (by rw [formed_sgn]; have := ht_sgn s true; simp [ht] at h; omega)
      simp [b__law_formed, Se.d, formed, DS.oK_s, DS.oV_s, DS.var_, DS.c_, DS.op_, DS.op1, DS.op2, DS.ix_, DS.ix1, DS.ix2, DS.cb_, DS.cb1, DS.cl_, DS.cl1, DS.nil_, DS.cn_, DS.cn1, DS.cn2, DS.tup_, DS.lst_, DS.lst_', DS.l_, DS.tup1, DS.lst1, DS.lst1', DS.l1, DS.if_, DS.if_t, DS.if_f, DS.tr_, DS.tr1, DS.oT_s, DS.b_, DS.b1, DS.and_, DS.or_, DS.not_, DS.and_t, DS.and_f, DS.or_t, DS.or_f, DS.not1, DS.av_, DS.ov_, DS.nv_, DS.av_t, DS.av_f, DS.ov_t, DS.ov_f, DS.nv1, DS.truth_b, DS.kd_, DS.kd1, DS.oG_s, DS.dg_, DS.dg1, DS.dg2, DS.sl_, DS.sl1, DS.sl2, DS.sl3, DS.part_, DS.part1, DS.nop_, DS.oL_s, DS.it_, DS.it_l, DS.it_t, DS.r1_, DS.r11, DS.lc_, DS.lc1, DS.oLc_s, DS.d_, DS.d1, DS.seq_, DS.bd_n, DS.bd_r, DS.nx_, DS.evF_, DS.evI_, DS.ev1, DS.asg_, DS.store_, DS.asgI_, DS.imm1, DS.ifs_, DS.ifs_t, DS.ifs_f, DS.ret_, DS.ret1, DS.par_, DS.par1, DS.for_, DS.exp_, DS.dput_, DS.asgD_, DS.ownD1, DS.wp0, DS.wp1, DS.for0, DS.run_, DS.run_r, DS.run_n, DS.dc_, DS.dc1, DS.ot_, DS.ot1, DS.dp_s, DS.dp_i, DS.dp1, DS.for1, DS.for2, DS.for3, DS.lg0, DS.lg_, DS.lg1, DS.lg1f, DS.lg2, DS.lg3, DS.di_, DS.di1, DS.ps0, DS.ps_, DS.ps1, DS.ps2, DS.ps3, DS.ps4, DS.ky_s, DS.ky_i, DS.imm_b, DS.imm_i, DS.imm_s, DS.yes_, dIx, atI, ixN, lim, List.map_cons, List.map_nil, List.replicate, List.set, cLen, q_not_holds, q_not_same, q_not_not, q_not_all, q_not_some, q_not_and, q_not_or, q_not_implies, q_not_iff, i_not_hs, i_not_as, i_not_ao, e, e']
    | q a x s =>
      have e := ih s R (by simp [ht] at h; omega)
      cases a <;> simp [b__law_formed, Se.d, formed, DS.oK_s, DS.oV_s, DS.var_, DS.c_, DS.op_, DS.op1, DS.op2, DS.ix_, DS.ix1, DS.ix2, DS.cb_, DS.cb1, DS.cl_, DS.cl1, DS.nil_, DS.cn_, DS.cn1, DS.cn2, DS.tup_, DS.lst_, DS.lst_', DS.l_, DS.tup1, DS.lst1, DS.lst1', DS.l1, DS.if_, DS.if_t, DS.if_f, DS.tr_, DS.tr1, DS.oT_s, DS.b_, DS.b1, DS.and_, DS.or_, DS.not_, DS.and_t, DS.and_f, DS.or_t, DS.or_f, DS.not1, DS.av_, DS.ov_, DS.nv_, DS.av_t, DS.av_f, DS.ov_t, DS.ov_f, DS.nv1, DS.truth_b, DS.kd_, DS.kd1, DS.oG_s, DS.dg_, DS.dg1, DS.dg2, DS.sl_, DS.sl1, DS.sl2, DS.sl3, DS.part_, DS.part1, DS.nop_, DS.oL_s, DS.it_, DS.it_l, DS.it_t, DS.r1_, DS.r11, DS.lc_, DS.lc1, DS.oLc_s, DS.d_, DS.d1, DS.seq_, DS.bd_n, DS.bd_r, DS.nx_, DS.evF_, DS.evI_, DS.ev1, DS.asg_, DS.store_, DS.asgI_, DS.imm1, DS.ifs_, DS.ifs_t, DS.ifs_f, DS.ret_, DS.ret1, DS.par_, DS.par1, DS.for_, DS.exp_, DS.dput_, DS.asgD_, DS.ownD1, DS.wp0, DS.wp1, DS.for0, DS.run_, DS.run_r, DS.run_n, DS.dc_, DS.dc1, DS.ot_, DS.ot1, DS.dp_s, DS.dp_i, DS.dp1, DS.for1, DS.for2, DS.for3, DS.lg0, DS.lg_, DS.lg1, DS.lg1f, DS.lg2, DS.lg3, DS.di_, DS.di1, DS.ps0, DS.ps_, DS.ps1, DS.ps2, DS.ps3, DS.ps4, DS.ky_s, DS.ky_i, DS.imm_b, DS.imm_i, DS.imm_s, DS.yes_, dIx, atI, ixN, lim, List.map_cons, List.map_nil, List.replicate, List.set, cLen, q_all_holds, q_all_same, q_all_not, q_all_all, q_all_some, q_all_and, q_all_or, q_all_implies, q_all_iff, i_all_hs, i_all_as, i_all_ao, q_some_holds, q_some_same, q_some_not, q_some_all, q_some_some, q_some_and, q_some_or, q_some_implies, q_some_iff, i_some_hs, i_some_as, i_some_ao, e]
    | bin w s t =>
      have e1 := ih s R (by simp [ht] at h; omega)
      have e2 := ih t R (by simp [ht] at h; omega)
      have o1 := opp_ok (fuel := fuel) n (formed s) R (by rw [formed_sgn]; have := ht_sgn s true; simp [ht] at h; omega)
      have o2 := opp_ok (fuel := fuel) n (formed t) R (by rw [formed_sgn]; have := ht_sgn t true; simp [ht] at h; omega)
      cases w <;> simp [b__law_formed, Se.d, Bw.w, formed, DS.oK_s, DS.oV_s, DS.var_, DS.c_, DS.op_, DS.op1, DS.op2, DS.ix_, DS.ix1, DS.ix2, DS.cb_, DS.cb1, DS.cl_, DS.cl1, DS.nil_, DS.cn_, DS.cn1, DS.cn2, DS.tup_, DS.lst_, DS.lst_', DS.l_, DS.tup1, DS.lst1, DS.lst1', DS.l1, DS.if_, DS.if_t, DS.if_f, DS.tr_, DS.tr1, DS.oT_s, DS.b_, DS.b1, DS.and_, DS.or_, DS.not_, DS.and_t, DS.and_f, DS.or_t, DS.or_f, DS.not1, DS.av_, DS.ov_, DS.nv_, DS.av_t, DS.av_f, DS.ov_t, DS.ov_f, DS.nv1, DS.truth_b, DS.kd_, DS.kd1, DS.oG_s, DS.dg_, DS.dg1, DS.dg2, DS.sl_, DS.sl1, DS.sl2, DS.sl3, DS.part_, DS.part1, DS.nop_, DS.oL_s, DS.it_, DS.it_l, DS.it_t, DS.r1_, DS.r11, DS.lc_, DS.lc1, DS.oLc_s, DS.d_, DS.d1, DS.seq_, DS.bd_n, DS.bd_r, DS.nx_, DS.evF_, DS.evI_, DS.ev1, DS.asg_, DS.store_, DS.asgI_, DS.imm1, DS.ifs_, DS.ifs_t, DS.ifs_f, DS.ret_, DS.ret1, DS.par_, DS.par1, DS.for_, DS.exp_, DS.dput_, DS.asgD_, DS.ownD1, DS.wp0, DS.wp1, DS.for0, DS.run_, DS.run_r, DS.run_n, DS.dc_, DS.dc1, DS.ot_, DS.ot1, DS.dp_s, DS.dp_i, DS.dp1, DS.for1, DS.for2, DS.for3, DS.lg0, DS.lg_, DS.lg1, DS.lg1f, DS.lg2, DS.lg3, DS.di_, DS.di1, DS.ps0, DS.ps_, DS.ps1, DS.ps2, DS.ps3, DS.ps4, DS.ky_s, DS.ky_i, DS.imm_b, DS.imm_i, DS.imm_s, DS.yes_, dIx, atI, ixN, lim, List.map_cons, List.map_nil, List.replicate, List.set, cLen, q_and_holds, q_and_same, q_and_not, q_and_all, q_and_some, q_and_and, q_and_or, q_and_implies, q_and_iff, i_and_hs, i_and_as, i_and_ao, q_or_holds, q_or_same, q_or_not, q_or_all, q_or_some, q_or_and, q_or_or, q_or_implies, q_or_iff, i_or_hs, i_or_as, i_or_ao, q_implies_holds, q_implies_same, q_implies_not, q_implies_all, q_implies_some, q_implies_and, q_implies_or, q_implies_implies, q_implies_iff, i_implies_hs, i_implies_as, i_implies_ao, q_iff_holds, q_iff_same, q_iff_not, q_iff_all, q_iff_some, q_iff_and, q_iff_or, q_iff_implies, q_iff_iff, i_iff_hs, i_iff_as, i_iff_ao, e1, e2, o1, o2]
/-- negation form -/
inductive Nf : Se → Prop where
  | b (x : Bs) : Nf (.b x)
  | no (x : Bs) : Nf (.no (.b x))
  | q (a : Bool) (x : Str) {s : Se} : Nf s → Nf (.q a x s)
  | an {s t : Se} : Nf s → Nf t → Nf (.bin .and s t)
  | o {s t : Se} : Nf s → Nf t → Nf (.bin .or s t)
theorem nf_sgn : ∀ s b, Nf (sgn s b)
  | .b x, b => by cases b; exact .no x; exact .b x
  | .no s, b => by rw [sgn]; exact nf_sgn s _
  | .q a x s, b => by rw [sgn]; exact .q _ _ (nf_sgn s b)
  | .bin w s t, b => by
    have h1 := nf_sgn s b
    have h2 := nf_sgn t b
    have h3 := nf_sgn s (!b)
    have h4 := nf_sgn t (!b)
    cases w <;> cases b <;> simp only [sgn] <;> first | exact .an h1 h2 | exact .o h1 h2 | exact .an h3 h2 | exact .o h3 h2 | exact .an (.o h3 h2) (.o h4 h1) | exact .o (.an h3 h2) (.an h4 h1)
theorem shaped_ok : ∀ (n : Nat) (s : Se) (R : Rs), Nf s → ht s + 1 ≤ n → pr fuel n 13 [s.d] R = .ok (.bl true) R := by
  intro n
  induction n with
  | zero => intro s R _ h; omega
  | succ n ih =>
    intro s R q h
    show runF 2 (b__law_shaped fuel (pr fuel n)) _ _ = _
    cases q with
    | b x => rcases h_s x with e | e <;> simp [b__law_shaped, Se.d, Bs.d, e, DS.oK_s, DS.oV_s, DS.var_, DS.c_, DS.op_, DS.op1, DS.op2, DS.ix_, DS.ix1, DS.ix2, DS.cb_, DS.cb1, DS.cl_, DS.cl1, DS.nil_, DS.cn_, DS.cn1, DS.cn2, DS.tup_, DS.lst_, DS.lst_', DS.l_, DS.tup1, DS.lst1, DS.lst1', DS.l1, DS.if_, DS.if_t, DS.if_f, DS.tr_, DS.tr1, DS.oT_s, DS.b_, DS.b1, DS.and_, DS.or_, DS.not_, DS.and_t, DS.and_f, DS.or_t, DS.or_f, DS.not1, DS.av_, DS.ov_, DS.nv_, DS.av_t, DS.av_f, DS.ov_t, DS.ov_f, DS.nv1, DS.truth_b, DS.kd_, DS.kd1, DS.oG_s, DS.dg_, DS.dg1, DS.dg2, DS.sl_, DS.sl1, DS.sl2, DS.sl3, DS.part_, DS.part1, DS.nop_, DS.oL_s, DS.it_, DS.it_l, DS.it_t, DS.r1_, DS.r11, DS.lc_, DS.lc1, DS.oLc_s, DS.d_, DS.d1, DS.seq_, DS.bd_n, DS.bd_r, DS.nx_, DS.evF_, DS.evI_, DS.ev1, DS.asg_, DS.store_, DS.asgI_, DS.imm1, DS.ifs_, DS.ifs_t, DS.ifs_f, DS.ret_, DS.ret1, DS.par_, DS.par1, DS.for_, DS.exp_, DS.dput_, DS.asgD_, DS.ownD1, DS.wp0, DS.wp1, DS.for0, DS.run_, DS.run_r, DS.run_n, DS.dc_, DS.dc1, DS.ot_, DS.ot1, DS.dp_s, DS.dp_i, DS.dp1, DS.for1, DS.for2, DS.for3, DS.lg0, DS.lg_, DS.lg1, DS.lg1f, DS.lg2, DS.lg3, DS.di_, DS.di1, DS.ps0, DS.ps_, DS.ps1, DS.ps2, DS.ps3, DS.ps4, DS.ky_s, DS.ky_i, DS.imm_b, DS.imm_i, DS.imm_s, DS.yes_, dIx, atI, ixN, lim, List.map_cons, List.map_nil, List.replicate, List.set, cLen, q_holds_holds, q_holds_same, q_holds_not, q_holds_all, q_holds_some, q_holds_and, q_holds_or, q_holds_implies, q_holds_iff, i_holds_hs, i_holds_as, i_holds_ao, q_same_holds, q_same_same, q_same_not, q_same_all, q_same_some, q_same_and, q_same_or, q_same_implies, q_same_iff, i_same_hs, i_same_as, i_same_ao]
    | no x => rcases h_s x with e | e <;> simp [b__law_shaped, Se.d, Bs.d, e, DS.oK_s, DS.oV_s, DS.var_, DS.c_, DS.op_, DS.op1, DS.op2, DS.ix_, DS.ix1, DS.ix2, DS.cb_, DS.cb1, DS.cl_, DS.cl1, DS.nil_, DS.cn_, DS.cn1, DS.cn2, DS.tup_, DS.lst_, DS.lst_', DS.l_, DS.tup1, DS.lst1, DS.lst1', DS.l1, DS.if_, DS.if_t, DS.if_f, DS.tr_, DS.tr1, DS.oT_s, DS.b_, DS.b1, DS.and_, DS.or_, DS.not_, DS.and_t, DS.and_f, DS.or_t, DS.or_f, DS.not1, DS.av_, DS.ov_, DS.nv_, DS.av_t, DS.av_f, DS.ov_t, DS.ov_f, DS.nv1, DS.truth_b, DS.kd_, DS.kd1, DS.oG_s, DS.dg_, DS.dg1, DS.dg2, DS.sl_, DS.sl1, DS.sl2, DS.sl3, DS.part_, DS.part1, DS.nop_, DS.oL_s, DS.it_, DS.it_l, DS.it_t, DS.r1_, DS.r11, DS.lc_, DS.lc1, DS.oLc_s, DS.d_, DS.d1, DS.seq_, DS.bd_n, DS.bd_r, DS.nx_, DS.evF_, DS.evI_, DS.ev1, DS.asg_, DS.store_, DS.asgI_, DS.imm1, DS.ifs_, DS.ifs_t, DS.ifs_f, DS.ret_, DS.ret1, DS.par_, DS.par1, DS.for_, DS.exp_, DS.dput_, DS.asgD_, DS.ownD1, DS.wp0, DS.wp1, DS.for0, DS.run_, DS.run_r, DS.run_n, DS.dc_, DS.dc1, DS.ot_, DS.ot1, DS.dp_s, DS.dp_i, DS.dp1, DS.for1, DS.for2, DS.for3, DS.lg0, DS.lg_, DS.lg1, DS.lg1f, DS.lg2, DS.lg3, DS.di_, DS.di1, DS.ps0, DS.ps_, DS.ps1, DS.ps2, DS.ps3, DS.ps4, DS.ky_s, DS.ky_i, DS.imm_b, DS.imm_i, DS.imm_s, DS.yes_, dIx, atI, ixN, lim, List.map_cons, List.map_nil, List.replicate, List.set, cLen, q_holds_holds, q_holds_same, q_holds_not, q_holds_all, q_holds_some, q_holds_and, q_holds_or, q_holds_implies, q_holds_iff, i_holds_hs, i_holds_as, i_holds_ao, q_same_holds, q_same_same, q_same_not, q_same_all, q_same_some, q_same_and, q_same_or, q_same_implies, q_same_iff, i_same_hs, i_same_as, i_same_ao, q_not_holds, q_not_same, q_not_not, q_not_all, q_not_some, q_not_and, q_not_or, q_not_implies, q_not_iff, i_not_hs, i_not_as, i_not_ao]
    | q a x q =>
      have e := ih _ R q (by simpa [ht] using h)
      cases a <;> simp [b__law_shaped, Se.d, DS.oK_s, DS.oV_s, DS.var_, DS.c_, DS.op_, DS.op1, DS.op2, DS.ix_, DS.ix1, DS.ix2, DS.cb_, DS.cb1, DS.cl_, DS.cl1, DS.nil_, DS.cn_, DS.cn1, DS.cn2, DS.tup_, DS.lst_, DS.lst_', DS.l_, DS.tup1, DS.lst1, DS.lst1', DS.l1, DS.if_, DS.if_t, DS.if_f, DS.tr_, DS.tr1, DS.oT_s, DS.b_, DS.b1, DS.and_, DS.or_, DS.not_, DS.and_t, DS.and_f, DS.or_t, DS.or_f, DS.not1, DS.av_, DS.ov_, DS.nv_, DS.av_t, DS.av_f, DS.ov_t, DS.ov_f, DS.nv1, DS.truth_b, DS.kd_, DS.kd1, DS.oG_s, DS.dg_, DS.dg1, DS.dg2, DS.sl_, DS.sl1, DS.sl2, DS.sl3, DS.part_, DS.part1, DS.nop_, DS.oL_s, DS.it_, DS.it_l, DS.it_t, DS.r1_, DS.r11, DS.lc_, DS.lc1, DS.oLc_s, DS.d_, DS.d1, DS.seq_, DS.bd_n, DS.bd_r, DS.nx_, DS.evF_, DS.evI_, DS.ev1, DS.asg_, DS.store_, DS.asgI_, DS.imm1, DS.ifs_, DS.ifs_t, DS.ifs_f, DS.ret_, DS.ret1, DS.par_, DS.par1, DS.for_, DS.exp_, DS.dput_, DS.asgD_, DS.ownD1, DS.wp0, DS.wp1, DS.for0, DS.run_, DS.run_r, DS.run_n, DS.dc_, DS.dc1, DS.ot_, DS.ot1, DS.dp_s, DS.dp_i, DS.dp1, DS.for1, DS.for2, DS.for3, DS.lg0, DS.lg_, DS.lg1, DS.lg1f, DS.lg2, DS.lg3, DS.di_, DS.di1, DS.ps0, DS.ps_, DS.ps1, DS.ps2, DS.ps3, DS.ps4, DS.ky_s, DS.ky_i, DS.imm_b, DS.imm_i, DS.imm_s, DS.yes_, dIx, atI, ixN, lim, List.map_cons, List.map_nil, List.replicate, List.set, cLen, q_all_holds, q_all_same, q_all_not, q_all_all, q_all_some, q_all_and, q_all_or, q_all_implies, q_all_iff, i_all_hs, i_all_as, i_all_ao, q_some_holds, q_some_same, q_some_not, q_some_all, q_some_some, q_some_and, q_some_or, q_some_implies, q_some_iff, i_some_hs, i_some_as, i_some_ao, e]
    | an q1 q2 =>
      have e1 := ih _ R q1 (by simp [ht] at h; omega)
      have e2 := ih _ R q2 (by simp [ht] at h; omega)
      simp [b__law_shaped, Se.d, Bw.w, DS.oK_s, DS.oV_s, DS.var_, DS.c_, DS.op_, DS.op1, DS.op2, DS.ix_, DS.ix1, DS.ix2, DS.cb_, DS.cb1, DS.cl_, DS.cl1, DS.nil_, DS.cn_, DS.cn1, DS.cn2, DS.tup_, DS.lst_, DS.lst_', DS.l_, DS.tup1, DS.lst1, DS.lst1', DS.l1, DS.if_, DS.if_t, DS.if_f, DS.tr_, DS.tr1, DS.oT_s, DS.b_, DS.b1, DS.and_, DS.or_, DS.not_, DS.and_t, DS.and_f, DS.or_t, DS.or_f, DS.not1, DS.av_, DS.ov_, DS.nv_, DS.av_t, DS.av_f, DS.ov_t, DS.ov_f, DS.nv1, DS.truth_b, DS.kd_, DS.kd1, DS.oG_s, DS.dg_, DS.dg1, DS.dg2, DS.sl_, DS.sl1, DS.sl2, DS.sl3, DS.part_, DS.part1, DS.nop_, DS.oL_s, DS.it_, DS.it_l, DS.it_t, DS.r1_, DS.r11, DS.lc_, DS.lc1, DS.oLc_s, DS.d_, DS.d1, DS.seq_, DS.bd_n, DS.bd_r, DS.nx_, DS.evF_, DS.evI_, DS.ev1, DS.asg_, DS.store_, DS.asgI_, DS.imm1, DS.ifs_, DS.ifs_t, DS.ifs_f, DS.ret_, DS.ret1, DS.par_, DS.par1, DS.for_, DS.exp_, DS.dput_, DS.asgD_, DS.ownD1, DS.wp0, DS.wp1, DS.for0, DS.run_, DS.run_r, DS.run_n, DS.dc_, DS.dc1, DS.ot_, DS.ot1, DS.dp_s, DS.dp_i, DS.dp1, DS.for1, DS.for2, DS.for3, DS.lg0, DS.lg_, DS.lg1, DS.lg1f, DS.lg2, DS.lg3, DS.di_, DS.di1, DS.ps0, DS.ps_, DS.ps1, DS.ps2, DS.ps3, DS.ps4, DS.ky_s, DS.ky_i, DS.imm_b, DS.imm_i, DS.imm_s, DS.yes_, dIx, atI, ixN, lim, List.map_cons, List.map_nil, List.replicate, List.set, cLen, q_and_holds, q_and_same, q_and_not, q_and_all, q_and_some, q_and_and, q_and_or, q_and_implies, q_and_iff, i_and_hs, i_and_as, i_and_ao, e1, e2]
    | o q1 q2 =>
      have e1 := ih _ R q1 (by simp [ht] at h; omega)
      have e2 := ih _ R q2 (by simp [ht] at h; omega)
      simp [b__law_shaped, Se.d, Bw.w, DS.oK_s, DS.oV_s, DS.var_, DS.c_, DS.op_, DS.op1, DS.op2, DS.ix_, DS.ix1, DS.ix2, DS.cb_, DS.cb1, DS.cl_, DS.cl1, DS.nil_, DS.cn_, DS.cn1, DS.cn2, DS.tup_, DS.lst_, DS.lst_', DS.l_, DS.tup1, DS.lst1, DS.lst1', DS.l1, DS.if_, DS.if_t, DS.if_f, DS.tr_, DS.tr1, DS.oT_s, DS.b_, DS.b1, DS.and_, DS.or_, DS.not_, DS.and_t, DS.and_f, DS.or_t, DS.or_f, DS.not1, DS.av_, DS.ov_, DS.nv_, DS.av_t, DS.av_f, DS.ov_t, DS.ov_f, DS.nv1, DS.truth_b, DS.kd_, DS.kd1, DS.oG_s, DS.dg_, DS.dg1, DS.dg2, DS.sl_, DS.sl1, DS.sl2, DS.sl3, DS.part_, DS.part1, DS.nop_, DS.oL_s, DS.it_, DS.it_l, DS.it_t, DS.r1_, DS.r11, DS.lc_, DS.lc1, DS.oLc_s, DS.d_, DS.d1, DS.seq_, DS.bd_n, DS.bd_r, DS.nx_, DS.evF_, DS.evI_, DS.ev1, DS.asg_, DS.store_, DS.asgI_, DS.imm1, DS.ifs_, DS.ifs_t, DS.ifs_f, DS.ret_, DS.ret1, DS.par_, DS.par1, DS.for_, DS.exp_, DS.dput_, DS.asgD_, DS.ownD1, DS.wp0, DS.wp1, DS.for0, DS.run_, DS.run_r, DS.run_n, DS.dc_, DS.dc1, DS.ot_, DS.ot1, DS.dp_s, DS.dp_i, DS.dp1, DS.for1, DS.for2, DS.for3, DS.lg0, DS.lg_, DS.lg1, DS.lg1f, DS.lg2, DS.lg3, DS.di_, DS.di1, DS.ps0, DS.ps_, DS.ps1, DS.ps2, DS.ps3, DS.ps4, DS.ky_s, DS.ky_i, DS.imm_b, DS.imm_i, DS.imm_s, DS.yes_, dIx, atI, ixN, lim, List.map_cons, List.map_nil, List.replicate, List.set, cLen, q_or_holds, q_or_same, q_or_not, q_or_all, q_or_some, q_or_and, q_or_or, q_or_implies, q_or_iff, i_or_hs, i_or_as, i_or_ao, e1, e2]

/-! ### what a sentence says -/
structure Tb where
  z : Int
  a0 : Int
  q0 : Bool
  fs : List Int
  ps : List Bool
  rs : List Bool
  hz : 1 ≤ z ∧ z ≤ 3
  ha : 0 ≤ a0 ∧ a0 < z
  hf : fs.length = z.toNat ∧ ∀ v ∈ fs, 0 ≤ v ∧ v < z
  hp : ps.length = z.toNat
  hr : rs.length = (z * z).toNat
structure TbD (M : Tb) (T : List (Key × D)) : Prop where
  a : getK T (.inr "a") = some (.lst [.int M.a0])
  q : getK T (.inr "Q") = some (.lst [.bl M.q0])
  f : getK T (.inr "f") = some (.lst (M.fs.map .int))
  p : getK T (.inr "P") = some (.lst (M.ps.map .bl))
  r : getK T (.inr "R") = some (.lst (M.rs.map .bl))
abbrev Vs := List (Key × D)
def vl (V : Vs) (x : Str) : Int := match getK V (.inr x) with
  | some (.int v) => v
  | _ => 0
structure Sc (N : Str → Prop) (V : Vs) (z : Int) : Prop where
  h : ∀ x, N x → ∃ v, getK V (.inr x) = some (.int v) ∧ 0 ≤ v ∧ v < z
theorem Sc.vl {N : Str → Prop} {V : Vs} {z : Int} (s : Sc N V z) {x : Str} (h : N x) : getK V (.inr x) = some (.int (vl V x)) ∧ 0 ≤ vl V x ∧ vl V x < z := by
  obtain ⟨v, e, b⟩ := s.h x h
  have : KM.vl V x = v := by unfold KM.vl; rw [e]
  rw [this]
  exact ⟨e, b⟩
theorem Sc.put {N : Str → Prop} {V : Vs} {z : Int} (s : Sc N V z) (x : Str) {i : Int} (hi : 0 ≤ i ∧ i < z) : Sc (fun y => y = x ∨ N y) (setK V (.inr x) (.int i)) z := ⟨fun y h => by
  rw [getK_set]
  by_cases e : x = y
  · subst e
    exact ⟨i, if_pos rfl, hi⟩
  · rw [if_neg (by intro q; cases q; exact e rfl)]
    rcases h with h | h
    · exact absurd h.symm e
    · exact s.h y h⟩
def Tm.okN (N : Str → Prop) : Tm → Prop
  | .vr x => N x
  | .ca => True
  | .fn x => N x
def Bs.okN (N : Str → Prop) : Bs → Prop
  | .same s t => s.okN N ∧ t.okN N
  | .R s t => s.okN N ∧ t.okN N
  | .P s => s.okN N
  | .Q => True
def Se.okN : (Str → Prop) → Se → Prop
  | N, .b x => x.okN N
  | N, .no s => s.okN N
  | N, .q _ x s => s.okN (fun y => y = x ∨ N y)
  | N, .bin _ s t => s.okN N ∧ t.okN N
theorem ok_sgn : ∀ (s : Se) (N : Str → Prop) (b : Bool), s.okN N → (sgn s b).okN N
  | .b x, N, b, h => by cases b <;> exact h
  | .no s, N, b, h => by rw [sgn]; exact ok_sgn s N _ h
  | .q a x s, N, b, h => by rw [sgn]; exact ok_sgn s _ b h
  | .bin w s t, N, b, h => by
    have h1 := ok_sgn s N b h.1
    have h2 := ok_sgn t N b h.2
    have h3 := ok_sgn s N (!b) h.1
    have h4 := ok_sgn t N (!b) h.2
    cases w
    · exact ⟨h1, h2⟩
    · exact ⟨h1, h2⟩
    · exact ⟨h3, h2⟩
    · exact ⟨⟨h3, h2⟩, h4, h1⟩
def tmv (M : Tb) (V : Vs) : Tm → Int
  | .vr x => vl V x
  | .ca => M.a0
  | .fn x => M.fs.getD (vl V x).toNat 0
def bsv (M : Tb) (V : Vs) : Bs → Bool
  | .same s t => decide (tmv M V s = tmv M V t)
  | .R s t => M.rs.getD (tmv M V s * M.z + tmv M V t).toNat false
  | .P s => M.ps.getD (tmv M V s).toNat false
  | .Q => M.q0
def sv (M : Tb) : Vs → Se → Bool
  | V, .b x => bsv M V x
  | V, .no s => !sv M V s
  | V, .q true x s => (List.range M.z.toNat).all fun i => sv M (setK V (.inr x) (.int i)) s
  | V, .q false x s => (List.range M.z.toNat).any fun i => sv M (setK V (.inr x) (.int i)) s
  | V, .bin .and s t => sv M V s && sv M V t
  | V, .bin .or s t => sv M V s || sv M V t
  | V, .bin .imp s t => !sv M V s || sv M V t
  | V, .bin .iff s t => sv M V s == sv M V t
theorem sv_sgn (M : Tb) : ∀ (s : Se) (V : Vs) (b : Bool), sv M V (sgn s b) = (sv M V s == b)
  | .b x, V, b => by cases b <;> simp [sgn, sv]
  | .no s, V, b => by rw [sgn, sv_sgn M s, sv]; cases b <;> cases sv M V s <;> rfl
  | .q a x s, V, b => by
    cases a <;> cases b <;> simp [sgn, sv, sv_sgn M s, List.not_any_eq_all_not, List.not_all_eq_any_not]
  | .bin w s t, V, b => by
    cases w <;> cases b <;> simp [sgn, sv, sv_sgn M s, sv_sgn M t] <;> cases sv M V s <;> cases sv M V t <;> rfl
theorem isi_s (x : Str) (r : Rs) : cIsi r [.str x, .ty "str"] = some (.bl true) := by with_unfolding_all rfl
theorem isi_t (x : List D) (r : Rs) : cIsi r [.tup x, .ty "str"] = some (.bl false) := by with_unfolding_all rfl
theorem dg_s {V : Vs} {x : Str} {d : D} (h : getK V (.inr x) = some d) : dGet (.dic V) (.str x) = some (some d) := by
  show some (getK V (.inr x)) = _
  rw [h]
theorem sl1_ (a : D) : dSl (.tup [a]) (some 1) none = some (.tup []) := by with_unfolding_all rfl
theorem sl2_ (a b : D) : dSl (.tup [a, b]) (some 1) none = some (.tup [b]) := by with_unfolding_all rfl
theorem sl3_ (a b c : D) : dSl (.tup [a, b, c]) (some 1) none = some (.tup [b, c]) := by with_unfolding_all rfl
theorem Tb.sm (M : Tb) : small M.z = true := by
  unfold small
  rw [decide_eq_true_eq]
  have := M.hz
  omega
theorem Tb.bg (M : Tb) : big M.z = true := by
  unfold big
  rw [decide_eq_true_eq]
  have := M.hz
  omega
theorem entry0 (M : Tb) (n : Nat) {T : Vs} {k : Str} {ds : List D} {d : D} (h : getK T (.inr k) = some (.lst ds)) (e : atI ds 0 = some d) (R : Rs) : pr fuel (n + 1) 4 [.dic T, .int M.z, .str k, .lst []] R = .ok d R := by
  show runF 6 (b__law_entry fuel (pr fuel n)) _ _ = _
  have g := dg_s h
  have e' : dIx R (.lst ds) (.int 0) = some d := e
  simp [b__law_entry, DS.oK_s, DS.oV_s, DS.var_, DS.c_, DS.op_, DS.op1, DS.op2, DS.ix_, DS.ix1, DS.ix2, DS.cb_, DS.cb1, DS.cl_, DS.cl1, DS.nil_, DS.cn_, DS.cn1, DS.cn2, DS.tup_, DS.lst_, DS.lst_', DS.l_, DS.tup1, DS.lst1, DS.lst1', DS.l1, DS.if_, DS.if_t, DS.if_f, DS.tr_, DS.tr1, DS.oT_s, DS.b_, DS.b1, DS.and_, DS.or_, DS.not_, DS.and_t, DS.and_f, DS.or_t, DS.or_f, DS.not1, DS.av_, DS.ov_, DS.nv_, DS.av_t, DS.av_f, DS.ov_t, DS.ov_f, DS.nv1, DS.truth_b, DS.kd_, DS.kd1, DS.oG_s, DS.dg_, DS.dg1, DS.dg2, DS.sl_, DS.sl1, DS.sl2, DS.sl3, DS.part_, DS.part1, DS.nop_, DS.oL_s, DS.it_, DS.it_l, DS.it_t, DS.r1_, DS.r11, DS.lc_, DS.lc1, DS.oLc_s, DS.d_, DS.d1, DS.seq_, DS.bd_n, DS.bd_r, DS.nx_, DS.evF_, DS.evI_, DS.ev1, DS.asg_, DS.store_, DS.asgI_, DS.imm1, DS.ifs_, DS.ifs_t, DS.ifs_f, DS.ret_, DS.ret1, DS.par_, DS.par1, DS.for_, DS.exp_, DS.dput_, DS.asgD_, DS.ownD1, DS.wp0, DS.wp1, DS.for0, DS.run_, DS.run_r, DS.run_n, DS.dc_, DS.dc1, DS.ot_, DS.ot1, DS.dp_s, DS.dp_i, DS.dp1, DS.for1, DS.for2, DS.for3, DS.lg0, DS.lg_, DS.lg1, DS.lg1f, DS.lg2, DS.lg3, DS.di_, DS.di1, DS.ps0, DS.ps_, DS.ps1, DS.ps2, DS.ps3, DS.ps4, DS.ky_s, DS.ky_i, DS.imm_b, DS.imm_i, DS.imm_s, DS.yes_, lim, List.map_cons, List.map_nil, List.replicate, List.set, g, e']
theorem entry1 (M : Tb) (n : Nat) {T : Vs} {k : Str} {ds : List D} {d : D} (v : Int) (h : getK T (.inr k) = some (.lst ds)) (e : atI ds v = some d) (R : Rs) : pr fuel (n + 1) 4 [.dic T, .int M.z, .str k, .lst [.int v]] R = .ok d R := by
  show runF 6 (b__law_entry fuel (pr fuel n)) _ _ = _
  have g := dg_s h
  have e' : dIx R (.lst ds) (.int v) = some d := e
  simp [b__law_entry, DS.oK_s, DS.oV_s, DS.var_, DS.c_, DS.op_, DS.op1, DS.op2, DS.ix_, DS.ix1, DS.ix2, DS.cb_, DS.cb1, DS.cl_, DS.cl1, DS.nil_, DS.cn_, DS.cn1, DS.cn2, DS.tup_, DS.lst_, DS.lst_', DS.l_, DS.tup1, DS.lst1, DS.lst1', DS.l1, DS.if_, DS.if_t, DS.if_f, DS.tr_, DS.tr1, DS.oT_s, DS.b_, DS.b1, DS.and_, DS.or_, DS.not_, DS.and_t, DS.and_f, DS.or_t, DS.or_f, DS.not1, DS.av_, DS.ov_, DS.nv_, DS.av_t, DS.av_f, DS.ov_t, DS.ov_f, DS.nv1, DS.truth_b, DS.kd_, DS.kd1, DS.oG_s, DS.dg_, DS.dg1, DS.dg2, DS.sl_, DS.sl1, DS.sl2, DS.sl3, DS.part_, DS.part1, DS.nop_, DS.oL_s, DS.it_, DS.it_l, DS.it_t, DS.r1_, DS.r11, DS.lc_, DS.lc1, DS.oLc_s, DS.d_, DS.d1, DS.seq_, DS.bd_n, DS.bd_r, DS.nx_, DS.evF_, DS.evI_, DS.ev1, DS.asg_, DS.store_, DS.asgI_, DS.imm1, DS.ifs_, DS.ifs_t, DS.ifs_f, DS.ret_, DS.ret1, DS.par_, DS.par1, DS.for_, DS.exp_, DS.dput_, DS.asgD_, DS.ownD1, DS.wp0, DS.wp1, DS.for0, DS.run_, DS.run_r, DS.run_n, DS.dc_, DS.dc1, DS.ot_, DS.ot1, DS.dp_s, DS.dp_i, DS.dp1, DS.for1, DS.for2, DS.for3, DS.lg0, DS.lg_, DS.lg1, DS.lg1f, DS.lg2, DS.lg3, DS.di_, DS.di1, DS.ps0, DS.ps_, DS.ps1, DS.ps2, DS.ps3, DS.ps4, DS.ky_s, DS.ky_i, DS.imm_b, DS.imm_i, DS.imm_s, DS.yes_, lim, List.map_cons, List.map_nil, List.replicate, List.set, dMul, dAdd, M.sm, g, e']
theorem entry2 (M : Tb) (n : Nat) {T : Vs} {k : Str} {ds : List D} {d : D} (v w : Int) (h : getK T (.inr k) = some (.lst ds)) (e : atI ds (v * M.z + w) = some d) (R : Rs) : pr fuel (n + 1) 4 [.dic T, .int M.z, .str k, .lst [.int v, .int w]] R = .ok d R := by
  show runF 6 (b__law_entry fuel (pr fuel n)) _ _ = _
  have g := dg_s h
  have e' : dIx R (.lst ds) (.int (v * M.z + w)) = some d := e
  simp [b__law_entry, DS.oK_s, DS.oV_s, DS.var_, DS.c_, DS.op_, DS.op1, DS.op2, DS.ix_, DS.ix1, DS.ix2, DS.cb_, DS.cb1, DS.cl_, DS.cl1, DS.nil_, DS.cn_, DS.cn1, DS.cn2, DS.tup_, DS.lst_, DS.lst_', DS.l_, DS.tup1, DS.lst1, DS.lst1', DS.l1, DS.if_, DS.if_t, DS.if_f, DS.tr_, DS.tr1, DS.oT_s, DS.b_, DS.b1, DS.and_, DS.or_, DS.not_, DS.and_t, DS.and_f, DS.or_t, DS.or_f, DS.not1, DS.av_, DS.ov_, DS.nv_, DS.av_t, DS.av_f, DS.ov_t, DS.ov_f, DS.nv1, DS.truth_b, DS.kd_, DS.kd1, DS.oG_s, DS.dg_, DS.dg1, DS.dg2, DS.sl_, DS.sl1, DS.sl2, DS.sl3, DS.part_, DS.part1, DS.nop_, DS.oL_s, DS.it_, DS.it_l, DS.it_t, DS.r1_, DS.r11, DS.lc_, DS.lc1, DS.oLc_s, DS.d_, DS.d1, DS.seq_, DS.bd_n, DS.bd_r, DS.nx_, DS.evF_, DS.evI_, DS.ev1, DS.asg_, DS.store_, DS.asgI_, DS.imm1, DS.ifs_, DS.ifs_t, DS.ifs_f, DS.ret_, DS.ret1, DS.par_, DS.par1, DS.for_, DS.exp_, DS.dput_, DS.asgD_, DS.ownD1, DS.wp0, DS.wp1, DS.for0, DS.run_, DS.run_r, DS.run_n, DS.dc_, DS.dc1, DS.ot_, DS.ot1, DS.dp_s, DS.dp_i, DS.dp1, DS.for1, DS.for2, DS.for3, DS.lg0, DS.lg_, DS.lg1, DS.lg1f, DS.lg2, DS.lg3, DS.di_, DS.di1, DS.ps0, DS.ps_, DS.ps1, DS.ps2, DS.ps3, DS.ps4, DS.ky_s, DS.ky_i, DS.imm_b, DS.imm_i, DS.imm_s, DS.yes_, lim, List.map_cons, List.map_nil, List.replicate, List.set, dMul, dAdd, M.sm, g, e']
theorem at_int {vs : List Int} {v : Int} (h0 : 0 ≤ v) (h : v.toNat < vs.length) : atI (vs.map D.int) v = some (.int (vs.getD v.toNat 0)) := by
  have e : v = (v.toNat : Int) := by omega
  have q : atI (vs.map D.int) (v.toNat : Int) = some (.int (vs.getD v.toNat 0)) := atI_nat (by simp [h])
  rwa [← e] at q
theorem at_bl {vs : List Bool} {v : Int} (h0 : 0 ≤ v) (h : v.toNat < vs.length) : atI (vs.map D.bl) v = some (.bl (vs.getD v.toNat false)) := by
  have e : v = (v.toNat : Int) := by omega
  have q : atI (vs.map D.bl) (v.toNat : Int) = some (.bl (vs.getD v.toNat false)) := atI_nat (by simp [h])
  rwa [← e] at q
theorem tmv_b (M : Tb) {N : Str → Prop} {V : Vs} (s : Sc N V M.z) (t : Tm) (h : t.okN N) : 0 ≤ tmv M V t ∧ tmv M V t < M.z := by
  cases t with
  | vr x => exact (s.vl h).2
  | ca => exact M.ha
  | fn x =>
    have q := (s.vl h).2
    have l : (vl V x).toNat < M.fs.length := by rw [M.hf.1]; omega
    show 0 ≤ M.fs.getD _ 0 ∧ M.fs.getD _ 0 < M.z
    rw [List.getD_eq_getElem?_getD, List.getElem?_eq_getElem l]
    exact M.hf.2 _ (List.getElem_mem l)
theorem value_ok (M : Tb) {T : Vs} (TD : TbD M T) {N : Str → Prop} {V : Vs} (s : Sc N V M.z) (n : Nat) (t : Tm) (h : t.okN N) (R : Rs) : pr fuel (n + 2) 5 [.dic T, .int M.z, t.d, .dic V] R = .ok (.int (tmv M V t)) R := by
  have one : ∀ (m : Nat) (x : Str), N x → pr fuel (m + 1) 5 [.dic T, .int M.z, .str x, .dic V] R = .ok (.int (vl V x)) R := by
    intro m x h
    have g := dg_s (s.vl h).1
    show runF 5 (b__law_value fuel (pr fuel m)) _ _ = _
    simp [b__law_value, DS.oK_s, DS.oV_s, DS.var_, DS.c_, DS.op_, DS.op1, DS.op2, DS.ix_, DS.ix1, DS.ix2, DS.cb_, DS.cb1, DS.cl_, DS.cl1, DS.nil_, DS.cn_, DS.cn1, DS.cn2, DS.tup_, DS.lst_, DS.lst_', DS.l_, DS.tup1, DS.lst1, DS.lst1', DS.l1, DS.if_, DS.if_t, DS.if_f, DS.tr_, DS.tr1, DS.oT_s, DS.b_, DS.b1, DS.and_, DS.or_, DS.not_, DS.and_t, DS.and_f, DS.or_t, DS.or_f, DS.not1, DS.av_, DS.ov_, DS.nv_, DS.av_t, DS.av_f, DS.ov_t, DS.ov_f, DS.nv1, DS.truth_b, DS.kd_, DS.kd1, DS.oG_s, DS.dg_, DS.dg1, DS.dg2, DS.sl_, DS.sl1, DS.sl2, DS.sl3, DS.part_, DS.part1, DS.nop_, DS.oL_s, DS.it_, DS.it_l, DS.it_t, DS.r1_, DS.r11, DS.lc_, DS.lc1, DS.oLc_s, DS.d_, DS.d1, DS.seq_, DS.bd_n, DS.bd_r, DS.nx_, DS.evF_, DS.evI_, DS.ev1, DS.asg_, DS.store_, DS.asgI_, DS.imm1, DS.ifs_, DS.ifs_t, DS.ifs_f, DS.ret_, DS.ret1, DS.par_, DS.par1, DS.for_, DS.exp_, DS.dput_, DS.asgD_, DS.ownD1, DS.wp0, DS.wp1, DS.for0, DS.run_, DS.run_r, DS.run_n, DS.dc_, DS.dc1, DS.ot_, DS.ot1, DS.dp_s, DS.dp_i, DS.dp1, DS.for1, DS.for2, DS.for3, DS.lg0, DS.lg_, DS.lg1, DS.lg1f, DS.lg2, DS.lg3, DS.di_, DS.di1, DS.ps0, DS.ps_, DS.ps1, DS.ps2, DS.ps3, DS.ps4, DS.ky_s, DS.ky_i, DS.imm_b, DS.imm_i, DS.imm_s, DS.yes_, lim, List.map_cons, List.map_nil, List.replicate, List.set, isi_s, g]
  cases t with
  | vr x => exact one (n + 1) x h
  | ca =>
    have e := entry0 (fuel := fuel) M n TD.a (d := .int M.a0) rfl R
    show runF 5 (b__law_value fuel (pr fuel (n + 1))) _ _ = _
    simp [b__law_value, Tm.d, DS.oK_s, DS.oV_s, DS.var_, DS.c_, DS.op_, DS.op1, DS.op2, DS.ix_, DS.ix1, DS.ix2, DS.cb_, DS.cb1, DS.cl_, DS.cl1, DS.nil_, DS.cn_, DS.cn1, DS.cn2, DS.tup_, DS.lst_, DS.lst_', DS.l_, DS.tup1, DS.lst1, DS.lst1', DS.l1, DS.if_, DS.if_t, DS.if_f, DS.tr_, DS.tr1, DS.oT_s, DS.b_, DS.b1, DS.and_, DS.or_, DS.not_, DS.and_t, DS.and_f, DS.or_t, DS.or_f, DS.not1, DS.av_, DS.ov_, DS.nv_, DS.av_t, DS.av_f, DS.ov_t, DS.ov_f, DS.nv1, DS.truth_b, DS.kd_, DS.kd1, DS.oG_s, DS.dg_, DS.dg1, DS.dg2, DS.sl_, DS.sl1, DS.sl2, DS.sl3, DS.part_, DS.part1, DS.nop_, DS.oL_s, DS.it_, DS.it_l, DS.it_t, DS.r1_, DS.r11, DS.lc_, DS.lc1, DS.oLc_s, DS.d_, DS.d1, DS.seq_, DS.bd_n, DS.bd_r, DS.nx_, DS.evF_, DS.evI_, DS.ev1, DS.asg_, DS.store_, DS.asgI_, DS.imm1, DS.ifs_, DS.ifs_t, DS.ifs_f, DS.ret_, DS.ret1, DS.par_, DS.par1, DS.for_, DS.exp_, DS.dput_, DS.asgD_, DS.ownD1, DS.wp0, DS.wp1, DS.for0, DS.run_, DS.run_r, DS.run_n, DS.dc_, DS.dc1, DS.ot_, DS.ot1, DS.dp_s, DS.dp_i, DS.dp1, DS.for1, DS.for2, DS.for3, DS.lg0, DS.lg_, DS.lg1, DS.lg1f, DS.lg2, DS.lg3, DS.di_, DS.di1, DS.ps0, DS.ps_, DS.ps1, DS.ps2, DS.ps3, DS.ps4, DS.ky_s, DS.ky_i, DS.imm_b, DS.imm_i, DS.imm_s, DS.yes_, dIx, atI, ixN, lim, List.map_cons, List.map_nil, List.replicate, List.set, cLen, isi_t, sl1_, e, tmv]
  | fn x =>
    have q := (s.vl h).2
    have e := entry1 (fuel := fuel) M n (vl V x) TD.f (at_int q.1 (by rw [M.hf.1]; omega)) R
    have e1 := one n x h
    show runF 5 (b__law_value fuel (pr fuel (n + 1))) _ _ = _
    simp [b__law_value, Tm.d, DS.oK_s, DS.oV_s, DS.var_, DS.c_, DS.op_, DS.op1, DS.op2, DS.ix_, DS.ix1, DS.ix2, DS.cb_, DS.cb1, DS.cl_, DS.cl1, DS.nil_, DS.cn_, DS.cn1, DS.cn2, DS.tup_, DS.lst_, DS.lst_', DS.l_, DS.tup1, DS.lst1, DS.lst1', DS.l1, DS.if_, DS.if_t, DS.if_f, DS.tr_, DS.tr1, DS.oT_s, DS.b_, DS.b1, DS.and_, DS.or_, DS.not_, DS.and_t, DS.and_f, DS.or_t, DS.or_f, DS.not1, DS.av_, DS.ov_, DS.nv_, DS.av_t, DS.av_f, DS.ov_t, DS.ov_f, DS.nv1, DS.truth_b, DS.kd_, DS.kd1, DS.oG_s, DS.dg_, DS.dg1, DS.dg2, DS.sl_, DS.sl1, DS.sl2, DS.sl3, DS.part_, DS.part1, DS.nop_, DS.oL_s, DS.it_, DS.it_l, DS.it_t, DS.r1_, DS.r11, DS.lc_, DS.lc1, DS.oLc_s, DS.d_, DS.d1, DS.seq_, DS.bd_n, DS.bd_r, DS.nx_, DS.evF_, DS.evI_, DS.ev1, DS.asg_, DS.store_, DS.asgI_, DS.imm1, DS.ifs_, DS.ifs_t, DS.ifs_f, DS.ret_, DS.ret1, DS.par_, DS.par1, DS.for_, DS.exp_, DS.dput_, DS.asgD_, DS.ownD1, DS.wp0, DS.wp1, DS.for0, DS.run_, DS.run_r, DS.run_n, DS.dc_, DS.dc1, DS.ot_, DS.ot1, DS.dp_s, DS.dp_i, DS.dp1, DS.for1, DS.for2, DS.for3, DS.lg0, DS.lg_, DS.lg1, DS.lg1f, DS.lg2, DS.lg3, DS.di_, DS.di1, DS.ps0, DS.ps_, DS.ps1, DS.ps2, DS.ps3, DS.ps4, DS.ky_s, DS.ky_i, DS.imm_b, DS.imm_i, DS.imm_s, DS.yes_, dIx, atI, ixN, lim, List.map_cons, List.map_nil, List.replicate, List.set, cLen, isi_t, sl2_, e, e1, tmv]

theorem basic_ok (M : Tb) {T : Vs} (TD : TbD M T) {N : Str → Prop} {V : Vs} (s : Sc N V M.z) (n : Nat) (x : Bs) (h : x.okN N) (R : Rs) : pr fuel (n + 3) 7 [.dic T, .int M.z, x.d, .dic V] R = .ok (.bl (bsv M V x)) R := by
  show runF 9 (b__law_true fuel (pr fuel (n + 2))) _ _ = _
  cases x with
  | same t u =>
    have e1 := value_ok (fuel := fuel) M TD s n t h.1 R
    have e2 := value_ok (fuel := fuel) M TD s n u h.2 R
    simp [b__law_true, Bs.d, Bs.w, Bs.r, DS.oK_s, DS.oV_s, DS.var_, DS.c_, DS.op_, DS.op1, DS.op2, DS.ix_, DS.ix1, DS.ix2, DS.cb_, DS.cb1, DS.cl_, DS.cl1, DS.nil_, DS.cn_, DS.cn1, DS.cn2, DS.tup_, DS.lst_, DS.lst_', DS.l_, DS.tup1, DS.lst1, DS.lst1', DS.l1, DS.if_, DS.if_t, DS.if_f, DS.tr_, DS.tr1, DS.oT_s, DS.b_, DS.b1, DS.and_, DS.or_, DS.not_, DS.and_t, DS.and_f, DS.or_t, DS.or_f, DS.not1, DS.av_, DS.ov_, DS.nv_, DS.av_t, DS.av_f, DS.ov_t, DS.ov_f, DS.nv1, DS.truth_b, DS.kd_, DS.kd1, DS.oG_s, DS.dg_, DS.dg1, DS.dg2, DS.sl_, DS.sl1, DS.sl2, DS.sl3, DS.part_, DS.part1, DS.nop_, DS.oL_s, DS.it_, DS.it_l, DS.it_t, DS.r1_, DS.r11, DS.lc_, DS.lc1, DS.oLc_s, DS.d_, DS.d1, DS.seq_, DS.bd_n, DS.bd_r, DS.nx_, DS.evF_, DS.evI_, DS.ev1, DS.asg_, DS.store_, DS.asgI_, DS.imm1, DS.ifs_, DS.ifs_t, DS.ifs_f, DS.ret_, DS.ret1, DS.par_, DS.par1, DS.for_, DS.exp_, DS.dput_, DS.asgD_, DS.ownD1, DS.wp0, DS.wp1, DS.for0, DS.run_, DS.run_r, DS.run_n, DS.dc_, DS.dc1, DS.ot_, DS.ot1, DS.dp_s, DS.dp_i, DS.dp1, DS.for1, DS.for2, DS.for3, DS.lg0, DS.lg_, DS.lg1, DS.lg1f, DS.lg2, DS.lg3, DS.di_, DS.di1, DS.ps0, DS.ps_, DS.ps1, DS.ps2, DS.ps3, DS.ps4, DS.ky_s, DS.ky_i, DS.imm_b, DS.imm_i, DS.imm_s, DS.yes_, dIx, atI, ixN, lim, List.map_cons, List.map_nil, List.replicate, List.set, cLen, q_same_holds, q_same_same, q_same_not, q_same_all, q_same_some, q_same_and, q_same_or, q_same_implies, q_same_iff, i_same_hs, i_same_as, i_same_ao, e1, e2, dEq_int, bsv]
  | R t u =>
    have e1 := value_ok (fuel := fuel) M TD s n t h.1 R
    have e2 := value_ok (fuel := fuel) M TD s n u h.2 R
    have b1 := tmv_b M s t h.1
    have b2 := tmv_b M s u h.2
    have b3 : 0 ≤ tmv M V t * M.z := Int.mul_nonneg b1.1 (by omega)
    have b4 : tmv M V t * M.z ≤ (M.z - 1) * M.z := Int.mul_le_mul_of_nonneg_right (by omega) (by omega)
    have b5 : (M.z - 1) * M.z = M.z * M.z - M.z := by rw [Int.sub_mul, Int.one_mul]
    have e := entry2 (fuel := fuel) M (n + 1) (tmv M V t) (tmv M V u) TD.r (at_bl (by omega) (by rw [M.hr]; omega)) R
    simp [b__law_true, Bs.d, Bs.w, Bs.r, DS.oK_s, DS.oV_s, DS.var_, DS.c_, DS.op_, DS.op1, DS.op2, DS.ix_, DS.ix1, DS.ix2, DS.cb_, DS.cb1, DS.cl_, DS.cl1, DS.nil_, DS.cn_, DS.cn1, DS.cn2, DS.tup_, DS.lst_, DS.lst_', DS.l_, DS.tup1, DS.lst1, DS.lst1', DS.l1, DS.if_, DS.if_t, DS.if_f, DS.tr_, DS.tr1, DS.oT_s, DS.b_, DS.b1, DS.and_, DS.or_, DS.not_, DS.and_t, DS.and_f, DS.or_t, DS.or_f, DS.not1, DS.av_, DS.ov_, DS.nv_, DS.av_t, DS.av_f, DS.ov_t, DS.ov_f, DS.nv1, DS.truth_b, DS.kd_, DS.kd1, DS.oG_s, DS.dg_, DS.dg1, DS.dg2, DS.sl_, DS.sl1, DS.sl2, DS.sl3, DS.part_, DS.part1, DS.nop_, DS.oL_s, DS.it_, DS.it_l, DS.it_t, DS.r1_, DS.r11, DS.lc_, DS.lc1, DS.oLc_s, DS.d_, DS.d1, DS.seq_, DS.bd_n, DS.bd_r, DS.nx_, DS.evF_, DS.evI_, DS.ev1, DS.asg_, DS.store_, DS.asgI_, DS.imm1, DS.ifs_, DS.ifs_t, DS.ifs_f, DS.ret_, DS.ret1, DS.par_, DS.par1, DS.for_, DS.exp_, DS.dput_, DS.asgD_, DS.ownD1, DS.wp0, DS.wp1, DS.for0, DS.run_, DS.run_r, DS.run_n, DS.dc_, DS.dc1, DS.ot_, DS.ot1, DS.dp_s, DS.dp_i, DS.dp1, DS.for1, DS.for2, DS.for3, DS.lg0, DS.lg_, DS.lg1, DS.lg1f, DS.lg2, DS.lg3, DS.di_, DS.di1, DS.ps0, DS.ps_, DS.ps1, DS.ps2, DS.ps3, DS.ps4, DS.ky_s, DS.ky_i, DS.imm_b, DS.imm_i, DS.imm_s, DS.yes_, dIx, atI, ixN, lim, List.map_cons, List.map_nil, List.replicate, List.set, cLen, q_holds_holds, q_holds_same, q_holds_not, q_holds_all, q_holds_some, q_holds_and, q_holds_or, q_holds_implies, q_holds_iff, i_holds_hs, i_holds_as, i_holds_ao, e1, e2, sl3_, e, bsv]
  | P t =>
    have e1 := value_ok (fuel := fuel) M TD s n t h R
    have b1 := tmv_b M s t h
    have e := entry1 (fuel := fuel) M (n + 1) (tmv M V t) TD.p (at_bl b1.1 (by rw [M.hp]; omega)) R
    simp [b__law_true, Bs.d, Bs.w, Bs.r, DS.oK_s, DS.oV_s, DS.var_, DS.c_, DS.op_, DS.op1, DS.op2, DS.ix_, DS.ix1, DS.ix2, DS.cb_, DS.cb1, DS.cl_, DS.cl1, DS.nil_, DS.cn_, DS.cn1, DS.cn2, DS.tup_, DS.lst_, DS.lst_', DS.l_, DS.tup1, DS.lst1, DS.lst1', DS.l1, DS.if_, DS.if_t, DS.if_f, DS.tr_, DS.tr1, DS.oT_s, DS.b_, DS.b1, DS.and_, DS.or_, DS.not_, DS.and_t, DS.and_f, DS.or_t, DS.or_f, DS.not1, DS.av_, DS.ov_, DS.nv_, DS.av_t, DS.av_f, DS.ov_t, DS.ov_f, DS.nv1, DS.truth_b, DS.kd_, DS.kd1, DS.oG_s, DS.dg_, DS.dg1, DS.dg2, DS.sl_, DS.sl1, DS.sl2, DS.sl3, DS.part_, DS.part1, DS.nop_, DS.oL_s, DS.it_, DS.it_l, DS.it_t, DS.r1_, DS.r11, DS.lc_, DS.lc1, DS.oLc_s, DS.d_, DS.d1, DS.seq_, DS.bd_n, DS.bd_r, DS.nx_, DS.evF_, DS.evI_, DS.ev1, DS.asg_, DS.store_, DS.asgI_, DS.imm1, DS.ifs_, DS.ifs_t, DS.ifs_f, DS.ret_, DS.ret1, DS.par_, DS.par1, DS.for_, DS.exp_, DS.dput_, DS.asgD_, DS.ownD1, DS.wp0, DS.wp1, DS.for0, DS.run_, DS.run_r, DS.run_n, DS.dc_, DS.dc1, DS.ot_, DS.ot1, DS.dp_s, DS.dp_i, DS.dp1, DS.for1, DS.for2, DS.for3, DS.lg0, DS.lg_, DS.lg1, DS.lg1f, DS.lg2, DS.lg3, DS.di_, DS.di1, DS.ps0, DS.ps_, DS.ps1, DS.ps2, DS.ps3, DS.ps4, DS.ky_s, DS.ky_i, DS.imm_b, DS.imm_i, DS.imm_s, DS.yes_, dIx, atI, ixN, lim, List.map_cons, List.map_nil, List.replicate, List.set, cLen, q_holds_holds, q_holds_same, q_holds_not, q_holds_all, q_holds_some, q_holds_and, q_holds_or, q_holds_implies, q_holds_iff, i_holds_hs, i_holds_as, i_holds_ao, e1, sl2_, e, bsv]
  | Q =>
    have e := entry0 (fuel := fuel) M (n + 1) TD.q (d := .bl M.q0) rfl R
    simp [b__law_true, Bs.d, Bs.w, Bs.r, DS.oK_s, DS.oV_s, DS.var_, DS.c_, DS.op_, DS.op1, DS.op2, DS.ix_, DS.ix1, DS.ix2, DS.cb_, DS.cb1, DS.cl_, DS.cl1, DS.nil_, DS.cn_, DS.cn1, DS.cn2, DS.tup_, DS.lst_, DS.lst_', DS.l_, DS.tup1, DS.lst1, DS.lst1', DS.l1, DS.if_, DS.if_t, DS.if_f, DS.tr_, DS.tr1, DS.oT_s, DS.b_, DS.b1, DS.and_, DS.or_, DS.not_, DS.and_t, DS.and_f, DS.or_t, DS.or_f, DS.not1, DS.av_, DS.ov_, DS.nv_, DS.av_t, DS.av_f, DS.ov_t, DS.ov_f, DS.nv1, DS.truth_b, DS.kd_, DS.kd1, DS.oG_s, DS.dg_, DS.dg1, DS.dg2, DS.sl_, DS.sl1, DS.sl2, DS.sl3, DS.part_, DS.part1, DS.nop_, DS.oL_s, DS.it_, DS.it_l, DS.it_t, DS.r1_, DS.r11, DS.lc_, DS.lc1, DS.oLc_s, DS.d_, DS.d1, DS.seq_, DS.bd_n, DS.bd_r, DS.nx_, DS.evF_, DS.evI_, DS.ev1, DS.asg_, DS.store_, DS.asgI_, DS.imm1, DS.ifs_, DS.ifs_t, DS.ifs_f, DS.ret_, DS.ret1, DS.par_, DS.par1, DS.for_, DS.exp_, DS.dput_, DS.asgD_, DS.ownD1, DS.wp0, DS.wp1, DS.for0, DS.run_, DS.run_r, DS.run_n, DS.dc_, DS.dc1, DS.ot_, DS.ot1, DS.dp_s, DS.dp_i, DS.dp1, DS.for1, DS.for2, DS.for3, DS.lg0, DS.lg_, DS.lg1, DS.lg1f, DS.lg2, DS.lg3, DS.di_, DS.di1, DS.ps0, DS.ps_, DS.ps1, DS.ps2, DS.ps3, DS.ps4, DS.ky_s, DS.ky_i, DS.imm_b, DS.imm_i, DS.imm_s, DS.yes_, dIx, atI, ixN, lim, List.map_cons, List.map_nil, List.replicate, List.set, cLen, q_holds_holds, q_holds_same, q_holds_not, q_holds_all, q_holds_some, q_holds_and, q_holds_or, q_holds_implies, q_holds_iff, i_holds_hs, i_holds_as, i_holds_ao, sl1_, e, bsv]
theorem len_set (V : Vs) (k : Key) (d : D) : (setK V k d).length ≤ V.length + 1 := by
  unfold setK
  split
  · rw [List.length_map]; omega
  · rw [List.length_append]; exact Nat.le_refl _
def bdy (C : Nat → List D → Rs → Out D) : Sx := (sSeq (sAsgD [6] 6 (xDCopy (xCons (xVar 3) xNil)))
    (sSeq (isOwnD 6 (sDPut' [6] 6 (xIx (xVar 2) (xC (.int 1))) (xVar 5)))
    (sIf (xB (xOp dEq (xCall (C 7) (xCons (xVar 0) (xCons (xVar 1) (xCons (xIx (xVar 2) (xC (.int 2))) (xCons (xVar 6) xNil))))) (xVar 4))) (sRet false [6] (xVar 4)) sNext)))
theorem bdy_ok {C : Nat → List D → Rs → Out D} {T V : Vs} {z i : Int} {w x : Str} {s : D} {b want : Bool} {R : Rs} {y5 y6 : Option D} (h : C 7 [.dic T, .int z, s, .dic (setK V (.inr x) (.int i))] R = .ok (.bl b) R) (hl : V.length < 1000000) :
    bdy C [some (.dic T), some (.int z), some (.tup [.str w, .str x, s]), some (.dic V), some (.bl want), some (.int i), y6] R =
      if b == want then .ret (.bl want) R else .next [some (.dic T), some (.int z), some (.tup [.str w, .str x, s]), some (.dic V), some (.bl want), some (.int i), some (.dic (setK V (.inr x) (.int i)))] R := by
  cases b <;> cases want <;> simp [bdy, DS.oK_s, DS.oV_s, DS.var_, DS.c_, DS.op_, DS.op1, DS.op2, DS.ix_, DS.ix1, DS.ix2, DS.cb_, DS.cb1, DS.cl_, DS.cl1, DS.nil_, DS.cn_, DS.cn1, DS.cn2, DS.tup_, DS.lst_, DS.lst_', DS.l_, DS.tup1, DS.lst1, DS.lst1', DS.l1, DS.if_, DS.if_t, DS.if_f, DS.tr_, DS.tr1, DS.oT_s, DS.b_, DS.b1, DS.and_, DS.or_, DS.not_, DS.and_t, DS.and_f, DS.or_t, DS.or_f, DS.not1, DS.av_, DS.ov_, DS.nv_, DS.av_t, DS.av_f, DS.ov_t, DS.ov_f, DS.nv1, DS.truth_b, DS.kd_, DS.kd1, DS.oG_s, DS.dg_, DS.dg1, DS.dg2, DS.sl_, DS.sl1, DS.sl2, DS.sl3, DS.part_, DS.part1, DS.nop_, DS.oL_s, DS.it_, DS.it_l, DS.it_t, DS.r1_, DS.r11, DS.lc_, DS.lc1, DS.oLc_s, DS.d_, DS.d1, DS.seq_, DS.bd_n, DS.bd_r, DS.nx_, DS.evF_, DS.evI_, DS.ev1, DS.asg_, DS.store_, DS.asgI_, DS.imm1, DS.ifs_, DS.ifs_t, DS.ifs_f, DS.ret_, DS.ret1, DS.par_, DS.par1, DS.for_, DS.exp_, DS.dput_, DS.asgD_, DS.ownD1, DS.wp0, DS.wp1, DS.for0, DS.run_, DS.run_r, DS.run_n, DS.dc_, DS.dc1, DS.ot_, DS.ot1, DS.dp_s, DS.dp_i, DS.dp1, DS.for1, DS.for2, DS.for3, DS.lg0, DS.lg_, DS.lg1, DS.lg1f, DS.lg2, DS.lg3, DS.di_, DS.di1, DS.ps0, DS.ps_, DS.ps1, DS.ps2, DS.ps3, DS.ps4, DS.ky_s, DS.ky_i, DS.imm_b, DS.imm_i, DS.imm_s, DS.yes_, dIx, atI, ixN, lim, List.map_cons, List.map_nil, List.replicate, List.set, cLen, h, hl, dEq_bl]
/-- the search for a thing -/
theorem loop_ok {C : Nat → List D → Rs → Out D} {T V : Vs} {z : Int} {w x : Str} {s : D} {want : Bool} {R : Rs} {f : Nat → Bool} (hl : V.length < 1000000) :
    ∀ (is : List Nat) (y5 y6 : Option D), (∀ i ∈ is, C 7 [.dic T, .int z, s, .dic (setK V (.inr x) (.int (i : Nat)))] R = .ok (.bl (f i)) R) → 
      ((is.any fun i => f i == want) = true → forGo (gNm 5) (bdy C) (is.map fun i => D.int (i : Nat)) [some (.dic T), some (.int z), some (.tup [.str w, .str x, s]), some (.dic V), some (.bl want), y5, y6] R = .ret (.bl want) R) ∧
      ((is.any fun i => f i == want) = false → ∃ y5' y6', forGo (gNm 5) (bdy C) (is.map fun i => D.int (i : Nat)) [some (.dic T), some (.int z), some (.tup [.str w, .str x, s]), some (.dic V), some (.bl want), y5, y6] R = .next [some (.dic T), some (.int z), some (.tup [.str w, .str x, s]), some (.dic V), some (.bl want), y5', y6'] R)
  | [], y5, y6, h => ⟨fun q => absurd q (by simp), fun _ => ⟨y5, y6, rfl⟩⟩
  | i :: is, y5, y6, h => by
    have B := bdy_ok (y5 := y5) (y6 := y6) (w := w) (want := want) (h i List.mem_cons_self) hl
    have ih := loop_ok (w := w) (want := want) hl is (some (.int (i : Nat))) (some (.dic (setK V (.inr x) (.int (i : Nat))))) fun j m => h j (List.mem_cons_of_mem _ m)
    rw [List.map_cons, List.any_cons]
    generalize ((i : Nat) : Int) = ii at *
    cases e : (f i == want) with
    | true =>
      rw [e, if_pos rfl] at B
      refine ⟨fun _ => for_rt rfl B, fun q => absurd q (by simp)⟩
    | false =>
      rw [e, if_neg (by simp)] at B
      rw [Bool.false_or, for_nx rfl B]
      exact ih
theorem sv_q (M : Tb) (V : Vs) (a : Bool) (x : Str) (s : Se) : sv M V (.q a x s) = if (List.range M.z.toNat).any (fun i => sv M (setK V (.inr x) (.int i)) s == !a) then !a else a := by
  cases a
  · rw [sv]
    simp
  · rw [sv]
    rw [← Bool.not_not ((List.range M.z.toNat).all _), List.not_all_eq_any_not]
    simp
theorem bound_ok (M : Tb) {T V : Vs} {x : Str} {s : Se} {a : Bool} {n : Nat} {R : Rs} (hl : V.length < 1000000)
    (h : ∀ i ∈ List.range M.z.toNat, pr fuel n 7 [.dic T, .int M.z, s.d, .dic (setK V (.inr x) (.int (i : Nat)))] R = .ok (.bl (sv M (setK V (.inr x) (.int (i : Nat))) s)) R) :
    pr fuel (n + 1) 6 [.dic T, .int M.z, (Se.q a x s).d, .dic V] R = .ok (.bl (sv M V (.q a x s))) R := by
  show runF 7 (b__law_bound fuel (pr fuel n)) _ _ = _
  have L := loop_ok (w := if a then "all" else "some") (want := !a) (f := fun i => sv M (setK V (.inr x) (.int (i : Nat))) s) hl (List.range M.z.toNat) none none h
  rw [sv_q]
  have e : rng 0 M.z.toNat = (List.range M.z.toNat).map fun i => D.int (i : Nat) := by
    unfold rng
    simp
  change runF 7 (sSeq _ (sSeq (sFor [6] _ (gNm 5) (bdy (pr fuel n))) _)) _ _ = _
  cases q : (List.range M.z.toNat).any (fun i => sv M (setK V (.inr x) (.int i)) s == !a) with
  | true =>
    have L1 := L.1 q
    cases a <;> simp [Se.d, DS.oK_s, DS.oV_s, DS.var_, DS.c_, DS.op_, DS.op1, DS.op2, DS.ix_, DS.ix1, DS.ix2, DS.cb_, DS.cb1, DS.cl_, DS.cl1, DS.nil_, DS.cn_, DS.cn1, DS.cn2, DS.tup_, DS.lst_, DS.lst_', DS.l_, DS.tup1, DS.lst1, DS.lst1', DS.l1, DS.if_, DS.if_t, DS.if_f, DS.tr_, DS.tr1, DS.oT_s, DS.b_, DS.b1, DS.and_, DS.or_, DS.not_, DS.and_t, DS.and_f, DS.or_t, DS.or_f, DS.not1, DS.av_, DS.ov_, DS.nv_, DS.av_t, DS.av_f, DS.ov_t, DS.ov_f, DS.nv1, DS.truth_b, DS.kd_, DS.kd1, DS.oG_s, DS.dg_, DS.dg1, DS.dg2, DS.sl_, DS.sl1, DS.sl2, DS.sl3, DS.part_, DS.part1, DS.nop_, DS.oL_s, DS.it_, DS.it_l, DS.it_t, DS.r1_, DS.r11, DS.lc_, DS.lc1, DS.oLc_s, DS.d_, DS.d1, DS.seq_, DS.bd_n, DS.bd_r, DS.nx_, DS.evF_, DS.evI_, DS.ev1, DS.asg_, DS.store_, DS.asgI_, DS.imm1, DS.ifs_, DS.ifs_t, DS.ifs_f, DS.ret_, DS.ret1, DS.par_, DS.par1, DS.for_, DS.exp_, DS.dput_, DS.asgD_, DS.ownD1, DS.wp0, DS.wp1, DS.for0, DS.run_, DS.run_r, DS.run_n, DS.dc_, DS.dc1, DS.ot_, DS.ot1, DS.dp_s, DS.dp_i, DS.dp1, DS.for1, DS.for2, DS.for3, DS.lg0, DS.lg_, DS.lg1, DS.lg1f, DS.lg2, DS.lg3, DS.di_, DS.di1, DS.ps0, DS.ps_, DS.ps1, DS.ps2, DS.ps3, DS.ps4, DS.ky_s, DS.ky_i, DS.imm_b, DS.imm_i, DS.imm_s, DS.yes_, dIx, atI, ixN, lim, List.map_cons, List.map_nil, List.replicate, List.set, cLen, q_all_holds, q_all_same, q_all_not, q_all_all, q_all_some, q_all_and, q_all_or, q_all_implies, q_all_iff, i_all_hs, i_all_as, i_all_ao, q_some_holds, q_some_same, q_some_not, q_some_all, q_some_some, q_some_and, q_some_or, q_some_implies, q_some_iff, i_some_hs, i_some_as, i_some_ao, M.bg, e] <;> simp at L1 <;> simp [L1, DS.oK_s, DS.oV_s, DS.var_, DS.c_, DS.op_, DS.op1, DS.op2, DS.ix_, DS.ix1, DS.ix2, DS.cb_, DS.cb1, DS.cl_, DS.cl1, DS.nil_, DS.cn_, DS.cn1, DS.cn2, DS.tup_, DS.lst_, DS.lst_', DS.l_, DS.tup1, DS.lst1, DS.lst1', DS.l1, DS.if_, DS.if_t, DS.if_f, DS.tr_, DS.tr1, DS.oT_s, DS.b_, DS.b1, DS.and_, DS.or_, DS.not_, DS.and_t, DS.and_f, DS.or_t, DS.or_f, DS.not1, DS.av_, DS.ov_, DS.nv_, DS.av_t, DS.av_f, DS.ov_t, DS.ov_f, DS.nv1, DS.truth_b, DS.kd_, DS.kd1, DS.oG_s, DS.dg_, DS.dg1, DS.dg2, DS.sl_, DS.sl1, DS.sl2, DS.sl3, DS.part_, DS.part1, DS.nop_, DS.oL_s, DS.it_, DS.it_l, DS.it_t, DS.r1_, DS.r11, DS.lc_, DS.lc1, DS.oLc_s, DS.d_, DS.d1, DS.seq_, DS.bd_n, DS.bd_r, DS.nx_, DS.evF_, DS.evI_, DS.ev1, DS.asg_, DS.store_, DS.asgI_, DS.imm1, DS.ifs_, DS.ifs_t, DS.ifs_f, DS.ret_, DS.ret1, DS.par_, DS.par1, DS.for_, DS.exp_, DS.dput_, DS.asgD_, DS.ownD1, DS.wp0, DS.wp1, DS.for0, DS.run_, DS.run_r, DS.run_n, DS.dc_, DS.dc1, DS.ot_, DS.ot1, DS.dp_s, DS.dp_i, DS.dp1, DS.for1, DS.for2, DS.for3, DS.lg0, DS.lg_, DS.lg1, DS.lg1f, DS.lg2, DS.lg3, DS.di_, DS.di1, DS.ps0, DS.ps_, DS.ps1, DS.ps2, DS.ps3, DS.ps4, DS.ky_s, DS.ky_i, DS.imm_b, DS.imm_i, DS.imm_s, DS.yes_, dIx, atI, ixN, lim, List.map_cons, List.map_nil, List.replicate, List.set, cLen]
  | false =>
    obtain ⟨y5, y6, L2⟩ := L.2 q
    cases a <;> simp [Se.d, DS.oK_s, DS.oV_s, DS.var_, DS.c_, DS.op_, DS.op1, DS.op2, DS.ix_, DS.ix1, DS.ix2, DS.cb_, DS.cb1, DS.cl_, DS.cl1, DS.nil_, DS.cn_, DS.cn1, DS.cn2, DS.tup_, DS.lst_, DS.lst_', DS.l_, DS.tup1, DS.lst1, DS.lst1', DS.l1, DS.if_, DS.if_t, DS.if_f, DS.tr_, DS.tr1, DS.oT_s, DS.b_, DS.b1, DS.and_, DS.or_, DS.not_, DS.and_t, DS.and_f, DS.or_t, DS.or_f, DS.not1, DS.av_, DS.ov_, DS.nv_, DS.av_t, DS.av_f, DS.ov_t, DS.ov_f, DS.nv1, DS.truth_b, DS.kd_, DS.kd1, DS.oG_s, DS.dg_, DS.dg1, DS.dg2, DS.sl_, DS.sl1, DS.sl2, DS.sl3, DS.part_, DS.part1, DS.nop_, DS.oL_s, DS.it_, DS.it_l, DS.it_t, DS.r1_, DS.r11, DS.lc_, DS.lc1, DS.oLc_s, DS.d_, DS.d1, DS.seq_, DS.bd_n, DS.bd_r, DS.nx_, DS.evF_, DS.evI_, DS.ev1, DS.asg_, DS.store_, DS.asgI_, DS.imm1, DS.ifs_, DS.ifs_t, DS.ifs_f, DS.ret_, DS.ret1, DS.par_, DS.par1, DS.for_, DS.exp_, DS.dput_, DS.asgD_, DS.ownD1, DS.wp0, DS.wp1, DS.for0, DS.run_, DS.run_r, DS.run_n, DS.dc_, DS.dc1, DS.ot_, DS.ot1, DS.dp_s, DS.dp_i, DS.dp1, DS.for1, DS.for2, DS.for3, DS.lg0, DS.lg_, DS.lg1, DS.lg1f, DS.lg2, DS.lg3, DS.di_, DS.di1, DS.ps0, DS.ps_, DS.ps1, DS.ps2, DS.ps3, DS.ps4, DS.ky_s, DS.ky_i, DS.imm_b, DS.imm_i, DS.imm_s, DS.yes_, dIx, atI, ixN, lim, List.map_cons, List.map_nil, List.replicate, List.set, cLen, q_all_holds, q_all_same, q_all_not, q_all_all, q_all_some, q_all_and, q_all_or, q_all_implies, q_all_iff, i_all_hs, i_all_as, i_all_ao, q_some_holds, q_some_same, q_some_not, q_some_all, q_some_some, q_some_and, q_some_or, q_some_implies, q_some_iff, i_some_hs, i_some_as, i_some_ao, M.bg, e] <;> simp at L2 <;> simp [L2, DS.oK_s, DS.oV_s, DS.var_, DS.c_, DS.op_, DS.op1, DS.op2, DS.ix_, DS.ix1, DS.ix2, DS.cb_, DS.cb1, DS.cl_, DS.cl1, DS.nil_, DS.cn_, DS.cn1, DS.cn2, DS.tup_, DS.lst_, DS.lst_', DS.l_, DS.tup1, DS.lst1, DS.lst1', DS.l1, DS.if_, DS.if_t, DS.if_f, DS.tr_, DS.tr1, DS.oT_s, DS.b_, DS.b1, DS.and_, DS.or_, DS.not_, DS.and_t, DS.and_f, DS.or_t, DS.or_f, DS.not1, DS.av_, DS.ov_, DS.nv_, DS.av_t, DS.av_f, DS.ov_t, DS.ov_f, DS.nv1, DS.truth_b, DS.kd_, DS.kd1, DS.oG_s, DS.dg_, DS.dg1, DS.dg2, DS.sl_, DS.sl1, DS.sl2, DS.sl3, DS.part_, DS.part1, DS.nop_, DS.oL_s, DS.it_, DS.it_l, DS.it_t, DS.r1_, DS.r11, DS.lc_, DS.lc1, DS.oLc_s, DS.d_, DS.d1, DS.seq_, DS.bd_n, DS.bd_r, DS.nx_, DS.evF_, DS.evI_, DS.ev1, DS.asg_, DS.store_, DS.asgI_, DS.imm1, DS.ifs_, DS.ifs_t, DS.ifs_f, DS.ret_, DS.ret1, DS.par_, DS.par1, DS.for_, DS.exp_, DS.dput_, DS.asgD_, DS.ownD1, DS.wp0, DS.wp1, DS.for0, DS.run_, DS.run_r, DS.run_n, DS.dc_, DS.dc1, DS.ot_, DS.ot1, DS.dp_s, DS.dp_i, DS.dp1, DS.for1, DS.for2, DS.for3, DS.lg0, DS.lg_, DS.lg1, DS.lg1f, DS.lg2, DS.lg3, DS.di_, DS.di1, DS.ps0, DS.ps_, DS.ps1, DS.ps2, DS.ps3, DS.ps4, DS.ky_s, DS.ky_i, DS.imm_b, DS.imm_i, DS.imm_s, DS.yes_, dIx, atI, ixN, lim, List.map_cons, List.map_nil, List.replicate, List.set, cLen]
theorem true_ok (M : Tb) {T : Vs} (TD : TbD M T) : ∀ (s : Se) (n : Nat) (N : Str → Prop) (V : Vs) (R : Rs), Sc N V M.z → s.okN N → 2 * ht s + 3 ≤ n → V.length + ht s < 1000000 → pr fuel n 7 [.dic T, .int M.z, s.d, .dic V] R = .ok (.bl (sv M V s)) R
  | .b x, n, N, V, R, s, h, hn, hl => by
    obtain ⟨m, rfl⟩ : ∃ m, n = m + 3 := ⟨n - 3, by simp [ht] at hn; omega⟩
    exact basic_ok M TD s m x h R
  | .no s, n, N, V, R, c, h, hn, hl => by
    obtain ⟨m, rfl⟩ : ∃ m, n = m + 1 := ⟨n - 1, by omega⟩
    have e := true_ok M TD s m N V R c h (by simp only [ht] at hn; omega) (by simp only [ht] at hl; omega)
    show runF 9 (b__law_true fuel (pr fuel m)) _ _ = _
    simp [b__law_true, Se.d, DS.oK_s, DS.oV_s, DS.var_, DS.c_, DS.op_, DS.op1, DS.op2, DS.ix_, DS.ix1, DS.ix2, DS.cb_, DS.cb1, DS.cl_, DS.cl1, DS.nil_, DS.cn_, DS.cn1, DS.cn2, DS.tup_, DS.lst_, DS.lst_', DS.l_, DS.tup1, DS.lst1, DS.lst1', DS.l1, DS.if_, DS.if_t, DS.if_f, DS.tr_, DS.tr1, DS.oT_s, DS.b_, DS.b1, DS.and_, DS.or_, DS.not_, DS.and_t, DS.and_f, DS.or_t, DS.or_f, DS.not1, DS.av_, DS.ov_, DS.nv_, DS.av_t, DS.av_f, DS.ov_t, DS.ov_f, DS.nv1, DS.truth_b, DS.kd_, DS.kd1, DS.oG_s, DS.dg_, DS.dg1, DS.dg2, DS.sl_, DS.sl1, DS.sl2, DS.sl3, DS.part_, DS.part1, DS.nop_, DS.oL_s, DS.it_, DS.it_l, DS.it_t, DS.r1_, DS.r11, DS.lc_, DS.lc1, DS.oLc_s, DS.d_, DS.d1, DS.seq_, DS.bd_n, DS.bd_r, DS.nx_, DS.evF_, DS.evI_, DS.ev1, DS.asg_, DS.store_, DS.asgI_, DS.imm1, DS.ifs_, DS.ifs_t, DS.ifs_f, DS.ret_, DS.ret1, DS.par_, DS.par1, DS.for_, DS.exp_, DS.dput_, DS.asgD_, DS.ownD1, DS.wp0, DS.wp1, DS.for0, DS.run_, DS.run_r, DS.run_n, DS.dc_, DS.dc1, DS.ot_, DS.ot1, DS.dp_s, DS.dp_i, DS.dp1, DS.for1, DS.for2, DS.for3, DS.lg0, DS.lg_, DS.lg1, DS.lg1f, DS.lg2, DS.lg3, DS.di_, DS.di1, DS.ps0, DS.ps_, DS.ps1, DS.ps2, DS.ps3, DS.ps4, DS.ky_s, DS.ky_i, DS.imm_b, DS.imm_i, DS.imm_s, DS.yes_, dIx, atI, ixN, lim, List.map_cons, List.map_nil, List.replicate, List.set, cLen, q_not_holds, q_not_same, q_not_not, q_not_all, q_not_some, q_not_and, q_not_or, q_not_implies, q_not_iff, i_not_hs, i_not_as, i_not_ao, e, sv]
  | .q a x s, n, N, V, R, c, h, hn, hl => by
    obtain ⟨m, rfl⟩ : ∃ m, n = m + 2 := ⟨n - 2, by omega⟩
    have e := bound_ok (fuel := fuel) M (T := T) (V := V) (x := x) (s := s) (a := a) (n := m) (R := R) (by omega) fun i hi => by
      have hi' := List.mem_range.mp hi
      exact true_ok M TD s m _ _ R (c.put x ⟨by omega, by omega⟩) h (by simp only [ht] at hn; omega) (by have := len_set V (.inr x) (.int (i : Nat)); simp only [ht] at hl; omega)
    show runF 9 (b__law_true fuel (pr fuel (m + 1))) _ _ = _
    cases a <;> simp [Se.d] at e <;> simp [b__law_true, Se.d, DS.oK_s, DS.oV_s, DS.var_, DS.c_, DS.op_, DS.op1, DS.op2, DS.ix_, DS.ix1, DS.ix2, DS.cb_, DS.cb1, DS.cl_, DS.cl1, DS.nil_, DS.cn_, DS.cn1, DS.cn2, DS.tup_, DS.lst_, DS.lst_', DS.l_, DS.tup1, DS.lst1, DS.lst1', DS.l1, DS.if_, DS.if_t, DS.if_f, DS.tr_, DS.tr1, DS.oT_s, DS.b_, DS.b1, DS.and_, DS.or_, DS.not_, DS.and_t, DS.and_f, DS.or_t, DS.or_f, DS.not1, DS.av_, DS.ov_, DS.nv_, DS.av_t, DS.av_f, DS.ov_t, DS.ov_f, DS.nv1, DS.truth_b, DS.kd_, DS.kd1, DS.oG_s, DS.dg_, DS.dg1, DS.dg2, DS.sl_, DS.sl1, DS.sl2, DS.sl3, DS.part_, DS.part1, DS.nop_, DS.oL_s, DS.it_, DS.it_l, DS.it_t, DS.r1_, DS.r11, DS.lc_, DS.lc1, DS.oLc_s, DS.d_, DS.d1, DS.seq_, DS.bd_n, DS.bd_r, DS.nx_, DS.evF_, DS.evI_, DS.ev1, DS.asg_, DS.store_, DS.asgI_, DS.imm1, DS.ifs_, DS.ifs_t, DS.ifs_f, DS.ret_, DS.ret1, DS.par_, DS.par1, DS.for_, DS.exp_, DS.dput_, DS.asgD_, DS.ownD1, DS.wp0, DS.wp1, DS.for0, DS.run_, DS.run_r, DS.run_n, DS.dc_, DS.dc1, DS.ot_, DS.ot1, DS.dp_s, DS.dp_i, DS.dp1, DS.for1, DS.for2, DS.for3, DS.lg0, DS.lg_, DS.lg1, DS.lg1f, DS.lg2, DS.lg3, DS.di_, DS.di1, DS.ps0, DS.ps_, DS.ps1, DS.ps2, DS.ps3, DS.ps4, DS.ky_s, DS.ky_i, DS.imm_b, DS.imm_i, DS.imm_s, DS.yes_, dIx, atI, ixN, lim, List.map_cons, List.map_nil, List.replicate, List.set, cLen, q_all_holds, q_all_same, q_all_not, q_all_all, q_all_some, q_all_and, q_all_or, q_all_implies, q_all_iff, i_all_hs, i_all_as, i_all_ao, q_some_holds, q_some_same, q_some_not, q_some_all, q_some_some, q_some_and, q_some_or, q_some_implies, q_some_iff, i_some_hs, i_some_as, i_some_ao, e]
  | .bin w s t, n, N, V, R, c, h, hn, hl => by
    obtain ⟨m, rfl⟩ : ∃ m, n = m + 1 := ⟨n - 1, by omega⟩
    have e1 := true_ok M TD s m N V R c h.1 (by simp only [ht] at hn; omega) (by simp only [ht] at hl; omega)
    have e2 := true_ok M TD t m N V R c h.2 (by simp only [ht] at hn; omega) (by simp only [ht] at hl; omega)
    show runF 9 (b__law_true fuel (pr fuel m)) _ _ = _
    cases w <;> cases q1 : sv M V s <;> cases q2 : sv M V t <;> simp [q1, q2] at e1 e2 <;> simp [b__law_true, Se.d, Bw.w, DS.oK_s, DS.oV_s, DS.var_, DS.c_, DS.op_, DS.op1, DS.op2, DS.ix_, DS.ix1, DS.ix2, DS.cb_, DS.cb1, DS.cl_, DS.cl1, DS.nil_, DS.cn_, DS.cn1, DS.cn2, DS.tup_, DS.lst_, DS.lst_', DS.l_, DS.tup1, DS.lst1, DS.lst1', DS.l1, DS.if_, DS.if_t, DS.if_f, DS.tr_, DS.tr1, DS.oT_s, DS.b_, DS.b1, DS.and_, DS.or_, DS.not_, DS.and_t, DS.and_f, DS.or_t, DS.or_f, DS.not1, DS.av_, DS.ov_, DS.nv_, DS.av_t, DS.av_f, DS.ov_t, DS.ov_f, DS.nv1, DS.truth_b, DS.kd_, DS.kd1, DS.oG_s, DS.dg_, DS.dg1, DS.dg2, DS.sl_, DS.sl1, DS.sl2, DS.sl3, DS.part_, DS.part1, DS.nop_, DS.oL_s, DS.it_, DS.it_l, DS.it_t, DS.r1_, DS.r11, DS.lc_, DS.lc1, DS.oLc_s, DS.d_, DS.d1, DS.seq_, DS.bd_n, DS.bd_r, DS.nx_, DS.evF_, DS.evI_, DS.ev1, DS.asg_, DS.store_, DS.asgI_, DS.imm1, DS.ifs_, DS.ifs_t, DS.ifs_f, DS.ret_, DS.ret1, DS.par_, DS.par1, DS.for_, DS.exp_, DS.dput_, DS.asgD_, DS.ownD1, DS.wp0, DS.wp1, DS.for0, DS.run_, DS.run_r, DS.run_n, DS.dc_, DS.dc1, DS.ot_, DS.ot1, DS.dp_s, DS.dp_i, DS.dp1, DS.for1, DS.for2, DS.for3, DS.lg0, DS.lg_, DS.lg1, DS.lg1f, DS.lg2, DS.lg3, DS.di_, DS.di1, DS.ps0, DS.ps_, DS.ps1, DS.ps2, DS.ps3, DS.ps4, DS.ky_s, DS.ky_i, DS.imm_b, DS.imm_i, DS.imm_s, DS.yes_, dIx, atI, ixN, lim, List.map_cons, List.map_nil, List.replicate, List.set, cLen, q_and_holds, q_and_same, q_and_not, q_and_all, q_and_some, q_and_and, q_and_or, q_and_implies, q_and_iff, i_and_hs, i_and_as, i_and_ao, q_or_holds, q_or_same, q_or_not, q_or_all, q_or_some, q_or_and, q_or_or, q_or_implies, q_or_iff, i_or_hs, i_or_as, i_or_ao, q_implies_holds, q_implies_same, q_implies_not, q_implies_all, q_implies_some, q_implies_and, q_implies_or, q_implies_implies, q_implies_iff, i_implies_hs, i_implies_as, i_implies_ao, q_iff_holds, q_iff_same, q_iff_not, q_iff_all, q_iff_some, q_iff_and, q_iff_or, q_iff_implies, q_iff_iff, i_iff_hs, i_iff_as, i_iff_ao, e1, e2, sv, q1, q2, dEq_bl]

/-! ### the draws -/
theorem take_n (n : Nat) {R : Rs} {a : Nat} (h : LSt R a) (ha : a < 1000000) {m : Int} (hm : 0 < m) : ∃ v R', pr fuel (n + 1) 3 [.loc 1, .int m] R = .ok (.int v) R' ∧ LSt R' (a + 1) ∧ 0 ≤ v ∧ v < m :=
  take_ok h (by omega) hm
theorem pick {nm : List Str} {j : Int} (h0 : 0 ≤ j) (h : j < nm.length) : ∃ x ∈ nm, ∀ R, dIx R (.lst (nm.map .str)) (.int j) = some (.str x) := by
  have e : j = (j.toNat : Int) := by omega
  have l : j.toNat < nm.length := by omega
  refine ⟨nm[j.toNat], List.getElem_mem l, fun R => ?_⟩
  show atI (nm.map D.str) j = _
  have q : atI (nm.map D.str) (j.toNat : Int) = some (.str nm[j.toNat]) := atI_nat (by simp [l])
  rwa [← e] at q
def okS (x : Str) : Prop := PyData.strOk x = true
def Tm.nok : Tm → Prop
  | .vr x => okS x
  | .ca => True
  | .fn x => okS x
def Bs.nok : Bs → Prop
  | .same s t => s.nok ∧ t.nok
  | .R s t => s.nok ∧ t.nok
  | .P s => s.nok
  | .Q => True
def Se.nok : Se → Prop
  | .b x => x.nok
  | .no s => s.nok
  | .q _ x s => okS x ∧ s.nok
  | .bin _ s t => s.nok ∧ t.nok
theorem nok_sgn : ∀ (s : Se) (b : Bool), s.nok → (sgn s b).nok
  | .b x, b, h => by cases b <;> exact h
  | .no s, b, h => by rw [sgn]; exact nok_sgn s _ h
  | .q a x s, b, h => by rw [sgn]; exact ⟨h.1, nok_sgn s b h.2⟩
  | .bin w s t, b, h => by
    have h1 := nok_sgn s b h.1
    have h2 := nok_sgn t b h.2
    have h3 := nok_sgn s (!b) h.1
    have h4 := nok_sgn t (!b) h.2
    cases w
    · exact ⟨h1, h2⟩
    · exact ⟨h1, h2⟩
    · exact ⟨h3, h2⟩
    · exact ⟨⟨h3, h2⟩, h4, h1⟩
theorem term_ok (n : Nat) {R : Rs} {a : Nat} (L : LSt R a) (ha : a < 900000) {nm : List Str} (hne : 0 < nm.length) (hs : ∀ y ∈ nm, okS y) :
    ∃ (t : Tm) (R' : Rs) (a' : Nat), pr fuel (n + 2) 8 [.loc 1, .lst (nm.map .str)] R = .ok t.d R' ∧ LSt R' a' ∧ a' ≤ a + 2 ∧ t.okN (· ∈ nm) ∧ t.nok := by
  obtain ⟨k, R1, e1, L1, k0, k4⟩ := take_n (fuel := fuel) n L (by omega) (m := 4) (by decide)
  obtain ⟨j, R2, e2, L2, j0, j4⟩ := take_n (fuel := fuel) n L1 (by omega) (m := (nm.length : Int)) (by omega)
  obtain ⟨x, hx, e3⟩ := pick j0 j4
  by_cases c0 : k = 0
  · subst c0
    refine ⟨.ca, R1, a + 1, ?_, L1, by omega, trivial, trivial⟩
    show runF 3 (b__law_term fuel (pr fuel (n + 1))) _ _ = _
    simp [b__law_term, DS.oK_s, DS.oV_s, DS.var_, DS.c_, DS.op_, DS.op1, DS.op2, DS.ix_, DS.ix1, DS.ix2, DS.cb_, DS.cb1, DS.cl_, DS.cl1, DS.nil_, DS.cn_, DS.cn1, DS.cn2, DS.tup_, DS.lst_, DS.lst_', DS.l_, DS.tup1, DS.lst1, DS.lst1', DS.l1, DS.if_, DS.if_t, DS.if_f, DS.tr_, DS.tr1, DS.oT_s, DS.b_, DS.b1, DS.and_, DS.or_, DS.not_, DS.and_t, DS.and_f, DS.or_t, DS.or_f, DS.not1, DS.av_, DS.ov_, DS.nv_, DS.av_t, DS.av_f, DS.ov_t, DS.ov_f, DS.nv1, DS.truth_b, DS.kd_, DS.kd1, DS.oG_s, DS.dg_, DS.dg1, DS.dg2, DS.sl_, DS.sl1, DS.sl2, DS.sl3, DS.part_, DS.part1, DS.nop_, DS.oL_s, DS.it_, DS.it_l, DS.it_t, DS.r1_, DS.r11, DS.lc_, DS.lc1, DS.oLc_s, DS.d_, DS.d1, DS.seq_, DS.bd_n, DS.bd_r, DS.nx_, DS.evF_, DS.evI_, DS.ev1, DS.asg_, DS.store_, DS.asgI_, DS.imm1, DS.ifs_, DS.ifs_t, DS.ifs_f, DS.ret_, DS.ret1, DS.par_, DS.par1, DS.for_, DS.exp_, DS.dput_, DS.asgD_, DS.ownD1, DS.wp0, DS.wp1, DS.for0, DS.run_, DS.run_r, DS.run_n, DS.dc_, DS.dc1, DS.ot_, DS.ot1, DS.dp_s, DS.dp_i, DS.dp1, DS.for1, DS.for2, DS.for3, DS.lg0, DS.lg_, DS.lg1, DS.lg1f, DS.lg2, DS.lg3, DS.di_, DS.di1, DS.ps0, DS.ps_, DS.ps1, DS.ps2, DS.ps3, DS.ps4, DS.ky_s, DS.ky_i, DS.imm_b, DS.imm_i, DS.imm_s, DS.yes_, lim, List.map_cons, List.map_nil, List.replicate, List.set, e1, dEq_int, Tm.d]
  · by_cases c1 : k = 1
    · subst c1
      refine ⟨.fn x, R2, a + 2, ?_, L2, by omega, hx, hs x hx⟩
      show runF 3 (b__law_term fuel (pr fuel (n + 1))) _ _ = _
      simp [b__law_term, DS.oK_s, DS.oV_s, DS.var_, DS.c_, DS.op_, DS.op1, DS.op2, DS.ix_, DS.ix1, DS.ix2, DS.cb_, DS.cb1, DS.cl_, DS.cl1, DS.nil_, DS.cn_, DS.cn1, DS.cn2, DS.tup_, DS.lst_, DS.lst_', DS.l_, DS.tup1, DS.lst1, DS.lst1', DS.l1, DS.if_, DS.if_t, DS.if_f, DS.tr_, DS.tr1, DS.oT_s, DS.b_, DS.b1, DS.and_, DS.or_, DS.not_, DS.and_t, DS.and_f, DS.or_t, DS.or_f, DS.not1, DS.av_, DS.ov_, DS.nv_, DS.av_t, DS.av_f, DS.ov_t, DS.ov_f, DS.nv1, DS.truth_b, DS.kd_, DS.kd1, DS.oG_s, DS.dg_, DS.dg1, DS.dg2, DS.sl_, DS.sl1, DS.sl2, DS.sl3, DS.part_, DS.part1, DS.nop_, DS.oL_s, DS.it_, DS.it_l, DS.it_t, DS.r1_, DS.r11, DS.lc_, DS.lc1, DS.oLc_s, DS.d_, DS.d1, DS.seq_, DS.bd_n, DS.bd_r, DS.nx_, DS.evF_, DS.evI_, DS.ev1, DS.asg_, DS.store_, DS.asgI_, DS.imm1, DS.ifs_, DS.ifs_t, DS.ifs_f, DS.ret_, DS.ret1, DS.par_, DS.par1, DS.for_, DS.exp_, DS.dput_, DS.asgD_, DS.ownD1, DS.wp0, DS.wp1, DS.for0, DS.run_, DS.run_r, DS.run_n, DS.dc_, DS.dc1, DS.ot_, DS.ot1, DS.dp_s, DS.dp_i, DS.dp1, DS.for1, DS.for2, DS.for3, DS.lg0, DS.lg_, DS.lg1, DS.lg1f, DS.lg2, DS.lg3, DS.di_, DS.di1, DS.ps0, DS.ps_, DS.ps1, DS.ps2, DS.ps3, DS.ps4, DS.ky_s, DS.ky_i, DS.imm_b, DS.imm_i, DS.imm_s, DS.yes_, lim, List.map_cons, List.map_nil, List.replicate, List.set, e1, e2, e3, cLen, dEq_int, Tm.d]
    · refine ⟨.vr x, R2, a + 2, ?_, L2, by omega, hx, hs x hx⟩
      show runF 3 (b__law_term fuel (pr fuel (n + 1))) _ _ = _
      simp [b__law_term, DS.oK_s, DS.oV_s, DS.var_, DS.c_, DS.op_, DS.op1, DS.op2, DS.ix_, DS.ix1, DS.ix2, DS.cb_, DS.cb1, DS.cl_, DS.cl1, DS.nil_, DS.cn_, DS.cn1, DS.cn2, DS.tup_, DS.lst_, DS.lst_', DS.l_, DS.tup1, DS.lst1, DS.lst1', DS.l1, DS.if_, DS.if_t, DS.if_f, DS.tr_, DS.tr1, DS.oT_s, DS.b_, DS.b1, DS.and_, DS.or_, DS.not_, DS.and_t, DS.and_f, DS.or_t, DS.or_f, DS.not1, DS.av_, DS.ov_, DS.nv_, DS.av_t, DS.av_f, DS.ov_t, DS.ov_f, DS.nv1, DS.truth_b, DS.kd_, DS.kd1, DS.oG_s, DS.dg_, DS.dg1, DS.dg2, DS.sl_, DS.sl1, DS.sl2, DS.sl3, DS.part_, DS.part1, DS.nop_, DS.oL_s, DS.it_, DS.it_l, DS.it_t, DS.r1_, DS.r11, DS.lc_, DS.lc1, DS.oLc_s, DS.d_, DS.d1, DS.seq_, DS.bd_n, DS.bd_r, DS.nx_, DS.evF_, DS.evI_, DS.ev1, DS.asg_, DS.store_, DS.asgI_, DS.imm1, DS.ifs_, DS.ifs_t, DS.ifs_f, DS.ret_, DS.ret1, DS.par_, DS.par1, DS.for_, DS.exp_, DS.dput_, DS.asgD_, DS.ownD1, DS.wp0, DS.wp1, DS.for0, DS.run_, DS.run_r, DS.run_n, DS.dc_, DS.dc1, DS.ot_, DS.ot1, DS.dp_s, DS.dp_i, DS.dp1, DS.for1, DS.for2, DS.for3, DS.lg0, DS.lg_, DS.lg1, DS.lg1f, DS.lg2, DS.lg3, DS.di_, DS.di1, DS.ps0, DS.ps_, DS.ps1, DS.ps2, DS.ps3, DS.ps4, DS.ky_s, DS.ky_i, DS.imm_b, DS.imm_i, DS.imm_s, DS.yes_, lim, List.map_cons, List.map_nil, List.replicate, List.set, e1, e2, e3, cLen, dEq_int, Tm.d, c0, c1]
theorem basicD_ok (n : Nat) {R : Rs} {a : Nat} (L : LSt R a) (ha : a < 900000 - 10) {nm : List Str} (hne : 0 < nm.length) (hs : ∀ y ∈ nm, okS y) :
    ∃ (t : Bs) (R' : Rs) (a' : Nat), pr fuel (n + 3) 9 [.loc 1, .lst (nm.map .str)] R = .ok t.d R' ∧ LSt R' a' ∧ a' ≤ a + 5 ∧ t.okN (· ∈ nm) ∧ t.nok := by
  obtain ⟨k, R1, e1, L1, k0, k4⟩ := take_n (fuel := fuel) (n + 1) L (by omega) (m := 4) (by decide)
  obtain ⟨t, R2, a2, e2, L2, ha2, t1, t2⟩ := term_ok (fuel := fuel) n L1 (by omega) hne hs
  obtain ⟨u, R3, a3, e3, L3, ha3, u1, u2⟩ := term_ok (fuel := fuel) n L2 (by omega) hne hs
  by_cases c0 : k = 0
  · subst c0
    refine ⟨.same t u, R3, a3, ?_, L3, by omega, ⟨t1, u1⟩, t2, u2⟩
    show runF 3 (b__law_basic fuel (pr fuel (n + 2))) _ _ = _
    simp [b__law_basic, DS.oK_s, DS.oV_s, DS.var_, DS.c_, DS.op_, DS.op1, DS.op2, DS.ix_, DS.ix1, DS.ix2, DS.cb_, DS.cb1, DS.cl_, DS.cl1, DS.nil_, DS.cn_, DS.cn1, DS.cn2, DS.tup_, DS.lst_, DS.lst_', DS.l_, DS.tup1, DS.lst1, DS.lst1', DS.l1, DS.if_, DS.if_t, DS.if_f, DS.tr_, DS.tr1, DS.oT_s, DS.b_, DS.b1, DS.and_, DS.or_, DS.not_, DS.and_t, DS.and_f, DS.or_t, DS.or_f, DS.not1, DS.av_, DS.ov_, DS.nv_, DS.av_t, DS.av_f, DS.ov_t, DS.ov_f, DS.nv1, DS.truth_b, DS.kd_, DS.kd1, DS.oG_s, DS.dg_, DS.dg1, DS.dg2, DS.sl_, DS.sl1, DS.sl2, DS.sl3, DS.part_, DS.part1, DS.nop_, DS.oL_s, DS.it_, DS.it_l, DS.it_t, DS.r1_, DS.r11, DS.lc_, DS.lc1, DS.oLc_s, DS.d_, DS.d1, DS.seq_, DS.bd_n, DS.bd_r, DS.nx_, DS.evF_, DS.evI_, DS.ev1, DS.asg_, DS.store_, DS.asgI_, DS.imm1, DS.ifs_, DS.ifs_t, DS.ifs_f, DS.ret_, DS.ret1, DS.par_, DS.par1, DS.for_, DS.exp_, DS.dput_, DS.asgD_, DS.ownD1, DS.wp0, DS.wp1, DS.for0, DS.run_, DS.run_r, DS.run_n, DS.dc_, DS.dc1, DS.ot_, DS.ot1, DS.dp_s, DS.dp_i, DS.dp1, DS.for1, DS.for2, DS.for3, DS.lg0, DS.lg_, DS.lg1, DS.lg1f, DS.lg2, DS.lg3, DS.di_, DS.di1, DS.ps0, DS.ps_, DS.ps1, DS.ps2, DS.ps3, DS.ps4, DS.ky_s, DS.ky_i, DS.imm_b, DS.imm_i, DS.imm_s, DS.yes_, lim, List.map_cons, List.map_nil, List.replicate, List.set, e1, e2, e3, dEq_int, Bs.d, Bs.w, Bs.r]
  · by_cases c1 : k = 1
    · subst c1
      refine ⟨.R t u, R3, a3, ?_, L3, by omega, ⟨t1, u1⟩, t2, u2⟩
      show runF 3 (b__law_basic fuel (pr fuel (n + 2))) _ _ = _
      simp [b__law_basic, DS.oK_s, DS.oV_s, DS.var_, DS.c_, DS.op_, DS.op1, DS.op2, DS.ix_, DS.ix1, DS.ix2, DS.cb_, DS.cb1, DS.cl_, DS.cl1, DS.nil_, DS.cn_, DS.cn1, DS.cn2, DS.tup_, DS.lst_, DS.lst_', DS.l_, DS.tup1, DS.lst1, DS.lst1', DS.l1, DS.if_, DS.if_t, DS.if_f, DS.tr_, DS.tr1, DS.oT_s, DS.b_, DS.b1, DS.and_, DS.or_, DS.not_, DS.and_t, DS.and_f, DS.or_t, DS.or_f, DS.not1, DS.av_, DS.ov_, DS.nv_, DS.av_t, DS.av_f, DS.ov_t, DS.ov_f, DS.nv1, DS.truth_b, DS.kd_, DS.kd1, DS.oG_s, DS.dg_, DS.dg1, DS.dg2, DS.sl_, DS.sl1, DS.sl2, DS.sl3, DS.part_, DS.part1, DS.nop_, DS.oL_s, DS.it_, DS.it_l, DS.it_t, DS.r1_, DS.r11, DS.lc_, DS.lc1, DS.oLc_s, DS.d_, DS.d1, DS.seq_, DS.bd_n, DS.bd_r, DS.nx_, DS.evF_, DS.evI_, DS.ev1, DS.asg_, DS.store_, DS.asgI_, DS.imm1, DS.ifs_, DS.ifs_t, DS.ifs_f, DS.ret_, DS.ret1, DS.par_, DS.par1, DS.for_, DS.exp_, DS.dput_, DS.asgD_, DS.ownD1, DS.wp0, DS.wp1, DS.for0, DS.run_, DS.run_r, DS.run_n, DS.dc_, DS.dc1, DS.ot_, DS.ot1, DS.dp_s, DS.dp_i, DS.dp1, DS.for1, DS.for2, DS.for3, DS.lg0, DS.lg_, DS.lg1, DS.lg1f, DS.lg2, DS.lg3, DS.di_, DS.di1, DS.ps0, DS.ps_, DS.ps1, DS.ps2, DS.ps3, DS.ps4, DS.ky_s, DS.ky_i, DS.imm_b, DS.imm_i, DS.imm_s, DS.yes_, lim, List.map_cons, List.map_nil, List.replicate, List.set, e1, e2, e3, dEq_int, Bs.d, Bs.w, Bs.r]
    · by_cases c2 : k = 2
      · subst c2
        refine ⟨.P t, R2, a2, ?_, L2, by omega, t1, t2⟩
        show runF 3 (b__law_basic fuel (pr fuel (n + 2))) _ _ = _
        simp [b__law_basic, DS.oK_s, DS.oV_s, DS.var_, DS.c_, DS.op_, DS.op1, DS.op2, DS.ix_, DS.ix1, DS.ix2, DS.cb_, DS.cb1, DS.cl_, DS.cl1, DS.nil_, DS.cn_, DS.cn1, DS.cn2, DS.tup_, DS.lst_, DS.lst_', DS.l_, DS.tup1, DS.lst1, DS.lst1', DS.l1, DS.if_, DS.if_t, DS.if_f, DS.tr_, DS.tr1, DS.oT_s, DS.b_, DS.b1, DS.and_, DS.or_, DS.not_, DS.and_t, DS.and_f, DS.or_t, DS.or_f, DS.not1, DS.av_, DS.ov_, DS.nv_, DS.av_t, DS.av_f, DS.ov_t, DS.ov_f, DS.nv1, DS.truth_b, DS.kd_, DS.kd1, DS.oG_s, DS.dg_, DS.dg1, DS.dg2, DS.sl_, DS.sl1, DS.sl2, DS.sl3, DS.part_, DS.part1, DS.nop_, DS.oL_s, DS.it_, DS.it_l, DS.it_t, DS.r1_, DS.r11, DS.lc_, DS.lc1, DS.oLc_s, DS.d_, DS.d1, DS.seq_, DS.bd_n, DS.bd_r, DS.nx_, DS.evF_, DS.evI_, DS.ev1, DS.asg_, DS.store_, DS.asgI_, DS.imm1, DS.ifs_, DS.ifs_t, DS.ifs_f, DS.ret_, DS.ret1, DS.par_, DS.par1, DS.for_, DS.exp_, DS.dput_, DS.asgD_, DS.ownD1, DS.wp0, DS.wp1, DS.for0, DS.run_, DS.run_r, DS.run_n, DS.dc_, DS.dc1, DS.ot_, DS.ot1, DS.dp_s, DS.dp_i, DS.dp1, DS.for1, DS.for2, DS.for3, DS.lg0, DS.lg_, DS.lg1, DS.lg1f, DS.lg2, DS.lg3, DS.di_, DS.di1, DS.ps0, DS.ps_, DS.ps1, DS.ps2, DS.ps3, DS.ps4, DS.ky_s, DS.ky_i, DS.imm_b, DS.imm_i, DS.imm_s, DS.yes_, lim, List.map_cons, List.map_nil, List.replicate, List.set, e1, e2, e3, dEq_int, Bs.d, Bs.w, Bs.r]
      · refine ⟨.Q, R1, a + 1, ?_, L1, by omega, trivial, trivial⟩
        show runF 3 (b__law_basic fuel (pr fuel (n + 2))) _ _ = _
        simp [b__law_basic, DS.oK_s, DS.oV_s, DS.var_, DS.c_, DS.op_, DS.op1, DS.op2, DS.ix_, DS.ix1, DS.ix2, DS.cb_, DS.cb1, DS.cl_, DS.cl1, DS.nil_, DS.cn_, DS.cn1, DS.cn2, DS.tup_, DS.lst_, DS.lst_', DS.l_, DS.tup1, DS.lst1, DS.lst1', DS.l1, DS.if_, DS.if_t, DS.if_f, DS.tr_, DS.tr1, DS.oT_s, DS.b_, DS.b1, DS.and_, DS.or_, DS.not_, DS.and_t, DS.and_f, DS.or_t, DS.or_f, DS.not1, DS.av_, DS.ov_, DS.nv_, DS.av_t, DS.av_f, DS.ov_t, DS.ov_f, DS.nv1, DS.truth_b, DS.kd_, DS.kd1, DS.oG_s, DS.dg_, DS.dg1, DS.dg2, DS.sl_, DS.sl1, DS.sl2, DS.sl3, DS.part_, DS.part1, DS.nop_, DS.oL_s, DS.it_, DS.it_l, DS.it_t, DS.r1_, DS.r11, DS.lc_, DS.lc1, DS.oLc_s, DS.d_, DS.d1, DS.seq_, DS.bd_n, DS.bd_r, DS.nx_, DS.evF_, DS.evI_, DS.ev1, DS.asg_, DS.store_, DS.asgI_, DS.imm1, DS.ifs_, DS.ifs_t, DS.ifs_f, DS.ret_, DS.ret1, DS.par_, DS.par1, DS.for_, DS.exp_, DS.dput_, DS.asgD_, DS.ownD1, DS.wp0, DS.wp1, DS.for0, DS.run_, DS.run_r, DS.run_n, DS.dc_, DS.dc1, DS.ot_, DS.ot1, DS.dp_s, DS.dp_i, DS.dp1, DS.for1, DS.for2, DS.for3, DS.lg0, DS.lg_, DS.lg1, DS.lg1f, DS.lg2, DS.lg3, DS.di_, DS.di1, DS.ps0, DS.ps_, DS.ps1, DS.ps2, DS.ps3, DS.ps4, DS.ky_s, DS.ky_i, DS.imm_b, DS.imm_i, DS.imm_s, DS.yes_, lim, List.map_cons, List.map_nil, List.replicate, List.set, e1, e2, e3, dEq_int, Bs.d, Bs.w, Bs.r, c0, c1, c2]
theorem flt_ok {x : Str} (hx : okS x) {ρ : En} (h4 : ρ[4]? = some (some (.str x))) (h6 : 6 < ρ.length) (R : Rs) : ∀ (nm : List Str), (∀ y ∈ nm, okS y) → ∃ fl : List Str, lcGo (gNm 6) (xB (xOp dNe (xVar 6) (xVar 4))) (xVar 6) ρ (nm.map .str) R = some (fl.map .str, R) ∧ fl.length ≤ nm.length ∧ ∀ y ∈ fl, y ∈ nm
  | [], _ => ⟨[], rfl, Nat.le_refl _, fun y h => h⟩
  | y :: nm, h => by
    obtain ⟨fl, e, l, m⟩ := flt_ok hx h4 h6 R nm fun z hz => h z (List.mem_cons_of_mem _ hz)
    have hy := h y List.mem_cons_self
    have g4 : (ρ.set 6 (some (.str y)))[4]? = some (some (.str x)) := by rw [List.getElem?_set_ne (by decide)]; exact h4
    have g6 : (ρ.set 6 (some (.str y)))[6]? = some (some (.str y)) := List.getElem?_set_self h6
    by_cases c : y = x
    · subst c
      refine ⟨fl, ?_, by rw [List.length_cons]; omega, fun z hz => List.mem_cons_of_mem _ (m z hz)⟩
      rw [List.map_cons, DS.lg_, if_pos h6]
      simp only [DS.b_, DS.op_, DS.var_, g4, g6, DS.oV_s, DS.op1, DS.op2, dNe_str hy hx, DS.oK_s, DS.b1, ne_eq, eq_self, not_true_eq_false, decide_false, DS.lg1f, e]
    · refine ⟨y :: fl, ?_, by rw [List.length_cons, List.length_cons]; omega, fun z hz => by
        rcases List.mem_cons.mp hz with q | q
        · rw [q]; exact List.mem_cons_self
        · exact List.mem_cons_of_mem _ (m z q)⟩
      rw [List.map_cons, DS.lg_, if_pos h6]
      simp only [DS.b_, DS.op_, DS.var_, g4, g6, DS.oV_s, DS.op1, DS.op2, dNe_str hy hx, DS.oK_s, DS.b1, c, ne_eq, not_false_eq_true, decide_true, DS.lg1, DS.lg2, e, DS.lg3, List.map_cons]
theorem imp_okN {N M : Str → Prop} (h : ∀ y, N y → M y) : ∀ s : Se, s.okN N → s.okN M := by
  have tm : ∀ (N M : Str → Prop), (∀ y, N y → M y) → ∀ t : Tm, t.okN N → t.okN M := fun N M h t => by cases t <;> first | exact h _ | exact id
  intro s
  induction s generalizing N M with
  | b x =>
    cases x with
    | same s t => exact fun q => ⟨tm N M h _ q.1, tm N M h _ q.2⟩
    | R s t => exact fun q => ⟨tm N M h _ q.1, tm N M h _ q.2⟩
    | P s => exact tm N M h _
    | Q => exact id
  | no s ih => exact ih h
  | q a x s ih => exact ih fun y q => q.imp id (h y)
  | bin w s t ih1 ih2 => exact fun q => ⟨ih1 h q.1, ih2 h q.2⟩
theorem name3 {v : Int} (h0 : 0 ≤ v) (h : v < 3) : ∃ x : Str, okS x ∧ ∀ R, dIx R (.lst [.str "x", .str "y", .str "z"]) (.int v) = some (.str x) := by
  have : v = 0 ∨ v = 1 ∨ v = 2 := by omega
  rcases this with q | q | q <;> subst q
  · exact ⟨"x", by with_unfolding_all rfl, fun _ => rfl⟩
  · exact ⟨"y", by with_unfolding_all rfl, fun _ => rfl⟩
  · exact ⟨"z", by with_unfolding_all rfl, fun _ => rfl⟩
theorem quant2 {v : Int} (h0 : 0 ≤ v) (h : v < 2) : ∃ a : Bool, ∀ R, dIx R (.lst [.str "all", .str "some"]) (.int v) = some (.str (if a then "all" else "some")) := by
  have : v = 0 ∨ v = 1 := by omega
  rcases this with q | q <;> subst q
  · exact ⟨true, fun _ => rfl⟩
  · exact ⟨false, fun _ => rfl⟩
theorem word5 {v : Int} (h0 : 0 ≤ v) (h : v < 5) : ∃ w : Bw, ∀ R, dIx R (.lst [.str "and", .str "or", .str "implies", .str "iff", .str "iff"]) (.int v) = some (.str w.w) := by
  have : v = 0 ∨ v = 1 ∨ v = 2 ∨ v = 3 ∨ v = 4 := by omega
  rcases this with q | q | q | q | q <;> subst q
  · exact ⟨.and, fun _ => rfl⟩
  · exact ⟨.or, fun _ => rfl⟩
  · exact ⟨.imp, fun _ => rfl⟩
  · exact ⟨.iff, fun _ => rfl⟩
  · exact ⟨.iff, fun _ => rfl⟩
theorem sent_ok : ∀ (d : Nat) (dd : Int) (n : Nat) {R : Rs} {a : Nat} {nm : List Str}, dd = d → LSt R a → a + 10 * 3 ^ d < 800000 → 0 < nm.length → nm.length + d < 1000 → (∀ y ∈ nm, okS y) → d + 4 ≤ n →
    ∃ (s : Se) (R' : Rs) (a' : Nat), pr fuel n 10 [.loc 1, .lst (nm.map .str), .int dd] R = .ok s.d R' ∧ LSt R' a' ∧ a' ≤ a + 10 * 3 ^ d ∧ s.okN (· ∈ nm) ∧ s.nok ∧ ht s ≤ d
  | 0, dd, n, R, a, nm, hd, L, ha, hne, hl, hs, hn => by
    obtain ⟨m, rfl⟩ : ∃ m, n = m + 4 := ⟨n - 4, by omega⟩
    rw [Nat.pow_zero] at ha
    obtain ⟨k, R1, e1, L1, k0, k4⟩ := take_n (fuel := fuel) (m + 2) L (by omega) (m := 10) (by decide)
    obtain ⟨t, R2, a2, e2, L2, ha2, t1, t2⟩ := basicD_ok (fuel := fuel) m L1 (by omega) hne hs
    refine ⟨.b t, R2, a2, ?_, L2, by rw [Nat.pow_zero]; omega, t1, t2, Nat.le_refl _⟩
    have hd' : dd = 0 := by omega
    subst hd'
    show runF 8 (b__law_sentence fuel (pr fuel (m + 3))) _ _ = _
    simp [b__law_sentence, DS.oK_s, DS.oV_s, DS.var_, DS.c_, DS.op_, DS.op1, DS.op2, DS.ix_, DS.ix1, DS.ix2, DS.cb_, DS.cb1, DS.cl_, DS.cl1, DS.nil_, DS.cn_, DS.cn1, DS.cn2, DS.tup_, DS.lst_, DS.lst_', DS.l_, DS.tup1, DS.lst1, DS.lst1', DS.l1, DS.if_, DS.if_t, DS.if_f, DS.tr_, DS.tr1, DS.oT_s, DS.b_, DS.b1, DS.and_, DS.or_, DS.not_, DS.and_t, DS.and_f, DS.or_t, DS.or_f, DS.not1, DS.av_, DS.ov_, DS.nv_, DS.av_t, DS.av_f, DS.ov_t, DS.ov_f, DS.nv1, DS.truth_b, DS.kd_, DS.kd1, DS.oG_s, DS.dg_, DS.dg1, DS.dg2, DS.sl_, DS.sl1, DS.sl2, DS.sl3, DS.part_, DS.part1, DS.nop_, DS.oL_s, DS.it_, DS.it_l, DS.it_t, DS.r1_, DS.r11, DS.lc_, DS.lc1, DS.oLc_s, DS.d_, DS.d1, DS.seq_, DS.bd_n, DS.bd_r, DS.nx_, DS.evF_, DS.evI_, DS.ev1, DS.asg_, DS.store_, DS.asgI_, DS.imm1, DS.ifs_, DS.ifs_t, DS.ifs_f, DS.ret_, DS.ret1, DS.par_, DS.par1, DS.for_, DS.exp_, DS.dput_, DS.asgD_, DS.ownD1, DS.wp0, DS.wp1, DS.for0, DS.run_, DS.run_r, DS.run_n, DS.dc_, DS.dc1, DS.ot_, DS.ot1, DS.dp_s, DS.dp_i, DS.dp1, DS.for1, DS.for2, DS.for3, DS.lg0, DS.lg_, DS.lg1, DS.lg1f, DS.lg2, DS.lg3, DS.di_, DS.di1, DS.ps0, DS.ps_, DS.ps1, DS.ps2, DS.ps3, DS.ps4, DS.ky_s, DS.ky_i, DS.imm_b, DS.imm_i, DS.imm_s, DS.yes_, lim, List.map_cons, List.map_nil, List.replicate, List.set, e1, e2, dEq_int, Se.d]
  | d + 1, dd, n, R, a, nm, hd, L, ha, hne, hl, hs, hn => by
    obtain ⟨m, rfl⟩ : ∃ m, n = m + 5 := ⟨n - 5, by omega⟩
    have p3 : 10 * 3 ^ (d + 1) = 30 * 3 ^ d := by rw [Nat.pow_succ]; omega
    have p1 : 1 ≤ 3 ^ d := Nat.one_le_iff_ne_zero.mpr (by simp)
    obtain ⟨k, R1, e1, L1, k0, k4⟩ := take_n (fuel := fuel) (m + 3) L (by omega) (m := 10) (by decide)
    have hd0 : ¬ dd = 0 := by omega
    have hd1 : dd - 1 = (d : Int) := by omega
    by_cases c0 : k = 0
    · obtain ⟨t, R2, a2, e2, L2, ha2, t1, t2⟩ := basicD_ok (fuel := fuel) (m + 1) L1 (by omega) hne hs
      refine ⟨.b t, R2, a2, ?_, L2, by omega, t1, t2, Nat.zero_le _⟩
      subst c0
      show runF 8 (b__law_sentence fuel (pr fuel (m + 4))) _ _ = _
      simp [b__law_sentence, DS.oK_s, DS.oV_s, DS.var_, DS.c_, DS.op_, DS.op1, DS.op2, DS.ix_, DS.ix1, DS.ix2, DS.cb_, DS.cb1, DS.cl_, DS.cl1, DS.nil_, DS.cn_, DS.cn1, DS.cn2, DS.tup_, DS.lst_, DS.lst_', DS.l_, DS.tup1, DS.lst1, DS.lst1', DS.l1, DS.if_, DS.if_t, DS.if_f, DS.tr_, DS.tr1, DS.oT_s, DS.b_, DS.b1, DS.and_, DS.or_, DS.not_, DS.and_t, DS.and_f, DS.or_t, DS.or_f, DS.not1, DS.av_, DS.ov_, DS.nv_, DS.av_t, DS.av_f, DS.ov_t, DS.ov_f, DS.nv1, DS.truth_b, DS.kd_, DS.kd1, DS.oG_s, DS.dg_, DS.dg1, DS.dg2, DS.sl_, DS.sl1, DS.sl2, DS.sl3, DS.part_, DS.part1, DS.nop_, DS.oL_s, DS.it_, DS.it_l, DS.it_t, DS.r1_, DS.r11, DS.lc_, DS.lc1, DS.oLc_s, DS.d_, DS.d1, DS.seq_, DS.bd_n, DS.bd_r, DS.nx_, DS.evF_, DS.evI_, DS.ev1, DS.asg_, DS.store_, DS.asgI_, DS.imm1, DS.ifs_, DS.ifs_t, DS.ifs_f, DS.ret_, DS.ret1, DS.par_, DS.par1, DS.for_, DS.exp_, DS.dput_, DS.asgD_, DS.ownD1, DS.wp0, DS.wp1, DS.for0, DS.run_, DS.run_r, DS.run_n, DS.dc_, DS.dc1, DS.ot_, DS.ot1, DS.dp_s, DS.dp_i, DS.dp1, DS.for1, DS.for2, DS.for3, DS.lg0, DS.lg_, DS.lg1, DS.lg1f, DS.lg2, DS.lg3, DS.di_, DS.di1, DS.ps0, DS.ps_, DS.ps1, DS.ps2, DS.ps3, DS.ps4, DS.ky_s, DS.ky_i, DS.imm_b, DS.imm_i, DS.imm_s, DS.yes_, lim, List.map_cons, List.map_nil, List.replicate, List.set, e1, e2, dEq_int, Se.d, hd0]
    · by_cases c1 : k < 3
      · obtain ⟨s, R2, a2, e2, L2, ha2, s1, s2, s3⟩ := sent_ok d (dd - 1) (m + 4) (nm := nm) hd1 L1 (by omega) hne (by omega) hs (by omega)
        refine ⟨.no s, R2, a2, ?_, L2, by omega, s1, s2, by rw [ht]; omega⟩
        show runF 8 (b__law_sentence fuel (pr fuel (m + 4))) _ _ = _
        simp [b__law_sentence, DS.oK_s, DS.oV_s, DS.var_, DS.c_, DS.op_, DS.op1, DS.op2, DS.ix_, DS.ix1, DS.ix2, DS.cb_, DS.cb1, DS.cl_, DS.cl1, DS.nil_, DS.cn_, DS.cn1, DS.cn2, DS.tup_, DS.lst_, DS.lst_', DS.l_, DS.tup1, DS.lst1, DS.lst1', DS.l1, DS.if_, DS.if_t, DS.if_f, DS.tr_, DS.tr1, DS.oT_s, DS.b_, DS.b1, DS.and_, DS.or_, DS.not_, DS.and_t, DS.and_f, DS.or_t, DS.or_f, DS.not1, DS.av_, DS.ov_, DS.nv_, DS.av_t, DS.av_f, DS.ov_t, DS.ov_f, DS.nv1, DS.truth_b, DS.kd_, DS.kd1, DS.oG_s, DS.dg_, DS.dg1, DS.dg2, DS.sl_, DS.sl1, DS.sl2, DS.sl3, DS.part_, DS.part1, DS.nop_, DS.oL_s, DS.it_, DS.it_l, DS.it_t, DS.r1_, DS.r11, DS.lc_, DS.lc1, DS.oLc_s, DS.d_, DS.d1, DS.seq_, DS.bd_n, DS.bd_r, DS.nx_, DS.evF_, DS.evI_, DS.ev1, DS.asg_, DS.store_, DS.asgI_, DS.imm1, DS.ifs_, DS.ifs_t, DS.ifs_f, DS.ret_, DS.ret1, DS.par_, DS.par1, DS.for_, DS.exp_, DS.dput_, DS.asgD_, DS.ownD1, DS.wp0, DS.wp1, DS.for0, DS.run_, DS.run_r, DS.run_n, DS.dc_, DS.dc1, DS.ot_, DS.ot1, DS.dp_s, DS.dp_i, DS.dp1, DS.for1, DS.for2, DS.for3, DS.lg0, DS.lg_, DS.lg1, DS.lg1f, DS.lg2, DS.lg3, DS.di_, DS.di1, DS.ps0, DS.ps_, DS.ps1, DS.ps2, DS.ps3, DS.ps4, DS.ky_s, DS.ky_i, DS.imm_b, DS.imm_i, DS.imm_s, DS.yes_, lim, List.map_cons, List.map_nil, List.replicate, List.set, e1, e2, dEq_int, Se.d, hd0, c0, dLt, c1, dSub]
      · by_cases c2 : k < 5
        · obtain ⟨v, R2, e2, L2, v0, v3⟩ := take_n (fuel := fuel) (m + 3) L1 (by omega) (m := 3) (by decide)
          obtain ⟨x, hx, e3⟩ := name3 v0 v3
          obtain ⟨fl, e4, lf, mf⟩ := flt_ok hx (ρ := [some (.loc 1), some (.lst (nm.map .str)), some (.int dd), some (.int k), some (.str x), none, none, none]) rfl (by show 6 < 8; decide) R2 nm hs
          obtain ⟨u, R3, e5, L3, u0, u2⟩ := take_n (fuel := fuel) (m + 3) L2 (by omega) (m := 2) (by decide)
          obtain ⟨q, e6⟩ := quant2 u0 u2
          obtain ⟨s, R4, a4, e7, L4, ha4, s1, s2, s3⟩ := sent_ok d (dd - 1) (m + 4) (nm := fl ++ [x]) hd1 L3 (by omega) (by simp) (by rw [List.length_append, List.length_singleton]; omega) (fun y hy => by
            rcases List.mem_append.mp hy with z | z
            · exact hs y (mf y z)
            · rw [List.mem_singleton.mp z]; exact hx) (by omega)
          refine ⟨.q q x s, R4, a4, ?_, L4, by omega, imp_okN (fun y hy => by
            rcases List.mem_append.mp hy with z | z
            · exact .inr (mf y z)
            · exact .inl (List.mem_singleton.mp z)) s s1, ⟨hx, s2⟩, by rw [ht]; omega⟩
          have e8 : dAdd (.lst (fl.map .str)) (.lst [.str x]) = some (.lst ((fl ++ [x]).map .str)) := by
            show (if _ then _ else _) = _
            rw [if_pos (by rw [List.length_map, List.length_singleton]; show fl.length + 1 ≤ 1000000; omega), List.map_append]
            rfl
          have lf' : fl.length ≤ 1000000 := by omega
          generalize hD : (fl ++ [x]).map D.str = inD at e7 e8
          generalize hF : fl.map D.str = flD at e4 e8
          have lF : flD.length ≤ 1000000 := by rw [← hF, List.length_map]; exact lf'
          generalize hN : nm.map D.str = nmD at e4
          show runF 8 (b__law_sentence fuel (pr fuel (m + 4))) _ _ = _
          simp [b__law_sentence, DS.oK_s, DS.oV_s, DS.var_, DS.c_, DS.op_, DS.op1, DS.op2, DS.ix_, DS.ix1, DS.ix2, DS.cb_, DS.cb1, DS.cl_, DS.cl1, DS.nil_, DS.cn_, DS.cn1, DS.cn2, DS.tup_, DS.lst_, DS.lst_', DS.l_, DS.tup1, DS.lst1, DS.lst1', DS.l1, DS.if_, DS.if_t, DS.if_f, DS.tr_, DS.tr1, DS.oT_s, DS.b_, DS.b1, DS.and_, DS.or_, DS.not_, DS.and_t, DS.and_f, DS.or_t, DS.or_f, DS.not1, DS.av_, DS.ov_, DS.nv_, DS.av_t, DS.av_f, DS.ov_t, DS.ov_f, DS.nv1, DS.truth_b, DS.kd_, DS.kd1, DS.oG_s, DS.dg_, DS.dg1, DS.dg2, DS.sl_, DS.sl1, DS.sl2, DS.sl3, DS.part_, DS.part1, DS.nop_, DS.oL_s, DS.it_, DS.it_l, DS.it_t, DS.r1_, DS.r11, DS.lc_, DS.lc1, DS.oLc_s, DS.d_, DS.d1, DS.seq_, DS.bd_n, DS.bd_r, DS.nx_, DS.evF_, DS.evI_, DS.ev1, DS.asg_, DS.store_, DS.asgI_, DS.imm1, DS.ifs_, DS.ifs_t, DS.ifs_f, DS.ret_, DS.ret1, DS.par_, DS.par1, DS.for_, DS.exp_, DS.dput_, DS.asgD_, DS.ownD1, DS.wp0, DS.wp1, DS.for0, DS.run_, DS.run_r, DS.run_n, DS.dc_, DS.dc1, DS.ot_, DS.ot1, DS.dp_s, DS.dp_i, DS.dp1, DS.for1, DS.for2, DS.for3, DS.lg0, DS.lg_, DS.lg1, DS.lg1f, DS.lg2, DS.lg3, DS.di_, DS.di1, DS.ps0, DS.ps_, DS.ps1, DS.ps2, DS.ps3, DS.ps4, DS.ky_s, DS.ky_i, DS.imm_b, DS.imm_i, DS.imm_s, DS.yes_, lim, List.map_cons, List.map_nil, List.replicate, List.set, e1, e2, e3, e4, e5, e6, e7, e8, dEq_int, Se.d, hd0, c0, dLt, c1, c2, dSub, lF]
        · obtain ⟨w, e2⟩ := word5 (v := k - 5) (by omega) (by omega)
          obtain ⟨s, R2, a2, e3, L2, ha2, s1, s2, s3⟩ := sent_ok d (dd - 1) (m + 4) (nm := nm) hd1 L1 (by omega) hne (by omega) hs (by omega)
          obtain ⟨t, R3, a3, e4, L3, ha3, t1, t2, t3⟩ := sent_ok d (dd - 1) (m + 4) (nm := nm) hd1 L2 (by omega) hne (by omega) hs (by omega)
          refine ⟨.bin w s t, R3, a3, ?_, L3, by omega, ⟨s1, t1⟩, ⟨s2, t2⟩, by rw [ht]; omega⟩
          show runF 8 (b__law_sentence fuel (pr fuel (m + 4))) _ _ = _
          simp [b__law_sentence, DS.oK_s, DS.oV_s, DS.var_, DS.c_, DS.op_, DS.op1, DS.op2, DS.ix_, DS.ix1, DS.ix2, DS.cb_, DS.cb1, DS.cl_, DS.cl1, DS.nil_, DS.cn_, DS.cn1, DS.cn2, DS.tup_, DS.lst_, DS.lst_', DS.l_, DS.tup1, DS.lst1, DS.lst1', DS.l1, DS.if_, DS.if_t, DS.if_f, DS.tr_, DS.tr1, DS.oT_s, DS.b_, DS.b1, DS.and_, DS.or_, DS.not_, DS.and_t, DS.and_f, DS.or_t, DS.or_f, DS.not1, DS.av_, DS.ov_, DS.nv_, DS.av_t, DS.av_f, DS.ov_t, DS.ov_f, DS.nv1, DS.truth_b, DS.kd_, DS.kd1, DS.oG_s, DS.dg_, DS.dg1, DS.dg2, DS.sl_, DS.sl1, DS.sl2, DS.sl3, DS.part_, DS.part1, DS.nop_, DS.oL_s, DS.it_, DS.it_l, DS.it_t, DS.r1_, DS.r11, DS.lc_, DS.lc1, DS.oLc_s, DS.d_, DS.d1, DS.seq_, DS.bd_n, DS.bd_r, DS.nx_, DS.evF_, DS.evI_, DS.ev1, DS.asg_, DS.store_, DS.asgI_, DS.imm1, DS.ifs_, DS.ifs_t, DS.ifs_f, DS.ret_, DS.ret1, DS.par_, DS.par1, DS.for_, DS.exp_, DS.dput_, DS.asgD_, DS.ownD1, DS.wp0, DS.wp1, DS.for0, DS.run_, DS.run_r, DS.run_n, DS.dc_, DS.dc1, DS.ot_, DS.ot1, DS.dp_s, DS.dp_i, DS.dp1, DS.for1, DS.for2, DS.for3, DS.lg0, DS.lg_, DS.lg1, DS.lg1f, DS.lg2, DS.lg3, DS.di_, DS.di1, DS.ps0, DS.ps_, DS.ps1, DS.ps2, DS.ps3, DS.ps4, DS.ky_s, DS.ky_i, DS.imm_b, DS.imm_i, DS.imm_s, DS.yes_, lim, List.map_cons, List.map_nil, List.replicate, List.set, e1, e2, e3, e4, dEq_int, Se.d, hd0, c0, dLt, c1, c2, dSub]
end KM

namespace KM
open PySem L2 DL DM Law
variable {fuel : Nat}

/-! ### the law -/
theorem shp_tm {N : Nat} (t : Tm) (h : t.nok) : Shp (N + 1) t.d := by
  have w : ∀ {m : Nat} {x : Str}, x = "a" ∨ x = "f" → Shp m (.str x) := fun q => by rcases q with q | q <;> subst q <;> exact shp_str _ (by with_unfolding_all rfl)
  cases t with
  | vr x => exact shp_str _ h
  | ca =>
    exact shp_tup fun x hx => by
      rcases List.mem_cons.mp hx with q | q
      · rw [q]; exact w (.inl rfl)
      · cases q
  | fn x =>
    exact shp_tup fun x hx => by
      rcases List.mem_cons.mp hx with q | q
      · rw [q]; exact w (.inr rfl)
      · rw [List.mem_singleton.mp q]; exact shp_str _ h
theorem wordS {x : Str} (h : x ∈ [("a" : Str), "f", "R", "P", "Q", "holds", "same", "not", "all", "some", "and", "or", "implies", "iff"]) : okS x := by
  have : ∀ x ∈ [("a" : Str), "f", "R", "P", "Q", "holds", "same", "not", "all", "some", "and", "or", "implies", "iff"], PyData.strOk x = true := by decide +kernel
  exact this x h
theorem shp_two {N : Nat} {x : Str} {a : D} (hx : okS x) (ha : Shp N a) : Shp (N + 1) (.tup [.str x, a]) := shp_tup fun y hy => by
  rcases List.mem_cons.mp hy with q | q
  · rw [q]; exact shp_str _ hx
  · rw [List.mem_singleton.mp q]; exact ha
theorem shp_one {N : Nat} {x : Str} (hx : okS x) : Shp (N + 1) (.tup [.str x]) := shp_tup fun y hy => by
  rw [List.mem_singleton.mp hy]; exact shp_str _ hx
theorem shp_thr {N : Nat} {x : Str} {a b : D} (hx : okS x) (ha : Shp N a) (hb : Shp N b) : Shp (N + 1) (.tup [.str x, a, b]) := shp_tup fun y hy => by
  rcases List.mem_cons.mp hy with q | q
  · rw [q]; exact shp_str _ hx
  · rcases List.mem_cons.mp q with q | q
    · rw [q]; exact ha
    · rw [List.mem_singleton.mp q]; exact hb
theorem shp_bs (x : Bs) (h : x.nok) : Shp 3 x.d := by
  cases x with
  | same s t => exact (shp_thr (wordS (by simp [Bs.w])) (shp_tm (N := 1) s h.1) (shp_tm t h.2))
  | R s t => exact shp_two (wordS (by simp [Bs.w])) (shp_thr (wordS (by simp [Bs.w])) (shp_tm (N := 0) s h.1) (shp_tm t h.2))
  | P s => exact shp_two (wordS (by simp [Bs.w])) (shp_two (wordS (by simp [Bs.w])) (shp_tm (N := 0) s h))
  | Q => exact shp_two (wordS (by simp [Bs.w])) (shp_one (N := 1) (wordS (by simp [Bs.w])))
theorem shp_se : ∀ s : Se, s.nok → Shp (ht s + 3) s.d
  | .b x, h => shp_bs x h
  | .no s, h => by
    have := shp_se s h
    show Shp ((ht s + 1) + 3) _
    rw [show ht s + 1 + 3 = (ht s + 3) + 1 by omega]
    exact shp_two (wordS (by simp)) this
  | .q a x s, h => by
    have := shp_se s h.2
    show Shp ((ht s + 1) + 3) _
    rw [show ht s + 1 + 3 = (ht s + 3) + 1 by omega]
    exact shp_thr (wordS (by cases a <;> simp)) (shp_str _ h.1) this
  | .bin w s t, h => by
    have h1 := shp_se s h.1
    have h2 := shp_se t h.2
    show Shp ((max (ht s) (ht t) + 1) + 3) _
    rw [show max (ht s) (ht t) + 1 + 3 = (max (ht s) (ht t) + 3) + 1 by omega]
    exact shp_thr (wordS (by cases w <;> simp [Bw.w])) (h1.up (by omega)) (h2.up (by omega))
theorem rows_i (n : Nat) {ρ : En} {z : Int} (h1 : ρ[1]? = some (some (.loc 1))) (h2 : ρ[2]? = some (some (.int z))) (h5 : 5 < ρ.length) (hz : 0 < z) : ∀ (is : List Int) (R : Rs) (a : Nat), LSt R a → a + is.length < 900000 →
    ∃ (vs : List Int) (R' : Rs), lcGo (gNm 5) xYes (xCall (pr fuel (n + 1) 3) (xCons (xVar 1) (xCons (xVar 2) xNil))) ρ (is.map .int) R = some (vs.map .int, R') ∧ LSt R' (a + is.length) ∧ vs.length = is.length ∧ ∀ v ∈ vs, 0 ≤ v ∧ v < z
  | [], R, a, L, _ => ⟨[], R, rfl, L, rfl, fun v h => by cases h⟩
  | i :: is, R, a, L, ha => by
    rw [List.length_cons] at ha
    obtain ⟨v, R1, e1, L1, v0, v1⟩ := take_n (fuel := fuel) n L (by omega) hz
    obtain ⟨vs, R2, e2, L2, hl, hv⟩ := rows_i n h1 h2 h5 hz is R1 (a + 1) L1 (by omega)
    have g1 : (ρ.set 5 (some (.int i)))[1]? = some (some (.loc 1)) := by rw [List.getElem?_set_ne (by decide)]; exact h1
    have g2 : (ρ.set 5 (some (.int i)))[2]? = some (some (.int z)) := by rw [List.getElem?_set_ne (by decide)]; exact h2
    refine ⟨v :: vs, R2, ?_, by rw [List.length_cons, show a + (is.length + 1) = a + 1 + is.length by omega]; exact L2, by rw [List.length_cons, List.length_cons, hl], fun u hu => ?_⟩
    · rw [List.map_cons, DS.lg_, if_pos h5]
      simp only [DS.yes_, DS.lg1, DS.cl_, DS.cn_, DS.var_, g1, g2, DS.oV_s, DS.cn1, DS.cn2, DS.nil_, DS.cl1, e1, DS.lg2, e2, DS.lg3, List.map_cons]
    · rcases List.mem_cons.mp hu with q | q
      · rw [q]; exact ⟨v0, v1⟩
      · exact hv u q
theorem rows_b (n : Nat) {ρ : En} (h1 : ρ[1]? = some (some (.loc 1))) (h5 : 5 < ρ.length) : ∀ (is : List Int) (R : Rs) (a : Nat), LSt R a → a + is.length < 900000 →
    ∃ (vs : List Bool) (R' : Rs), lcGo (gNm 5) xYes (xOp dEq (xCall (pr fuel (n + 1) 3) (xCons (xVar 1) (xCons (xC (.int 2)) xNil))) (xC (.int 1))) ρ (is.map .int) R = some (vs.map .bl, R') ∧ LSt R' (a + is.length) ∧ vs.length = is.length
  | [], R, a, L, _ => ⟨[], R, rfl, L, rfl⟩
  | i :: is, R, a, L, ha => by
    rw [List.length_cons] at ha
    obtain ⟨v, R1, e1, L1, v0, v1⟩ := take_n (fuel := fuel) n L (by omega) (m := 2) (by decide)
    obtain ⟨vs, R2, e2, L2, hl⟩ := rows_b n h1 h5 is R1 (a + 1) L1 (by omega)
    have g1 : (ρ.set 5 (some (.int i)))[1]? = some (some (.loc 1)) := by rw [List.getElem?_set_ne (by decide)]; exact h1
    refine ⟨decide (v = 1) :: vs, R2, ?_, by rw [List.length_cons, show a + (is.length + 1) = a + 1 + is.length by omega]; exact L2, by rw [List.length_cons, List.length_cons, hl]⟩
    rw [List.map_cons, DS.lg_, if_pos h5]
    simp only [DS.yes_, DS.lg1, DS.op_, DS.c_, DS.op1, DS.op2, DS.oK_s, dEq_int, DS.cl_, DS.cn_, DS.var_, g1, DS.oV_s, DS.cn1, DS.cn2, DS.nil_, DS.cl1, e1, DS.lg2, e2, DS.lg3, List.map_cons]
theorem rng_map (n : Nat) : ∃ is : List Int, rng 0 n = is.map D.int ∧ is.length = n ∧ ∀ i ∈ is, 0 ≤ i ∧ i < n := by
  refine ⟨(List.range n).map fun i => (0 : Int) + (i : Nat), ?_, by rw [List.length_map, List.length_range], fun i hi => ?_⟩
  · rw [List.map_map]; rfl
  · obtain ⟨j, hj, rfl⟩ := List.mem_map.mp hi
    have := List.mem_range.mp hj
    omega
theorem mg2 (a b c d) : mergeD [] [(a, b), (c, d)] = setK (setK [] a b) c d := rfl
theorem ml (a b c d) : (mergeD [] [(a, b), (c, d)]).length < 1000000 := by
  have h1 := len_set [] a b
  have h2 := len_set (setK [] a b) c d
  show (setK (setK [] a b) c d).length < 1000000
  simp at h1
  omega
theorem ml1 (a b c d k v) : (setK (mergeD [] [(a, b), (c, d)]) k v).length < 1000000 := by
  have h1 := len_set [] a b
  have h2 := len_set (setK [] a b) c d
  have h3 := len_set (setK (setK [] a b) c d) k v
  show (setK (setK (setK [] a b) c d) k v).length < 1000000
  simp at h1
  omega
theorem ml2 (a b c d k v l w) : (setK (setK (mergeD [] [(a, b), (c, d)]) k v) l w).length < 1000000 := by
  have h1 := len_set [] a b
  have h2 := len_set (setK [] a b) c d
  have h3 := len_set (setK (setK [] a b) c d) k v
  have h4 := len_set (setK (setK (setK [] a b) c d) k v) l w
  show (setK (setK (setK (setK [] a b) c d) k v) l w).length < 1000000
  simp at h1
  omega
theorem key_ne {x y : Str} (h : (x == y) = false) : ¬ (Sum.inr x : Key) = Sum.inr y := fun e => by
  cases e
  rw [beq_self_eq_true] at h
  cases h
def ibody (C : Nat → List D → Rs → Out D) : Sx := (sSeq (sAsg [4] (gNm 12) (xD (xDisp [((xC (.str "x")), (xVar 10)), ((xC (.str "y")), (xVar 11))])))
    (sSeq (sAsgI (gNm 13) (xCall (C 7) (xCons (xVar 4) (xCons (xVar 2) (xCons (xVar 6) (xCons (xVar 12) xNil))))))
    (sSeq (sIf (xB (xOp dNe (xCall (C 7) (xCons (xVar 4) (xCons (xVar 2) (xCons (xVar 8) (xCons (xVar 12) xNil))))) (xVar 13))) (sRet false [4] (xC (.bl false))) sNext)
    (sIf (xB (xOp dEq (xCall (C 7) (xCons (xVar 4) (xCons (xVar 2) (xCons (xVar 9) (xCons (xVar 12) xNil))))) (xVar 13))) (sRet false [4] (xC (.bl false))) sNext))))
def fr (A B C E F G H I J K L : Option D) (x y z : Option D) : En := [A, B, C, E, F, G, H, I, J, K, x, L, y, z]
theorem ibody_ok {C : Nat → List D → Rs → Out D} {T : Vs} {z x y : Int} {s m t : D} {b : Bool} {R : Rs} {A B E G H K1 K2 : Option D} 
    (h1 : C 7 [.dic T, .int z, s, .dic (mergeD [] [(.inr "x", .int x), (.inr "y", .int y)])] R = .ok (.bl b) R)
    (h2 : C 7 [.dic T, .int z, m, .dic (mergeD [] [(.inr "x", .int x), (.inr "y", .int y)])] R = .ok (.bl b) R)
    (h3 : C 7 [.dic T, .int z, t, .dic (mergeD [] [(.inr "x", .int x), (.inr "y", .int y)])] R = .ok (.bl (!b)) R) :
    ibody C [A, B, some (.int z), E, some (.dic T), G, some s, H, some m, some t, some (.int x), some (.int y), K1, K2] R = .next [A, B, some (.int z), E, some (.dic T), G, some s, H, some m, some t, some (.int x), some (.int y), some (.dic (mergeD [] [(.inr "x", .int x), (.inr "y", .int y)])), some (.bl b)] R := by
  cases b <;> simp at h3 <;> simp [ibody, DS.oK_s, DS.oV_s, DS.var_, DS.c_, DS.op_, DS.op1, DS.op2, DS.ix_, DS.ix1, DS.ix2, DS.cb_, DS.cb1, DS.cl_, DS.cl1, DS.nil_, DS.cn_, DS.cn1, DS.cn2, DS.tup_, DS.lst_, DS.lst_', DS.l_, DS.tup1, DS.lst1, DS.lst1', DS.l1, DS.if_, DS.if_t, DS.if_f, DS.tr_, DS.tr1, DS.oT_s, DS.b_, DS.b1, DS.and_, DS.or_, DS.not_, DS.and_t, DS.and_f, DS.or_t, DS.or_f, DS.not1, DS.av_, DS.ov_, DS.nv_, DS.av_t, DS.av_f, DS.ov_t, DS.ov_f, DS.nv1, DS.truth_b, DS.kd_, DS.kd1, DS.oG_s, DS.dg_, DS.dg1, DS.dg2, DS.sl_, DS.sl1, DS.sl2, DS.sl3, DS.part_, DS.part1, DS.nop_, DS.oL_s, DS.it_, DS.it_l, DS.it_t, DS.r1_, DS.r11, DS.lc_, DS.lc1, DS.oLc_s, DS.d_, DS.d1, DS.seq_, DS.bd_n, DS.bd_r, DS.nx_, DS.evF_, DS.evI_, DS.ev1, DS.asg_, DS.store_, DS.asgI_, DS.imm1, DS.ifs_, DS.ifs_t, DS.ifs_f, DS.ret_, DS.ret1, DS.par_, DS.par1, DS.for_, DS.exp_, DS.dput_, DS.asgD_, DS.ownD1, DS.wp0, DS.wp1, DS.for0, DS.run_, DS.run_r, DS.run_n, DS.dc_, DS.dc1, DS.ot_, DS.ot1, DS.dp_s, DS.dp_i, DS.dp1, DS.for1, DS.for2, DS.for3, DS.lg0, DS.lg_, DS.lg1, DS.lg1f, DS.lg2, DS.lg3, DS.di_, DS.di1, DS.ps0, DS.ps_, DS.ps1, DS.ps2, DS.ps3, DS.ps4, DS.ky_s, DS.ky_i, DS.imm_b, DS.imm_i, DS.imm_s, DS.yes_, lim, List.map_cons, List.map_nil, List.replicate, List.set, h1, h2, h3, dEq_bl, dNe_bl]
theorem iloop_ok {C : Nat → List D → Rs → Out D} {T : Vs} {z x : Int} {s m t : D} {R : Rs} {A B E G H : Option D} (f : Int → Int → Bool) :
    ∀ (ys : List Int) (K1 K2 K3 : Option D),
    (∀ y ∈ ys, C 7 [.dic T, .int z, s, .dic (mergeD [] [(.inr "x", .int x), (.inr "y", .int y)])] R = .ok (.bl (f x y)) R ∧
      C 7 [.dic T, .int z, m, .dic (mergeD [] [(.inr "x", .int x), (.inr "y", .int y)])] R = .ok (.bl (f x y)) R ∧
      C 7 [.dic T, .int z, t, .dic (mergeD [] [(.inr "x", .int x), (.inr "y", .int y)])] R = .ok (.bl (!f x y)) R) →
    ∃ K1' K2' K3', forGo (gNm 11) (ibody C) (ys.map .int) [A, B, some (.int z), E, some (.dic T), G, some s, H, some m, some t, some (.int x), K1, K2, K3] R = .next [A, B, some (.int z), E, some (.dic T), G, some s, H, some m, some t, some (.int x), K1', K2', K3'] R
  | [], K1, K2, K3, _ => ⟨K1, K2, K3, rfl⟩
  | y :: ys, K1, K2, K3, h => by
    have q := h y List.mem_cons_self
    have B := ibody_ok (A := A) (B := B) (E := E) (G := G) (H := H) (K1 := K2) (K2 := K3) q.1 q.2.1 q.2.2
    rw [List.map_cons, for_nx rfl B]
    exact iloop_ok f ys _ _ _ fun y' hy => h y' (List.mem_cons_of_mem _ hy)
def obody (C : Nat → List D → Rs → Out D) : Sx := sFor [4] (xRng1 (xCons (xVar 2) xNil)) (gNm 11) (ibody C)
theorem oloop_ok {C : Nat → List D → Rs → Out D} {T : Vs} {z : Int} {s m t : D} {R : Rs} {A B E G H : Option D} (f : Int → Int → Bool) (hb : big z = true) {ys : List Int} (hy : rng 0 z.toNat = ys.map .int) :
    ∀ (xs : List Int) (K0 K1 K2 K3 : Option D),
    (∀ x ∈ xs, ∀ y ∈ ys, C 7 [.dic T, .int z, s, .dic (mergeD [] [(.inr "x", .int x), (.inr "y", .int y)])] R = .ok (.bl (f x y)) R ∧
      C 7 [.dic T, .int z, m, .dic (mergeD [] [(.inr "x", .int x), (.inr "y", .int y)])] R = .ok (.bl (f x y)) R ∧
      C 7 [.dic T, .int z, t, .dic (mergeD [] [(.inr "x", .int x), (.inr "y", .int y)])] R = .ok (.bl (!f x y)) R) →
    ∃ K0' K1' K2' K3', forGo (gNm 10) (obody C) (xs.map .int) [A, B, some (.int z), E, some (.dic T), G, some s, H, some m, some t, K0, K1, K2, K3] R = .next [A, B, some (.int z), E, some (.dic T), G, some s, H, some m, some t, K0', K1', K2', K3'] R
  | [], K0, K1, K2, K3, _ => ⟨K0, K1, K2, K3, rfl⟩
  | x :: xs, K0, K1, K2, K3, h => by
    obtain ⟨a, b, c, e⟩ := iloop_ok (A := A) (B := B) (E := E) (G := G) (H := H) f ys K1 K2 K3 (h x List.mem_cons_self)
    have O : obody C [A, B, some (.int z), E, some (.dic T), G, some s, H, some m, some t, some (.int x), K1, K2, K3] R = .next [A, B, some (.int z), E, some (.dic T), G, some s, H, some m, some t, some (.int x), a, b, c] R := by
      rw [← e]
      simp [obody, DS.oK_s, DS.oV_s, DS.var_, DS.c_, DS.op_, DS.op1, DS.op2, DS.ix_, DS.ix1, DS.ix2, DS.cb_, DS.cb1, DS.cl_, DS.cl1, DS.nil_, DS.cn_, DS.cn1, DS.cn2, DS.tup_, DS.lst_, DS.lst_', DS.l_, DS.tup1, DS.lst1, DS.lst1', DS.l1, DS.if_, DS.if_t, DS.if_f, DS.tr_, DS.tr1, DS.oT_s, DS.b_, DS.b1, DS.and_, DS.or_, DS.not_, DS.and_t, DS.and_f, DS.or_t, DS.or_f, DS.not1, DS.av_, DS.ov_, DS.nv_, DS.av_t, DS.av_f, DS.ov_t, DS.ov_f, DS.nv1, DS.truth_b, DS.kd_, DS.kd1, DS.oG_s, DS.dg_, DS.dg1, DS.dg2, DS.sl_, DS.sl1, DS.sl2, DS.sl3, DS.part_, DS.part1, DS.nop_, DS.oL_s, DS.it_, DS.it_l, DS.it_t, DS.r1_, DS.r11, DS.lc_, DS.lc1, DS.oLc_s, DS.d_, DS.d1, DS.seq_, DS.bd_n, DS.bd_r, DS.nx_, DS.evF_, DS.evI_, DS.ev1, DS.asg_, DS.store_, DS.asgI_, DS.imm1, DS.ifs_, DS.ifs_t, DS.ifs_f, DS.ret_, DS.ret1, DS.par_, DS.par1, DS.for_, DS.exp_, DS.dput_, DS.asgD_, DS.ownD1, DS.wp0, DS.wp1, DS.for0, DS.run_, DS.run_r, DS.run_n, DS.dc_, DS.dc1, DS.ot_, DS.ot1, DS.dp_s, DS.dp_i, DS.dp1, DS.for1, DS.for2, DS.for3, DS.lg0, DS.lg_, DS.lg1, DS.lg1f, DS.lg2, DS.lg3, DS.di_, DS.di1, DS.ps0, DS.ps_, DS.ps1, DS.ps2, DS.ps3, DS.ps4, DS.ky_s, DS.ky_i, DS.imm_b, DS.imm_i, DS.imm_s, DS.yes_, lim, List.map_cons, List.map_nil, List.replicate, List.set, hb, hy]
    rw [List.map_cons, for_nx rfl O]
    exact oloop_ok f hb hy xs _ _ _ _ fun x' hx => h x' (List.mem_cons_of_mem _ hx)
theorem sc_xy {x y z : Int} (hx : 0 ≤ x ∧ x < z) (hy : 0 ≤ y ∧ y < z) : Sc (fun n => n ∈ [("x" : Str), "y"]) (mergeD [] [(.inr "x", .int x), (.inr "y", .int y)]) z := ⟨fun n hn => by
  show ∃ v, getK (setK (setK [] (.inr "x") (.int x)) (.inr "y") (.int y)) (.inr n) = some (.int v) ∧ 0 ≤ v ∧ v < z
  rw [getK_set, getK_set]
  rcases List.mem_cons.mp hn with q | q
  · subst q
    exact ⟨x, by rw [if_neg (key_ne (by with_unfolding_all rfl)), if_pos rfl], hx⟩
  · rw [List.mem_singleton.mp q]
    exact ⟨y, by rw [if_pos rfl], hy⟩⟩
theorem main_ok (ns : List Int) (h : ns.length ≤ 63) : ∃ r, pr fuel 60 14 [.scr ns] [] = .ok (.bl true) r := by
  obtain ⟨R0, e0, L0⟩ := start_ok h
  have e0' : pr fuel 59 2 [.scr ns] [] = .ok (.loc 1) R0 := e0
  obtain ⟨v1, R1, e1, L1, b1⟩ := take_n (fuel := fuel) 58 L0 (by omega) (m := 3) (by decide)
  obtain ⟨v2, R2, e2, L2, b2⟩ := take_n (fuel := fuel) 58 L1 (by omega) (m := 4) (by decide)
  obtain ⟨z, hz⟩ : ∃ z, z = 1 + v1 := ⟨_, rfl⟩
  have hz3 : 1 ≤ z ∧ z ≤ 3 := by omega
  obtain ⟨a0, R3, e3, L3, b3⟩ := take_n (fuel := fuel) 58 L2 (by omega) (m := z) (by omega)
  obtain ⟨q0, R4, e4, L4, b4⟩ := take_n (fuel := fuel) 58 L3 (by omega) (m := 2) (by decide)
  obtain ⟨is, hr1, lis, bis⟩ := rng_map z.toNat
  obtain ⟨is2, hr2, lis2, _⟩ := rng_map (z * z).toNat
  have hzz : z * z ≤ 9 := by
    have : z = 1 ∨ z = 2 ∨ z = 3 := by omega
    rcases this with q | q | q <;> subst q <;> decide
  have hzz0 : 0 ≤ z * z := Int.mul_nonneg (by omega) (by omega)
  have lis' : is.length ≤ 3 := by omega
  have lis2' : is2.length ≤ 9 := by omega
  obtain ⟨fs, R5, e5, L5, lf, bf⟩ := rows_i (fuel := fuel) 58 (ρ := [some (.scr ns), some (.loc 1), some (.int z), some (.int (1 + v2)), none, none, none, none, none, none, none, none, none, none]) rfl rfl (by show 5 < 14; decide) (by omega) is R4 _ L4 (by omega)
  obtain ⟨ps, R6, e6, L6, lp⟩ := rows_b (fuel := fuel) 58 (ρ := [some (.scr ns), some (.loc 1), some (.int z), some (.int (1 + v2)), none, none, none, none, none, none, none, none, none, none]) rfl (by show 5 < 14; decide) is R5 _ L5 (by omega)
  obtain ⟨rs, R7, e7, L7, lr⟩ := rows_b (fuel := fuel) 58 (ρ := [some (.scr ns), some (.loc 1), some (.int z), some (.int (1 + v2)), none, none, none, none, none, none, none, none, none, none]) rfl (by show 5 < 14; decide) is2 R6 _ L6 (by omega)
  have p4 : 3 ^ (1 + v2).toNat ≤ 3 ^ 4 := Nat.pow_le_pow_right (by decide) (by omega)
  have p4' : (3 : Nat) ^ 4 = 81 := by decide
  obtain ⟨s, R8, a8, e8, L8, _, s1, s2, s3⟩ := sent_ok (fuel := fuel) (1 + v2).toNat (1 + v2) 59 (nm := ["x", "y"]) (by omega) L7 (by omega) (by decide) (by show 2 + _ < 1000; omega) (fun y hy => by
    rcases List.mem_cons.mp hy with q | q
    · subst q; with_unfolding_all rfl
    · rw [List.mem_singleton.mp q]; with_unfolding_all rfl) (by omega)
  have hh : ht s ≤ 4 := by omega
  let M : Tb := ⟨z, a0, decide (q0 = 1), fs, ps, rs, hz3, b3, ⟨by omega, bf⟩, by omega, by omega⟩
  obtain ⟨T, hT⟩ : ∃ T, T = setK (setK (setK (mergeD [] [(.inr "a", .lst [.int a0]), (.inr "Q", .lst [.bl (decide (q0 = 1))])]) (.inr "f") (.lst (fs.map .int))) (.inr "P") (.lst (ps.map .bl))) (.inr "R") (.lst (rs.map .bl)) := ⟨_, rfl⟩
  have TD : TbD M T := by
    subst hT
    have hm : ∀ k, getK (mergeD [] [(.inr "a", .lst [.int a0]), (.inr "Q", .lst [.bl (decide (q0 = 1))])]) k = if (.inr "Q" : Key) = k then some (.lst [.bl (decide (q0 = 1))]) else if (.inr "a" : Key) = k then some (.lst [.int a0]) else none := fun k => by
      rw [mg2, getK_set, getK_set]
      rfl
    refine ⟨?_, ?_, ?_, ?_, ?_⟩ <;> rw [getK_set, getK_set, getK_set, hm] <;> simp only [if_true, key_ne (x := "R") (y := "a") (by with_unfolding_all rfl), key_ne (x := "P") (y := "a") (by with_unfolding_all rfl), key_ne (x := "f") (y := "a") (by with_unfolding_all rfl), key_ne (x := "Q") (y := "a") (by with_unfolding_all rfl),
      key_ne (x := "R") (y := "Q") (by with_unfolding_all rfl), key_ne (x := "P") (y := "Q") (by with_unfolding_all rfl), key_ne (x := "f") (y := "Q") (by with_unfolding_all rfl), key_ne (x := "R") (y := "f") (by with_unfolding_all rfl), key_ne (x := "P") (y := "f") (by with_unfolding_all rfl), key_ne (x := "R") (y := "P") (by with_unfolding_all rfl), if_false, M]
  have f1 := formed_ok (fuel := fuel) 59 s R8 (by omega)
  have n1 := neg_ok (fuel := fuel) 58 s R8 (by have := lv_ht s; omega)
  have n2 := neg_ok (fuel := fuel) 58 (.no s) R8 (by have := lv_ht s; rw [lv]; omega)
  have hs1 := ht_sgn s true
  have hs2 := ht_sgn s false
  have n3 := neg_ok (fuel := fuel) 58 (sgn s true) R8 (by have := lv_ht (sgn s true); omega)
  have o1 := opp_ok (fuel := fuel) 59 (sgn s true) R8 (by omega)
  rw [formed_sgn] at f1
  rw [sgn] at n2
  rw [sgn_sgn] at n3
  rw [opp_sgn] at o1
  simp only [Bool.not_true] at n2 o1
  have sh1 := shaped_ok (fuel := fuel) 59 (sgn s true) R8 (nf_sgn _ _) (by omega)
  have sh2 := shaped_ok (fuel := fuel) 59 (sgn s false) R8 (nf_sgn _ _) (by omega)
  have k1 := dNe_self (shp_se _ (nok_sgn s true s2)) (by omega)
  have k2 := dNe_self (shp_se _ (nok_sgn s false s2)) (by omega)
  have tr : ∀ x ∈ is, ∀ y ∈ is, pr fuel 59 7 [.dic T, .int z, s.d, .dic (mergeD [] [(.inr "x", .int x), (.inr "y", .int y)])] R8 = .ok (.bl (sv M (mergeD [] [(.inr "x", .int x), (.inr "y", .int y)]) s)) R8 ∧
      pr fuel 59 7 [.dic T, .int z, (sgn s true).d, .dic (mergeD [] [(.inr "x", .int x), (.inr "y", .int y)])] R8 = .ok (.bl (sv M (mergeD [] [(.inr "x", .int x), (.inr "y", .int y)]) s)) R8 ∧
      pr fuel 59 7 [.dic T, .int z, (sgn s false).d, .dic (mergeD [] [(.inr "x", .int x), (.inr "y", .int y)])] R8 = .ok (.bl (!sv M (mergeD [] [(.inr "x", .int x), (.inr "y", .int y)]) s)) R8 := fun x hx y hy => by
    have bx := bis x hx
    have by_ := bis y hy
    have c := sc_xy (x := x) (y := y) (z := z) (by omega) (by omega)
    have l := ml (.inr "x") (.int x) (.inr "y") (.int y)
    have l2 : (mergeD [] [((.inr "x" : Key), D.int x), (.inr "y", .int y)]).length ≤ 2 := by
      have h1 := len_set [] (.inr "x") (.int x)
      have h2 := len_set (setK [] (.inr "x") (.int x)) (.inr "y") (.int y)
      rw [mg2]
      simp at h1
      omega
    have t1 := true_ok (fuel := fuel) M TD s 59 _ _ R8 c s1 (by omega) (by omega)
    have t2 := true_ok (fuel := fuel) M TD (sgn s true) 59 _ _ R8 c (ok_sgn s _ _ s1) (by omega) (by omega)
    have t3 := true_ok (fuel := fuel) M TD (sgn s false) 59 _ _ R8 c (ok_sgn s _ _ s1) (by omega) (by omega)
    rw [sv_sgn, show ∀ b : Bool, (b == true) = b from by decide] at t2
    rw [sv_sgn, show ∀ b : Bool, (b == false) = !b from by decide] at t3
    exact ⟨t1, t2, t3⟩
  obtain ⟨x0, x1, x2, x3, eL⟩ := oloop_ok (C := pr fuel 59) (T := T) (z := z) (s := s.d) (m := (sgn s true).d) (t := (sgn s false).d) (R := R8) (A := some (.scr ns)) (B := some (.loc 1)) (E := some (.int (1 + v2))) (G := none) (H := some (sgn s true).d) (fun x y => sv M (mergeD [] [(.inr "x", .int x), (.inr "y", .int y)]) s) M.bg hr1 is none none none none tr
  refine ⟨R8, ?_⟩
  have hb : big z = true := M.bg
  have hm : small z = true := M.sm
  have hbb : big (z * z) = true := by
    unfold big
    rw [decide_eq_true_eq]
    omega
  have lfs : fs.length ≤ 1000000 := by omega
  have lps : ps.length ≤ 1000000 := by omega
  have lrs : rs.length ≤ 1000000 := by omega
  have n2' : pr fuel 59 0 [.tup [.str "not", s.d]] R8 = .ok (sgn s false).d R8 := n2
  simp only [Nat.reduceAdd, List.map_cons, List.map_nil] at e1 e2 e3 e4 e5 e6 e7 e8 n1 n3
  change runF 14 (b_law fuel (pr fuel 59)) _ _ = _
  unfold b_law
  change runF 14 (sSeq _ (sSeq _ (sSeq _ (sSeq _ (sSeq _ (sSeq _ (sSeq _ (sSeq _ (sSeq _ (sSeq _ (sSeq _ (sSeq _ (sSeq _ (sSeq (sFor [4] _ (gNm 10) (obody (pr fuel 59))) _)))))))))))))) _ _ = _
  have hz' := hz.symm
  have hT' := hT.symm
  simp [DS.oK_s, DS.oV_s, DS.var_, DS.c_, DS.op_, DS.op1, DS.op2, DS.ix_, DS.ix1, DS.ix2, DS.cb_, DS.cb1, DS.cl_, DS.cl1, DS.nil_, DS.cn_, DS.cn1, DS.cn2, DS.tup_, DS.lst_, DS.lst_', DS.l_, DS.tup1, DS.lst1, DS.lst1', DS.l1, DS.if_, DS.if_t, DS.if_f, DS.tr_, DS.tr1, DS.oT_s, DS.b_, DS.b1, DS.and_, DS.or_, DS.not_, DS.and_t, DS.and_f, DS.or_t, DS.or_f, DS.not1, DS.av_, DS.ov_, DS.nv_, DS.av_t, DS.av_f, DS.ov_t, DS.ov_f, DS.nv1, DS.truth_b, DS.kd_, DS.kd1, DS.oG_s, DS.dg_, DS.dg1, DS.dg2, DS.sl_, DS.sl1, DS.sl2, DS.sl3, DS.part_, DS.part1, DS.nop_, DS.oL_s, DS.it_, DS.it_l, DS.it_t, DS.r1_, DS.r11, DS.lc_, DS.lc1, DS.oLc_s, DS.d_, DS.d1, DS.seq_, DS.bd_n, DS.bd_r, DS.nx_, DS.evF_, DS.evI_, DS.ev1, DS.asg_, DS.store_, DS.asgI_, DS.imm1, DS.ifs_, DS.ifs_t, DS.ifs_f, DS.ret_, DS.ret1, DS.par_, DS.par1, DS.for_, DS.exp_, DS.dput_, DS.asgD_, DS.ownD1, DS.wp0, DS.wp1, DS.for0, DS.run_, DS.run_r, DS.run_n, DS.dc_, DS.dc1, DS.ot_, DS.ot1, DS.dp_s, DS.dp_i, DS.dp1, DS.for1, DS.for2, DS.for3, DS.lg0, DS.lg_, DS.lg1, DS.lg1f, DS.lg2, DS.lg3, DS.di_, DS.di1, DS.ps0, DS.ps_, DS.ps1, DS.ps2, DS.ps3, DS.ps4, DS.ky_s, DS.ky_i, DS.imm_b, DS.imm_i, DS.imm_s, DS.yes_, lim, List.map_cons, List.map_nil, List.replicate, List.set, e0', e1, e2, e3, e4, e5, e6, e7, e8, hz', dAdd, dMul, hb, hm, hbb, hr1, hr2, lfs, lps, lrs, ml, ml1, ml2, dEq_int, hT', f1, n1, n2', n3, o1, sh1, sh2, k1, k2, eL]
end KM

namespace Law
open PySem L2 DL
structure Txt (K : PySem.W.Frag) (w : World) (mg : Str → Option Value) (ad : Nat → Addr) (fd : Nat → FuncData) (ca : Nat → Addr) : Prop where
  F0 : Fun K "negation_form" "negation_form" s_negation_form (ad 0) (fd 0)
  b0 : Binds K (fd 0) P_negation_form []
  m0 : mg "negation_form" = some (.ref (ad 0))
  F1 : Fun K "signed_form" "signed_form" s_signed_form (ad 1) (fd 1)
  b1 : Binds K (fd 1) P_signed_form []
  m1 : mg "signed_form" = some (.ref (ad 1))
  F2 : Fun K "_law_start" "_law_start" s__law_start (ad 2) (fd 2)
  b2 : Binds K (fd 2) P__law_start []
  m2 : mg "_law_start" = some (.ref (ad 2))
  F3 : Fun K "_law_take" "_law_take" s__law_take (ad 3) (fd 3)
  b3 : Binds K (fd 3) P__law_take []
  m3 : mg "_law_take" = some (.ref (ad 3))
  F4 : Fun K "_law_entry" "_law_entry" s__law_entry (ad 4) (fd 4)
  b4 : Binds K (fd 4) P__law_entry []
  m4 : mg "_law_entry" = some (.ref (ad 4))
  F5 : Fun K "_law_value" "_law_value" s__law_value (ad 5) (fd 5)
  b5 : Binds K (fd 5) P__law_value []
  m5 : mg "_law_value" = some (.ref (ad 5))
  F6 : Fun K "_law_bound" "_law_bound" s__law_bound (ad 6) (fd 6)
  b6 : Binds K (fd 6) P__law_bound []
  m6 : mg "_law_bound" = some (.ref (ad 6))
  F7 : Fun K "_law_true" "_law_true" s__law_true (ad 7) (fd 7)
  b7 : Binds K (fd 7) P__law_true []
  m7 : mg "_law_true" = some (.ref (ad 7))
  F8 : Fun K "_law_term" "_law_term" s__law_term (ad 8) (fd 8)
  b8 : Binds K (fd 8) P__law_term []
  m8 : mg "_law_term" = some (.ref (ad 8))
  F9 : Fun K "_law_basic" "_law_basic" s__law_basic (ad 9) (fd 9)
  b9 : Binds K (fd 9) P__law_basic []
  m9 : mg "_law_basic" = some (.ref (ad 9))
  F10 : Fun K "_law_sentence" "_law_sentence" s__law_sentence (ad 10) (fd 10)
  b10 : Binds K (fd 10) P__law_sentence []
  m10 : mg "_law_sentence" = some (.ref (ad 10))
  F11 : Fun K "_law_opposite" "_law_opposite" s__law_opposite (ad 11) (fd 11)
  b11 : Binds K (fd 11) P__law_opposite []
  m11 : mg "_law_opposite" = some (.ref (ad 11))
  F12 : Fun K "_law_formed" "_law_formed" s__law_formed (ad 12) (fd 12)
  b12 : Binds K (fd 12) P__law_formed []
  m12 : mg "_law_formed" = some (.ref (ad 12))
  F13 : Fun K "_law_shaped" "_law_shaped" s__law_shaped (ad 13) (fd 13)
  b13 : Binds K (fd 13) P__law_shaped []
  m13 : mg "_law_shaped" = some (.ref (ad 13))
  F14 : Fun K "law" "law" s_law (ad 14) (fd 14)
  b14 : Binds K (fd 14) P_law []
  m14 : mg "law" = some (.ref (ad 14))
  z_abs : mg "abs" = none
  z_dict : mg "dict" = none
  z_int : mg "int" = none
  z_isinstance : mg "isinstance" = none
  z_len : mg "len" = none
  z_range : mg "range" = none
  z_str : mg "str" = none
  m_BINDERS : mg "BINDERS" = some (.ref (ca 0))
  c_BINDERS : ∀ m H, Rp K m H k_BINDERS (.ref (ca 0))
  m_BASIC : mg "BASIC" = some (.ref (ca 1))
  c_BASIC : ∀ m H, Rp K m H k_BASIC (.ref (ca 1))
  m_OTHER : mg "OTHER" = some (.ref (ca 2))
  c_OTHER : ∀ x d, k_OTHER.lookup x = some d → ∃ v, KDct K w (ca 2) x v ∧ ∀ m H, Rp K m H d v
structure Lv (fuel : Nat) (P : Program) (w : World) (K : PySem.W.Frag) (mg : Str → Option Value) (base : Heap) (ad : Nat → Addr) (fd : Nat → FuncData) (n : Nat) : Prop where
  g0 : FnOk P w K mg base (L2.CX P w) n (ad 0) (fd 0) P_negation_form (spF K (List.length P_negation_form) false (pr fuel n 0))
  g1 : FnOk P w K mg base (L2.CX P w) n (ad 1) (fd 1) P_signed_form (spF K (List.length P_signed_form) false (pr fuel n 1))
  g2 : FnOk P w K mg base (L2.CX P w) n (ad 2) (fd 2) P__law_start (spF K (List.length P__law_start) false (pr fuel n 2))
  g3 : FnOk P w K mg base (L2.CX P w) n (ad 3) (fd 3) P__law_take (spF K (List.length P__law_take) false (pr fuel n 3))
  g4 : FnOk P w K mg base (L2.CX P w) n (ad 4) (fd 4) P__law_entry (spF K (List.length P__law_entry) false (pr fuel n 4))
  g5 : FnOk P w K mg base (L2.CX P w) n (ad 5) (fd 5) P__law_value (spF K (List.length P__law_value) false (pr fuel n 5))
  g6 : FnOk P w K mg base (L2.CX P w) n (ad 6) (fd 6) P__law_bound (spF K (List.length P__law_bound) false (pr fuel n 6))
  g7 : FnOk P w K mg base (L2.CX P w) n (ad 7) (fd 7) P__law_true (spF K (List.length P__law_true) false (pr fuel n 7))
  g8 : FnOk P w K mg base (L2.CX P w) n (ad 8) (fd 8) P__law_term (spF K (List.length P__law_term) false (pr fuel n 8))
  g9 : FnOk P w K mg base (L2.CX P w) n (ad 9) (fd 9) P__law_basic (spF K (List.length P__law_basic) false (pr fuel n 9))
  g10 : FnOk P w K mg base (L2.CX P w) n (ad 10) (fd 10) P__law_sentence (spF K (List.length P__law_sentence) false (pr fuel n 10))
  g11 : FnOk P w K mg base (L2.CX P w) n (ad 11) (fd 11) P__law_opposite (spF K (List.length P__law_opposite) false (pr fuel n 11))
  g12 : FnOk P w K mg base (L2.CX P w) n (ad 12) (fd 12) P__law_formed (spF K (List.length P__law_formed) false (pr fuel n 12))
  g13 : FnOk P w K mg base (L2.CX P w) n (ad 13) (fd 13) P__law_shaped (spF K (List.length P__law_shaped) false (pr fuel n 13))
  g14 : FnOk P w K mg base (L2.CX P w) n (ad 14) (fd 14) P_law (spF K (List.length P_law) false (pr fuel n 14))
section
variable {fuel : Nat} {P : Program} {w : World} {K : PySem.W.Frag} {mg : Str → Option Value} {base : Heap} {ad : Nat → Addr} {fd : Nat → FuncData} {ca : Nat → Addr} {n : Nat}
theorem ok_negation_form (T : Txt K w mg ad fd ca) (L : Lv fuel P w K mg base ad fd n) : FnOk P w K mg base (L2.CX P w) (n + 1) (ad 0) (fd 0) P_negation_form (spF K (List.length P_negation_form) false (runF (List.length N_negation_form) (b_negation_form fuel (pr fuel n)))) :=
  ok_fn (N := N_negation_form) (ps := P_negation_form) (fr := false) (g := b_negation_form fuel (pr fuel n)) [] T.F0 sc_negation_form (by decide) fun cdv A outer s H E En hr =>
    (dss_one (ds_ret (ps_ret (de_call (FnOk.d L.g1) hr rfl T.m1 T.F1.kp T.b1 (takes_of rfl rfl rfl rfl) (da_cons (de_var 0) (da_cons de_bl da_nil)) (cons_len (cons_len len0))))))
theorem ok_signed_form (T : Txt K w mg ad fd ca) (L : Lv fuel P w K mg base ad fd n) : FnOk P w K mg base (L2.CX P w) (n + 1) (ad 1) (fd 1) P_signed_form (spF K (List.length P_signed_form) false (runF (List.length N_signed_form) (b_signed_form fuel (pr fuel n)))) :=
  ok_fn (N := N_signed_form) (ps := P_signed_form) (fr := false) (g := b_signed_form fuel (pr fuel n)) [] T.F1 sc_signed_form (by decide) fun cdv A outer s H E En hr =>
    (dss_cons (ds_asg (ps_set (i := 2) sc_signed_form.nd rfl (by first | exact Or.inl rfl | exact Or.inr rfl) (de_ix (de_var 0) de_int)) (tg_name _ 2) (by dsimp only; decide))
    (dss_cons (ds_if (dt_cmp (od_in (r65 hr)) (de_var 2) (de_const (pe_glob (v := .ref (ca 1)) rfl T.m_BASIC rfl) T.c_BASIC)) (dss_one (ds_ret (ps_ret (de_if (dt_tr (de_var 1)) (de_var 0) (de_tup (da_cons de_str (da_cons (de_var 0) da_nil))))))) dss_nil)
    (dss_cons (ds_if (dt_cmp (od_eq hr.units) (de_var 2) de_str) (dss_one (ds_ret (ps_ret (de_call (FnOk.d L.g1) hr rfl T.m1 T.F1.kp T.b1 (takes_of rfl rfl rfl rfl) (da_cons (de_ix (de_var 0) de_int) (da_cons (de_not (de_var 1)) da_nil)) (cons_len (cons_len len0)))))) dss_nil)
    (dss_cons (ds_if (dt_cmp (od_in (r65 hr)) (de_var 2) (de_const (pe_glob (v := .ref (ca 0)) rfl T.m_BINDERS rfl) T.c_BINDERS)) (dss_one (ds_ret (ps_ret (de_tup (da_cons (de_if (dt_tr (de_var 1)) (de_var 2) (de_kd (pe_glob rfl T.m_OTHER rfl) (de_var 2) T.c_OTHER)) (da_cons (de_ix (de_var 0) de_int) (da_cons (de_call (FnOk.d L.g1) hr rfl T.m1 T.F1.kp T.b1 (takes_of rfl rfl rfl rfl) (da_cons (de_ix (de_var 0) de_int) (da_cons (de_var 1) da_nil)) (cons_len (cons_len len0))) da_nil))))))) dss_nil)
    (dss_cons (ds_par (ps_par rfl sc_signed_form.nd rfl rfl (by decide) rfl rfl (da_cons (de_ix (de_var 0) de_int) (da_cons (de_ix (de_var 0) de_int) da_nil)) rfl) (by dsimp only; decide) (by dsimp only; decide))
    (dss_cons (ds_if (dt_cmp (od_eq hr.units) (de_var 2) de_str) (dss_cons (ds_par (ps_par rfl sc_signed_form.nd rfl rfl (by decide) rfl rfl (da_cons (de_tup (da_cons de_str (da_cons (de_var 3) (da_cons (de_var 4) da_nil)))) (da_cons (de_tup (da_cons de_str (da_cons (de_var 4) (da_cons (de_var 3) da_nil)))) da_nil)) rfl) (by dsimp only; decide) (by dsimp only; decide))
    (dss_one (ds_ret (ps_ret (de_tup (da_cons (de_if (dt_tr (de_var 1)) de_str de_str) (da_cons (de_call (FnOk.d L.g1) hr rfl T.m1 T.F1.kp T.b1 (takes_of rfl rfl rfl rfl) (da_cons (de_var 5) (da_cons (de_var 1) da_nil)) (cons_len (cons_len len0))) (da_cons (de_call (FnOk.d L.g1) hr rfl T.m1 T.F1.kp T.b1 (takes_of rfl rfl rfl rfl) (da_cons (de_var 6) (da_cons (de_var 1) da_nil)) (cons_len (cons_len len0))) da_nil)))))))) dss_nil)
    (dss_cons (ds_if (dt_cmp (od_eq hr.units) (de_var 2) de_str) (dss_one (ds_ret (ps_ret (de_tup (da_cons (de_if (dt_tr (de_var 1)) de_str de_str) (da_cons (de_call (FnOk.d L.g1) hr rfl T.m1 T.F1.kp T.b1 (takes_of rfl rfl rfl rfl) (da_cons (de_var 3) (da_cons (de_not (de_var 1)) da_nil)) (cons_len (cons_len len0))) (da_cons (de_call (FnOk.d L.g1) hr rfl T.m1 T.F1.kp T.b1 (takes_of rfl rfl rfl rfl) (da_cons (de_var 4) (da_cons (de_var 1) da_nil)) (cons_len (cons_len len0))) da_nil))))))) dss_nil)
    (dss_one (ds_ret (ps_ret (de_tup (da_cons (de_if (dt_tr (de_var 1)) (de_var 2) (de_kd (pe_glob rfl T.m_OTHER rfl) (de_var 2) T.c_OTHER)) (da_cons (de_call (FnOk.d L.g1) hr rfl T.m1 T.F1.kp T.b1 (takes_of rfl rfl rfl rfl) (da_cons (de_var 3) (da_cons (de_var 1) da_nil)) (cons_len (cons_len len0))) (da_cons (de_call (FnOk.d L.g1) hr rfl T.m1 T.F1.kp T.b1 (takes_of rfl rfl rfl rfl) (da_cons (de_var 4) (da_cons (de_var 1) da_nil)) (cons_len (cons_len len0))) da_nil))))))))))))))
theorem ok__law_start (T : Txt K w mg ad fd ca) (L : Lv fuel P w K mg base ad fd n) : FnOk P w K mg base (L2.CX P w) (n + 1) (ad 2) (fd 2) P__law_start (spF K (List.length P__law_start) false (runF (List.length N__law_start) (b__law_start fuel (pr fuel n)))) :=
  ok_fn (N := N__law_start) (ps := P__law_start) (fr := false) (g := b__law_start fuel (pr fuel n)) [] T.F2 sc__law_start (by decide) fun cdv A outer s H E En hr =>
    (dss_cons (ds_asg (ps_set (i := 1) sc__law_start.nd rfl (by first | exact Or.inl rfl | exact Or.inr rfl) (de_res (dn_lst da_nil))) (tg_name _ 1) (by dsimp only; decide))
    (dss_cons (ds_asg (ps_set (i := 2) sc__law_start.nd rfl (by first | exact Or.inl rfl | exact Or.inr rfl) de_int) (tg_name _ 2) (by dsimp only; decide))
    (dss_cons (ds_for (passes_of rfl) rfl (di_rng1 rfl T.z_range (da_cons (de_callB cd_len rfl T.z_len (by decide +kernel) (da_cons (de_var 0) da_nil)) da_nil)) (pg_name (i := 3) sc__law_start.nd rfl (by first | exact Or.inl rfl | exact Or.inr rfl)) (tg_name _ 3) (by dsimp only; decide) (dss_cons (ds_asg (ps_set (i := 4) sc__law_start.nd rfl (by first | exact Or.inl rfl | exact Or.inr rfl) (de_callB cd_abs rfl T.z_abs (by decide +kernel) (da_cons (de_ix (de_var 0) (de_var 3)) da_nil))) (tg_name _ 4) (by dsimp only; decide))
    (dss_cons (ds_asg (ps_set (i := 2) sc__law_start.nd rfl (by first | exact Or.inl rfl | exact Or.inr rfl) (de_op od_mod (de_callTy cd_int rfl T.z_int (by decide +kernel) (da_cons (de_op od_add (de_op od_add (de_op od_mul (de_var 2) de_int) (de_var 4)) (de_var 3)) da_nil)) de_int)) (tg_name _ 2) (by dsimp only; decide))
    (dss_one (ds_if (dt_cmp od_ge (de_var 4) (de_op od_pow de_int de_int)) (dss_cons (ds_asg (ps_set (i := 4) sc__law_start.nd rfl (by first | exact Or.inl rfl | exact Or.inr rfl) (de_op od_sub (de_var 4) (de_op od_pow de_int de_int))) (tg_name _ 4) (by dsimp only; decide))
    (dss_one (ds_for (passes_of rfl) rfl (di_rng1 rfl T.z_range (da_cons de_int da_nil)) (pg_name (i := 5) sc__law_start.nd rfl (by first | exact Or.inl rfl | exact Or.inr rfl)) (tg_name _ 5) (by dsimp only; decide) (dss_one (ds_if (dt_cmp od_gt (de_var 4) de_int) (dss_cons (ds_exp (ps_expr (de_appR (pe_bm PySem.F.plainAttrs_list PySem.F.slot_list_append PySem.F.type_list_append mt_append (de_var 1) (da_cons (de_op od_mod (de_callTy cd_int rfl T.z_int (by decide +kernel) (da_cons (de_var 4) da_nil)) de_int) da_nil)))))
    (dss_one (ds_asg (ps_set (i := 4) sc__law_start.nd rfl (by first | exact Or.inl rfl | exact Or.inr rfl) (de_op od_div (de_var 4) de_int)) (tg_name _ 4) (by dsimp only; decide)))) dss_nil))))) (dss_cons (ds_asg (ps_set (i := 6) sc__law_start.nd rfl (by first | exact Or.inl rfl | exact Or.inr rfl) (de_op od_mod (de_callTy cd_int rfl T.z_int (by decide +kernel) (da_cons (de_op od_add (de_op od_mul (de_op od_add (de_var 4) de_int) de_int) (de_op od_mul (de_var 3) de_int)) da_nil)) de_int)) (tg_name _ 6) (by dsimp only; decide))
    (dss_cons (ds_asg (ps_set (i := 6) sc__law_start.nd rfl (by first | exact Or.inl rfl | exact Or.inr rfl) (de_op od_mod (de_callTy cd_int rfl T.z_int (by decide +kernel) (da_cons (de_op od_add (de_op od_mul (de_var 6) de_int) de_int) da_nil)) de_int)) (tg_name _ 6) (by dsimp only; decide))
    (dss_one (ds_exp (ps_expr (de_appR (pe_bm PySem.F.plainAttrs_list PySem.F.slot_list_append PySem.F.type_list_append mt_append (de_var 1) (da_cons (de_op od_mod (de_op od_div (de_var 6) de_int) de_int) da_nil)))))))))))))
    (dss_one (ds_ret (ps_ret (de_res (dn_lst (da_cons (de_var 1) (da_cons de_int (da_cons (de_var 2) da_nil)))))))))))
theorem ok__law_take (T : Txt K w mg ad fd ca) (L : Lv fuel P w K mg base ad fd n) : FnOk P w K mg base (L2.CX P w) (n + 1) (ad 3) (fd 3) P__law_take (spF K (List.length P__law_take) false (runF (List.length N__law_take) (b__law_take fuel (pr fuel n)))) :=
  ok_fn (N := N__law_take) (ps := P__law_take) (fr := false) (g := b__law_take fuel (pr fuel n)) [] T.F3 sc__law_take (by decide) fun cdv A outer s H E En hr =>
    (dss_cons (ds_asg (ps_set (i := 2) sc__law_take.nd rfl (by first | exact Or.inl rfl | exact Or.inr rfl) (de_ix (de_var 0) de_int)) (tg_name _ 2) (by dsimp only; decide))
    (dss_cons (ds_setR (ps_asg (de_op od_add (de_var 2) de_int) (pg_sub (de_var 0) de_int set_list)))
    (dss_cons (ds_if (dt_cmp od_lt (de_var 2) (de_callB cd_len rfl T.z_len (by decide +kernel) (da_cons (de_ix (de_var 0) de_int) da_nil))) (dss_one (ds_ret (ps_ret (de_op od_mod (de_callTy cd_int rfl T.z_int (by decide +kernel) (da_cons (de_ix (de_ix (de_var 0) de_int) (de_var 2)) da_nil)) (de_var 1))))) dss_nil)
    (dss_cons (ds_asg (ps_set (i := 3) sc__law_take.nd rfl (by first | exact Or.inl rfl | exact Or.inr rfl) (de_op od_mod (de_callTy cd_int rfl T.z_int (by decide +kernel) (da_cons (de_op od_mul (de_op od_add (de_ix (de_var 0) de_int) (de_op od_mul (de_var 2) de_int)) de_int) da_nil)) de_int)) (tg_name _ 3) (by dsimp only; decide))
    (dss_cons (ds_asg (ps_set (i := 3) sc__law_take.nd rfl (by first | exact Or.inl rfl | exact Or.inr rfl) (de_op od_mod (de_callTy cd_int rfl T.z_int (by decide +kernel) (da_cons (de_op od_add (de_op od_mul (de_var 3) de_int) (de_op od_mul (de_var 2) (de_var 2))) da_nil)) de_int)) (tg_name _ 3) (by dsimp only; decide))
    (dss_one (ds_ret (ps_ret (de_op od_mod (de_op od_div (de_var 3) de_int) (de_var 1))))))))))
theorem ok__law_entry (T : Txt K w mg ad fd ca) (L : Lv fuel P w K mg base ad fd n) : FnOk P w K mg base (L2.CX P w) (n + 1) (ad 4) (fd 4) P__law_entry (spF K (List.length P__law_entry) false (runF (List.length N__law_entry) (b__law_entry fuel (pr fuel n)))) :=
  ok_fn (N := N__law_entry) (ps := P__law_entry) (fr := false) (g := b__law_entry fuel (pr fuel n)) [] T.F4 sc__law_entry (by decide) fun cdv A outer s H E En hr =>
    (dss_cons (ds_asg (ps_set (i := 4) sc__law_entry.nd rfl (by first | exact Or.inl rfl | exact Or.inr rfl) de_int) (tg_name _ 4) (by dsimp only; decide))
    (dss_cons (ds_for (passes_of rfl) rfl (di_seq (de_var 3)) (pg_name (i := 5) sc__law_entry.nd rfl (by first | exact Or.inl rfl | exact Or.inr rfl)) (tg_name _ 5) (by dsimp only; decide) (dss_one (ds_asg (ps_set (i := 4) sc__law_entry.nd rfl (by first | exact Or.inl rfl | exact Or.inr rfl) (de_op od_add (de_op od_mul (de_var 4) (de_var 1)) (de_var 5))) (tg_name _ 4) (by dsimp only; decide))))
    (dss_one (ds_ret (ps_ret (de_ix (de_dget hr (de_var 0) (de_var 2)) (de_var 4)))))))
theorem ok__law_value (T : Txt K w mg ad fd ca) (L : Lv fuel P w K mg base ad fd n) : FnOk P w K mg base (L2.CX P w) (n + 1) (ad 5) (fd 5) P__law_value (spF K (List.length P__law_value) false (runF (List.length N__law_value) (b__law_value fuel (pr fuel n)))) :=
  ok_fn (N := N__law_value) (ps := P__law_value) (fr := false) (g := b__law_value fuel (pr fuel n)) [] T.F5 sc__law_value (by decide) fun cdv A outer s H E En hr =>
    (dss_cons (ds_if (dt_tr (de_callB cd_isi rfl T.z_isinstance (by decide +kernel) (da_cons (de_var 2) (da_cons (de_ty rfl T.z_str (by decide +kernel)) da_nil)))) (dss_one (ds_ret (ps_ret (de_dget hr (de_var 3) (de_var 2))))) dss_nil)
    (dss_one (ds_ret (ps_ret (de_call (FnOk.d L.g4) hr rfl T.m4 T.F4.kp T.b4 (takes_of rfl rfl rfl rfl) (da_cons (de_var 0) (da_cons (de_var 1) (da_cons (de_ix (de_var 2) de_int) (da_cons (de_n (dn_lc (own := [("_law_part", 4)]) rfl sc__law_value.nd (di_seq (de_sl (de_var 2) (do_some de_int) do_none)) (blkOk_by (own := [("_law_part", 4)]) (N := N__law_value) (sc := defScope s__law_value) (by decide +kernel)) (tg_name _ 4) (by decide) (fun _ _ _ _ _ => (pg_name (i := 4) sc__law_value.nd rfl (by first | exact Or.inl rfl | exact Or.inr rfl))) (fun _ _ _ _ _ => dts_nil) (fun _ _ _ _ _ => (de_call (FnOk.d L.g5) hr rfl T.m5 T.F5.kp T.b5 takes0 (da_cons (de_var 0) (da_cons (de_var 1) (da_cons (de_var 4) (da_cons (de_var 3) da_nil)))) (cons_len (cons_len (cons_len (cons_len len0)))))))) da_nil)))) (cons_len (cons_len (cons_len (cons_len len0)))))))))
theorem ok__law_bound (T : Txt K w mg ad fd ca) (L : Lv fuel P w K mg base ad fd n) : FnOk P w K mg base (L2.CX P w) (n + 1) (ad 6) (fd 6) P__law_bound (spF K (List.length P__law_bound) false (runF (List.length N__law_bound) (b__law_bound fuel (pr fuel n)))) :=
  ok_fn (N := N__law_bound) (ps := P__law_bound) (fr := false) (g := b__law_bound fuel (pr fuel n)) [6] T.F6 sc__law_bound (by decide) fun cdv A outer s H E En hr =>
    (dss_cons (ds_asg (ps_set (i := 4) sc__law_bound.nd rfl (by first | exact Or.inl rfl | exact Or.inr rfl) (de_cmp (od_eq hr.units) (de_ix (de_var 2) de_int) de_str)) (tg_name _ 4) (by dsimp only; decide))
    (dss_cons (ds_for (passes_of rfl) rfl (di_rng1 rfl T.z_range (da_cons (de_var 1) da_nil)) (pg_name (i := 5) sc__law_bound.nd rfl (by first | exact Or.inl rfl | exact Or.inr rfl)) (tg_name _ 5) (by dsimp only; decide) (dss_cons (ds_asgD (ps_set (i := 6) sc__law_bound.nd rfl (by first | exact Or.inl rfl | exact Or.inr rfl) (dnd_copy rfl T.z_dict (by decide +kernel) (da_cons (de_var 3) da_nil))) (by dsimp only; decide))
    (dss_cons (ds_dput (ps_dput (hu_of hr) (pv 6) (de_ix (de_var 2) de_int) (de_var 5) rfl) (by dsimp only; decide))
    (dss_one (ds_if (dt_cmp (od_eq hr.units) (de_call (FnOk.d L.g7) hr rfl T.m7 T.F7.kp T.b7 (takes_of rfl rfl rfl rfl) (da_cons (de_var 0) (da_cons (de_var 1) (da_cons (de_ix (de_var 2) de_int) (da_cons (de_var 6) da_nil)))) (cons_len (cons_len (cons_len (cons_len len0))))) (de_var 4)) (dss_one (ds_ret (ps_ret (de_var 4)))) dss_nil)))))
    (dss_one (ds_ret (ps_ret (de_not (de_var 4)))))))
theorem ok__law_true (T : Txt K w mg ad fd ca) (L : Lv fuel P w K mg base ad fd n) : FnOk P w K mg base (L2.CX P w) (n + 1) (ad 7) (fd 7) P__law_true (spF K (List.length P__law_true) false (runF (List.length N__law_true) (b__law_true fuel (pr fuel n)))) :=
  ok_fn (N := N__law_true) (ps := P__law_true) (fr := false) (g := b__law_true fuel (pr fuel n)) [] T.F7 sc__law_true (by decide) fun cdv A outer s H E En hr =>
    (dss_cons (ds_asg (ps_set (i := 4) sc__law_true.nd rfl (by first | exact Or.inl rfl | exact Or.inr rfl) (de_ix (de_var 2) de_int)) (tg_name _ 4) (by dsimp only; decide))
    (dss_cons (ds_if (dt_cmp (od_eq hr.units) (de_var 4) de_str) (dss_cons (ds_asg (ps_set (i := 5) sc__law_true.nd rfl (by first | exact Or.inl rfl | exact Or.inr rfl) (de_ix (de_var 2) de_int)) (tg_name _ 5) (by dsimp only; decide))
    (dss_one (ds_ret (ps_ret (de_call (FnOk.d L.g4) hr rfl T.m4 T.F4.kp T.b4 (takes_of rfl rfl rfl rfl) (da_cons (de_var 0) (da_cons (de_var 1) (da_cons (de_ix (de_var 5) de_int) (da_cons (de_n (dn_lc (own := [("_law_part", 6)]) rfl sc__law_true.nd (di_seq (de_sl (de_var 5) (do_some de_int) do_none)) (blkOk_by (own := [("_law_part", 6)]) (N := N__law_true) (sc := defScope s__law_true) (by decide +kernel)) (tg_name _ 6) (by decide) (fun _ _ _ _ _ => (pg_name (i := 6) sc__law_true.nd rfl (by first | exact Or.inl rfl | exact Or.inr rfl))) (fun _ _ _ _ _ => dts_nil) (fun _ _ _ _ _ => (de_call (FnOk.d L.g5) hr rfl T.m5 T.F5.kp T.b5 takes0 (da_cons (de_var 0) (da_cons (de_var 1) (da_cons (de_var 6) (da_cons (de_var 3) da_nil)))) (cons_len (cons_len (cons_len (cons_len len0)))))))) da_nil)))) (cons_len (cons_len (cons_len (cons_len len0))))))))) dss_nil)
    (dss_cons (ds_if (dt_cmp (od_eq hr.units) (de_var 4) de_str) (dss_one (ds_ret (ps_ret (de_cmp (od_eq hr.units) (de_call (FnOk.d L.g5) hr rfl T.m5 T.F5.kp T.b5 (takes_of rfl rfl rfl rfl) (da_cons (de_var 0) (da_cons (de_var 1) (da_cons (de_ix (de_var 2) de_int) (da_cons (de_var 3) da_nil)))) (cons_len (cons_len (cons_len (cons_len len0))))) (de_call (FnOk.d L.g5) hr rfl T.m5 T.F5.kp T.b5 (takes_of rfl rfl rfl rfl) (da_cons (de_var 0) (da_cons (de_var 1) (da_cons (de_ix (de_var 2) de_int) (da_cons (de_var 3) da_nil)))) (cons_len (cons_len (cons_len (cons_len len0))))))))) dss_nil)
    (dss_cons (ds_if (dt_cmp (od_eq hr.units) (de_var 4) de_str) (dss_one (ds_ret (ps_ret (de_not (de_call (FnOk.d L.g7) hr rfl T.m7 T.F7.kp T.b7 (takes_of rfl rfl rfl rfl) (da_cons (de_var 0) (da_cons (de_var 1) (da_cons (de_ix (de_var 2) de_int) (da_cons (de_var 3) da_nil)))) (cons_len (cons_len (cons_len (cons_len len0))))))))) dss_nil)
    (dss_cons (ds_if (dt_cmp (od_in (r65 hr)) (de_var 4) (de_tup (da_cons de_str (da_cons de_str da_nil)))) (dss_one (ds_ret (ps_ret (de_call (FnOk.d L.g6) hr rfl T.m6 T.F6.kp T.b6 (takes_of rfl rfl rfl rfl) (da_cons (de_var 0) (da_cons (de_var 1) (da_cons (de_var 2) (da_cons (de_var 3) da_nil)))) (cons_len (cons_len (cons_len (cons_len len0)))))))) dss_nil)
    (dss_cons (ds_asg (ps_set (i := 7) sc__law_true.nd rfl (by first | exact Or.inl rfl | exact Or.inr rfl) (de_call (FnOk.d L.g7) hr rfl T.m7 T.F7.kp T.b7 (takes_of rfl rfl rfl rfl) (da_cons (de_var 0) (da_cons (de_var 1) (da_cons (de_ix (de_var 2) de_int) (da_cons (de_var 3) da_nil)))) (cons_len (cons_len (cons_len (cons_len len0)))))) (tg_name _ 7) (by dsimp only; decide))
    (dss_cons (ds_if (PW.pt (dw_or (PW.pt (dw_and (dt_cmp (od_eq hr.units) (de_var 4) de_str) (dw_and1 (dt_not (dt_tr (de_var 7)))))) (dw_or1 (PW.pt (dw_and (dt_cmp (od_eq hr.units) (de_var 4) de_str) (dw_and1 (dt_tr (de_var 7)))))))) (dss_one (ds_ret (ps_ret (de_var 7)))) dss_nil)
    (dss_cons (ds_if (PW.pt (dw_and (dt_cmp (od_eq hr.units) (de_var 4) de_str) (dw_and1 (dt_not (dt_tr (de_var 7)))))) (dss_one (ds_ret (ps_ret de_bl))) dss_nil)
    (dss_cons (ds_asg (ps_set (i := 8) sc__law_true.nd rfl (by first | exact Or.inl rfl | exact Or.inr rfl) (de_call (FnOk.d L.g7) hr rfl T.m7 T.F7.kp T.b7 (takes_of rfl rfl rfl rfl) (da_cons (de_var 0) (da_cons (de_var 1) (da_cons (de_ix (de_var 2) de_int) (da_cons (de_var 3) da_nil)))) (cons_len (cons_len (cons_len (cons_len len0)))))) (tg_name _ 8) (by dsimp only; decide))
    (dss_cons (ds_if (dt_cmp (od_eq hr.units) (de_var 4) de_str) (dss_one (ds_ret (ps_ret (de_cmp (od_eq hr.units) (de_var 7) (de_var 8))))) dss_nil)
    (dss_one (ds_ret (ps_ret (de_var 8))))))))))))))
theorem ok__law_term (T : Txt K w mg ad fd ca) (L : Lv fuel P w K mg base ad fd n) : FnOk P w K mg base (L2.CX P w) (n + 1) (ad 8) (fd 8) P__law_term (spF K (List.length P__law_term) false (runF (List.length N__law_term) (b__law_term fuel (pr fuel n)))) :=
  ok_fn (N := N__law_term) (ps := P__law_term) (fr := false) (g := b__law_term fuel (pr fuel n)) [] T.F8 sc__law_term (by decide) fun cdv A outer s H E En hr =>
    (dss_cons (ds_asg (ps_set (i := 2) sc__law_term.nd rfl (by first | exact Or.inl rfl | exact Or.inr rfl) (de_call (FnOk.d L.g3) hr rfl T.m3 T.F3.kp T.b3 (takes_of rfl rfl rfl rfl) (da_cons (de_var 0) (da_cons de_int da_nil)) (cons_len (cons_len len0)))) (tg_name _ 2) (by dsimp only; decide))
    (dss_cons (ds_if (dt_cmp (od_eq hr.units) (de_var 2) de_int) (dss_one (ds_ret (ps_ret (de_tup (da_cons de_str da_nil))))) dss_nil)
    (dss_cons (ds_if (dt_cmp (od_eq hr.units) (de_var 2) de_int) (dss_one (ds_ret (ps_ret (de_tup (da_cons de_str (da_cons (de_ix (de_var 1) (de_call (FnOk.d L.g3) hr rfl T.m3 T.F3.kp T.b3 (takes_of rfl rfl rfl rfl) (da_cons (de_var 0) (da_cons (de_callB cd_len rfl T.z_len (by decide +kernel) (da_cons (de_var 1) da_nil)) da_nil)) (cons_len (cons_len len0)))) da_nil)))))) dss_nil)
    (dss_one (ds_ret (ps_ret (de_ix (de_var 1) (de_call (FnOk.d L.g3) hr rfl T.m3 T.F3.kp T.b3 (takes_of rfl rfl rfl rfl) (da_cons (de_var 0) (da_cons (de_callB cd_len rfl T.z_len (by decide +kernel) (da_cons (de_var 1) da_nil)) da_nil)) (cons_len (cons_len len0))))))))))
theorem ok__law_basic (T : Txt K w mg ad fd ca) (L : Lv fuel P w K mg base ad fd n) : FnOk P w K mg base (L2.CX P w) (n + 1) (ad 9) (fd 9) P__law_basic (spF K (List.length P__law_basic) false (runF (List.length N__law_basic) (b__law_basic fuel (pr fuel n)))) :=
  ok_fn (N := N__law_basic) (ps := P__law_basic) (fr := false) (g := b__law_basic fuel (pr fuel n)) [] T.F9 sc__law_basic (by decide) fun cdv A outer s H E En hr =>
    (dss_cons (ds_asg (ps_set (i := 2) sc__law_basic.nd rfl (by first | exact Or.inl rfl | exact Or.inr rfl) (de_call (FnOk.d L.g3) hr rfl T.m3 T.F3.kp T.b3 (takes_of rfl rfl rfl rfl) (da_cons (de_var 0) (da_cons de_int da_nil)) (cons_len (cons_len len0)))) (tg_name _ 2) (by dsimp only; decide))
    (dss_cons (ds_if (dt_cmp (od_eq hr.units) (de_var 2) de_int) (dss_one (ds_ret (ps_ret (de_tup (da_cons de_str (da_cons (de_call (FnOk.d L.g8) hr rfl T.m8 T.F8.kp T.b8 (takes_of rfl rfl rfl rfl) (da_cons (de_var 0) (da_cons (de_var 1) da_nil)) (cons_len (cons_len len0))) (da_cons (de_call (FnOk.d L.g8) hr rfl T.m8 T.F8.kp T.b8 (takes_of rfl rfl rfl rfl) (da_cons (de_var 0) (da_cons (de_var 1) da_nil)) (cons_len (cons_len len0))) da_nil))))))) dss_nil)
    (dss_cons (ds_if (dt_cmp (od_eq hr.units) (de_var 2) de_int) (dss_one (ds_ret (ps_ret (de_tup (da_cons de_str (da_cons (de_tup (da_cons de_str (da_cons (de_call (FnOk.d L.g8) hr rfl T.m8 T.F8.kp T.b8 (takes_of rfl rfl rfl rfl) (da_cons (de_var 0) (da_cons (de_var 1) da_nil)) (cons_len (cons_len len0))) (da_cons (de_call (FnOk.d L.g8) hr rfl T.m8 T.F8.kp T.b8 (takes_of rfl rfl rfl rfl) (da_cons (de_var 0) (da_cons (de_var 1) da_nil)) (cons_len (cons_len len0))) da_nil)))) da_nil)))))) dss_nil)
    (dss_cons (ds_if (dt_cmp (od_eq hr.units) (de_var 2) de_int) (dss_one (ds_ret (ps_ret (de_tup (da_cons de_str (da_cons (de_tup (da_cons de_str (da_cons (de_call (FnOk.d L.g8) hr rfl T.m8 T.F8.kp T.b8 (takes_of rfl rfl rfl rfl) (da_cons (de_var 0) (da_cons (de_var 1) da_nil)) (cons_len (cons_len len0))) da_nil))) da_nil)))))) dss_nil)
    (dss_one (ds_ret (ps_ret (de_tup (da_cons de_str (da_cons (de_tup (da_cons de_str da_nil)) da_nil))))))))))
theorem ok__law_sentence (T : Txt K w mg ad fd ca) (L : Lv fuel P w K mg base ad fd n) : FnOk P w K mg base (L2.CX P w) (n + 1) (ad 10) (fd 10) P__law_sentence (spF K (List.length P__law_sentence) false (runF (List.length N__law_sentence) (b__law_sentence fuel (pr fuel n)))) :=
  ok_fn (N := N__law_sentence) (ps := P__law_sentence) (fr := false) (g := b__law_sentence fuel (pr fuel n)) [] T.F10 sc__law_sentence (by decide) fun cdv A outer s H E En hr =>
    (dss_cons (ds_asg (ps_set (i := 3) sc__law_sentence.nd rfl (by first | exact Or.inl rfl | exact Or.inr rfl) (de_call (FnOk.d L.g3) hr rfl T.m3 T.F3.kp T.b3 (takes_of rfl rfl rfl rfl) (da_cons (de_var 0) (da_cons de_int da_nil)) (cons_len (cons_len len0)))) (tg_name _ 3) (by dsimp only; decide))
    (dss_cons (ds_if (PW.pt (dw_or (dt_cmp (od_eq hr.units) (de_var 2) de_int) (dw_or1 (dt_cmp (od_eq hr.units) (de_var 3) de_int)))) (dss_one (ds_ret (ps_ret (de_call (FnOk.d L.g9) hr rfl T.m9 T.F9.kp T.b9 (takes_of rfl rfl rfl rfl) (da_cons (de_var 0) (da_cons (de_var 1) da_nil)) (cons_len (cons_len len0)))))) dss_nil)
    (dss_cons (ds_if (dt_cmp od_lt (de_var 3) de_int) (dss_one (ds_ret (ps_ret (de_tup (da_cons de_str (da_cons (de_call (FnOk.d L.g10) hr rfl T.m10 T.F10.kp T.b10 (takes_of rfl rfl rfl rfl) (da_cons (de_var 0) (da_cons (de_var 1) (da_cons (de_op od_sub (de_var 2) de_int) da_nil))) (cons_len (cons_len (cons_len len0)))) da_nil)))))) dss_nil)
    (dss_cons (ds_if (dt_cmp od_lt (de_var 3) de_int) (dss_cons (ds_asg (ps_set (i := 4) sc__law_sentence.nd rfl (by first | exact Or.inl rfl | exact Or.inr rfl) (de_ix (de_lst (da_cons de_str (da_cons de_str (da_cons de_str da_nil)))) (de_call (FnOk.d L.g3) hr rfl T.m3 T.F3.kp T.b3 (takes_of rfl rfl rfl rfl) (da_cons (de_var 0) (da_cons de_int da_nil)) (cons_len (cons_len len0))))) (tg_name _ 4) (by dsimp only; decide))
    (dss_cons (ds_asg (ps_set (i := 5) sc__law_sentence.nd rfl (by first | exact Or.inl rfl | exact Or.inr rfl) (de_op od_add (de_n (dn_lc (own := [("_law_other", 6)]) rfl sc__law_sentence.nd (di_seq (de_var 1)) (blkOk_by (own := [("_law_other", 6)]) (N := N__law_sentence) (sc := defScope s__law_sentence) (by decide +kernel)) (tg_name _ 6) (by decide) (fun _ _ _ _ _ => (pg_name (i := 6) sc__law_sentence.nd rfl (by first | exact Or.inl rfl | exact Or.inr rfl))) (fun _ _ _ _ _ => (dts_one (dt_cmp (od_ne hr.units) (de_var 6) (de_var 4)))) (fun _ _ _ _ _ => (de_var 6)))) (de_lst (da_cons (de_var 4) da_nil)))) (tg_name _ 5) (by dsimp only; decide))
    (dss_one (ds_ret (ps_ret (de_tup (da_cons (de_ix (de_lst (da_cons de_str (da_cons de_str da_nil))) (de_call (FnOk.d L.g3) hr rfl T.m3 T.F3.kp T.b3 (takes_of rfl rfl rfl rfl) (da_cons (de_var 0) (da_cons de_int da_nil)) (cons_len (cons_len len0)))) (da_cons (de_var 4) (da_cons (de_call (FnOk.d L.g10) hr rfl T.m10 T.F10.kp T.b10 (takes_of rfl rfl rfl rfl) (da_cons (de_var 0) (da_cons (de_var 5) (da_cons (de_op od_sub (de_var 2) de_int) da_nil))) (cons_len (cons_len (cons_len len0)))) da_nil))))))))) dss_nil)
    (dss_cons (ds_asg (ps_set (i := 7) sc__law_sentence.nd rfl (by first | exact Or.inl rfl | exact Or.inr rfl) (de_ix (de_lst (da_cons de_str (da_cons de_str (da_cons de_str (da_cons de_str (da_cons de_str da_nil)))))) (de_op od_sub (de_var 3) de_int))) (tg_name _ 7) (by dsimp only; decide))
    (dss_one (ds_ret (ps_ret (de_tup (da_cons (de_var 7) (da_cons (de_call (FnOk.d L.g10) hr rfl T.m10 T.F10.kp T.b10 (takes_of rfl rfl rfl rfl) (da_cons (de_var 0) (da_cons (de_var 1) (da_cons (de_op od_sub (de_var 2) de_int) da_nil))) (cons_len (cons_len (cons_len len0)))) (da_cons (de_call (FnOk.d L.g10) hr rfl T.m10 T.F10.kp T.b10 (takes_of rfl rfl rfl rfl) (da_cons (de_var 0) (da_cons (de_var 1) (da_cons (de_op od_sub (de_var 2) de_int) da_nil))) (cons_len (cons_len (cons_len len0)))) da_nil))))))))))))
theorem ok__law_opposite (T : Txt K w mg ad fd ca) (L : Lv fuel P w K mg base ad fd n) : FnOk P w K mg base (L2.CX P w) (n + 1) (ad 11) (fd 11) P__law_opposite (spF K (List.length P__law_opposite) false (runF (List.length N__law_opposite) (b__law_opposite fuel (pr fuel n)))) :=
  ok_fn (N := N__law_opposite) (ps := P__law_opposite) (fr := false) (g := b__law_opposite fuel (pr fuel n)) [] T.F11 sc__law_opposite (by decide) fun cdv A outer s H E En hr =>
    (dss_cons (ds_asg (ps_set (i := 1) sc__law_opposite.nd rfl (by first | exact Or.inl rfl | exact Or.inr rfl) (de_ix (de_var 0) de_int)) (tg_name _ 1) (by dsimp only; decide))
    (dss_cons (ds_if (dt_cmp (od_eq hr.units) (de_var 1) de_str) (dss_one (ds_ret (ps_ret (de_ix (de_var 0) de_int)))) dss_nil)
    (dss_cons (ds_if (dt_cmp (od_in (r65 hr)) (de_var 1) (de_tup (da_cons de_str (da_cons de_str da_nil)))) (dss_one (ds_ret (ps_ret (de_tup (da_cons de_str (da_cons (de_var 0) da_nil)))))) dss_nil)
    (dss_cons (ds_if (dt_cmp (od_in (r65 hr)) (de_var 1) (de_tup (da_cons de_str (da_cons de_str da_nil)))) (dss_one (ds_ret (ps_ret (de_tup (da_cons (de_if (dt_cmp (od_eq hr.units) (de_var 1) de_str) de_str de_str) (da_cons (de_ix (de_var 0) de_int) (da_cons (de_call (FnOk.d L.g11) hr rfl T.m11 T.F11.kp T.b11 (takes_of rfl rfl rfl rfl) (da_cons (de_ix (de_var 0) de_int) da_nil) (cons_len len0)) da_nil))))))) dss_nil)
    (dss_one (ds_ret (ps_ret (de_tup (da_cons (de_if (dt_cmp (od_eq hr.units) (de_var 1) de_str) de_str de_str) (da_cons (de_call (FnOk.d L.g11) hr rfl T.m11 T.F11.kp T.b11 (takes_of rfl rfl rfl rfl) (da_cons (de_ix (de_var 0) de_int) da_nil) (cons_len len0)) (da_cons (de_call (FnOk.d L.g11) hr rfl T.m11 T.F11.kp T.b11 (takes_of rfl rfl rfl rfl) (da_cons (de_ix (de_var 0) de_int) da_nil) (cons_len len0)) da_nil)))))))))))
theorem ok__law_formed (T : Txt K w mg ad fd ca) (L : Lv fuel P w K mg base ad fd n) : FnOk P w K mg base (L2.CX P w) (n + 1) (ad 12) (fd 12) P__law_formed (spF K (List.length P__law_formed) false (runF (List.length N__law_formed) (b__law_formed fuel (pr fuel n)))) :=
  ok_fn (N := N__law_formed) (ps := P__law_formed) (fr := false) (g := b__law_formed fuel (pr fuel n)) [] T.F12 sc__law_formed (by decide) fun cdv A outer s H E En hr =>
    (dss_cons (ds_asg (ps_set (i := 1) sc__law_formed.nd rfl (by first | exact Or.inl rfl | exact Or.inr rfl) (de_ix (de_var 0) de_int)) (tg_name _ 1) (by dsimp only; decide))
    (dss_cons (ds_if (dt_cmp (od_in (r65 hr)) (de_var 1) (de_tup (da_cons de_str (da_cons de_str da_nil)))) (dss_one (ds_ret (ps_ret (de_var 0)))) dss_nil)
    (dss_cons (ds_if (dt_cmp (od_eq hr.units) (de_var 1) de_str) (dss_one (ds_ret (ps_ret (de_call (FnOk.d L.g11) hr rfl T.m11 T.F11.kp T.b11 (takes_of rfl rfl rfl rfl) (da_cons (de_call (FnOk.d L.g12) hr rfl T.m12 T.F12.kp T.b12 (takes_of rfl rfl rfl rfl) (da_cons (de_ix (de_var 0) de_int) da_nil) (cons_len len0)) da_nil) (cons_len len0))))) dss_nil)
    (dss_cons (ds_if (dt_cmp (od_in (r65 hr)) (de_var 1) (de_tup (da_cons de_str (da_cons de_str da_nil)))) (dss_one (ds_ret (ps_ret (de_tup (da_cons (de_var 1) (da_cons (de_ix (de_var 0) de_int) (da_cons (de_call (FnOk.d L.g12) hr rfl T.m12 T.F12.kp T.b12 (takes_of rfl rfl rfl rfl) (da_cons (de_ix (de_var 0) de_int) da_nil) (cons_len len0)) da_nil))))))) dss_nil)
    (dss_cons (ds_asg (ps_set (i := 2) sc__law_formed.nd rfl (by first | exact Or.inl rfl | exact Or.inr rfl) (de_call (FnOk.d L.g12) hr rfl T.m12 T.F12.kp T.b12 (takes_of rfl rfl rfl rfl) (da_cons (de_ix (de_var 0) de_int) da_nil) (cons_len len0))) (tg_name _ 2) (by dsimp only; decide))
    (dss_cons (ds_asg (ps_set (i := 3) sc__law_formed.nd rfl (by first | exact Or.inl rfl | exact Or.inr rfl) (de_call (FnOk.d L.g12) hr rfl T.m12 T.F12.kp T.b12 (takes_of rfl rfl rfl rfl) (da_cons (de_ix (de_var 0) de_int) da_nil) (cons_len len0))) (tg_name _ 3) (by dsimp only; decide))
    (dss_cons (ds_if (dt_cmp (od_eq hr.units) (de_var 1) de_str) (dss_one (ds_ret (ps_ret (de_tup (da_cons de_str (da_cons (de_call (FnOk.d L.g11) hr rfl T.m11 T.F11.kp T.b11 (takes_of rfl rfl rfl rfl) (da_cons (de_var 2) da_nil) (cons_len len0)) (da_cons (de_var 3) da_nil))))))) dss_nil)
    (dss_cons (ds_if (dt_cmp (od_eq hr.units) (de_var 1) de_str) (dss_one (ds_ret (ps_ret (de_tup (da_cons de_str (da_cons (de_tup (da_cons de_str (da_cons (de_call (FnOk.d L.g11) hr rfl T.m11 T.F11.kp T.b11 (takes_of rfl rfl rfl rfl) (da_cons (de_var 2) da_nil) (cons_len len0)) (da_cons (de_var 3) da_nil)))) (da_cons (de_tup (da_cons de_str (da_cons (de_call (FnOk.d L.g11) hr rfl T.m11 T.F11.kp T.b11 (takes_of rfl rfl rfl rfl) (da_cons (de_var 3) da_nil) (cons_len len0)) (da_cons (de_var 2) da_nil)))) da_nil))))))) dss_nil)
    (dss_one (ds_ret (ps_ret (de_tup (da_cons (de_var 1) (da_cons (de_var 2) (da_cons (de_var 3) da_nil)))))))))))))))
theorem ok__law_shaped (T : Txt K w mg ad fd ca) (L : Lv fuel P w K mg base ad fd n) : FnOk P w K mg base (L2.CX P w) (n + 1) (ad 13) (fd 13) P__law_shaped (spF K (List.length P__law_shaped) false (runF (List.length N__law_shaped) (b__law_shaped fuel (pr fuel n)))) :=
  ok_fn (N := N__law_shaped) (ps := P__law_shaped) (fr := false) (g := b__law_shaped fuel (pr fuel n)) [] T.F13 sc__law_shaped (by decide) fun cdv A outer s H E En hr =>
    (dss_cons (ds_asg (ps_set (i := 1) sc__law_shaped.nd rfl (by first | exact Or.inl rfl | exact Or.inr rfl) (de_ix (de_var 0) de_int)) (tg_name _ 1) (by dsimp only; decide))
    (dss_cons (ds_if (dt_cmp (od_eq hr.units) (de_var 1) de_str) (dss_one (ds_ret (ps_ret (de_cmp (od_in (r65 hr)) (de_ix (de_ix (de_var 0) de_int) de_int) (de_tup (da_cons de_str (da_cons de_str da_nil))))))) dss_nil)
    (dss_cons (ds_if (dt_cmp (od_in (r65 hr)) (de_var 1) (de_tup (da_cons de_str (da_cons de_str da_nil)))) (dss_one (ds_ret (ps_ret (de_call (FnOk.d L.g13) hr rfl T.m13 T.F13.kp T.b13 (takes_of rfl rfl rfl rfl) (da_cons (de_ix (de_var 0) de_int) da_nil) (cons_len len0))))) dss_nil)
    (dss_cons (ds_if (dt_cmp (od_in (r65 hr)) (de_var 1) (de_tup (da_cons de_str (da_cons de_str da_nil)))) (dss_one (ds_ret (ps_ret (de_and (de_call (FnOk.d L.g13) hr rfl T.m13 T.F13.kp T.b13 (takes_of rfl rfl rfl rfl) (da_cons (de_ix (de_var 0) de_int) da_nil) (cons_len len0)) (de_one (de_call (FnOk.d L.g13) hr rfl T.m13 T.F13.kp T.b13 (takes_of rfl rfl rfl rfl) (da_cons (de_ix (de_var 0) de_int) da_nil) (cons_len len0))))))) dss_nil)
    (dss_one (ds_ret (ps_ret (de_cmp (od_in (r65 hr)) (de_var 1) (de_tup (da_cons de_str (da_cons de_str da_nil)))))))))))
theorem ok_law (T : Txt K w mg ad fd ca) (L : Lv fuel P w K mg base ad fd n) : FnOk P w K mg base (L2.CX P w) (n + 1) (ad 14) (fd 14) P_law (spF K (List.length P_law) false (runF (List.length N_law) (b_law fuel (pr fuel n)))) :=
  ok_fn (N := N_law) (ps := P_law) (fr := false) (g := b_law fuel (pr fuel n)) [4] T.F14 sc_law (by decide) fun cdv A outer s H E En hr =>
    (dss_cons (ds_asg (ps_set (i := 1) sc_law.nd rfl (by first | exact Or.inl rfl | exact Or.inr rfl) (de_call (FnOk.d L.g2) hr rfl T.m2 T.F2.kp T.b2 (takes_of rfl rfl rfl rfl) (da_cons (de_var 0) da_nil) (cons_len len0))) (tg_name _ 1) (by dsimp only; decide))
    (dss_cons (ds_asg (ps_set (i := 2) sc_law.nd rfl (by first | exact Or.inl rfl | exact Or.inr rfl) (de_op od_add de_int (de_call (FnOk.d L.g3) hr rfl T.m3 T.F3.kp T.b3 (takes_of rfl rfl rfl rfl) (da_cons (de_var 1) (da_cons de_int da_nil)) (cons_len (cons_len len0))))) (tg_name _ 2) (by dsimp only; decide))
    (dss_cons (ds_asg (ps_set (i := 3) sc_law.nd rfl (by first | exact Or.inl rfl | exact Or.inr rfl) (de_op od_add de_int (de_call (FnOk.d L.g3) hr rfl T.m3 T.F3.kp T.b3 (takes_of rfl rfl rfl rfl) (da_cons (de_var 1) (da_cons de_int da_nil)) (cons_len (cons_len len0))))) (tg_name _ 3) (by dsimp only; decide))
    (dss_cons (ds_asgD (ps_set (i := 4) sc_law.nd rfl (by first | exact Or.inl rfl | exact Or.inr rfl) (dnd_disp (pps_cons de_str (de_lst (da_cons (de_call (FnOk.d L.g3) hr rfl T.m3 T.F3.kp T.b3 (takes_of rfl rfl rfl rfl) (da_cons (de_var 1) (da_cons (de_var 2) da_nil)) (cons_len (cons_len len0))) da_nil)) (pps_cons de_str (de_lst (da_cons (de_cmp (od_eq hr.units) (de_call (FnOk.d L.g3) hr rfl T.m3 T.F3.kp T.b3 (takes_of rfl rfl rfl rfl) (da_cons (de_var 1) (da_cons de_int da_nil)) (cons_len (cons_len len0))) de_int) da_nil)) pps_nil)) rfl rfl (fun z => by cases z) (by decide))) (by dsimp only; decide))
    (dss_cons (ds_dput (ps_dput (hu_of hr) (pv 4) de_str (de_n (dn_lc (own := [("_law_k", 5)]) rfl sc_law.nd (di_rng1 rfl T.z_range (da_cons (de_var 2) da_nil)) (blkOk_by (own := [("_law_k", 5)]) (N := N_law) (sc := defScope s_law) (by decide +kernel)) (tg_name _ 5) (by decide) (fun _ _ _ _ _ => (pg_name (i := 5) sc_law.nd rfl (by first | exact Or.inl rfl | exact Or.inr rfl))) (fun _ _ _ _ _ => dts_nil) (fun _ _ _ _ _ => (de_call (FnOk.d L.g3) hr rfl T.m3 T.F3.kp T.b3 takes0 (da_cons (de_var 1) (da_cons (de_var 2) da_nil)) (cons_len (cons_len len0)))))) rfl) (by dsimp only; decide))
    (dss_cons (ds_dput (ps_dput (hu_of hr) (pv 4) de_str (de_n (dn_lc (own := [("_law_k", 5)]) rfl sc_law.nd (di_rng1 rfl T.z_range (da_cons (de_var 2) da_nil)) (blkOk_by (own := [("_law_k", 5)]) (N := N_law) (sc := defScope s_law) (by decide +kernel)) (tg_name _ 5) (by decide) (fun _ _ _ _ _ => (pg_name (i := 5) sc_law.nd rfl (by first | exact Or.inl rfl | exact Or.inr rfl))) (fun _ _ _ _ _ => dts_nil) (fun _ _ _ _ _ => (de_cmp (od_eq hr.units) (de_call (FnOk.d L.g3) hr rfl T.m3 T.F3.kp T.b3 takes0 (da_cons (de_var 1) (da_cons de_int da_nil)) (cons_len (cons_len len0))) de_int)))) rfl) (by dsimp only; decide))
    (dss_cons (ds_dput (ps_dput (hu_of hr) (pv 4) de_str (de_n (dn_lc (own := [("_law_k", 5)]) rfl sc_law.nd (di_rng1 rfl T.z_range (da_cons (de_op od_mul (de_var 2) (de_var 2)) da_nil)) (blkOk_by (own := [("_law_k", 5)]) (N := N_law) (sc := defScope s_law) (by decide +kernel)) (tg_name _ 5) (by decide) (fun _ _ _ _ _ => (pg_name (i := 5) sc_law.nd rfl (by first | exact Or.inl rfl | exact Or.inr rfl))) (fun _ _ _ _ _ => dts_nil) (fun _ _ _ _ _ => (de_cmp (od_eq hr.units) (de_call (FnOk.d L.g3) hr rfl T.m3 T.F3.kp T.b3 takes0 (da_cons (de_var 1) (da_cons de_int da_nil)) (cons_len (cons_len len0))) de_int)))) rfl) (by dsimp only; decide))
    (dss_cons (ds_asg (ps_set (i := 6) sc_law.nd rfl (by first | exact Or.inl rfl | exact Or.inr rfl) (de_call (FnOk.d L.g10) hr rfl T.m10 T.F10.kp T.b10 (takes_of rfl rfl rfl rfl) (da_cons (de_var 1) (da_cons (de_lst (da_cons de_str (da_cons de_str da_nil))) (da_cons (de_var 3) da_nil))) (cons_len (cons_len (cons_len len0))))) (tg_name _ 6) (by dsimp only; decide))
    (dss_cons (ds_asg (ps_set (i := 7) sc_law.nd rfl (by first | exact Or.inl rfl | exact Or.inr rfl) (de_call (FnOk.d L.g12) hr rfl T.m12 T.F12.kp T.b12 (takes_of rfl rfl rfl rfl) (da_cons (de_var 6) da_nil) (cons_len len0))) (tg_name _ 7) (by dsimp only; decide))
    (dss_cons (ds_asg (ps_set (i := 8) sc_law.nd rfl (by first | exact Or.inl rfl | exact Or.inr rfl) (de_call (FnOk.d L.g0) hr rfl T.m0 T.F0.kp T.b0 (takes_of rfl rfl rfl rfl) (da_cons (de_var 6) da_nil) (cons_len len0))) (tg_name _ 8) (by dsimp only; decide))
    (dss_cons (ds_asg (ps_set (i := 9) sc_law.nd rfl (by first | exact Or.inl rfl | exact Or.inr rfl) (de_call (FnOk.d L.g0) hr rfl T.m0 T.F0.kp T.b0 (takes_of rfl rfl rfl rfl) (da_cons (de_tup (da_cons de_str (da_cons (de_var 6) da_nil))) da_nil) (cons_len len0))) (tg_name _ 9) (by dsimp only; decide))
    (dss_cons (ds_if (PW.pt (dw_or (dt_cmp (od_ne hr.units) (de_var 8) (de_var 7)) (dw_or1 (dt_cmp (od_ne hr.units) (de_var 9) (de_call (FnOk.d L.g11) hr rfl T.m11 T.F11.kp T.b11 (takes_of rfl rfl rfl rfl) (da_cons (de_var 7) da_nil) (cons_len len0)))))) (dss_one (ds_ret (ps_ret de_bl))) dss_nil)
    (dss_cons (ds_if (PW.pt (dw_or (dt_not (dt_tr (de_call (FnOk.d L.g13) hr rfl T.m13 T.F13.kp T.b13 (takes_of rfl rfl rfl rfl) (da_cons (de_var 8) da_nil) (cons_len len0)))) (dw_or (dt_not (dt_tr (de_call (FnOk.d L.g13) hr rfl T.m13 T.F13.kp T.b13 (takes_of rfl rfl rfl rfl) (da_cons (de_var 9) da_nil) (cons_len len0)))) (dw_or1 (dt_cmp (od_ne hr.units) (de_call (FnOk.d L.g0) hr rfl T.m0 T.F0.kp T.b0 (takes_of rfl rfl rfl rfl) (da_cons (de_var 8) da_nil) (cons_len len0)) (de_var 7)))))) (dss_one (ds_ret (ps_ret de_bl))) dss_nil)
    (dss_cons (ds_for (passes_of rfl) rfl (di_rng1 rfl T.z_range (da_cons (de_var 2) da_nil)) (pg_name (i := 10) sc_law.nd rfl (by first | exact Or.inl rfl | exact Or.inr rfl)) (tg_name _ 10) (by dsimp only; decide) (dss_one (ds_for (passes_of rfl) rfl (di_rng1 rfl T.z_range (da_cons (de_var 2) da_nil)) (pg_name (i := 11) sc_law.nd rfl (by first | exact Or.inl rfl | exact Or.inr rfl)) (tg_name _ 11) (by dsimp only; decide) (dss_cons (ds_asg (ps_set (i := 12) sc_law.nd rfl (by first | exact Or.inl rfl | exact Or.inr rfl) (de_nd (dnd_disp (pps_cons de_str (de_var 10) (pps_cons de_str (de_var 11) pps_nil)) rfl rfl (fun z => by cases z) (by decide)))) (tg_name _ 12) (by dsimp only; decide))
    (dss_cons (ds_asgI (ps_set (i := 13) sc_law.nd rfl (by first | exact Or.inl rfl | exact Or.inr rfl) (de_call (FnOk.d L.g7) hr rfl T.m7 T.F7.kp T.b7 (takes_of rfl rfl rfl rfl) (da_cons (de_var 4) (da_cons (de_var 2) (da_cons (de_var 6) (da_cons (de_var 12) da_nil)))) (cons_len (cons_len (cons_len (cons_len len0)))))) (tg_name _ 13) (by dsimp only; decide))
    (dss_cons (ds_if (dt_cmp (od_ne hr.units) (de_call (FnOk.d L.g7) hr rfl T.m7 T.F7.kp T.b7 (takes_of rfl rfl rfl rfl) (da_cons (de_var 4) (da_cons (de_var 2) (da_cons (de_var 8) (da_cons (de_var 12) da_nil)))) (cons_len (cons_len (cons_len (cons_len len0))))) (de_var 13)) (dss_one (ds_ret (ps_ret de_bl))) dss_nil)
    (dss_one (ds_if (dt_cmp (od_eq hr.units) (de_call (FnOk.d L.g7) hr rfl T.m7 T.F7.kp T.b7 (takes_of rfl rfl rfl rfl) (da_cons (de_var 4) (da_cons (de_var 2) (da_cons (de_var 9) (da_cons (de_var 12) da_nil)))) (cons_len (cons_len (cons_len (cons_len len0))))) (de_var 13)) (dss_one (ds_ret (ps_ret de_bl))) dss_nil))))))))
    (dss_one (ds_ret (ps_ret de_bl)))))))))))))))))
theorem lv_zero : Lv fuel P w K mg base ad fd 0 := ⟨fnOk0, fnOk0, fnOk0, fnOk0, fnOk0, fnOk0, fnOk0, fnOk0, fnOk0, fnOk0, fnOk0, fnOk0, fnOk0, fnOk0, fnOk0⟩
theorem lv_succ (T : Txt K w mg ad fd ca) (L : Lv fuel P w K mg base ad fd n) : Lv fuel P w K mg base ad fd (n + 1) := ⟨ok_negation_form T L, ok_signed_form T L, ok__law_start T L, ok__law_take T L, ok__law_entry T L, ok__law_value T L, ok__law_bound T L, ok__law_true T L, ok__law_term T L, ok__law_basic T L, ok__law_sentence T L, ok__law_opposite T L, ok__law_formed T L, ok__law_shaped T L, ok_law T L⟩
theorem lv_all (T : Txt K w mg ad fd ca) : ∀ n, Lv fuel P w K mg base ad fd n
  | 0 => lv_zero
  | n + 1 => lv_succ T (lv_all T n)
end
theorem law_ok {fuel : Nat} {P : Program} {w : World} {K : PySem.W.Frag} {mg : Str → Option Value} {base : Heap} {ad : Nat → Addr} {fd : Nat → FuncData} {ca : Nat → Addr} (T : Txt K w mg ad fd ca)
    (h : ∀ ns : List Int, ns.length ≤ 63 → ∃ r, pr fuel 60 14 [.scr ns] [] = .ok (.bl true) r) : FnOk P w K mg base (L2.CX P w) 60 (ad 14) (fd 14) P_law (spLaw K) :=
  FnOk.law (lv_all T 60).g14 h
theorem main : ∀ ns : List Int, ns.length ≤ 63 → ∃ r, pr 0 60 14 [.scr ns] [] = .ok (.bl true) r := fun ns h => KM.main_ok ns h
/-- what the top has left (k_is shows each premise) -/
theorem all_mk {fuel : Nat} {l : PySem.W.OpenLaw} {w : World} {K : PySem.W.Frag} {h : Heap} {mg : Str → Option Value} {fa : Addr} (X : K.In h) (G : h.Ns mainGlobals mg) (hfa : mg "law" = some (.ref fa))
    {f0 : Addr} {oc0 kV0 dc0 pm0 cd0 ct0 : Value} {od0 an0 : Option Addr} {sl0 : Array (Option Value)}
    {f1 : Addr} {oc1 kV1 dc1 pm1 cd1 ct1 : Value} {od1 an1 : Option Addr} {sl1 : Array (Option Value)}
    {f2 : Addr} {oc2 kV2 dc2 pm2 cd2 ct2 : Value} {od2 an2 : Option Addr} {sl2 : Array (Option Value)}
    {f3 : Addr} {oc3 kV3 dc3 pm3 cd3 ct3 : Value} {od3 an3 : Option Addr} {sl3 : Array (Option Value)}
    {f4 : Addr} {oc4 kV4 dc4 pm4 cd4 ct4 : Value} {od4 an4 : Option Addr} {sl4 : Array (Option Value)}
    {f5 : Addr} {oc5 kV5 dc5 pm5 cd5 ct5 : Value} {od5 an5 : Option Addr} {sl5 : Array (Option Value)}
    {f6 : Addr} {oc6 kV6 dc6 pm6 cd6 ct6 : Value} {od6 an6 : Option Addr} {sl6 : Array (Option Value)}
    {f7 : Addr} {oc7 kV7 dc7 pm7 cd7 ct7 : Value} {od7 an7 : Option Addr} {sl7 : Array (Option Value)}
    {f8 : Addr} {oc8 kV8 dc8 pm8 cd8 ct8 : Value} {od8 an8 : Option Addr} {sl8 : Array (Option Value)}
    {f9 : Addr} {oc9 kV9 dc9 pm9 cd9 ct9 : Value} {od9 an9 : Option Addr} {sl9 : Array (Option Value)}
    {f10 : Addr} {oc10 kV10 dc10 pm10 cd10 ct10 : Value} {od10 an10 : Option Addr} {sl10 : Array (Option Value)}
    {f11 : Addr} {oc11 kV11 dc11 pm11 cd11 ct11 : Value} {od11 an11 : Option Addr} {sl11 : Array (Option Value)}
    {f12 : Addr} {oc12 kV12 dc12 pm12 cd12 ct12 : Value} {od12 an12 : Option Addr} {sl12 : Array (Option Value)}
    {f13 : Addr} {oc13 kV13 dc13 pm13 cd13 ct13 : Value} {od13 an13 : Option Addr} {sl13 : Array (Option Value)}
    {f14 : Addr} {oc14 kV14 dc14 pm14 cd14 ct14 : Value} {od14 an14 : Option Addr} {sl14 : Array (Option Value)}
    {e_BINDERS : Addr} {n_BINDERS : Nat} {dd_BINDERS : Option Addr} {sl_BINDERS : Array (Option Value)} {t_BINDERS_0 : Tok} {t_BINDERS_1 : Tok}
    {e_BASIC : Addr} {n_BASIC : Nat} {dd_BASIC : Option Addr} {sl_BASIC : Array (Option Value)} {t_BASIC_0 : Tok} {t_BASIC_1 : Tok}
    {e_OTHER : Addr} {es_OTHER : Array DictEntry} {n_OTHER : Nat} {t_OTHER_0 : Tok} {t_OTHER_1 : Tok} {t_OTHER_2 : Tok} {t_OTHER_3 : Tok}
    (a0 : PySem.W.nsIn K mainGlobals "negation_form" = some (some (.ref f0)))
    (l0 : K.lookup f0 = some ⟨oc0, od0, .func (PySem.W.fnOf "negation_form" "negation_form" (defArgs s_negation_form) (defBody s_negation_form) (defScope s_negation_form) .none kV0 dc0 pm0 an0 cd0 ct0), sl0⟩)
    (c0 : PySem.W.codeIn K cd0 "negation_form" = true)
    (k0 : PySem.W.keepIn K (.ref f0) = true)
    (a1 : PySem.W.nsIn K mainGlobals "signed_form" = some (some (.ref f1)))
    (l1 : K.lookup f1 = some ⟨oc1, od1, .func (PySem.W.fnOf "signed_form" "signed_form" (defArgs s_signed_form) (defBody s_signed_form) (defScope s_signed_form) .none kV1 dc1 pm1 an1 cd1 ct1), sl1⟩)
    (c1 : PySem.W.codeIn K cd1 "signed_form" = true)
    (k1 : PySem.W.keepIn K (.ref f1) = true)
    (a2 : PySem.W.nsIn K mainGlobals "_law_start" = some (some (.ref f2)))
    (l2 : K.lookup f2 = some ⟨oc2, od2, .func (PySem.W.fnOf "_law_start" "_law_start" (defArgs s__law_start) (defBody s__law_start) (defScope s__law_start) .none kV2 dc2 pm2 an2 cd2 ct2), sl2⟩)
    (c2 : PySem.W.codeIn K cd2 "_law_start" = true)
    (k2 : PySem.W.keepIn K (.ref f2) = true)
    (a3 : PySem.W.nsIn K mainGlobals "_law_take" = some (some (.ref f3)))
    (l3 : K.lookup f3 = some ⟨oc3, od3, .func (PySem.W.fnOf "_law_take" "_law_take" (defArgs s__law_take) (defBody s__law_take) (defScope s__law_take) .none kV3 dc3 pm3 an3 cd3 ct3), sl3⟩)
    (c3 : PySem.W.codeIn K cd3 "_law_take" = true)
    (k3 : PySem.W.keepIn K (.ref f3) = true)
    (a4 : PySem.W.nsIn K mainGlobals "_law_entry" = some (some (.ref f4)))
    (l4 : K.lookup f4 = some ⟨oc4, od4, .func (PySem.W.fnOf "_law_entry" "_law_entry" (defArgs s__law_entry) (defBody s__law_entry) (defScope s__law_entry) .none kV4 dc4 pm4 an4 cd4 ct4), sl4⟩)
    (c4 : PySem.W.codeIn K cd4 "_law_entry" = true)
    (k4 : PySem.W.keepIn K (.ref f4) = true)
    (a5 : PySem.W.nsIn K mainGlobals "_law_value" = some (some (.ref f5)))
    (l5 : K.lookup f5 = some ⟨oc5, od5, .func (PySem.W.fnOf "_law_value" "_law_value" (defArgs s__law_value) (defBody s__law_value) (defScope s__law_value) .none kV5 dc5 pm5 an5 cd5 ct5), sl5⟩)
    (c5 : PySem.W.codeIn K cd5 "_law_value" = true)
    (k5 : PySem.W.keepIn K (.ref f5) = true)
    (a6 : PySem.W.nsIn K mainGlobals "_law_bound" = some (some (.ref f6)))
    (l6 : K.lookup f6 = some ⟨oc6, od6, .func (PySem.W.fnOf "_law_bound" "_law_bound" (defArgs s__law_bound) (defBody s__law_bound) (defScope s__law_bound) .none kV6 dc6 pm6 an6 cd6 ct6), sl6⟩)
    (c6 : PySem.W.codeIn K cd6 "_law_bound" = true)
    (k6 : PySem.W.keepIn K (.ref f6) = true)
    (a7 : PySem.W.nsIn K mainGlobals "_law_true" = some (some (.ref f7)))
    (l7 : K.lookup f7 = some ⟨oc7, od7, .func (PySem.W.fnOf "_law_true" "_law_true" (defArgs s__law_true) (defBody s__law_true) (defScope s__law_true) .none kV7 dc7 pm7 an7 cd7 ct7), sl7⟩)
    (c7 : PySem.W.codeIn K cd7 "_law_true" = true)
    (k7 : PySem.W.keepIn K (.ref f7) = true)
    (a8 : PySem.W.nsIn K mainGlobals "_law_term" = some (some (.ref f8)))
    (l8 : K.lookup f8 = some ⟨oc8, od8, .func (PySem.W.fnOf "_law_term" "_law_term" (defArgs s__law_term) (defBody s__law_term) (defScope s__law_term) .none kV8 dc8 pm8 an8 cd8 ct8), sl8⟩)
    (c8 : PySem.W.codeIn K cd8 "_law_term" = true)
    (k8 : PySem.W.keepIn K (.ref f8) = true)
    (a9 : PySem.W.nsIn K mainGlobals "_law_basic" = some (some (.ref f9)))
    (l9 : K.lookup f9 = some ⟨oc9, od9, .func (PySem.W.fnOf "_law_basic" "_law_basic" (defArgs s__law_basic) (defBody s__law_basic) (defScope s__law_basic) .none kV9 dc9 pm9 an9 cd9 ct9), sl9⟩)
    (c9 : PySem.W.codeIn K cd9 "_law_basic" = true)
    (k9 : PySem.W.keepIn K (.ref f9) = true)
    (a10 : PySem.W.nsIn K mainGlobals "_law_sentence" = some (some (.ref f10)))
    (l10 : K.lookup f10 = some ⟨oc10, od10, .func (PySem.W.fnOf "_law_sentence" "_law_sentence" (defArgs s__law_sentence) (defBody s__law_sentence) (defScope s__law_sentence) .none kV10 dc10 pm10 an10 cd10 ct10), sl10⟩)
    (c10 : PySem.W.codeIn K cd10 "_law_sentence" = true)
    (k10 : PySem.W.keepIn K (.ref f10) = true)
    (a11 : PySem.W.nsIn K mainGlobals "_law_opposite" = some (some (.ref f11)))
    (l11 : K.lookup f11 = some ⟨oc11, od11, .func (PySem.W.fnOf "_law_opposite" "_law_opposite" (defArgs s__law_opposite) (defBody s__law_opposite) (defScope s__law_opposite) .none kV11 dc11 pm11 an11 cd11 ct11), sl11⟩)
    (c11 : PySem.W.codeIn K cd11 "_law_opposite" = true)
    (k11 : PySem.W.keepIn K (.ref f11) = true)
    (a12 : PySem.W.nsIn K mainGlobals "_law_formed" = some (some (.ref f12)))
    (l12 : K.lookup f12 = some ⟨oc12, od12, .func (PySem.W.fnOf "_law_formed" "_law_formed" (defArgs s__law_formed) (defBody s__law_formed) (defScope s__law_formed) .none kV12 dc12 pm12 an12 cd12 ct12), sl12⟩)
    (c12 : PySem.W.codeIn K cd12 "_law_formed" = true)
    (k12 : PySem.W.keepIn K (.ref f12) = true)
    (a13 : PySem.W.nsIn K mainGlobals "_law_shaped" = some (some (.ref f13)))
    (l13 : K.lookup f13 = some ⟨oc13, od13, .func (PySem.W.fnOf "_law_shaped" "_law_shaped" (defArgs s__law_shaped) (defBody s__law_shaped) (defScope s__law_shaped) .none kV13 dc13 pm13 an13 cd13 ct13), sl13⟩)
    (c13 : PySem.W.codeIn K cd13 "_law_shaped" = true)
    (k13 : PySem.W.keepIn K (.ref f13) = true)
    (a14 : PySem.W.nsIn K mainGlobals "law" = some (some (.ref f14)))
    (l14 : K.lookup f14 = some ⟨oc14, od14, .func (PySem.W.fnOf "law" "law" (defArgs s_law) (defBody s_law) (defScope s_law) .none kV14 dc14 pm14 an14 cd14 ct14), sl14⟩)
    (c14 : PySem.W.codeIn K cd14 "law" = true)
    (k14 : PySem.W.keepIn K (.ref f14) = true)
    (z_abs : PySem.W.nsIn K mainGlobals "abs" = some none)
    (z_dict : PySem.W.nsIn K mainGlobals "dict" = some none)
    (z_int : PySem.W.nsIn K mainGlobals "int" = some none)
    (z_isinstance : PySem.W.nsIn K mainGlobals "isinstance" = some none)
    (z_len : PySem.W.nsIn K mainGlobals "len" = some none)
    (z_range : PySem.W.nsIn K mainGlobals "range" = some none)
    (z_str : PySem.W.nsIn K mainGlobals "str" = some none)
    (a_BINDERS : PySem.W.nsIn K mainGlobals "BINDERS" = some (some (.ref e_BINDERS)))
    (l_BINDERS : K.lookup e_BINDERS = some ⟨.type "tuple", dd_BINDERS, .seq #[.str "all" t_BINDERS_0, .str "some" t_BINDERS_1] n_BINDERS, sl_BINDERS⟩)
    (a_BASIC : PySem.W.nsIn K mainGlobals "BASIC" = some (some (.ref e_BASIC)))
    (l_BASIC : K.lookup e_BASIC = some ⟨.type "tuple", dd_BASIC, .seq #[.str "holds" t_BASIC_0, .str "same" t_BASIC_1] n_BASIC, sl_BASIC⟩)
    (a_OTHER : PySem.W.nsIn K mainGlobals "OTHER" = some (some (.ref e_OTHER)))
    (l_OTHER : K.lookup e_OTHER = some ⟨.type "dict", none, .dict es_OTHER n_OTHER, #[]⟩)
    (h_OTHER : PySem.W.KeysLit w.params es_OTHER.toList)
    (v_OTHER_0 : PySem.W.nsIn K e_OTHER "and" = some (some (.str "or" t_OTHER_0)))
    (v_OTHER_1 : PySem.W.nsIn K e_OTHER "or" = some (some (.str "and" t_OTHER_1)))
    (v_OTHER_2 : PySem.W.nsIn K e_OTHER "all" = some (some (.str "some" t_OTHER_2)))
    (v_OTHER_3 : PySem.W.nsIn K e_OTHER "some" = some (some (.str "all" t_OTHER_3)))
    (main : ∀ ns : List Int, ns.length ≤ 63 → ∃ r, pr fuel 60 14 [.scr ns] [] = .ok (.bl true) r) :
    ∃ fd : FuncData, (∀ (s : Shared) (v : Value), BindsTo s fd ⟨[v], []⟩ [("_law_script", v)]) ∧ ∀ base : Heap, K.In base → base.Ns mainGlobals mg → FnOk l.prog w K mg base (L2.CX l.prog w) 60 fa fd ["_law_script"] (spLaw K) := by
  have e : f14 = fa := by
    have e := hfa.symm.trans (PySem.W.mg_of X G a14)
    cases e
    rfl
  subst e
  let fdl : List FuncData := [PySem.W.fnOf "negation_form" "negation_form" (defArgs s_negation_form) (defBody s_negation_form) (defScope s_negation_form) .none kV0 dc0 pm0 an0 cd0 ct0, PySem.W.fnOf "signed_form" "signed_form" (defArgs s_signed_form) (defBody s_signed_form) (defScope s_signed_form) .none kV1 dc1 pm1 an1 cd1 ct1, PySem.W.fnOf "_law_start" "_law_start" (defArgs s__law_start) (defBody s__law_start) (defScope s__law_start) .none kV2 dc2 pm2 an2 cd2 ct2, PySem.W.fnOf "_law_take" "_law_take" (defArgs s__law_take) (defBody s__law_take) (defScope s__law_take) .none kV3 dc3 pm3 an3 cd3 ct3, PySem.W.fnOf "_law_entry" "_law_entry" (defArgs s__law_entry) (defBody s__law_entry) (defScope s__law_entry) .none kV4 dc4 pm4 an4 cd4 ct4, PySem.W.fnOf "_law_value" "_law_value" (defArgs s__law_value) (defBody s__law_value) (defScope s__law_value) .none kV5 dc5 pm5 an5 cd5 ct5, PySem.W.fnOf "_law_bound" "_law_bound" (defArgs s__law_bound) (defBody s__law_bound) (defScope s__law_bound) .none kV6 dc6 pm6 an6 cd6 ct6, PySem.W.fnOf "_law_true" "_law_true" (defArgs s__law_true) (defBody s__law_true) (defScope s__law_true) .none kV7 dc7 pm7 an7 cd7 ct7, PySem.W.fnOf "_law_term" "_law_term" (defArgs s__law_term) (defBody s__law_term) (defScope s__law_term) .none kV8 dc8 pm8 an8 cd8 ct8, PySem.W.fnOf "_law_basic" "_law_basic" (defArgs s__law_basic) (defBody s__law_basic) (defScope s__law_basic) .none kV9 dc9 pm9 an9 cd9 ct9, PySem.W.fnOf "_law_sentence" "_law_sentence" (defArgs s__law_sentence) (defBody s__law_sentence) (defScope s__law_sentence) .none kV10 dc10 pm10 an10 cd10 ct10, PySem.W.fnOf "_law_opposite" "_law_opposite" (defArgs s__law_opposite) (defBody s__law_opposite) (defScope s__law_opposite) .none kV11 dc11 pm11 an11 cd11 ct11, PySem.W.fnOf "_law_formed" "_law_formed" (defArgs s__law_formed) (defBody s__law_formed) (defScope s__law_formed) .none kV12 dc12 pm12 an12 cd12 ct12, PySem.W.fnOf "_law_shaped" "_law_shaped" (defArgs s__law_shaped) (defBody s__law_shaped) (defScope s__law_shaped) .none kV13 dc13 pm13 an13 cd13 ct13, PySem.W.fnOf "law" "law" (defArgs s_law) (defBody s_law) (defScope s_law) .none kV14 dc14 pm14 an14 cd14 ct14]
  have T : Txt K w mg (fun k => ([f0, f1, f2, f3, f4, f5, f6, f7, f8, f9, f10, f11, f12, f13, f14] : List Addr).getD k 0) (fun k => fdl.getD k (fdl.head (by simp [fdl]))) (fun k => ([e_BINDERS, e_BASIC, e_OTHER] : List Addr).getD k 0) := {
    F0 := fun_mk (st := s_negation_form) l0 c0 k0
    b0 := (fun_mk (st := s_negation_form) l0 c0 k0).binds (ps := P_negation_form) fun _ _ _ _ _ _ us hl => match us, hl with | [_], _ => rfl
    m0 := PySem.W.mg_of X G a0
    F1 := fun_mk (st := s_signed_form) l1 c1 k1
    b1 := (fun_mk (st := s_signed_form) l1 c1 k1).binds (ps := P_signed_form) fun _ _ _ _ _ _ us hl => match us, hl with | [_, _], _ => rfl
    m1 := PySem.W.mg_of X G a1
    F2 := fun_mk (st := s__law_start) l2 c2 k2
    b2 := (fun_mk (st := s__law_start) l2 c2 k2).binds (ps := P__law_start) fun _ _ _ _ _ _ us hl => match us, hl with | [_], _ => rfl
    m2 := PySem.W.mg_of X G a2
    F3 := fun_mk (st := s__law_take) l3 c3 k3
    b3 := (fun_mk (st := s__law_take) l3 c3 k3).binds (ps := P__law_take) fun _ _ _ _ _ _ us hl => match us, hl with | [_, _], _ => rfl
    m3 := PySem.W.mg_of X G a3
    F4 := fun_mk (st := s__law_entry) l4 c4 k4
    b4 := (fun_mk (st := s__law_entry) l4 c4 k4).binds (ps := P__law_entry) fun _ _ _ _ _ _ us hl => match us, hl with | [_, _, _, _], _ => rfl
    m4 := PySem.W.mg_of X G a4
    F5 := fun_mk (st := s__law_value) l5 c5 k5
    b5 := (fun_mk (st := s__law_value) l5 c5 k5).binds (ps := P__law_value) fun _ _ _ _ _ _ us hl => match us, hl with | [_, _, _, _], _ => rfl
    m5 := PySem.W.mg_of X G a5
    F6 := fun_mk (st := s__law_bound) l6 c6 k6
    b6 := (fun_mk (st := s__law_bound) l6 c6 k6).binds (ps := P__law_bound) fun _ _ _ _ _ _ us hl => match us, hl with | [_, _, _, _], _ => rfl
    m6 := PySem.W.mg_of X G a6
    F7 := fun_mk (st := s__law_true) l7 c7 k7
    b7 := (fun_mk (st := s__law_true) l7 c7 k7).binds (ps := P__law_true) fun _ _ _ _ _ _ us hl => match us, hl with | [_, _, _, _], _ => rfl
    m7 := PySem.W.mg_of X G a7
    F8 := fun_mk (st := s__law_term) l8 c8 k8
    b8 := (fun_mk (st := s__law_term) l8 c8 k8).binds (ps := P__law_term) fun _ _ _ _ _ _ us hl => match us, hl with | [_, _], _ => rfl
    m8 := PySem.W.mg_of X G a8
    F9 := fun_mk (st := s__law_basic) l9 c9 k9
    b9 := (fun_mk (st := s__law_basic) l9 c9 k9).binds (ps := P__law_basic) fun _ _ _ _ _ _ us hl => match us, hl with | [_, _], _ => rfl
    m9 := PySem.W.mg_of X G a9
    F10 := fun_mk (st := s__law_sentence) l10 c10 k10
    b10 := (fun_mk (st := s__law_sentence) l10 c10 k10).binds (ps := P__law_sentence) fun _ _ _ _ _ _ us hl => match us, hl with | [_, _, _], _ => rfl
    m10 := PySem.W.mg_of X G a10
    F11 := fun_mk (st := s__law_opposite) l11 c11 k11
    b11 := (fun_mk (st := s__law_opposite) l11 c11 k11).binds (ps := P__law_opposite) fun _ _ _ _ _ _ us hl => match us, hl with | [_], _ => rfl
    m11 := PySem.W.mg_of X G a11
    F12 := fun_mk (st := s__law_formed) l12 c12 k12
    b12 := (fun_mk (st := s__law_formed) l12 c12 k12).binds (ps := P__law_formed) fun _ _ _ _ _ _ us hl => match us, hl with | [_], _ => rfl
    m12 := PySem.W.mg_of X G a12
    F13 := fun_mk (st := s__law_shaped) l13 c13 k13
    b13 := (fun_mk (st := s__law_shaped) l13 c13 k13).binds (ps := P__law_shaped) fun _ _ _ _ _ _ us hl => match us, hl with | [_], _ => rfl
    m13 := PySem.W.mg_of X G a13
    F14 := fun_mk (st := s_law) l14 c14 k14
    b14 := (fun_mk (st := s_law) l14 c14 k14).binds (ps := P_law) fun _ _ _ _ _ _ us hl => match us, hl with | [_], _ => rfl
    m14 := PySem.W.mg_of X G a14
    z_abs := PySem.W.mg_none_of X G z_abs
    z_dict := PySem.W.mg_none_of X G z_dict
    z_int := PySem.W.mg_none_of X G z_int
    z_isinstance := PySem.W.mg_none_of X G z_isinstance
    z_len := PySem.W.mg_none_of X G z_len
    z_range := PySem.W.mg_none_of X G z_range
    z_str := PySem.W.mg_none_of X G z_str
    m_BINDERS := PySem.W.mg_of X G a_BINDERS
    c_BINDERS := fun m H => .tup (xs := [.str "all", .str "some"]) (.inr ⟨_, _, _, l_BINDERS, rfl, rfl, by show 2 ≤ sizeLine; decide, (.cons ⟨_, rfl⟩ (.cons ⟨_, rfl⟩ .nil))⟩) (.cons (.str _) (.cons (.str _) .nil))
    m_BASIC := PySem.W.mg_of X G a_BASIC
    c_BASIC := fun m H => .tup (xs := [.str "holds", .str "same"]) (.inr ⟨_, _, _, l_BASIC, rfl, rfl, by show 2 ≤ sizeLine; decide, (.cons ⟨_, rfl⟩ (.cons ⟨_, rfl⟩ .nil))⟩) (.cons (.str _) (.cons (.str _) .nil))
    m_OTHER := PySem.W.mg_of X G a_OTHER
    c_OTHER := fun x d e => by
      have q : x ∈ (k_OTHER.map (·.1)) ∧ k_OTHER.lookup x = some d := ⟨List.mem_map.mpr ⟨(x, d), lookup_mem e, rfl⟩, e⟩
      simp only [k_OTHER, List.map_cons, List.map_nil, List.mem_cons, List.not_mem_nil, or_false] at q
      obtain ⟨q, e⟩ := q
      rcases q with q | q | q | q
      · subst q
        have e2 : some ((.str "or") : D) = some d := e
        cases e2
        exact ⟨.str "or", ⟨_, _, _, l_OTHER, h_OTHER, v_OTHER_0, ⟨_, rfl⟩⟩, fun _ _ => .str _⟩
      · subst q
        have e2 : some ((.str "and") : D) = some d := e
        cases e2
        exact ⟨.str "and", ⟨_, _, _, l_OTHER, h_OTHER, v_OTHER_1, ⟨_, rfl⟩⟩, fun _ _ => .str _⟩
      · subst q
        have e2 : some ((.str "some") : D) = some d := e
        cases e2
        exact ⟨.str "some", ⟨_, _, _, l_OTHER, h_OTHER, v_OTHER_2, ⟨_, rfl⟩⟩, fun _ _ => .str _⟩
      · subst q
        have e2 : some ((.str "all") : D) = some d := e
        cases e2
        exact ⟨.str "all", ⟨_, _, _, l_OTHER, h_OTHER, v_OTHER_3, ⟨_, rfl⟩⟩, fun _ _ => .str _⟩
  }
  exact ⟨_, fun s v => .of_eq rfl, fun base _ _ => law_ok T main⟩
end Law
open PySem PySem.W PyProof.Rows
theorem PySem.Challenge.cw_worldorpaper_k15_negation_form_says_the_holds : PySem.Challenge.rw_worldorpaper_k15_negation_form_says_the.Holds := by
  w_on; o_law; k_head; (case hw => w_witness2)
  k_fill
  refine DL.walk (l := PySem.Challenge.rw_worldorpaper_k15_negation_form_says_the) (k := 60) (x := "_law_script") rfl rfl ⟨rfl, by decide, by decide⟩ (fun w h Y => PySem.W.kIn_of Y) ?F
  case F =>
    intro w mg fa h KX G hmg
    refine' Law.all_mk KX G hmg ?a0 ?l0 ?c0 ?k0 ?a1 ?l1 ?c1 ?k1 ?a2 ?l2 ?c2 ?k2 ?a3 ?l3 ?c3 ?k3 ?a4 ?l4 ?c4 ?k4 ?a5 ?l5 ?c5 ?k5 ?a6 ?l6 ?c6 ?k6 ?a7 ?l7 ?c7 ?k7 ?a8 ?l8 ?c8 ?k8 ?a9 ?l9 ?c9 ?k9 ?a10 ?l10 ?c10 ?k10 ?a11 ?l11 ?c11 ?k11 ?a12 ?l12 ?c12 ?k12 ?a13 ?l13 ?c13 ?k13 ?a14 ?l14 ?c14 ?k14 ?z_abs ?z_dict ?z_int ?z_isinstance ?z_len ?z_range ?z_str ?a_BINDERS ?l_BINDERS ?a_BASIC ?l_BASIC ?a_OTHER ?l_OTHER ?h_OTHER ?v_OTHER_0 ?v_OTHER_1 ?v_OTHER_2 ?v_OTHER_3 Law.main
    (case a0 => k_is)
    (case l0 => k_is)
    (case c0 => k_is)
    (case k0 => k_is)
    (case a1 => k_is)
    (case l1 => k_is)
    (case c1 => k_is)
    (case k1 => k_is)
    (case a2 => k_is)
    (case l2 => k_is)
    (case c2 => k_is)
    (case k2 => k_is)
    (case a3 => k_is)
    (case l3 => k_is)
    (case c3 => k_is)
    (case k3 => k_is)
    (case a4 => k_is)
    (case l4 => k_is)
    (case c4 => k_is)
    (case k4 => k_is)
    (case a5 => k_is)
    (case l5 => k_is)
    (case c5 => k_is)
    (case k5 => k_is)
    (case a6 => k_is)
    (case l6 => k_is)
    (case c6 => k_is)
    (case k6 => k_is)
    (case a7 => k_is)
    (case l7 => k_is)
    (case c7 => k_is)
    (case k7 => k_is)
    (case a8 => k_is)
    (case l8 => k_is)
    (case c8 => k_is)
    (case k8 => k_is)
    (case a9 => k_is)
    (case l9 => k_is)
    (case c9 => k_is)
    (case k9 => k_is)
    (case a10 => k_is)
    (case l10 => k_is)
    (case c10 => k_is)
    (case k10 => k_is)
    (case a11 => k_is)
    (case l11 => k_is)
    (case c11 => k_is)
    (case k11 => k_is)
    (case a12 => k_is)
    (case l12 => k_is)
    (case c12 => k_is)
    (case k12 => k_is)
    (case a13 => k_is)
    (case l13 => k_is)
    (case c13 => k_is)
    (case k13 => k_is)
    (case a14 => k_is)
    (case l14 => k_is)
    (case c14 => k_is)
    (case k14 => k_is)
    (case z_abs => k_is)
    (case z_dict => k_is)
    (case z_int => k_is)
    (case z_isinstance => k_is)
    (case z_len => k_is)
    (case z_range => k_is)
    (case z_str => k_is)
    (case a_BINDERS => k_is)
    (case l_BINDERS => k_is)
    (case a_BASIC => k_is)
    (case l_BASIC => k_is)
    (case a_OTHER => k_is)
    (case l_OTHER => k_is)
    (case h_OTHER => exact ⟨⟨_, _, rfl, rfl⟩, ⟨_, _, rfl, rfl⟩, ⟨_, _, rfl, rfl⟩, ⟨_, _, rfl, rfl⟩, trivial⟩)
    (case v_OTHER_0 => k_is)
    (case v_OTHER_1 => k_is)
    (case v_OTHER_2 => k_is)
    (case v_OTHER_3 => k_is)

