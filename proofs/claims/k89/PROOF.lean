import PyProof.Rows.All
import Wide.All
import OpenK.AllK
import Wide.FinOn
import HandS.ForMost
import HandS.Exc
import HandS.ExcOwn
import HandS.WordsExc
import HandS.ExcCtx
import HandS.HotCalls
import HandS.TupAny
import HandS.Style
import HandS.WideBits
import HandS.Gcd
import HandS.IsInst
import HandS.NoneIn
import HandS.Defaults
import HandS.Conv
import HandS.StrMore
import HandS.SortOrd
import HandS.More
import KE.KSortTupAny
import PyProof.Rows.StrOr
import KE.DataCmp
import PySem.Challenge.RW_joinpast_k89_sum_notes
import HandS.Head0
import HandS.Head1
import HandS.Head2
import HandS.HeadEnd
import HandS.EndBits
import HandS.HeadHook1
import HandS.HeadHook2
import KE.KExcIs
import PyProof.Rows.Digits
import HandS.Head3
import HandS.Codes
import KE.IntTextText
import KE.IntBitsLaws
import PyProof.Rows.StrPadWhole
set_option Elab.async false
set_option linter.all false
set_option maxRecDepth 100000
set_option maxHeartbeats 1000000
set_option autoImplicit false
/-! RjA: data by value over the hand layer: D, its standing in the abstract heap, the environments, the meaning of expressions as wishes. -/
namespace RJ
open PySem PySem.Spec L2

/-- a truth value that the kernel does not work out by itself -/
theorem blkP : (∃ n : Nat, n = 0) = True := propext ⟨fun _ => trivial, fun _ => ⟨0, rfl⟩⟩
theorem blkA (b : Bool) (p : Prop) (h : (∃ n : Nat, n = 0) = p) (t : p) : (Eq.mp (congrArg (fun q : Prop => q → Bool) h) fun _ => b) t = b := by
  subst h
  rfl
def blk (b : Bool) : Bool := (Eq.mp (congrArg (fun q : Prop => q → Bool) blkP) fun _ => b) trivial
theorem blk_eq (b : Bool) : blk b = b := blkA b _ blkP trivial
theorem blk_of {p : Prop} [Decidable p] (h : blk (decide p) = true) : p := of_decide_eq_true ((blk_eq _).symm.trans h)
theorem blk_to {p : Prop} [Decidable p] (h : p) : blk (decide p) = true := (blk_eq _).trans (decide_eq_true h)
inductive D where
  | non | bl (b : Bool) | int (i : Int) | str (s : Str)
  | lst (xs : List D) | tup (xs : List D)
  | dK (kvs : List (Key × D)) | dT (kvs : List (List Key × D))
  | obj (c : Str) (fs : List (Str × D))
  | scr (ns : List Int)

/-- what the text's own names stand for -/
structure Mw where
  K : PySem.W.Frag
  mg : Str → Option Value

mutual
inductive Rep (M : Mw) (G : Hp) : V → D → Prop
  | non : Rep M G .non .non
  | bl (b : Bool) : Rep M G (.bl b) (.bl b)
  | int (i : Int) : Rep M G (.int i) (.int i)
  | str (s : Str) : Rep M G (.str s) (.str s)
  | lst {a : Addr} {vs : List V} {ds : List D} : G a = some (.lst vs) → RepL M G vs ds → Rep M G (.ref a) (.lst ds)
  | scr {a : Addr} {ns : List Int} : SqL M.K G a (ns.map V.int) → Rep M G (.ref a) (.scr ns)
  | tup {a : Addr} {vs : List V} {ds : List D} : G a = some (.tup vs) → RepL M G vs ds → Rep M G (.ref a) (.tup ds)
  | dK {a : Addr} {kvs : List (Key × V)} {ds : List (Key × D)} : G a = some (.dK kvs) → RepK M G kvs ds → Rep M G (.ref a) (.dK ds)
  | dT {a : Addr} {kvs : List (List Key × V)} {ds : List (List Key × D)} : G a = some (.dT kvs) → RepT M G kvs ds → Rep M G (.ref a) (.dT ds)
  | obj {a C dx : Addr} {c : Str} {fs : List (Str × V)} {ds : List (Str × D)} : M.mg c = some (.ref C) → G a = some (.ins C dx fs) → RepF M G fs ds → Rep M G (.ref a) (.obj c ds)
inductive RepL (M : Mw) (G : Hp) : List V → List D → Prop
  | nil : RepL M G [] []
  | cons {v : V} {vs : List V} {d : D} {ds : List D} : Rep M G v d → RepL M G vs ds → RepL M G (v :: vs) (d :: ds)
inductive RepK (M : Mw) (G : Hp) : List (Key × V) → List (Key × D) → Prop
  | nil : RepK M G [] []
  | cons {k : Key} {v : V} {vs : List (Key × V)} {d : D} {ds : List (Key × D)} : Rep M G v d → RepK M G vs ds → RepK M G ((k, v) :: vs) ((k, d) :: ds)
inductive RepT (M : Mw) (G : Hp) : List (List Key × V) → List (List Key × D) → Prop
  | nil : RepT M G [] []
  | cons {k : List Key} {v : V} {vs : List (List Key × V)} {d : D} {ds : List (List Key × D)} : Rep M G v d → RepT M G vs ds → RepT M G ((k, v) :: vs) ((k, d) :: ds)
inductive RepF (M : Mw) (G : Hp) : List (Str × V) → List (Str × D) → Prop
  | nil : RepF M G [] []
  | cons {k : Str} {v : V} {vs : List (Str × V)} {d : D} {ds : List (Str × D)} : Rep M G v d → RepF M G vs ds → RepF M G ((k, v) :: vs) ((k, d) :: ds)
end

theorem Rd.mono {G G' : Hp} {a : Addr} {u : HO} (s : Same G G') (h : Rd G a u) : Rd G' a u := by
  rcases h with h | ⟨o, h⟩
  · exact .inl (s _ _ h)
  · exact .inr ⟨o, s _ _ h⟩
theorem SqL.mono {K : PySem.W.Frag} {G G' : Hp} {a : Addr} {xs : List V} (s : Same G G') (h : SqL K G a xs) : SqL K G' a xs := by
  rcases h with h | h
  · exact .inl (Rd.mono s h)
  · exact .inr h
theorem SqT.mono {K : PySem.W.Frag} {G G' : Hp} {a : Addr} {xs : List V} (s : Same G G') (h : SqT K G a xs) : SqT K G' a xs := by
  rcases h with h | h
  · exact .inl (Rd.mono s h)
  · exact .inr h

section
variable {M : Mw} {G G' : Hp}
mutual
theorem Rep.mono (s : Same G G') : ∀ {v : V} {d : D}, Rep M G v d → Rep M G' v d
  | _, _, .non => .non
  | _, _, .bl b => .bl b
  | _, _, .int i => .int i
  | _, _, .str x => .str x
  | _, _, .lst h r => .lst (s _ _ h) (RepL.mono s r)
  | _, _, .scr h => .scr (SqL.mono s h)
  | _, _, .tup h r => .tup (s _ _ h) (RepL.mono s r)
  | _, _, .dK h r => .dK (s _ _ h) (RepK.mono s r)
  | _, _, .dT h r => .dT (s _ _ h) (RepT.mono s r)
  | _, _, .obj c h r => .obj c (s _ _ h) (RepF.mono s r)
theorem RepL.mono (s : Same G G') : ∀ {v : List V} {d : List D}, RepL M G v d → RepL M G' v d
  | _, _, .nil => .nil
  | _, _, .cons h r => .cons (Rep.mono s h) (RepL.mono s r)
theorem RepK.mono (s : Same G G') : ∀ {v : List (Key × V)} {d : List (Key × D)}, RepK M G v d → RepK M G' v d
  | _, _, .nil => .nil
  | _, _, .cons h r => .cons (Rep.mono s h) (RepK.mono s r)
theorem RepT.mono (s : Same G G') : ∀ {v : List (List Key × V)} {d : List (List Key × D)}, RepT M G v d → RepT M G' v d
  | _, _, .nil => .nil
  | _, _, .cons h r => .cons (Rep.mono s h) (RepT.mono s r)
theorem RepF.mono (s : Same G G') : ∀ {v : List (Str × V)} {d : List (Str × D)}, RepF M G v d → RepF M G' v d
  | _, _, .nil => .nil
  | _, _, .cons h r => .cons (Rep.mono s h) (RepF.mono s r)
end

theorem RepL.length : ∀ {v : List V} {d : List D}, RepL M G v d → v.length = d.length
  | _, _, .nil => rfl
  | _, _, .cons _ r => congrArg (· + 1) (RepL.length r)
theorem RepL.get : ∀ {v : List V} {d : List D} {i : Nat} {x : D}, RepL M G v d → d[i]? = some x → ∃ u, v[i]? = some u ∧ Rep M G u x
  | _, _, _, _, .nil, e => by simp at e
  | _, _, 0, _, .cons h _, e => by simp at e; subst e; exact ⟨_, rfl, h⟩
  | _, _, i + 1, x, .cons _ r, e => by
    obtain ⟨u, a, b⟩ := RepL.get (i := i) (x := x) r (by simpa using e)
    exact ⟨u, by simpa using a, b⟩
theorem RepL.getV : ∀ {v : List V} {d : List D} {i : Nat} {u : V}, RepL M G v d → v[i]? = some u → ∃ x, d[i]? = some x ∧ Rep M G u x
  | _, _, _, _, .nil, e => by simp at e
  | _, _, 0, _, .cons h _, e => by simp at e; subst e; exact ⟨_, rfl, h⟩
  | _, _, i + 1, x, .cons _ r, e => by
    obtain ⟨u, a, b⟩ := RepL.getV (i := i) (u := x) r (by simpa using e)
    exact ⟨u, by simpa using a, b⟩
theorem RepL.append : ∀ {v w : List V} {d e : List D}, RepL M G v d → RepL M G w e → RepL M G (v ++ w) (d ++ e)
  | _, _, _, _, .nil, s => s
  | _, _, _, _, .cons h r, s => .cons h (RepL.append r s)
theorem RepL.set {u : V} {x : D} (q : Rep M G u x) : ∀ {v : List V} {d : List D} (i : Nat), RepL M G v d → RepL M G (v.set i u) (d.set i x)
  | _, _, _, .nil => .nil
  | _, _, 0, .cons _ r => .cons q r
  | _, _, i + 1, .cons h r => .cons h (RepL.set q i r)
theorem RepL.take : ∀ {v : List V} {d : List D} (n : Nat), RepL M G v d → RepL M G (v.take n) (d.take n)
  | _, _, 0, _ => .nil
  | _, _, _ + 1, .nil => .nil
  | _, _, n + 1, .cons h r => .cons h (RepL.take n r)
theorem RepL.drop : ∀ {v : List V} {d : List D} (n : Nat), RepL M G v d → RepL M G (v.drop n) (d.drop n)
  | _, _, 0, r => r
  | _, _, _ + 1, .nil => .nil
  | _, _, n + 1, .cons _ r => RepL.drop n r
theorem RepL.reverse : ∀ {v : List V} {d : List D}, RepL M G v d → RepL M G v.reverse d.reverse
  | _, _, .nil => .nil
  | _, _, .cons h r => by
    rw [List.reverse_cons, List.reverse_cons]
    exact RepL.append (RepL.reverse r) (.cons h .nil)
theorem RepL.ints : ∀ (l : List Int), RepL M G (l.map V.int) (l.map D.int)
  | [] => .nil
  | _ :: r => .cons (.int _) (RepL.ints r)
theorem RepL.strs : ∀ (l : List Str), RepL M G (l.map V.str) (l.map D.str)
  | [] => .nil
  | _ :: r => .cons (.str _) (RepL.strs r)
end

/-! ### what a name holds -/
inductive Sl where
  | no | sh (d : D) | own (d : D)
abbrev En := List Sl
structure Ex where
  cls : Str
  fs : List (Str × D)
inductive Re (α : Type) where
  | ok (a : α) | ex (e : Ex) | no
def Re.bind {α β : Type} (r : Re α) (f : α → Re β) : Re β := match r with
  | .ok a => f a
  | .ex e => .ex e
  | .no => .no

/-- the object at a is d's, its items seen in G -/
def Cont (M : Mw) (G H : Hp) (a : Addr) : D → Prop
  | .lst ds => ∃ vs, H a = some (.lst vs) ∧ RepL M G vs ds
  | .dK ds => ∃ kvs, H a = some (.dK kvs) ∧ RepK M G kvs ds
  | .dT ds => ∃ kvs, H a = some (.dT kvs) ∧ RepT M G kvs ds
  | _ => False
def OwnAt (M : Mw) (H0 G H : Hp) (a : Addr) (d : D) : Prop := G a = none ∧ H0 a = none ∧ Cont M G H a d
def SlOk (M : Mw) (H0 G H : Hp) : Sl → Option V → Prop
  | .no, _ => True
  | .sh d, x => ∃ v, x = some v ∧ Rep M G v d
  | .own d, x => ∃ a, x = some (.ref a) ∧ OwnAt M H0 G H a d
structure Rel (M : Mw) (G0 H0 : Hp) (Γ : En) (σ : St) (G H : Hp) : Prop where
  len : Γ.length = σ.length
  le : Same G H
  base : Same H0 H
  vis : Same G0 G
  new : ∀ b o, G b = some o → G0 b = none → H0 b = none ∨ ∃ xs, o = .tup xs
  slot : ∀ (i : Nat) s, Γ[i]? = some s → ∃ x, σ[i]? = some x ∧ SlOk M H0 G H s x
  sep : ∀ (i j : Nat) d e a, i ≠ j → Γ[i]? = some (.own d) → Γ[j]? = some (.own e) → σ[i]? = some (some (.ref a)) → σ[j]? = some (some (.ref a)) → False
structure Ext (G H G' H' : Hp) : Prop where
  g : Same G G'
  h : Same H H'
  le : Same G' H'
  new : ∀ b o, G' b = some o → G b = none → H b = none ∨ ∃ xs, o = .tup xs
theorem Ext.refl {G H : Hp} (s : Same G H) : Ext G H G H := ⟨Same.refl _, Same.refl _, s, fun b o e n => by rw [n] at e; cases e⟩
theorem Ext.trans {G H G1 H1 G2 H2 : Hp} (a : Ext G H G1 H1) (b : Ext G1 H1 G2 H2) : Ext G H G2 H2 :=
  ⟨a.g.trans b.g, a.h.trans b.h, b.le, fun c o e n => by
    cases q : G1 c with
    | some u =>
      have z := b.g c u q
      rw [e] at z
      cases z
      exact a.new c o q n
    | none => exact (b.new c o e q).imp (fun z => a.h.free z) id⟩
theorem Cont.there {M : Mw} {G H : Hp} {a : Addr} {d : D} (c : Cont M G H a d) : ∃ o, H a = some o := by
  cases d with
  | lst ds => obtain ⟨vs, h, _⟩ := c; exact ⟨_, h⟩
  | dK ds => obtain ⟨vs, h, _⟩ := c; exact ⟨_, h⟩
  | dT ds => obtain ⟨vs, h, _⟩ := c; exact ⟨_, h⟩
  | _ => exact c.elim
theorem Cont.nt {M : Mw} {G H : Hp} {a : Addr} {d : D} {xs : List V} (c : Cont M G H a d) (e : H a = some (.tup xs)) : False := by
  cases d with
  | lst ds =>
    obtain ⟨vs, h, _⟩ := c
    rw [e] at h
    cases h
  | dK ds =>
    obtain ⟨vs, h, _⟩ := c
    rw [e] at h
    cases h
  | dT ds =>
    obtain ⟨vs, h, _⟩ := c
    rw [e] at h
    cases h
  | _ => exact c.elim
theorem Cont.mono {M : Mw} {G H G' H' : Hp} {a : Addr} {d : D} (s : Same G G') (k : ∀ o, H a = some o → H' a = some o) (c : Cont M G H a d) : Cont M G' H' a d := by
  cases d with
  | lst ds => obtain ⟨vs, h, r⟩ := c; exact ⟨vs, k _ h, r.mono s⟩
  | dK ds => obtain ⟨vs, h, r⟩ := c; exact ⟨vs, k _ h, r.mono s⟩
  | dT ds => obtain ⟨vs, h, r⟩ := c; exact ⟨vs, k _ h, r.mono s⟩
  | _ => exact c.elim
theorem OwnAt.ext {M : Mw} {H0 G H G' H' : Hp} {a : Addr} {d : D} (x : Ext G H G' H') (c : OwnAt M H0 G H a d) : OwnAt M H0 G' H' a d := by
  obtain ⟨n, n0, c⟩ := c
  refine ⟨?_, n0, c.mono x.g fun o e => x.h _ _ e⟩
  cases q : G' a with
  | none => rfl
  | some o =>
    rcases x.new a o q n with z | ⟨xs, z⟩
    · obtain ⟨u, hu⟩ := c.there
      rw [z] at hu
      cases hu
    · subst z
      obtain ⟨u, hu⟩ := c.there
      have h1 := x.h _ _ hu
      rw [x.le _ _ q] at h1
      cases h1
      exact (c.nt hu).elim
section
variable {M : Mw} {G0 H0 : Hp} {Γ : En} {σ : St} {G H G' H' : Hp}
theorem Rel.ext (R : Rel M G0 H0 Γ σ G H) (x : Ext G H G' H') : Rel M G0 H0 Γ σ G' H' := by
  refine ⟨R.len, x.le, R.base.trans x.h, R.vis.trans x.g, fun b o e n => ?_, fun i s e => ?_, R.sep⟩
  · cases q : G b with
    | some u =>
      have z := x.g b u q
      rw [e] at z
      cases z
      exact R.new b o q n
    | none => exact (x.new b o e q).imp (fun z => R.base.free z) id
  · obtain ⟨y, e1, q⟩ := R.slot i s e
    refine ⟨y, e1, ?_⟩
    cases s with
    | no => trivial
    | sh d =>
      obtain ⟨v, e2, r⟩ := q
      exact ⟨v, e2, r.mono x.g⟩
    | own d =>
      obtain ⟨a, e2, o⟩ := q
      exact ⟨a, e2, o.ext x⟩
theorem Rel.refl (R : Rel M G0 H0 Γ σ G H) : Ext G H G H := Ext.refl R.le
end

/-! ### the meaning as a wish -/
def RepX (M : Mw) (G : Hp) (cls : Value) (dd : Option Addr) (e : Ex) : Prop :=
  ∃ C, M.mg e.cls = some (.ref C) ∧ cls = .ref C ∧ ((e.fs = [] ∧ dd = none) ∨ ∃ d fv, dd = some d ∧ G d = some (.xd fv) ∧ RepF M G fv e.fs)
def KRe {α : Type} (M : Mw) (G H : Hp) (q : α → Hp → Hp → Prop) (w : Value → Option Addr → Hp → Prop) : Re α → Prop
  | .ok a => ∀ G' H', Ext G H G' H' → q a G' H'
  | .ex e => ∀ cls dd G' H', Ext G H G' H' → RepX M G' cls dd e → w cls dd H'
  | .no => False
def TEv (M : Mw) (G0 H0 : Hp) (W : WX) (f : En → Re D) : TE := fun σ H Q => ∃ Γ G, Rel M G0 H0 Γ σ G H ∧ KRe M G H (fun d G' H' => ∀ v, Rep M G' v d → Q v H') (fun c dd H' => W c dd σ H') (f Γ)
def TLv (M : Mw) (G0 H0 : Hp) (W : WX) (f : En → Re (List D)) : TA := fun σ H Q => ∃ Γ G, Rel M G0 H0 Γ σ G H ∧ KRe M G H (fun d G' H' => ∀ v, RepL M G' v d → Q v H') (fun c dd H' => W c dd σ H') (f Γ)
def TTv (M : Mw) (G0 H0 : Hp) (W : WX) (f : En → Re Bool) : TT := fun σ H Q => ∃ Γ G, Rel M G0 H0 Γ σ G H ∧ KRe M G H (fun d _ H' => Q d H') (fun c dd H' => W c dd σ H') (f Γ)
/-- a new object of one's own -/
def TFv (M : Mw) (G0 H0 : Hp) (W : WX) (f : En → Re D) : TE := fun σ H Q => ∃ Γ G, Rel M G0 H0 Γ σ G H ∧ KRe M G H (fun d G' H' => ∀ a, H a = none → G' a = none → Cont M G' H' a d → Q (.ref a) H') (fun c dd H' => W c dd σ H') (f Γ)
/-- a thing looked at: shared, or one's own -/
def Top (M : Mw) (G H : Hp) (v : V) (d : D) : Prop := Rep M G v d ∨ ∃ a, v = .ref a ∧ Cont M G H a d
def TOv (M : Mw) (G0 H0 : Hp) (W : WX) (f : En → Re D) : TE := fun σ H Q => ∃ Γ G, Rel M G0 H0 Γ σ G H ∧ KRe M G H (fun d G' H' => ∀ v, Top M G' H' v d → Q v H') (fun c dd H' => W c dd σ H') (f Γ)
/-- a def's promise -/
def spOf (M : Mw) (f : List D → Re D) : Sp := fun vs H Q E => ∃ ds G, Same G H ∧ RepL M G vs ds ∧ KRe M G H (fun d G' H' => ∀ v, Rep M G' v d → Q v H') E (f ds)

section
variable {M : Mw} {G H : Hp} {α : Type} {q q' : α → Hp → Hp → Prop} {w w' : Value → Option Addr → Hp → Prop}
theorem KRe.mono {r : Re α} (h : KRe M G H q w r) (hq : ∀ a G' H', r = .ok a → Ext G H G' H' → q a G' H' → q' a G' H') (hw : ∀ c d H', w c d H' → w' c d H') : KRe M G H q' w' r := by
  cases r with
  | ok a => exact fun G' H' x => hq a G' H' rfl x (h G' H' x)
  | ex e => exact fun c d G' H' x r => hw c d H' (h c d G' H' x r)
  | no => exact h
theorem KRe.bind {β : Type} {r : Re α} {f : α → Re β} {p : β → Hp → Hp → Prop} (h : KRe M G H p w (r.bind f)) : KRe M G H (fun a G' H' => KRe M G' H' p w (f a)) w r := by
  cases r with
  | ok a =>
    intro G' H' x
    show KRe M G' H' p w (f a)
    have h : KRe M G H p w (f a) := h
    cases e : f a with
    | ok b =>
      rw [e] at h
      exact fun G2 H2 y => h G2 H2 (x.trans y)
    | ex b =>
      rw [e] at h
      exact fun c d G2 H2 y => h c d G2 H2 (x.trans y)
    | no =>
      rw [e] at h
      exact h
  | ex e => exact h
  | no => exact h
end
theorem _root_.L2.PE.weak {X : Cx} {e : Expr} {t t' : TE} (h : PE X e t) (k : ∀ σ H Q, t' σ H Q → t σ H Q) : PE X e t' := ⟨fun pins s σ H Q I q => h.run pins s σ H Q I (k σ H Q q)⟩
theorem _root_.L2.PT.weak {X : Cx} {e : Expr} {t t' : TT} (h : PT X e t) (k : ∀ σ H Q, t' σ H Q → t σ H Q) : PT X e t' := ⟨fun pins s σ H Q I q => h.run pins s σ H Q I (k σ H Q q)⟩
theorem _root_.L2.PA.weak {X : Cx} {e : List Expr} {t t' : TA} (h : PA X e t) (k : ∀ σ H Q, t' σ H Q → t σ H Q) : PA X e t' := ⟨fun pos pins s σ H Q I q => h.run pos pins s σ H Q I (k σ H Q q)⟩
theorem _root_.L2.PS.weak {X : Cx} {e : Stmt} {t t' : TS} (h : PS X e t) (k : ∀ D σ H, t' D σ H → t D σ H) : PS X e t' := ⟨fun pins s σ H D I q => h.run pins s σ H D I (k D σ H q)⟩
theorem _root_.L2.PSs.weak {X : Cx} {e : List Stmt} {t t' : TS} (h : PSs X e t) (k : ∀ D σ H, t' D σ H → t D σ H) : PSs X e t' := ⟨fun pins s σ H D I q => h.run pins s σ H D I (k D σ H q)⟩
end RJ

set_option Elab.async false
set_option linter.all false
set_option maxRecDepth 100000
set_option maxHeartbeats 1000000
set_option autoImplicit false
/-! RjB: expressions: a matcher, a meaning over data, and the proof that what matches does what is meant. -/
namespace RJ
open PySem PySem.Spec L2

structure Tbl where
  Fn : Type
  name : Fn → Str
  lvl : Fn → Nat
  ar : Fn → Nat
  den : Fn → List D → Re D
  ci : List (Str × Int)
  cs : List (Str × Str)
  cb : List (Str × String)
  xok : PySem.W.Frag → (Str → Option Value) → Prop

def Knows (T : Tbl) (P : Program) (w : World) (K : PySem.W.Frag) (mg : Str → Option Value) (base : Heap) (f : T.Fn) : Prop :=
  ∃ (a : Addr) (fd : FuncData) (ps : List Str), mg (T.name f) = some (.ref a) ∧ PySem.W.keepIn K (.ref a) = true ∧ ps.length = T.ar f ∧ Binds K fd ps [] ∧
    FnOk P w K mg base (L2N.CX P w) (T.lvl f) a fd ps (spOf ⟨K, mg⟩ (T.den f))
/-- the built-in names that the texts use -/
def blt : List Str := ["len", "range", "sorted", "list", "tuple", "int", "str", "bool", "abs", "min", "max", "isinstance", "divmod", "zip", "sum", "reversed", "enumerate", "any", "all", "iter"]
structure Sc where
  N : List Str
  sc : Scope
  lv : Nat
  fn : Str → Bool
structure XOk (T : Tbl) (X : Cx) (W : WX) (c : Sc) : Prop where
  N : X.N = c.N
  sc : X.env.scope = c.sc
  fn : X.fn = c.fn
  nd : X.N.Nodup
  calm : X.calm = true
  tk : L2N.Takes X W
  room : Room c.lv X.A
  fns : ∀ f : T.Fn, T.lvl f ≤ c.lv → Knows T X.prog X.w X.K X.mg X.base f
  blt : ∀ x ∈ blt, X.mg x = none
  ci : ∀ x i, (x, i) ∈ T.ci → ∃ t, X.mg x = some (.int i t)
  cs : ∀ x i, (x, i) ∈ T.cs → ∃ t, X.mg x = some (.str i t)
  cb : ∀ x i, (x, i) ∈ T.cb → X.mg x = some (.builtin i)
  pass : PassesOwn (model X.prog X.w) X.A X.env X.xe
  dig : X.base.NoDigits
  xk : T.xok X.K X.mg
abbrev mw (X : Cx) : Mw := ⟨X.K, X.mg⟩

def visB (sc : Scope) (x : Str) : Bool := match sc.names.lookup x with
  | some .local => true
  | some .cell => true
  | some .free => true
  | _ => false
def glB (sc : Scope) (x : Str) : Bool := match sc.names.lookup x with
  | some .globalImplicit => true
  | _ => false
def nmB (x : Str) : Bool := !(x == ("__debug__" : Str)) && !(x == ("__classdict__" : Str)) && !decide (x = ("__name__" : Str))
theorem nmB_d {x : Str} (h : nmB x = true) : (x == ("__debug__" : Str)) = false := by
  unfold nmB at h
  simp only [Bool.and_eq_true, Bool.not_eq_true'] at h
  exact h.1.1
theorem nmB_c {x : Str} (h : nmB x = true) : (x == ("__classdict__" : Str)) = false := by
  unfold nmB at h
  simp only [Bool.and_eq_true, Bool.not_eq_true'] at h
  exact h.1.2
theorem nmB_n {x : Str} (h : nmB x = true) : x ≠ ("__name__" : Str) := by
  unfold nmB at h
  simp only [Bool.and_eq_true, Bool.not_eq_true', decide_eq_false_iff_not] at h
  exact h.2
section
variable {T : Tbl} {X : Cx} {W : WX} {c : Sc}
theorem XOk.vis (o : XOk T X W c) {x : Str} (h : visB c.sc x = true) : Vis X.env.scope x := by
  rw [o.sc]
  unfold visB at h
  split at h
  · exact .inl (by assumption)
  · exact .inr (.inl (by assumption))
  · exact .inr (.inr (by assumption))
  · cases h
theorem XOk.gl (o : XOk T X W c) {x : Str} (h : glB c.sc x = true) : Gl X x := by
  show X.env.kindOf x = some .globalImplicit
  unfold Env.kindOf
  rw [o.sc]
  unfold glB at h
  split at h
  · assumption
  · cases h
end

/-! ### pieces of heaps -/
theorem Ext.priv {G H : Hp} (s : Same G H) {p : Addr} {o : HO} (h : H p = none) : Ext G H G (upd H p o) :=
  ⟨Same.refl _, fun b u e => by rw [upd_ne (ne_of_none e h)]; exact e, fun b u e => by rw [upd_ne (ne_of_none (s b u e) h)]; exact s b u e, fun b u e n => by rw [n] at e; cases e⟩
theorem Ext.both {G H : Hp} (s : Same G H) {p : Addr} {o : HO} (h : H p = none) : Ext G H (upd G p o) (upd H p o) := by
  have hg := s.free h
  refine ⟨fun b u e => by rw [upd_ne (ne_of_none e hg)]; exact e, fun b u e => by rw [upd_ne (ne_of_none e h)]; exact e, fun b u e => ?_, fun b u e n => ?_⟩
  · by_cases hb : b = p
    · subst hb
      rw [upd_same] at e ⊢
      exact e
    · rw [upd_ne hb] at e ⊢
      exact s b u e
  · by_cases hb : b = p
    · subst hb
      exact .inl h
    · rw [upd_ne hb, n] at e
      cases e
/-- one's own object is given out -/
theorem Cont.share {M : Mw} {G0 H0 G H : Hp} {a : Addr} {d : D} (x : Ext G0 H0 G H) (n0 : H0 a = none) (n : G a = none) (c : Cont M G H a d) : ∃ G', Ext G0 H0 G' H ∧ Rep M G' (.ref a) d ∧ Same G G' := by
  have key : ∀ o, H a = some o → Ext G0 H0 (upd G a o) H ∧ Same G (upd G a o) := fun o e => by
    have sg : Same G (upd G a o) := fun b u q => by rw [upd_ne (ne_of_none q n)]; exact q
    refine ⟨⟨x.g.trans sg, x.h, fun b u q => ?_, fun b u q z => ?_⟩, sg⟩
    · by_cases hb : b = a
      · subst hb
        rw [upd_same] at q
        rw [e, ← q]
      · rw [upd_ne hb] at q
        exact x.le b u q
    · by_cases hb : b = a
      · subst hb
        exact .inl n0
      · rw [upd_ne hb] at q
        exact x.new b u q z
  cases d with
  | lst ds =>
    obtain ⟨vs, h, r⟩ := c
    obtain ⟨k1, k2⟩ := key _ h
    exact ⟨_, k1, .lst upd_same (r.mono k2), k2⟩
  | dK ds =>
    obtain ⟨vs, h, r⟩ := c
    obtain ⟨k1, k2⟩ := key _ h
    exact ⟨_, k1, .dK upd_same (r.mono k2), k2⟩
  | dT ds =>
    obtain ⟨vs, h, r⟩ := c
    obtain ⟨k1, k2⟩ := key _ h
    exact ⟨_, k1, .dT upd_same (r.mono k2), k2⟩
  | _ => exact c.elim
section
variable {M : Mw} {G H G' H' : Hp} {v : V}
theorem Top.ext {d : D} (x : Ext G H G' H') (t : Top M G H v d) : Top M G' H' v d := by
  rcases t with t | ⟨a, e, c⟩
  · exact .inl (t.mono x.g)
  · exact .inr ⟨a, e, c.mono x.g fun o q => x.h _ _ q⟩
theorem Top.lst (s : Same G H) {ds : List D} (t : Top M G H v (.lst ds)) : ∃ a vs, v = .ref a ∧ H a = some (.lst vs) ∧ RepL M G vs ds := by
  rcases t with t | ⟨a, e, vs, h, r⟩
  · cases t with
    | lst h r => exact ⟨_, _, rfl, s _ _ h, r⟩
  · exact ⟨a, vs, e, h, r⟩
theorem Top.tup (s : Same G H) {ds : List D} (t : Top M G H v (.tup ds)) : ∃ a vs, v = .ref a ∧ H a = some (.tup vs) ∧ RepL M G vs ds := by
  rcases t with t | ⟨a, e, q⟩
  · cases t with
    | tup h r => exact ⟨_, _, rfl, s _ _ h, r⟩
  · exact q.elim
theorem Top.int {i : Int} (t : Top M G H v (.int i)) : v = .int i := by
  rcases t with t | ⟨a, e, q⟩
  · cases t; rfl
  · exact q.elim
theorem Top.bl {i : Bool} (t : Top M G H v (.bl i)) : v = .bl i := by
  rcases t with t | ⟨a, e, q⟩
  · cases t; rfl
  · exact q.elim
theorem Top.str {i : Str} (t : Top M G H v (.str i)) : v = .str i := by
  rcases t with t | ⟨a, e, q⟩
  · cases t; rfl
  · exact q.elim
theorem Top.non (t : Top M G H v .non) : v = .non := by
  rcases t with t | ⟨a, e, q⟩
  · cases t; rfl
  · exact q.elim
theorem Top.scr (s : Same G H) {ns : List Int} (t : Top M G H v (.scr ns)) : ∃ a, v = .ref a ∧ SqL M.K H a (ns.map V.int) := by
  rcases t with t | ⟨a, e, q⟩
  · cases t with
    | scr h => exact ⟨_, rfl, SqL.mono s h⟩
  · exact q.elim
theorem Top.dK (s : Same G H) {ds : List (Key × D)} (t : Top M G H v (.dK ds)) : ∃ a vs, v = .ref a ∧ H a = some (.dK vs) ∧ RepK M G vs ds := by
  rcases t with t | ⟨a, e, vs, h, r⟩
  · cases t with
    | dK h r => exact ⟨_, _, rfl, s _ _ h, r⟩
  · exact ⟨a, vs, e, h, r⟩
theorem Top.dT (s : Same G H) {ds : List (List Key × D)} (t : Top M G H v (.dT ds)) : ∃ a vs, v = .ref a ∧ H a = some (.dT vs) ∧ RepT M G vs ds := by
  rcases t with t | ⟨a, e, vs, h, r⟩
  · cases t with
    | dT h r => exact ⟨_, _, rfl, s _ _ h, r⟩
  · exact ⟨a, vs, e, h, r⟩
end
inductive TopL (M : Mw) (G H : Hp) : List V → List D → Prop
  | nil : TopL M G H [] []
  | cons {v : V} {vs : List V} {d : D} {ds : List D} : Top M G H v d → TopL M G H vs ds → TopL M G H (v :: vs) (d :: ds)
theorem TopL.ext {M : Mw} {G H G' H' : Hp} (x : Ext G H G' H') : ∀ {vs : List V} {ds : List D}, TopL M G H vs ds → TopL M G' H' vs ds
  | _, _, .nil => .nil
  | _, _, .cons t r => .cons (t.ext x) (r.ext x)
def TAo (M : Mw) (G0 H0 : Hp) (W : WX) (f : En → Re (List D)) : TA := fun σ H Q => ∃ Γ G, Rel M G0 H0 Γ σ G H ∧ KRe M G H (fun d G' H' => ∀ v, TopL M G' H' v d → Q v H') (fun c dd H' => W c dd σ H') (f Γ)

/-! ### the kinds of pieces -/
structure OC (T : Tbl) where
  mt : Sc → Expr → Bool
  den : En → Re D
  ok : ∀ {X : Cx} {W : WX} {c : Sc} {e : Expr}, XOk T X W c → mt c e = true → ∀ G0 H0, PE X e (TOv (mw X) G0 H0 W den)
structure EC (T : Tbl) where
  mt : Sc → Expr → Bool
  den : En → Re D
  ok : ∀ {X : Cx} {W : WX} {c : Sc} {e : Expr}, XOk T X W c → mt c e = true → ∀ G0 H0, PE X e (TEv (mw X) G0 H0 W den)
structure FC (T : Tbl) where
  mt : Sc → Expr → Bool
  den : En → Re D
  ok : ∀ {X : Cx} {W : WX} {c : Sc} {e : Expr}, XOk T X W c → mt c e = true → ∀ G0 H0, PE X e (TFv (mw X) G0 H0 W den)
structure TC (T : Tbl) where
  mt : Sc → Expr → Bool
  den : En → Re Bool
  ok : ∀ {X : Cx} {W : WX} {c : Sc} {e : Expr}, XOk T X W c → mt c e = true → ∀ G0 H0, PT X e (TTv (mw X) G0 H0 W den)
def plainE : Expr → Bool
  | .Starred .. => false
  | _ => true
structure AC (T : Tbl) where
  mt : Sc → List Expr → Bool
  den : En → Re (List D)
  pl : ∀ {c : Sc} {es : List Expr}, mt c es = true → es.all plainE = true
  ok : ∀ {X : Cx} {W : WX} {c : Sc} {e : List Expr}, XOk T X W c → mt c e = true → ∀ G0 H0, PA X e (TLv (mw X) G0 H0 W den)
structure AO (T : Tbl) where
  mt : Sc → List Expr → Bool
  den : En → Re (List D)
  pl : ∀ {c : Sc} {es : List Expr}, mt c es = true → es.all plainE = true
  ok : ∀ {X : Cx} {W : WX} {c : Sc} {e : List Expr}, XOk T X W c → mt c e = true → ∀ G0 H0, PA X e (TAo (mw X) G0 H0 W den)
section
variable {T : Tbl}
theorem TEv.top {M : Mw} {G0 H0 : Hp} {W : WX} {f : En → Re D} {σ : L2.St} {H : Hp} {Q : VK} (h : TOv M G0 H0 W f σ H Q) : TEv M G0 H0 W f σ H Q := by
  obtain ⟨Γ, G, R, k⟩ := h
  exact ⟨Γ, G, R, k.mono (fun a G' H' e x q v r => q v (.inl r)) fun _ _ _ h => h⟩
theorem TFv.give {M : Mw} {G0 H0 : Hp} {W : WX} {f : En → Re D} {σ : L2.St} {H : Hp} {Q : VK} (h : TEv M G0 H0 W f σ H Q) : TFv M G0 H0 W f σ H Q := by
  obtain ⟨Γ, G, R, k⟩ := h
  refine ⟨Γ, G, R, ?_⟩
  cases e : f Γ with
  | ok d =>
    rw [e] at k
    intro G' H' x a n0 n c
    obtain ⟨G2, x2, r, _⟩ := c.share x n0 n
    exact k G2 H' x2 _ r
  | ex b =>
    rw [e] at k
    exact k
  | no =>
    rw [e] at k
    exact k
def ocE (a : EC T) : OC T := ⟨a.mt, a.den, fun o h G0 H0 => (a.ok o h G0 H0).weak fun _ _ _ => TEv.top⟩
def ecF (a : FC T) : EC T := ⟨a.mt, a.den, fun o h G0 H0 => (a.ok o h G0 H0).weak fun _ _ _ => TFv.give⟩
instance : Coe (EC T) (OC T) := ⟨ocE⟩
instance : Coe (FC T) (EC T) := ⟨ecF⟩
instance : Coe (FC T) (OC T) := ⟨fun a => ocE (ecF a)⟩

/-! ### names, constants -/
def mtName (i : Nat) (c : Sc) (e : Expr) : Bool := match e with
  | .Name x _ => decide (c.N[i]? = some x) && visB c.sc x && nmB x
  | _ => false
theorem mtName_pe {X : Cx} {W : WX} {c : Sc} {e : Expr} {i : Nat} (o : XOk T X W c) (h : mtName i c e = true) : PE X e (tVar i) := by
  unfold mtName at h
  split at h
  · rename_i x p
    simp only [Bool.and_eq_true, decide_eq_true_eq] at h
    exact pe_var (by rw [o.N]; exact h.1.1) (o.vis h.1.2) (nmB_d h.2) (nmB_c h.2)
  · cases h
def dVar (i : Nat) : En → Re D := fun Γ => match Γ[i]? with
  | some (.sh d) => .ok d
  | _ => .no
def dVarO (i : Nat) : En → Re D := fun Γ => match Γ[i]? with
  | some (.sh d) => .ok d
  | some (.own d) => .ok d
  | _ => .no
def ecVar (i : Nat) : EC T := ⟨mtName i, dVar i, fun {X W c e} o h G0 H0 => (mtName_pe o h).weak fun σ H Q => by
  rintro ⟨Γ, G, R, k⟩
  unfold dVar at k
  split at k
  · rename_i d hd
    obtain ⟨x, e1, v, e2, r⟩ := R.slot i _ hd
    subst e2
    exact ⟨v, e1, k G H R.refl v r⟩
  · exact k.elim⟩
def ocVar (i : Nat) : OC T := ⟨mtName i, dVarO i, fun {X W c e} o h G0 H0 => (mtName_pe o h).weak fun σ H Q => by
  rintro ⟨Γ, G, R, k⟩
  unfold dVarO at k
  split at k
  · rename_i d hd
    obtain ⟨x, e1, v, e2, r⟩ := R.slot i _ hd
    subst e2
    exact ⟨v, e1, k G H R.refl v (.inl r)⟩
  · rename_i d hd
    obtain ⟨x, e1, a, e2, _, _, ct⟩ := R.slot i _ hd
    subst e2
    exact ⟨_, e1, k G H R.refl _ (.inr ⟨a, rfl, ct⟩)⟩
  · exact k.elim⟩
theorem TEv.const {M : Mw} {G0 H0 : Hp} {W : WX} {d : D} {v : V} {σ : L2.St} {H : Hp} {Q : VK} (hr : ∀ G, Rep M G v d) (h : TEv M G0 H0 W (fun _ => .ok d) σ H Q) : tC v σ H Q := by
  obtain ⟨Γ, G, R, k⟩ := h
  exact k G H R.refl v (hr G)
def ecInt (n : Int) : EC T := ⟨fun _ e => match e with
  | .Constant (.int m) _ _ => decide (m = n)
  | _ => false, fun _ => .ok (.int n), fun {X W c e} o h G0 H0 => by
  split at h
  · have h := of_decide_eq_true h
    subst h
    exact pe_int.weak fun _ _ _ => TEv.const fun _ => .int _
  · cases h⟩
def ecStr (n : Str) : EC T := ⟨fun _ e => match e with
  | .Constant (.str m) _ _ => decide (m = n)
  | _ => false, fun _ => .ok (.str n), fun {X W c e} o h G0 H0 => by
  split at h
  · have h := of_decide_eq_true h
    subst h
    exact pe_str.weak fun _ _ _ => TEv.const fun _ => .str _
  · cases h⟩
def ecBl (n : Bool) : EC T := ⟨fun _ e => match e with
  | .Constant (.bool m) _ _ => decide (m = n)
  | _ => false, fun _ => .ok (.bl n), fun {X W c e} o h G0 H0 => by
  split at h
  · have h := of_decide_eq_true h
    subst h
    exact pe_bl.weak fun _ _ _ => TEv.const fun _ => .bl _
  · cases h⟩
def ecNon : EC T := ⟨fun _ e => match e with
  | .Constant .none _ _ => true
  | _ => false, fun _ => .ok .non, fun {X W c e} o h G0 H0 => by
  split at h
  · exact pe_non.weak fun _ _ _ => TEv.const fun _ => .non
  · cases h⟩
/-- the module's own constants -/
def ecGi (y : Str) (n : Int) : EC T := ⟨fun c e => match e with
  | .Name x _ => decide (x = y) && glB c.sc x && nmB x && decide ((y, n) ∈ T.ci)
  | _ => false, fun _ => .ok (.int n), fun {X W c e} o h G0 H0 => by
  split at h
  · rename_i x p
    simp only [Bool.and_eq_true, decide_eq_true_eq] at h
    obtain ⟨⟨⟨h1, h2⟩, h3⟩, h4⟩ := h
    subst h1
    obtain ⟨t, ht⟩ := o.ci x n h4
    exact (pe_glob (v := .int n) (o.gl h2) ht ⟨t, rfl⟩ (nmB_d h3)).weak fun _ _ _ => TEv.const fun _ => .int _
  · cases h⟩
def ecGs (y : Str) (n : Str) : EC T := ⟨fun c e => match e with
  | .Name x _ => decide (x = y) && glB c.sc x && nmB x && decide ((y, n) ∈ T.cs)
  | _ => false, fun _ => .ok (.str n), fun {X W c e} o h G0 H0 => by
  split at h
  · rename_i x p
    simp only [Bool.and_eq_true, decide_eq_true_eq] at h
    obtain ⟨⟨⟨h1, h2⟩, h3⟩, h4⟩ := h
    subst h1
    obtain ⟨t, ht⟩ := o.cs x n h4
    exact (pe_glob (v := .str n) (o.gl h2) ht ⟨t, rfl⟩ (nmB_d h3)).weak fun _ _ _ => TEv.const fun _ => .str _
  · cases h⟩
end

/-! ### lists of arguments -/
theorem star_cons {e : Expr} {es : List Expr} {env : Env} (h : plainE e = true) : starEach (e :: es) env = (false, eval e env) :: starEach es env := by
  cases e <;> first | rfl | cases h
theorem star_any {es : List Expr} {env : Env} {pos : Pos} (h : es.all plainE = true) : (backTo pos (starEach es env)).any (·.1) = false := by
  induction es with
  | nil => rfl
  | cons e r ih =>
    rw [List.all_cons, Bool.and_eq_true] at h
    rw [star_cons h.1]
    show (false || (backTo pos (starEach r env)).any (·.1)) = false
    rw [ih h.2] <;> rfl
section
variable {T : Tbl}
def acNil : AC T := ⟨fun _ es => match es with
  | [] => true
  | _ => false, fun _ => .ok [], fun {c es} h => by
  split at h
  · rfl
  · (cases h), fun {X W c es} o h G0 H0 => by
  split at h
  · refine pa_nil.weak fun σ H Q => ?_
    rintro ⟨Γ, G, R, k⟩
    exact k G H R.refl [] .nil
  · cases h⟩
def acCons (a : EC T) (r : AC T) : AC T := ⟨fun c es => match es with
  | e :: es => plainE e && a.mt c e && r.mt c es
  | _ => false, fun Γ => (a.den Γ).bind fun d => (r.den Γ).bind fun ds => .ok (d :: ds), fun {c es} h => by
  split at h
  · simp only [Bool.and_eq_true] at h
    rw [List.all_cons, h.1.1, r.pl h.2] <;> rfl
  · (cases h), fun {X W c es} o h G0 H0 => by
  split at h
  · simp only [Bool.and_eq_true] at h
    refine (pa_cons (a.ok o h.1.2 G0 H0) (r.ok o h.2 G0 H0) (star_cons h.1.1)).weak fun σ H Q => ?_
    rintro ⟨Γ, G, R, k⟩
    refine ⟨Γ, G, R, k.bind.mono (fun d G1 H1 e1 x1 k1 v r1 => ?_) fun _ _ _ z => z⟩
    refine ⟨Γ, G1, R.ext x1, k1.bind.mono (fun ds G2 H2 e2 x2 k2 vs r2 => ?_) fun _ _ _ z => z⟩
    exact k2 G2 H2 (Ext.refl x2.le) _ (.cons (r1.mono x2.g) r2)
  · cases h⟩
def aoNil : AO T := ⟨fun _ es => match es with
  | [] => true
  | _ => false, fun _ => .ok [], fun {c es} h => by
  split at h
  · rfl
  · (cases h), fun {X W c es} o h G0 H0 => by
  split at h
  · refine pa_nil.weak fun σ H Q => ?_
    rintro ⟨Γ, G, R, k⟩
    exact k G H R.refl [] .nil
  · cases h⟩
def aoCons (a : OC T) (r : AO T) : AO T := ⟨fun c es => match es with
  | e :: es => plainE e && a.mt c e && r.mt c es
  | _ => false, fun Γ => (a.den Γ).bind fun d => (r.den Γ).bind fun ds => .ok (d :: ds), fun {c es} h => by
  split at h
  · simp only [Bool.and_eq_true] at h
    rw [List.all_cons, h.1.1, r.pl h.2] <;> rfl
  · (cases h), fun {X W c es} o h G0 H0 => by
  split at h
  · simp only [Bool.and_eq_true] at h
    refine (pa_cons (a.ok o h.1.2 G0 H0) (r.ok o h.2 G0 H0) (star_cons h.1.1)).weak fun σ H Q => ?_
    rintro ⟨Γ, G, R, k⟩
    refine ⟨Γ, G, R, k.bind.mono (fun d G1 H1 e1 x1 k1 v r1 => ?_) fun _ _ _ z => z⟩
    refine ⟨Γ, G1, R.ext x1, k1.bind.mono (fun ds G2 H2 e2 x2 k2 vs r2 => ?_) fun _ _ _ z => z⟩
    exact k2 G2 H2 (Ext.refl x2.le) _ (.cons (r1.ext x2) r2)
  · cases h⟩
/-- (a, b, ..) -/
def ecTup (a : AC T) : EC T := ⟨fun c e => match e with
  | .Tuple es _ _ => a.mt c es
  | _ => false, fun Γ => (a.den Γ).bind fun ds => if ds.length ≤ sizeLine then .ok (.tup ds) else .no, fun {X W c e} o h G0 H0 => by
  split at h
  · refine (pe_tup (a.ok o h G0 H0)).weak fun σ H Q => ?_
    rintro ⟨Γ, G, R, k⟩
    refine ⟨Γ, G, R, k.bind.mono (fun ds G1 H1 e1 x1 k1 vs r1 => ?_) fun _ _ _ z => z⟩
    by_cases hz : ds.length ≤ sizeLine
    · rw [if_pos hz] at k1
      refine ⟨by rw [r1.length]; exact hz, fun p hp => ?_⟩
      have x2 := Ext.both x1.le (o := .tup vs) hp
      exact k1 _ _ x2 _ (.tup upd_same (r1.mono x2.g))
    · rw [if_neg hz] at k1
      exact k1.elim
  · cases h⟩
/-- [a, b, ..] -/
def fcLst (a : AC T) : FC T := ⟨fun c e => match e with
  | .List es _ => a.mt c es
  | _ => false, fun Γ => (a.den Γ).bind fun ds => if ds.length ≤ sizeLine then .ok (.lst ds) else .no, fun {X W c e} o h G0 H0 => by
  split at h
  · refine (pe_lst (a.ok o h G0 H0)).weak fun σ H Q => ?_
    rintro ⟨Γ, G, R, k⟩
    refine ⟨Γ, G, R, k.bind.mono (fun ds G1 H1 e1 x1 k1 vs r1 => ?_) fun _ _ _ z => z⟩
    by_cases hz : ds.length ≤ sizeLine
    · rw [if_pos hz] at k1
      refine ⟨by rw [r1.length]; exact hz, fun p hp => ?_⟩
      have x2 := Ext.priv x1.le (o := .lst vs) hp
      exact k1 _ _ x2 p (x1.h.free hp) (x1.le.free hp) ⟨vs, upd_same, r1⟩
    · rw [if_neg hz] at k1
      exact k1.elim
  · cases h⟩
end
end RJ

set_option Elab.async false
set_option linter.all false
set_option maxRecDepth 100000
set_option maxHeartbeats 1000000
set_option autoImplicit false
/-! RjC: operators, comparisons, tests, subscripts, slices. -/
namespace RJ
open PySem PySem.Spec L2

def notSup : Expr → Bool
  | .Call (.Name _ _) [] [] _ => false
  | _ => true
theorem attrBase_ok {o : Expr} {attr : Str} {env : Env} {w : Sem Value} (h : notSup o = true) : attributeBase o attr env w = w := by
  cases o with
  | Call f as ks p =>
    cases f with
    | Name x q =>
      cases as with
      | nil =>
        cases ks with
        | nil => cases h
        | cons _ _ => rfl
      | cons _ _ => rfl
    | _ => rfl
  | _ => rfl
def noSlice : Expr → Bool
  | .Slice .. => false
  | _ => true
theorem plainIx_ok {b : Expr} (h : noSlice b = true) : PlainIx b := by
  intro o i
  cases b <;> first | rfl | cases h
def notSet : Expr → Bool
  | .Set .. => false
  | _ => true
theorem marks_ok {b : Expr} {op : CmpOp} (h : notSet b = true) : behindInMarks op b = false := by
  cases b <;> first | rfl | cases h
def plainT : Expr → Bool
  | .UnaryOp .Not .. => false
  | .BoolOp .. => false
  | .IfExp .. => false
  | .Compare .. => false
  | _ => true
theorem plainT_ok {a : Expr} {env : Env} (h : plainT a = true) : ∀ whole, isTrue a env whole = (do let v ← whole; standAt a.pos; holding [v] (truthy v)) := by
  intro w
  cases a with
  | UnaryOp op e p => cases op <;> first | rfl | cases h
  | _ => first | rfl | cases h

/-! ### links -/
def LinkR (M : Mw) (r : R2) (g : D → D → Re D) : Prop := ∀ (x y : V) (d e : D) (G H : Hp) (Q : VK) (w : Value → Option Addr → Hp → Prop), Same G H → Top M G H x d → Top M G H y e → KRe M G H (fun d' G' H' => ∀ v, Rep M G' v d' → Q v H') w (g d e) → r x y H Q
def den2 (fa fb : En → Re D) (g : D → D → Re D) : En → Re D := fun Γ => (fa Γ).bind fun d => (fb Γ).bind fun e => g d e
theorem link2 {M : Mw} {G0 H0 : Hp} {W : WX} {fa fb : En → Re D} {r : R2} {g : D → D → Re D} (L : LinkR M r g) {σ : L2.St} {H : Hp} {Q : VK} (h : TEv M G0 H0 W (den2 fa fb g) σ H Q) : tOp r (TOv M G0 H0 W fa) (TOv M G0 H0 W fb) σ H Q := by
  obtain ⟨Γ, G, R, k⟩ := h
  refine ⟨Γ, G, R, k.bind.mono (fun d G1 H1 e1 x1 k1 v t1 => ?_) fun _ _ _ z => z⟩
  refine ⟨Γ, G1, R.ext x1, k1.bind.mono (fun e G2 H2 e2 x2 k2 u t2 => ?_) fun _ _ _ z => z⟩
  exact L _ _ _ _ G2 H2 Q _ x2.le (t1.ext x2) t2 k2
theorem KRe.here {α : Type} {M : Mw} {G H : Hp} {q : α → Hp → Hp → Prop} {w : Value → Option Addr → Hp → Prop} {a : α} (s : Same G H) (h : KRe M G H q w (.ok a)) : q a G H := h G H (Ext.refl s)

structure BiL (op : Operator) where
  g : D → D → Re D
  ok : ∀ (X : Cx) (n : Nat), X.calm = true → Room n X.A → ∃ r, OpR X (binaryOp op) r ∧ LinkR (mw X) r g
structure CmL (op : CmpOp) where
  g : D → D → Re D
  ok : ∀ (X : Cx) (n : Nat), X.calm = true → Room n X.A → ∃ r, OpR X (compareOp op) r ∧ LinkR (mw X) r g
section
variable {T : Tbl}
def ecBin {op : Operator} (L : BiL op) (a b : OC T) : EC T := ⟨fun c e => match e with
  | .BinOp l o r _ => decide (o = op) && a.mt c l && b.mt c r
  | _ => false, den2 a.den b.den L.g, fun {X W c e} o h G0 H0 => by
  split at h
  · rename_i l o' r p
    simp only [Bool.and_eq_true, decide_eq_true_eq] at h
    obtain ⟨⟨rfl, h1⟩, h2⟩ := h
    obtain ⟨r, ho, lk⟩ := L.ok X c.lv o.calm o.room
    exact (pe_op ho (a.ok o h1 G0 H0) (b.ok o h2 G0 H0)).weak fun σ H Q => link2 lk
  · cases h⟩
def mtCmp (op : CmpOp) (a b : OC T) (c : Sc) (e : Expr) : Bool := match e with
  | .Compare l [o] [r] _ => decide (o = op) && a.mt c l && b.mt c r && notSet r
  | _ => false
def ecCmp {op : CmpOp} (L : CmL op) (a b : OC T) : EC T := ⟨mtCmp op a b, den2 a.den b.den L.g, fun {X W c e} o h G0 H0 => by
  unfold mtCmp at h
  split at h
  · rename_i l o' r p
    simp only [Bool.and_eq_true, decide_eq_true_eq] at h
    obtain ⟨⟨⟨rfl, h1⟩, h2⟩, h3⟩ := h
    obtain ⟨r, ho, lk⟩ := L.ok X c.lv o.calm o.room
    exact (pe_cmpR ho (a.ok o h1 G0 H0) (b.ok o h2 G0 H0) (marks_ok h3)).weak fun σ H Q => link2 lk
  · cases h⟩
def boolR : D → Re Bool
  | .bl b => .ok b
  | _ => .no
theorem test_of {M : Mw} {G0 H0 : Hp} {W : WX} {f : En → Re D} {t : TE} (ht : ∀ σ H Q, TEv M G0 H0 W f σ H Q → t σ H Q) {σ : L2.St} {H : Hp} {Q : Bool → Hp → Prop} (h : TTv M G0 H0 W (fun Γ => (f Γ).bind boolR) σ H Q) : tTest t σ H Q := by
  obtain ⟨Γ, G, R, k⟩ := h
  refine ht σ H _ ⟨Γ, G, R, k.bind.mono (fun d G1 H1 e1 x1 k1 v r1 => ?_) fun _ _ _ z => z⟩
  cases r1 with
  | bl b => exact ⟨b, rfl, KRe.here x1.le k1⟩
  | _ => exact k1.elim
def tcCmp {op : CmpOp} (L : CmL op) (a b : OC T) : TC T := ⟨mtCmp op a b, fun Γ => (den2 a.den b.den L.g Γ).bind boolR, fun {X W c e} o h G0 H0 => by
  unfold mtCmp at h
  split at h
  · rename_i l o' r p
    simp only [Bool.and_eq_true, decide_eq_true_eq] at h
    obtain ⟨⟨⟨rfl, h1⟩, h2⟩, h3⟩ := h
    obtain ⟨r, ho, lk⟩ := L.ok X c.lv o.calm o.room
    exact (pt_cmpR ho (a.ok o h1 G0 H0) (b.ok o h2 G0 H0) (marks_ok h3)).weak fun σ H Q => test_of fun σ H Q => link2 lk
  · cases h⟩
/-- a op b op' d -/
def den3 (fa fb fc : En → Re D) (g g' : D → D → Re D) : En → Re D := fun Γ => (fa Γ).bind fun d => (fb Γ).bind fun e => ((g d e).bind boolR).bind fun k => if k = true then (fc Γ).bind fun f => g' e f else .ok (.bl false)
theorem link3 {M : Mw} {G0 H0 : Hp} {W : WX} {fa fb fc : En → Re D} {r r' : R2} {g g' : D → D → Re D} (L : LinkR M r g) (L' : LinkR M r' g') {σ : L2.St} {H : Hp} {Q : VK} (h : TEv M G0 H0 W (den3 fa fb fc g g') σ H Q) : tChain r r' (TOv M G0 H0 W fa) (TOv M G0 H0 W fb) (TOv M G0 H0 W fc) σ H Q := by
  obtain ⟨Γ, G, R, k⟩ := h
  refine ⟨Γ, G, R, k.bind.mono (fun d G1 H1 e1 x1 k1 v t1 => ?_) fun _ _ _ z => z⟩
  refine ⟨Γ, G1, R.ext x1, k1.bind.mono (fun e G2 H2 e2 x2 k2 u t2 => ?_) fun _ _ _ z => z⟩
  refine L _ _ _ _ G2 H2 _ _ x2.le (t1.ext x2) t2 (k2.bind.bind.mono (fun z G3 H3 e3 x3 k3 y r3 => ?_) fun _ _ _ z => z)
  cases r3 with
  | bl b =>
    refine ⟨b, rfl, ?_⟩
    have k3 := KRe.here x3.le k3
    cases b with
    | true =>
      refine ⟨Γ, G3, R.ext (x1.trans (x2.trans x3)), KRe.mono (KRe.bind k3) (fun f G4 H4 e4 x4 k4 w4 t4 => ?_) fun _ _ _ z => z⟩
      exact L' _ _ _ _ G4 H4 Q _ x4.le ((t2.ext x3).ext x4) t4 k4
    | false => exact KRe.here x3.le k3 _ (.bl false)
  | _ => exact k3.elim
def mtChn (op op' : CmpOp) (a b d : OC T) (c : Sc) (e : Expr) : Bool := match e with
  | .Compare l [o, o'] [m, r] _ => decide (o = op) && decide (o' = op') && a.mt c l && b.mt c m && d.mt c r && notSet r
  | _ => false
theorem last_ok {op op' : CmpOp} {m r : Expr} (h : notSet r = true) : lastMarks [op, op'] [m, r] = false := by
  show behindInMarks op' r = false
  exact marks_ok h
def ecChn {op op' : CmpOp} (L : CmL op) (L' : CmL op') (a b d : OC T) : EC T := ⟨mtChn op op' a b d, den3 a.den b.den d.den L.g L'.g, fun {X W c e} o h G0 H0 => by
  unfold mtChn at h
  split at h
  · simp only [Bool.and_eq_true, decide_eq_true_eq] at h
    obtain ⟨⟨⟨⟨⟨rfl, rfl⟩, h1⟩, h2⟩, h3⟩, h4⟩ := h
    obtain ⟨r, ho, lk⟩ := L.ok X c.lv o.calm o.room
    obtain ⟨r', ho', lk'⟩ := L'.ok X c.lv o.calm o.room
    exact (pe_chain ho ho' (a.ok o h1 G0 H0) (b.ok o h2 G0 H0) (d.ok o h3 G0 H0) (last_ok h4)).weak fun σ H Q => link3 lk lk'
  · cases h⟩
def tcChn {op op' : CmpOp} (L : CmL op) (L' : CmL op') (a b d : OC T) : TC T := ⟨mtChn op op' a b d, fun Γ => (den3 a.den b.den d.den L.g L'.g Γ).bind boolR, fun {X W c e} o h G0 H0 => by
  unfold mtChn at h
  split at h
  · simp only [Bool.and_eq_true, decide_eq_true_eq] at h
    obtain ⟨⟨⟨⟨⟨rfl, rfl⟩, h1⟩, h2⟩, h3⟩, h4⟩ := h
    obtain ⟨r, ho, lk⟩ := L.ok X c.lv o.calm o.room
    obtain ⟨r', ho', lk'⟩ := L'.ok X c.lv o.calm o.room
    exact (pt_chain ho ho' (a.ok o h1 G0 H0) (b.ok o h2 G0 H0) (d.ok o h3 G0 H0) (last_ok h4)).weak fun σ H Q => test_of fun σ H Q => link3 lk lk'
  · cases h⟩
end

/-! ### arithmetic -/
theorem Top.rep {M : Mw} {G H : Hp} {v : V} {ds : List D} (t : Top M G H v (.tup ds)) : Rep M G v (.tup ds) := by
  rcases t with t | ⟨a, e, q⟩
  · exact t
  · exact q.elim
theorem KRe.new {M : Mw} {G H : Hp} {Q : VK} {w : Value → Option Addr → Hp → Prop} {d : D} (s : Same G H) (k : KRe M G H (fun d' G' H' => ∀ v, Rep M G' v d' → Q v H') w (.ok d)) {p : Addr} {o : HO} (hp : H p = none)
    (r : Rep M (upd G p o) (.ref p) d) : Q (.ref p) (upd H p o) := k _ _ (Ext.both s hp) _ r
theorem same_upd {G H : Hp} (s : Same G H) {p : Addr} {o : HO} (hp : H p = none) : Same G (upd G p o) := (Ext.both (o := o) s hp).g
theorem RepL.flat {M : Mw} {G : Hp} {vs : List V} {ds : List D} (h : RepL M G vs ds) : ∀ n : Nat, RepL M G (List.replicate n vs).flatten (List.replicate n ds).flatten
  | 0 => .nil
  | n + 1 => by
    rw [List.replicate_succ, List.replicate_succ, List.flatten_cons, List.flatten_cons]
    exact h.append (RepL.flat h n)
def addG : D → D → Re D
  | .int i, .int j => .ok (.int (i + j))
  | .str s, .str t => if s.length + t.length ≤ sizeLine then .ok (.str (s ++ t)) else .no
  | .tup a, .tup b => if a.length + b.length ≤ sizeLine then .ok (.tup (a ++ b)) else .no
  | .lst a, .lst b => if a.length + b.length ≤ sizeLine then .ok (.lst (a ++ b)) else .no
  | _, _ => .no
def lAdd : BiL .Add := ⟨addG, fun X n hc hr => ⟨_, op_add.or (op_add_str.or (op_catA.or op_cat)), fun x y d e G H Q w s tx ty k => by
  unfold addG at k
  split at k
  · cases tx.int
    cases ty.int
    exact .inl ⟨_, _, rfl, rfl, KRe.here s k _ (.int _)⟩
  · split at k
    · cases tx.str
      cases ty.str
      exact .inr (.inl ⟨_, _, rfl, rfl, by assumption, KRe.here s k _ (.str _)⟩)
    · exact k.elim
  · split at k
    · rename_i a b hz
      obtain ⟨p, xs, rfl, h1, r1⟩ := tx.tup s
      obtain ⟨q, ys, rfl, h2, r2⟩ := ty.tup s
      refine .inr (.inr (.inl ⟨p, q, xs, ys, rfl, rfl, .of h1, .of h2, by rw [r1.length, r2.length]; exact hz, fun e => ?_, fun _ e => ?_, fun _ _ p2 hp => ?_⟩))
      · subst e
        cases r1
        exact KRe.here s k _ ty.rep
      · subst e
        cases r2
        rw [List.append_nil] at k
        exact KRe.here s k _ tx.rep
      · exact KRe.new s k hp (.tup upd_same ((r1.append r2).mono (same_upd s hp)))
    · exact k.elim
  · split at k
    · rename_i a b hz
      obtain ⟨p, xs, rfl, h1, r1⟩ := tx.lst s
      obtain ⟨q, ys, rfl, h2, r2⟩ := ty.lst s
      refine .inr (.inr (.inr ⟨p, q, xs, ys, rfl, rfl, h1, h2, by rw [r1.length, r2.length]; exact hz, fun p2 hp => ?_⟩))
      exact KRe.new s k hp (.lst upd_same ((r1.append r2).mono (same_upd s hp)))
    · exact k.elim
  · exact k.elim⟩⟩
def subG : D → D → Re D
  | .int i, .int j => .ok (.int (i - j))
  | _, _ => .no
def lSub : BiL .Sub := ⟨subG, fun X n hc hr => ⟨_, op_sub, fun x y d e G H Q w s tx ty k => by
  unfold subG at k
  split at k
  · cases tx.int
    cases ty.int
    exact ⟨_, _, rfl, rfl, KRe.here s k _ (.int _)⟩
  · exact k.elim⟩⟩
def mulG : D → D → Re D
  | .int i, .int j => if blk (decide ((Builtin.Int.intBits i : Int) + (Builtin.Int.intBits j : Int) ≤ 134217728)) = true then .ok (.int (i * j)) else .no
  | .lst a, .int k => if blk (decide (-(2 ^ 63) ≤ k ∧ k < 2 ^ 63 ∧ a.length * k.toNat ≤ sizeLine)) = true then .ok (.lst (List.replicate k.toNat a).flatten) else .no
  | _, _ => .no
def lMul : BiL .Mult := ⟨mulG, fun X n hc hr => ⟨_, op_mulX.or op_rep, fun x y d e G H Q w s tx ty k => by
  unfold mulG at k
  split at k
  · split at k
    · rename_i hz
      have hz := blk_of hz
      cases tx.int
      cases ty.int
      exact .inl ⟨_, _, rfl, rfl, hz, KRe.here s k _ (.int _)⟩
    · exact k.elim
  · split at k
    · rename_i a j hz
      have hz := blk_of hz
      obtain ⟨p, xs, rfl, h1, r1⟩ := tx.lst s
      cases ty.int
      refine .inr ⟨p, _, xs, rfl, rfl, h1, hz.1, hz.2.1, by rw [r1.length]; exact hz.2.2, fun p2 hp => ?_⟩
      exact KRe.new s k hp (.lst upd_same ((r1.flat _).mono (same_upd s hp)))
    · exact k.elim
  · exact k.elim⟩⟩
theorem op_fdivG {X : Cx} : OpR X (binaryOp .FloorDiv) (rI (fun i j => j ≠ 0 ∧ Builtin.divisionGoesByPylong i j = false) fun i j => .int (i.fdiv j)) := opI fun i j _ _ _ _ _ hc q => PyProof.Rows.floordiv_int hc.1 q (.inl hc.2)
def fdivG : D → D → Re D
  | .int i, .int j => if j ≠ 0 ∧ Builtin.divisionGoesByPylong i j = false then .ok (.int (i.fdiv j)) else .no
  | _, _ => .no
def lFdiv : BiL .FloorDiv := ⟨fdivG, fun X n hc hr => ⟨_, op_fdivG, fun x y d e G H Q w s tx ty k => by
  unfold fdivG at k
  split at k
  · split at k
    · cases tx.int
      cases ty.int
      exact ⟨_, _, rfl, rfl, by assumption, KRe.here s k _ (.int _)⟩
    · exact k.elim
  · exact k.elim⟩⟩
def modG : D → D → Re D
  | .int i, .int j => if j ≠ 0 then .ok (.int (i.fmod j)) else .no
  | _, _ => .no
def lMod : BiL .Mod := ⟨modG, fun X n hc hr => ⟨_, op_modN, fun x y d e G H Q w s tx ty k => by
  unfold modG at k
  split at k
  · split at k
    · cases tx.int
      cases ty.int
      exact ⟨_, _, rfl, rfl, by assumption, KRe.here s k _ (.int _)⟩
    · exact k.elim
  · exact k.elim⟩⟩
def powG : D → D → Re D
  | .int i, .int j => if 0 ≤ j ∧ j ≤ 1000000 ∧ i.natAbs < 2 ^ 64 then .ok (.int (i ^ j.toNat)) else .no
  | _, _ => .no
def lPow : BiL .Pow := ⟨powG, fun X n hc hr => ⟨_, op_pow, fun x y d e G H Q w s tx ty k => by
  unfold powG at k
  split at k
  · split at k
    · cases tx.int
      cases ty.int
      exact ⟨_, _, rfl, rfl, by assumption, KRe.here s k _ (.int _)⟩
    · exact k.elim
  · exact k.elim⟩⟩
section
variable {T : Tbl}
/-- -a -/
def negR : D → Re D
  | .int i => .ok (.int (-i))
  | _ => .no
def ecNeg (a : OC T) : EC T := ⟨fun c e => match e with
  | .UnaryOp .USub x _ => a.mt c x
  | _ => false, fun Γ => (a.den Γ).bind negR, fun {X W c e} o h G0 H0 => by
  split at h
  · refine (pe_un un_neg (a.ok o h G0 H0)).weak fun σ H Q => ?_
    rintro ⟨Γ, G, R, k⟩
    refine ⟨Γ, G, R, k.bind.mono (fun d G1 H1 e1 x1 k1 v t1 => ?_) fun _ _ _ z => z⟩
    cases d with
    | int i =>
      cases t1.int
      exact ⟨i, rfl, KRe.here x1.le k1 _ (.int _)⟩
    | _ => exact k1.elim
  · cases h⟩
end
end RJ

set_option Elab.async false
set_option linter.all false
set_option maxRecDepth 100000
set_option maxHeartbeats 1000000
set_option autoImplicit false
/-! RjD: comparisons, tests, subscripts, slices. -/
namespace RJ
open PySem PySem.Spec L2

/-! ### == of data -/
mutual
def toP : D → Option PyData
  | .non => some .none
  | .bl b => some (.bool b)
  | .int i => some (.int i)
  | .str s => some (.str s)
  | .lst xs => (toPs xs).map PyData.list
  | .tup xs => (toPs xs).map PyData.tuple
  | _ => none
def toPs : List D → Option (List PyData)
  | [] => some []
  | d :: r => match toP d, toPs r with
    | some p, some ps => some (p :: ps)
    | _, _ => none
end
section
variable {M : Mw} {G H : Hp}
mutual
theorem rep_dp (s : Same G H) : ∀ (d : D) (v : V) (p : PyData), Rep M G v d → toP d = some p → Dp M.K H v p
  | .non, _, _, .non, e => by
    rw [toP] at e
    cases e
    exact .non
  | .bl b, _, _, .bl _, e => by
    rw [toP] at e
    cases e
    exact .bl b
  | .int b, _, _, .int _, e => by
    rw [toP] at e
    cases e
    exact .int b
  | .str b, _, _, .str _, e => by
    rw [toP] at e
    cases e
    exact .str b
  | .lst xs, _, _, .lst h r, e => by
    rw [toP, Option.map_eq_some_iff] at e
    obtain ⟨ps, e1, e2⟩ := e
    subst e2
    exact .lst (.of (s _ _ h)) (rep_dps s xs _ ps r e1)
  | .tup xs, _, _, .tup h r, e => by
    rw [toP, Option.map_eq_some_iff] at e
    obtain ⟨ps, e1, e2⟩ := e
    subst e2
    exact .tup (.of (s _ _ h)) (rep_dps s xs _ ps r e1)
  | .dK _, _, _, _, e => by
    rw [toP] at e
    cases e
    all_goals (intros; contradiction)
  | .dT _, _, _, _, e => by
    rw [toP] at e
    cases e
    all_goals (intros; contradiction)
  | .obj _ _, _, _, _, e => by
    rw [toP] at e
    cases e
    all_goals (intros; contradiction)
  | .scr _, _, _, _, e => by
    rw [toP] at e
    cases e
    all_goals (intros; contradiction)
theorem rep_dps (s : Same G H) : ∀ (ds : List D) (vs : List V) (ps : List PyData), RepL M G vs ds → toPs ds = some ps → DpAll M.K H vs ps
  | [], _, _, .nil, e => by
    rw [toPs] at e
    cases e
    exact .nil
  | d :: r, _, ps, .cons h t, e => by
    rw [toPs] at e
    cases e1 : toP d with
    | none =>
      rw [e1] at e
      cases e
    | some p =>
      cases e2 : toPs r with
      | none =>
        rw [e1, e2] at e
        cases e
      | some qs =>
        rw [e1, e2] at e
        cases e
        exact .cons (rep_dp s d _ p h e1) (rep_dps s r _ qs t e2)
end
theorem top_dp (s : Same G H) {d : D} {v : V} {p : PyData} (t : Top M G H v d) (e : toP d = some p) : Dp M.K H v p := by
  rcases t with t | ⟨a, e1, c⟩
  · exact rep_dp s d v p t e
  · cases d with
    | lst ds =>
      obtain ⟨vs, h, r⟩ := c
      rw [toP, Option.map_eq_some_iff] at e
      obtain ⟨ps, e2, e3⟩ := e
      subst e1 e3
      exact .lst (.of h) (rep_dps s ds _ ps r e2)
    | dK _ =>
      rw [toP] at e
      · cases e
      all_goals (intros; contradiction)
    | dT _ =>
      rw [toP] at e
      · cases e
      all_goals (intros; contradiction)
    | _ => exact c.elim
end
def eqDG (neg : Bool) : D → D → Re D := fun d e => match toP d, toP e with
  | some p, some q => if (SeqAt.shaped p && SeqAt.shaped q) = true then .ok (.bl (if neg then !PyData.eqv p q else PyData.eqv p q)) else .no
  | _, _ => .no
def eqG (neg : Bool) : D → D → Re D
  | .str a, .str b => .ok (.bl (if neg then !decide (a = b) else decide (a = b)))
  | d, e => eqDG neg d e
theorem dec_strV {i j : Str} : decide (V.str i = V.str j) = decide (i = j) := by
  rw [Bool.eq_iff_iff]
  simp
theorem eqd_link {M : Mw} {G H : Hp} {x y : V} {d e : D} {Q : VK} {w : Value → Option Addr → Hp → Prop} {neg : Bool} (s : Same G H) (tx : Top M G H x d) (ty : Top M G H y e) (k : KRe M G H (fun d' G' H' => ∀ v, Rep M G' v d' → Q v H') w (eqDG neg d e)) :
    ∃ p q, Dp M.K H x p ∧ Dp M.K H y q ∧ SeqAt.shaped p = true ∧ SeqAt.shaped q = true ∧ Q (.bl (if neg then !PyData.eqv p q else PyData.eqv p q)) H := by
  unfold eqDG at k
  split at k
  · rename_i p q e1 e2
    split at k
    · rename_i hz
      rw [Bool.and_eq_true] at hz
      exact ⟨p, q, top_dp s tx e1, top_dp s ty e2, hz.1, hz.2, KRe.here s k _ (.bl _)⟩
    · exact k.elim
  · exact k.elim
def lEq : CmL .Eq := ⟨eqG false, fun X n hc hr => ⟨_, op_eq.or (op_eqD hr.units), fun x y d e G H Q w s tx ty k => by
  unfold eqG at k
  split at k
  · cases tx.str
    cases ty.str
    exact .inl ⟨rfl, by rw [dec_strV]; exact KRe.here s k _ (.bl _)⟩
  · exact .inr (eqd_link s tx ty k)⟩⟩
def lNe : CmL .NotEq := ⟨eqG true, fun X n hc hr => ⟨_, op_ne.or (op_neD hr.units), fun x y d e G H Q w s tx ty k => by
  unfold eqG at k
  split at k
  · cases tx.str
    cases ty.str
    exact .inl ⟨rfl, by rw [dec_strV]; exact KRe.here s k _ (.bl _)⟩
  · exact .inr (eqd_link s tx ty k)⟩⟩
/-! ### order -/
def ordG (f : Int → Int → Bool) (g : List Nat → List Nat → Bool) : D → D → Re D
  | .int i, .int j => .ok (.bl (f i j))
  | .str i, .str j => .ok (.bl (g i.cps.toList j.cps.toList))
  | _, _ => .no
theorem ord_link {M : Mw} {f : Int → Int → Bool} {g : List Nat → List Nat → Bool} : LinkR M (fun x y H Q => rI0 (fun i j => .bl (f i j)) x y H Q ∨ ∃ i j, x = .str i ∧ y = .str j ∧ Q (.bl (g i.cps.toList j.cps.toList)) H) (ordG f g) := fun x y d e G H Q w s tx ty k => by
  unfold ordG at k
  split at k
  · cases tx.int
    cases ty.int
    exact .inl ⟨_, _, rfl, rfl, KRe.here s k _ (.bl _)⟩
  · cases tx.str
    cases ty.str
    exact .inr ⟨_, _, rfl, rfl, KRe.here s k _ (.bl _)⟩
  · exact k.elim
def lLt : CmL .Lt := ⟨ordG (fun i j => decide (i < j)) (fun i j => decide (i < j)), fun X n hc hr => ⟨_, op_lt.or op_lt_str, ord_link⟩⟩
def lLe : CmL .LtE := ⟨ordG (fun i j => decide (i ≤ j)) (fun i j => !decide (j < i)), fun X n hc hr => ⟨_, op_le.or op_le_str, ord_link⟩⟩
def lGt : CmL .Gt := ⟨ordG (fun i j => decide (j < i)) (fun i j => decide (j < i)), fun X n hc hr => ⟨_, op_gt.or op_gt_str, ord_link⟩⟩
def lGe : CmL .GtE := ⟨ordG (fun i j => decide (j ≤ i)) (fun i j => !decide (i < j)), fun X n hc hr => ⟨_, op_ge.or op_ge_str, ord_link⟩⟩
/-! ### in -/
def sgnG (neg : Bool) : D → D → Re D
  | .str x, .str z => match x.cps.toList with
    | [c] => .ok (.bl (if neg then !decide (c ∈ z.cps.toList) else decide (c ∈ z.cps.toList)))
    | _ => .no
  | _, _ => .no
theorem str_one {x : Str} {c : Nat} (e : x.cps.toList = [c]) : x = ⟨#[c]⟩ := TL.ext_tl e
def lInS : CmL .In := ⟨sgnG false, fun X n hc hr => ⟨_, op_in_sign, fun x y d e G H Q w s tx ty k => by
  unfold sgnG at k
  split at k
  · split at k
    · rename_i e1
      cases tx.str
      cases ty.str
      exact ⟨_, _, congrArg V.str (str_one e1), rfl, KRe.here s k _ (.bl _)⟩
    · exact k.elim
  · exact k.elim⟩⟩
def lNinS : CmL .NotIn := ⟨sgnG true, fun X n hc hr => ⟨_, op_notIn_sign, fun x y d e G H Q w s tx ty k => by
  unfold sgnG at k
  split at k
  · split at k
    · rename_i e1
      cases tx.str
      cases ty.str
      exact ⟨_, _, congrArg V.str (str_one e1), rfl, KRe.here s k _ (.bl _)⟩
    · exact k.elim
  · exact k.elim⟩⟩
def flatD : D → Bool
  | .non => true
  | .bl _ => true
  | .int _ => true
  | .str _ => true
  | _ => false
def vOf : D → V
  | .bl b => .bl b
  | .int i => .int i
  | .str x => .str x
  | _ => .non
section
variable {M : Mw} {G H : Hp}
theorem Rep.flat {v : V} {d : D} (r : Rep M G v d) (f : flatD d = true) : v = vOf d ∧ flatV v = true := by
  cases r <;> first | exact ⟨rfl, rfl⟩ | cases f
theorem Top.flat {v : V} {d : D} (t : Top M G H v d) (f : flatD d = true) : v = vOf d ∧ flatV v = true := by
  rcases t with t | ⟨a, e, c⟩
  · exact t.flat f
  · cases d <;> first | exact c.elim | cases f
theorem RepL.flatV : ∀ {vs : List V} {ds : List D}, RepL M G vs ds → ds.all flatD = true → vs = ds.map vOf ∧ vs.all L2.flatV = true
  | _, _, .nil, _ => ⟨rfl, rfl⟩
  | _, _, .cons h r, f => by
    rw [List.all_cons, Bool.and_eq_true] at f
    obtain ⟨a, b⟩ := h.flat f.1
    obtain ⟨c, d⟩ := RepL.flatV r f.2
    rw [List.map_cons, List.all_cons, ← a, ← c, b, d]
    exact ⟨rfl, rfl⟩
end
def inG (neg : Bool) : D → D → Re D
  | x, .lst ds => if (flatD x && ds.all flatD) = true then .ok (.bl (if neg then !inV (vOf x) (ds.map vOf) else inV (vOf x) (ds.map vOf))) else .no
  | x, .tup ds => if (flatD x && ds.all flatD) = true then .ok (.bl (if neg then !inV (vOf x) (ds.map vOf) else inV (vOf x) (ds.map vOf))) else .no
  | _, _ => .no
theorem in_link {M : Mw} (neg : Bool) : LinkR M (rIn M.K neg) (inG neg) := fun x y d e G H Q w s tx ty k => by
  unfold inG at k
  split at k
  · split at k
    · rename_i hz
      rw [Bool.and_eq_true] at hz
      obtain ⟨p, xs, rfl, h1, r1⟩ := ty.lst s
      obtain ⟨a1, a2⟩ := tx.flat hz.1
      obtain ⟨b1, b2⟩ := r1.flatV hz.2
      refine ⟨p, xs, rfl, .inl (.of h1), a2, b2, ?_⟩
      rw [a1, b1]
      exact KRe.here s k _ (.bl _)
    · exact k.elim
  · split at k
    · rename_i hz
      rw [Bool.and_eq_true] at hz
      obtain ⟨p, xs, rfl, h1, r1⟩ := ty.tup s
      obtain ⟨a1, a2⟩ := tx.flat hz.1
      obtain ⟨b1, b2⟩ := r1.flatV hz.2
      refine ⟨p, xs, rfl, .inr (.of h1), a2, b2, ?_⟩
      rw [a1, b1]
      exact KRe.here s k _ (.bl _)
    · exact k.elim
  · exact k.elim
def lIn : CmL .In := ⟨inG false, fun X n hc hr => ⟨_, op_in_seq, in_link false⟩⟩
def lNin : CmL .NotIn := ⟨inG true, fun X n hc hr => ⟨_, op_notIn_seq, in_link true⟩⟩
/-! ### keys of dicts -/
def keyD : D → Option Key
  | .int i => some (.inl i)
  | .str s => some (.inr s)
  | _ => none
def keysD : List D → Option (List Key)
  | [] => some []
  | d :: r => match keyD d, keysD r with
    | some k, some ks => some (k :: ks)
    | _, _ => none
def keyT : D → Option (List Key)
  | .tup ds => keysD ds
  | _ => none
def valD {κ : Type} [DecidableEq κ] (kvs : List (κ × D)) (k : κ) : Option D := (kvs.find? fun kv => decide (kv.1 = k)).map (·.2)
def putD {κ : Type} [DecidableEq κ] (kvs : List (κ × D)) (k : κ) (v : D) : List (κ × D) :=
  if (kvs.any fun kv => decide (kv.1 = k)) = true then kvs.map (fun kv => if kv.1 = k then (kv.1, v) else kv) else kvs ++ [(k, v)]
section
variable {M : Mw} {G H : Hp}
theorem keyD_v {v : V} {d : D} {k : Key} (t : Top M G H v d) (e : keyD d = some k) : v = kV k := by
  cases d with
  | int i =>
    cases e
    exact t.int
  | str i =>
    cases e
    exact t.str
  | _ => cases e
theorem keysD_v : ∀ {vs : List V} {ds : List D} {ks : List Key}, RepL M G vs ds → keysD ds = some ks → vs = ks.map kV
  | _, _, _, .nil, e => by
    cases e
    rfl
  | _, d :: r, ks, .cons h t, e => by
    unfold keysD at e
    split at e
    · rename_i k' ks' e1 e2
      cases e
      rw [List.map_cons, keyD_v (H := G) (.inl h) e1, keysD_v t e2]
    · cases e
theorem RepK.val {ks : List (Key × V)} {ds : List (Key × D)} (r : RepK M G ks ds) (k : Key) : (∀ d, valD ds k = some d → ∃ v, valV ks k = some v ∧ Rep M G v d) ∧ (valD ds k = none → valV ks k = none) := by
  match r with
  | .nil => exact ⟨fun d e => (by cases e), fun _ => rfl⟩
  | .cons (k := k') (v := v) (d := d) (vs := vs') (ds := ds') h t =>
    by_cases hk : k' = k
    · subst hk
      refine ⟨fun d' e => ?_, fun e => ?_⟩
      · simp [valD, List.find?_cons] at e
        subst e
        exact ⟨v, by simp [valV, List.find?_cons], h⟩
      · simp [valD, List.find?_cons] at e
    · have ih := RepK.val t k
      refine ⟨fun d' e => ?_, fun e => ?_⟩
      · have e' : valD ds' k = some d' := by simpa [valD, List.find?_cons, hk] using e
        obtain ⟨u, a, b⟩ := ih.1 d' e'
        exact ⟨u, by simpa [valV, List.find?_cons, hk] using a, b⟩
      · have e' : valD ds' k = none := by simpa [valD, List.find?_cons, hk] using e
        simpa [valV, List.find?_cons, hk] using ih.2 e'
theorem RepT.val {ks : List (List Key × V)} {ds : List (List Key × D)} (r : RepT M G ks ds) (k : List Key) : (∀ d, valD ds k = some d → ∃ v, valV ks k = some v ∧ Rep M G v d) ∧ (valD ds k = none → valV ks k = none) := by
  match r with
  | .nil => exact ⟨fun d e => (by cases e), fun _ => rfl⟩
  | .cons (k := k') (v := v) (d := d) (vs := vs') (ds := ds') h t =>
    by_cases hk : k' = k
    · subst hk
      refine ⟨fun d' e => ?_, fun e => ?_⟩
      · simp [valD, List.find?_cons] at e
        subst e
        exact ⟨v, by simp [valV, List.find?_cons], h⟩
      · simp [valD, List.find?_cons] at e
    · have ih := RepT.val t k
      refine ⟨fun d' e => ?_, fun e => ?_⟩
      · have e' : valD ds' k = some d' := by simpa [valD, List.find?_cons, hk] using e
        obtain ⟨u, a, b⟩ := ih.1 d' e'
        exact ⟨u, by simpa [valV, List.find?_cons, hk] using a, b⟩
      · have e' : valD ds' k = none := by simpa [valD, List.find?_cons, hk] using e
        simpa [valV, List.find?_cons, hk] using ih.2 e'
theorem RepK.len : ∀ {ks : List (Key × V)} {ds : List (Key × D)}, RepK M G ks ds → ks.length = ds.length
  | _, _, .nil => rfl
  | _, _, .cons _ t => congrArg (· + 1) (RepK.len t)
theorem RepT.len : ∀ {ks : List (List Key × V)} {ds : List (List Key × D)}, RepT M G ks ds → ks.length = ds.length
  | _, _, .nil => rfl
  | _, _, .cons _ t => congrArg (· + 1) (RepT.len t)
theorem RepK.any : ∀ {ks : List (Key × V)} {ds : List (Key × D)}, RepK M G ks ds → ∀ k : Key, (ks.any fun kv => decide (kv.1 = k)) = ds.any fun kv => decide (kv.1 = k)
  | _, _, .nil, _ => rfl
  | _, _, .cons _ t, k => by rw [List.any_cons, List.any_cons, RepK.any t k]
theorem RepT.any : ∀ {ks : List (List Key × V)} {ds : List (List Key × D)}, RepT M G ks ds → ∀ k : List Key, (ks.any fun kv => decide (kv.1 = k)) = ds.any fun kv => decide (kv.1 = k)
  | _, _, .nil, _ => rfl
  | _, _, .cons _ t, k => by rw [List.any_cons, List.any_cons, RepT.any t k]
theorem RepK.snoc {v : V} {d : D} {k : Key} (h : Rep M G v d) : ∀ {ks : List (Key × V)} {ds : List (Key × D)}, RepK M G ks ds → RepK M G (ks ++ [(k, v)]) (ds ++ [(k, d)])
  | _, _, .nil => .cons h .nil
  | _, _, .cons a t => .cons a (RepK.snoc h t)
theorem RepT.snoc {v : V} {d : D} {k : List Key} (h : Rep M G v d) : ∀ {ks : List (List Key × V)} {ds : List (List Key × D)}, RepT M G ks ds → RepT M G (ks ++ [(k, v)]) (ds ++ [(k, d)])
  | _, _, .nil => .cons h .nil
  | _, _, .cons a t => .cons a (RepT.snoc h t)
theorem RepK.subst {v : V} {d : D} {k : Key} (h : Rep M G v d) : ∀ {ks : List (Key × V)} {ds : List (Key × D)}, RepK M G ks ds → RepK M G (ks.map fun kv => if kv.1 = k then (kv.1, v) else kv) (ds.map fun kv => if kv.1 = k then (kv.1, d) else kv)
  | _, _, .nil => .nil
  | _, _, .cons (k := k') a t => by
    rw [List.map_cons, List.map_cons]
    by_cases e : k' = k
    · rw [if_pos e, if_pos e]
      exact .cons h (RepK.subst h t)
    · rw [if_neg e, if_neg e]
      exact .cons a (RepK.subst h t)
theorem RepT.subst {v : V} {d : D} {k : List Key} (h : Rep M G v d) : ∀ {ks : List (List Key × V)} {ds : List (List Key × D)}, RepT M G ks ds → RepT M G (ks.map fun kv => if kv.1 = k then (kv.1, v) else kv) (ds.map fun kv => if kv.1 = k then (kv.1, d) else kv)
  | _, _, .nil => .nil
  | _, _, .cons (k := k') a t => by
    rw [List.map_cons, List.map_cons]
    by_cases e : k' = k
    · rw [if_pos e, if_pos e]
      exact .cons h (RepT.subst h t)
    · rw [if_neg e, if_neg e]
      exact .cons a (RepT.subst h t)
theorem RepK.put {v : V} {d : D} {k : Key} (h : Rep M G v d) {ks : List (Key × V)} {ds : List (Key × D)} (r : RepK M G ks ds) : RepK M G (putK ks k v) (putD ds k d) := by
  unfold putK putD
  rw [r.any k]
  split
  · exact r.subst h
  · exact r.snoc h
theorem RepT.put {v : V} {d : D} {k : List Key} (h : Rep M G v d) {ks : List (List Key × V)} {ds : List (List Key × D)} (r : RepT M G ks ds) : RepT M G (putK ks k v) (putD ds k d) := by
  unfold putK putD
  rw [r.any k]
  split
  · exact r.subst h
  · exact r.snoc h
/-- what a dict holds at a key, as the layer says it -/
def getD' : D → D → Option (Option D)
  | .dK kvs, y => (keyD y).map (valD kvs)
  | .dT kvs, y => (keyT y).map (valD kvs)
  | _, _ => none
theorem dget_link (s : Same G H) {x y : V} {d e : D} {o : Option D} (tx : Top M G H x d) (ty : Top M G H y e) (h : getD' d e = some o) : ∃ a ov, x = .ref a ∧ DGet H a y ov ∧ IsD H a ∧ (match o with
    | some z => ∃ v, ov = some v ∧ Rep M G v z
    | none => ov = none) := by
  cases d with
  | dK kvs =>
    obtain ⟨a, ks, rfl, h1', r1⟩ := tx.dK s
    have h1 : Rd H a (.dK ks) := .inl h1'
    obtain ⟨k, e1, e2⟩ := Option.map_eq_some_iff.mp h
    refine ⟨a, valV ks k, rfl, .inl ⟨ks, k, h1, keyD_v ty e1, rfl⟩, .inl ⟨ks, h1⟩, ?_⟩
    cases o with
    | none => exact (r1.val k).2 e2
    | some z => exact (r1.val k).1 z e2
  | dT kvs =>
    obtain ⟨a, ks, rfl, h1', r1⟩ := tx.dT s
    have h1 : Rd H a (.dT ks) := .inl h1'
    obtain ⟨k, e1, e2⟩ := Option.map_eq_some_iff.mp h
    cases e with
    | tup ds =>
      obtain ⟨b, us, rfl, h2, r2⟩ := ty.tup s
      have eu := keysD_v r2 e1
      subst eu
      refine ⟨a, valV ks k, rfl, .inr ⟨ks, k, b, h1, rfl, h2, rfl⟩, .inr ⟨ks, h1⟩, ?_⟩
      cases o with
      | none => exact (r1.val k).2 e2
      | some z => exact (r1.val k).1 z e2
    | _ => cases e1
  | _ => cases h
end
def inDG (neg : Bool) : D → D → Re D := fun x d => match getD' d x with
  | some o => .ok (.bl (if neg then !o.isSome else o.isSome))
  | none => .no
def lInD : CmL .In := ⟨inDG false, fun X n hc hr => ⟨fun x y H Q => ∃ a o, y = .ref a ∧ DGet H a x o ∧ Q (.bl o.isSome) H, fun pins s σ H x y v u Q I rx ry h => by
    obtain ⟨a, o, rfl, g, q⟩ := h
    cases ry
    exact d_in (hu_of hr) I g rx fun s3 I3 => ⟨.bl o.isSome, H, I3, rfl, q⟩, fun x y d e G H Q w s tx ty k => by
  unfold inDG at k
  split at k
  · rename_i o eo
    obtain ⟨a, ov, rfl, g, _, q⟩ := dget_link s ty tx eo
    refine ⟨a, ov, rfl, g, ?_⟩
    have k := KRe.here s k _ (.bl _)
    cases o with
    | none =>
      have q : ov = none := q
      subst q
      exact k
    | some z =>
      obtain ⟨v, rfl, _⟩ := q
      exact k
  · exact k.elim⟩⟩
def lNinD : CmL .NotIn := ⟨inDG true, fun X n hc hr => ⟨fun x y H Q => ∃ a o, y = .ref a ∧ DGet H a x o ∧ Q (.bl (!o.isSome)) H, fun pins s σ H x y v u Q I rx ry h => by
    obtain ⟨a, o, rfl, g, q⟩ := h
    cases ry
    exact d_notIn (hu_of hr) I g rx fun s3 I3 => ⟨.bl (!o.isSome), H, I3, rfl, q⟩, fun x y d e G H Q w s tx ty k => by
  unfold inDG at k
  split at k
  · rename_i o eo
    obtain ⟨a, ov, rfl, g, _, q⟩ := dget_link s ty tx eo
    refine ⟨a, ov, rfl, g, ?_⟩
    have k := KRe.here s k _ (.bl _)
    cases o with
    | none =>
      have q : ov = none := q
      subst q
      exact k
    | some z =>
      obtain ⟨v, rfl, _⟩ := q
      exact k
  · exact k.elim⟩⟩
/-! ### is None -/
def isN : D → Bool
  | .non => true
  | _ => false
theorem top_isN {M : Mw} {G H : Hp} {v : V} {d : D} (t : Top M G H v d) : decide (v = .non) = isN d := by
  rcases t with t | ⟨a, rfl, c⟩
  · cases t <;> rfl
  · cases d <;> first | rfl | exact c.elim
def isG (neg : Bool) : D → D → Re D
  | d, .non => .ok (.bl (if neg then !isN d else isN d))
  | _, _ => .no
def lIs : CmL .Is := ⟨isG false, fun X n hc hr => ⟨_, op_isN, fun x y d e G H Q w s tx ty k => by
  unfold isG at k
  split at k
  · cases ty.non
    rw [← top_isN tx] at k
    exact ⟨rfl, KRe.here s k _ (.bl _)⟩
  · exact k.elim⟩⟩
def lIsNot : CmL .IsNot := ⟨isG true, fun X n hc hr => ⟨_, op_notN, fun x y d e G H Q w s tx ty k => by
  unfold isG at k
  split at k
  · cases ty.non
    rw [← top_isN tx] at k
    exact ⟨rfl, KRe.here s k _ (.bl _)⟩
  · exact k.elim⟩⟩
end RJ

set_option Elab.async false
set_option linter.all false
set_option maxRecDepth 100000
set_option maxHeartbeats 1000000
set_option autoImplicit false
/-! RjE: tests, subscripts, slices, calls. -/
namespace RJ
open PySem PySem.Spec L2

/-! ### truth -/
def truG : D → Re Bool
  | .non => .ok false
  | .bl b => .ok b
  | .int i => .ok (i != 0)
  | .str y => if y.length ≤ sizeLine then .ok ((y.length : Int) != 0) else .no
  | .lst ds => .ok (!ds.isEmpty)
  | .tup ds => .ok (!ds.isEmpty)
  | _ => .no
theorem RepL.empty {M : Mw} {G : Hp} {vs : List V} {ds : List D} (r : RepL M G vs ds) : vs.isEmpty = ds.isEmpty := by
  cases r <;> rfl
theorem tru_link {M : Mw} {G H : Hp} {v : V} {d : D} {b : Bool} (s : Same G H) (t : Top M G H v d) (h : truG d = .ok b) : TruV M.K v H b := by
  unfold truG at h
  split at h
  · cases h
    cases t.non
    rfl
  · cases h
    cases t.bl
    rfl
  · cases h
    cases t.int
    rfl
  · split at h
    · cases h
      cases t.str
      exact ⟨by assumption, rfl⟩
    · cases h
  · cases h
    obtain ⟨a, vs, rfl, h1, r⟩ := t.lst s
    exact .inl ⟨vs, .of h1, by rw [r.empty]⟩
  · cases h
    obtain ⟨a, vs, rfl, h1, r⟩ := t.tup s
    exact .inr (.inl ⟨vs, .of h1, by rw [r.empty]⟩)
  · cases h
section
variable {T : Tbl}
def tcTru (a : OC T) : TC T := ⟨fun c e => plainT e && a.mt c e, fun Γ => (a.den Γ).bind truG, fun {X W c e} o h G0 H0 => by
  rw [Bool.and_eq_true] at h
  refine (pt_truth (a.ok o h.2 G0 H0) (plainT_ok h.1)).weak fun σ H Q => ?_
  rintro ⟨Γ, G, R, k⟩
  refine ⟨Γ, G, R, k.bind.mono (fun d G1 H1 e1 x1 k1 v t1 => ?_) fun _ _ _ z => z⟩
  cases e : truG d with
  | ok b =>
    rw [e] at k1
    exact ⟨b, tru_link x1.le t1 e, KRe.here x1.le k1⟩
  | ex z => cases d <;> simp [truG] at e <;> (split at e <;> cases e)
  | no =>
    rw [e] at k1
    exact k1.elim⟩
def tcNot (a : TC T) : TC T := ⟨fun c e => match e with
  | .UnaryOp .Not x _ => a.mt c x
  | _ => false, fun Γ => (a.den Γ).bind fun b => .ok (!b), fun {X W c e} o h G0 H0 => by
  split at h
  · refine (pt_not (a.ok o h G0 H0)).weak fun σ H Q => ?_
    rintro ⟨Γ, G, R, k⟩
    exact ⟨Γ, G, R, k.bind.mono (fun d G1 H1 e1 x1 k1 => KRe.here x1.le k1) fun _ _ _ z => z⟩
  · cases h⟩
/-! ### and, or -/
def mtAll : List (TC T) → Sc → List Expr → Bool
  | [], _, [] => true
  | t :: r, c, e :: es => t.mt c e && mtAll r c es
  | _, _, _ => false
def denAnd : List (TC T) → En → Re Bool
  | [], _ => .no
  | [t], Γ => t.den Γ
  | t :: u :: r, Γ => (t.den Γ).bind fun b => if b = true then denAnd (u :: r) Γ else .ok false
def denOr : List (TC T) → En → Re Bool
  | [], _ => .no
  | [t], Γ => t.den Γ
  | t :: u :: r, Γ => (t.den Γ).bind fun b => if b = true then .ok true else denOr (u :: r) Γ
theorem and_ok {X : Cx} {W : WX} {c : Sc} (o : XOk T X W c) (G0 H0 : Hp) {pos : Pos} : ∀ (ts : List (TC T)) (es : List Expr), ts ≠ [] → mtAll ts c es = true → PW X (.BoolOp .And es pos) (TTv (mw X) G0 H0 W (denAnd ts))
  | [], _, n, _ => absurd rfl n
  | [t], [], _, h => by cases h
  | [t], [e], _, h => by
    unfold mtAll at h
    rw [Bool.and_eq_true] at h
    exact pw_and1 (t.ok o h.1 G0 H0)
  | [t], _ :: _ :: _, _, h => by
    unfold mtAll at h
    rw [Bool.and_eq_true] at h
    exact absurd h.2 (by simp [mtAll])
  | t :: u :: r, [], _, h => by cases h
  | t :: u :: r, [e], _, h => by
    unfold mtAll at h
    rw [Bool.and_eq_true] at h
    exact absurd h.2 (by simp [mtAll])
  | t :: u :: r, e :: f :: es, _, h => by
    unfold mtAll at h
    rw [Bool.and_eq_true] at h
    have ih := and_ok o G0 H0 (pos := pos) (u :: r) (f :: es) (by simp) h.2
    have q := pw_and (t.ok o h.1 G0 H0) ih
    refine ⟨fun whole pins s σ H Q I hw => q.run whole pins s σ H Q I ?_⟩
    obtain ⟨Γ, G, R, k⟩ := hw
    refine ⟨Γ, G, R, k.bind.mono (fun b G1 H1 e1 x1 k1 => ?_) fun _ _ _ z => z⟩
    cases b with
    | true => exact ⟨Γ, G1, R.ext x1, k1⟩
    | false => exact KRe.here x1.le k1
theorem or_ok {X : Cx} {W : WX} {c : Sc} (o : XOk T X W c) (G0 H0 : Hp) {pos : Pos} : ∀ (ts : List (TC T)) (es : List Expr), ts ≠ [] → mtAll ts c es = true → PW X (.BoolOp .Or es pos) (TTv (mw X) G0 H0 W (denOr ts))
  | [], _, n, _ => absurd rfl n
  | [t], [], _, h => by cases h
  | [t], [e], _, h => by
    unfold mtAll at h
    rw [Bool.and_eq_true] at h
    exact pw_or1 (t.ok o h.1 G0 H0)
  | [t], _ :: _ :: _, _, h => by
    unfold mtAll at h
    rw [Bool.and_eq_true] at h
    exact absurd h.2 (by simp [mtAll])
  | t :: u :: r, [], _, h => by cases h
  | t :: u :: r, [e], _, h => by
    unfold mtAll at h
    rw [Bool.and_eq_true] at h
    exact absurd h.2 (by simp [mtAll])
  | t :: u :: r, e :: f :: es, _, h => by
    unfold mtAll at h
    rw [Bool.and_eq_true] at h
    have ih := or_ok o G0 H0 (pos := pos) (u :: r) (f :: es) (by simp) h.2
    have q := pw_or (t.ok o h.1 G0 H0) ih
    refine ⟨fun whole pins s σ H Q I hw => q.run whole pins s σ H Q I ?_⟩
    obtain ⟨Γ, G, R, k⟩ := hw
    refine ⟨Γ, G, R, k.bind.mono (fun b G1 H1 e1 x1 k1 => ?_) fun _ _ _ z => z⟩
    cases b with
    | false => exact ⟨Γ, G1, R.ext x1, k1⟩
    | true => exact KRe.here x1.le k1
def tcAnd (ts : List (TC T)) : TC T := ⟨fun c e => match e with
  | .BoolOp .And es _ => (!ts.isEmpty) && mtAll ts c es
  | _ => false, denAnd ts, fun {X W c e} o h G0 H0 => by
  split at h
  · rw [Bool.and_eq_true] at h
    exact (and_ok o G0 H0 ts _ (fun z => by subst z; simp at h) h.2).pt
  · cases h⟩
def tcOr (ts : List (TC T)) : TC T := ⟨fun c e => match e with
  | .BoolOp .Or es _ => (!ts.isEmpty) && mtAll ts c es
  | _ => false, denOr ts, fun {X W c e} o h G0 H0 => by
  split at h
  · rw [Bool.and_eq_true] at h
    exact (or_ok o G0 H0 ts _ (fun z => by subst z; simp at h) h.2).pt
  · cases h⟩
/-! ### .. as values, of truth values -/
def denAndV : List (EC T) → En → Re D
  | [], _ => .no
  | [t], Γ => t.den Γ
  | t :: u :: r, Γ => ((t.den Γ).bind boolR).bind fun b => if b = true then denAndV (u :: r) Γ else .ok (.bl false)
def denOrV : List (EC T) → En → Re D
  | [], _ => .no
  | [t], Γ => t.den Γ
  | t :: u :: r, Γ => ((t.den Γ).bind boolR).bind fun b => if b = true then .ok (.bl true) else denOrV (u :: r) Γ
def mtAllE : List (EC T) → Sc → List Expr → Bool
  | [], _, [] => true
  | t :: r, c, e :: es => t.mt c e && mtAllE r c es
  | _, _, _ => false
theorem andV_ok {X : Cx} {W : WX} {c : Sc} (o : XOk T X W c) (G0 H0 : Hp) {pos : Pos} : ∀ (ts : List (EC T)) (es : List Expr), ts ≠ [] → mtAllE ts c es = true → PE X (.BoolOp .And es pos) (TEv (mw X) G0 H0 W (denAndV ts))
  | [], _, n, _ => absurd rfl n
  | [t], [], _, h => by cases h
  | [t], [e], _, h => by
    unfold mtAllE at h
    rw [Bool.and_eq_true] at h
    exact pe_one (t.ok o h.1 G0 H0)
  | [t], _ :: _ :: _, _, h => by
    unfold mtAllE at h
    rw [Bool.and_eq_true] at h
    exact absurd h.2 (by simp [mtAllE])
  | t :: u :: r, [], _, h => by cases h
  | t :: u :: r, [e], _, h => by
    unfold mtAllE at h
    rw [Bool.and_eq_true] at h
    exact absurd h.2 (by simp [mtAllE])
  | t :: u :: r, e :: f :: es, _, h => by
    unfold mtAllE at h
    rw [Bool.and_eq_true] at h
    have ih := andV_ok o G0 H0 (pos := pos) (u :: r) (f :: es) (by simp) h.2
    refine (pe_and (t.ok o h.1 G0 H0) ih).weak fun σ H Q => ?_
    rintro ⟨Γ, G, R, k⟩
    refine ⟨Γ, G, R, k.bind.bind.mono (fun b G1 H1 e1 x1 k1 v r1 => ?_) fun _ _ _ z => z⟩
    cases r1 with
    | bl b =>
      refine ⟨b, rfl, ?_⟩
      have k1 := KRe.here x1.le k1
      cases b with
      | true => exact ⟨Γ, G1, R.ext x1, k1⟩
      | false => exact KRe.here x1.le k1 _ (.bl _)
    | _ => exact k1.elim
theorem orV_ok {X : Cx} {W : WX} {c : Sc} (o : XOk T X W c) (G0 H0 : Hp) {pos : Pos} : ∀ (ts : List (EC T)) (es : List Expr), ts ≠ [] → mtAllE ts c es = true → PE X (.BoolOp .Or es pos) (TEv (mw X) G0 H0 W (denOrV ts))
  | [], _, n, _ => absurd rfl n
  | [t], [], _, h => by cases h
  | [t], [e], _, h => by
    unfold mtAllE at h
    rw [Bool.and_eq_true] at h
    exact pe_one (t.ok o h.1 G0 H0)
  | [t], _ :: _ :: _, _, h => by
    unfold mtAllE at h
    rw [Bool.and_eq_true] at h
    exact absurd h.2 (by simp [mtAllE])
  | t :: u :: r, [], _, h => by cases h
  | t :: u :: r, [e], _, h => by
    unfold mtAllE at h
    rw [Bool.and_eq_true] at h
    exact absurd h.2 (by simp [mtAllE])
  | t :: u :: r, e :: f :: es, _, h => by
    unfold mtAllE at h
    rw [Bool.and_eq_true] at h
    have ih := orV_ok o G0 H0 (pos := pos) (u :: r) (f :: es) (by simp) h.2
    refine (pe_or (t.ok o h.1 G0 H0) ih).weak fun σ H Q => ?_
    rintro ⟨Γ, G, R, k⟩
    refine ⟨Γ, G, R, k.bind.bind.mono (fun b G1 H1 e1 x1 k1 v r1 => ?_) fun _ _ _ z => z⟩
    cases r1 with
    | bl b =>
      refine ⟨b, rfl, ?_⟩
      have k1 := KRe.here x1.le k1
      cases b with
      | false => exact ⟨Γ, G1, R.ext x1, k1⟩
      | true => exact KRe.here x1.le k1 _ (.bl _)
    | _ => exact k1.elim
def ecAnd (ts : List (EC T)) : EC T := ⟨fun c e => match e with
  | .BoolOp .And es _ => (!ts.isEmpty) && mtAllE ts c es
  | _ => false, denAndV ts, fun {X W c e} o h G0 H0 => by
  split at h
  · rw [Bool.and_eq_true] at h
    exact andV_ok o G0 H0 ts _ (fun z => by subst z; simp at h) h.2
  · cases h⟩
def ecOr (ts : List (EC T)) : EC T := ⟨fun c e => match e with
  | .BoolOp .Or es _ => (!ts.isEmpty) && mtAllE ts c es
  | _ => false, denOrV ts, fun {X W c e} o h G0 H0 => by
  split at h
  · rw [Bool.and_eq_true] at h
    exact orV_ok o G0 H0 ts _ (fun z => by subst z; simp at h) h.2
  · cases h⟩
def ecNot (a : EC T) : EC T := ⟨fun c e => match e with
  | .UnaryOp .Not x _ => a.mt c x
  | _ => false, fun Γ => ((a.den Γ).bind boolR).bind fun b => .ok (.bl (!b)), fun {X W c e} o h G0 H0 => by
  split at h
  · refine (pe_not (a.ok o h G0 H0)).weak fun σ H Q => ?_
    rintro ⟨Γ, G, R, k⟩
    refine ⟨Γ, G, R, k.bind.bind.mono (fun b G1 H1 e1 x1 k1 v r1 => ?_) fun _ _ _ z => z⟩
    cases r1 with
    | bl b => exact ⟨b, rfl, KRe.here x1.le (KRe.here x1.le k1) _ (.bl _)⟩
    | _ => exact k1.elim
  · cases h⟩
/-- a if t else b -/
def ecIf (t : TC T) (a b : EC T) : EC T := ⟨fun c e => match e with
  | .IfExp x y z _ => t.mt c x && a.mt c y && b.mt c z
  | _ => false, fun Γ => (t.den Γ).bind fun k => if k = true then a.den Γ else b.den Γ, fun {X W c e} o h G0 H0 => by
  split at h
  · simp only [Bool.and_eq_true] at h
    refine (pe_ifExp (t.ok o h.1.1 G0 H0) (a.ok o h.1.2 G0 H0) (b.ok o h.2 G0 H0)).weak fun σ H Q => ?_
    rintro ⟨Γ, G, R, k⟩
    refine ⟨Γ, G, R, k.bind.mono (fun k' G1 H1 e1 x1 k1 => ?_) fun _ _ _ z => z⟩
    cases k' with
    | true => exact ⟨Γ, G1, R.ext x1, k1⟩
    | false => exact ⟨Γ, G1, R.ext x1, k1⟩
  · cases h⟩
/-! ### subscripts -/
def ixG : D → D → Re D
  | .lst ds, .int i => match atI ds i with
    | some d => .ok d
    | none => .no
  | .tup ds, .int i => match atI ds i with
    | some d => .ok d
    | none => .no
  | .scr ns, .int i => match atI ns i with
    | some d => .ok (.int d)
    | none => .no
  | .str z, .int i => if z.length ≤ sizeLine then (match atI z.cps.toList i with
    | some c => .ok (.str ⟨#[c]⟩)
    | none => .no) else .no
  | _, _ => .no
theorem atI_rep {M : Mw} {G : Hp} {vs : List V} {ds : List D} (r : RepL M G vs ds) {i : Int} {d : D} (h : atI ds i = some d) : ∃ v, atI vs i = some v ∧ Rep M G v d := by
  unfold atI at h ⊢
  rw [r.length]
  obtain ⟨j, e1, e2⟩ := Option.bind_eq_some_iff.mp h
  obtain ⟨v, a, b⟩ := r.get e2
  exact ⟨v, Option.bind_eq_some_iff.mpr ⟨j, e1, a⟩, b⟩
theorem atI_map {α β : Type} {f : α → β} {xs : List α} {i : Int} {d : α} (h : atI xs i = some d) : atI (xs.map f) i = some (f d) := by
  unfold atI at h ⊢
  rw [List.length_map]
  obtain ⟨j, e1, e2⟩ := Option.bind_eq_some_iff.mp h
  exact Option.bind_eq_some_iff.mpr ⟨j, e1, by rw [List.getElem?_map, e2]; rfl⟩
theorem ix_link {M : Mw} : LinkR M (rIx M.K) ixG := fun x y d e G H Q w s tx ty k => by
  unfold ixG at k
  split at k
  · split at k
    · rename_i e1
      obtain ⟨a, vs, rfl, h1, r⟩ := tx.lst s
      cases ty.int
      obtain ⟨v, a1, a2⟩ := atI_rep r e1
      exact .inl ⟨a, vs, _, v, rfl, rfl, .of h1, a1, KRe.here s k _ a2⟩
    · exact k.elim
  · split at k
    · rename_i e1
      obtain ⟨a, vs, rfl, h1, r⟩ := tx.tup s
      cases ty.int
      obtain ⟨v, a1, a2⟩ := atI_rep r e1
      exact .inr (.inl ⟨a, vs, _, v, rfl, rfl, .of h1, a1, KRe.here s k _ a2⟩)
    · exact k.elim
  · split at k
    · rename_i e1
      obtain ⟨a, rfl, h1⟩ := tx.scr s
      cases ty.int
      exact .inl ⟨a, _, _, _, rfl, rfl, h1, atI_map e1, KRe.here s k _ (.int _)⟩
    · exact k.elim
  · split at k
    · split at k
      · rename_i hz _ _ e1
        cases tx.str
        cases ty.int
        exact .inr (.inr ⟨_, _, _, rfl, rfl, hz, e1, KRe.here s k _ (.str _)⟩)
      · exact k.elim
    · exact k.elim
  · exact k.elim
def mtSub (a i : OC T) (c : Sc) (e : Expr) : Bool := match e with
  | .Subscript o x _ => a.mt c o && i.mt c x && noSlice x
  | _ => false
def ecIx (a i : OC T) : EC T := ⟨mtSub a i, den2 a.den i.den ixG, fun {X W c e} o h G0 H0 => by
  unfold mtSub at h
  split at h
  · simp only [Bool.and_eq_true] at h
    exact (pe_ix ix_seq (a.ok o h.1.1 G0 H0) (i.ok o h.1.2 G0 H0) (plainIx_ok h.2)).weak fun σ H Q => link2 ix_link
  · cases h⟩
/-- d[k] -/
def dgG : D → D → Re D := fun d y => match getD' d y with
  | some (some z) => .ok z
  | _ => .no
def ecDg (a i : OC T) : EC T := ⟨mtSub a i, den2 a.den i.den dgG, fun {X W c e} o h G0 H0 => by
  unfold mtSub at h
  split at h
  · simp only [Bool.and_eq_true] at h
    refine (pe_dget (hu_of o.room) (a.ok o h.1.1 G0 H0) (i.ok o h.1.2 G0 H0) (plainIx_ok h.2)).weak fun σ H Q => ?_
    rintro ⟨Γ, G, R, k⟩
    refine ⟨Γ, G, R, k.bind.mono (fun d G1 H1 e1 x1 k1 v t1 => ?_) fun _ _ _ z => z⟩
    refine ⟨Γ, G1, R.ext x1, k1.bind.mono (fun y G2 H2 e2 x2 k2 u t2 => ?_) fun _ _ _ z => z⟩
    unfold dgG at k2
    split at k2
    · rename_i z ez
      obtain ⟨p, ov, rfl, g, _, v', rfl, r⟩ := dget_link x2.le (t1.ext x2) t2 ez
      exact ⟨p, v', rfl, g, KRe.here x2.le k2 _ r⟩
    · exact k2.elim
  · cases h⟩
/-! ### slices -/
def TPv (M : Mw) (G0 H0 : Hp) (W : WX) (f : En → Re (Option Int)) : TO := fun σ H Q => ∃ Γ G, Rel M G0 H0 Γ σ G H ∧ KRe M G H (fun d _ H' => Q d H') (fun c dd H' => W c dd σ H') (f Γ)
def mtPart : Option (OC T) → Sc → Option Expr → Bool
  | none, _, none => true
  | some a, c, some e => a.mt c e
  | _, _, _ => false
def intR : D → Re (Option Int)
  | .int i => .ok (some i)
  | _ => .no
def denPart : Option (OC T) → En → Re (Option Int)
  | none, _ => .ok none
  | some a, Γ => (a.den Γ).bind intR
theorem part_ok {X : Cx} {W : WX} {c : Sc} (o : XOk T X W c) (G0 H0 : Hp) : ∀ (a : Option (OC T)) (e : Option Expr), mtPart a c e = true → ∃ t, PO X e t ∧ ∀ σ H Q, TPv (mw X) G0 H0 W (denPart a) σ H Q → t σ H Q
  | none, none, _ => ⟨_, po_none, fun σ H Q ⟨Γ, G, R, k⟩ => KRe.here R.le k⟩
  | some a, some e, h => ⟨_, po_some (a.ok o h G0 H0), fun σ H Q ⟨Γ, G, R, k⟩ => ⟨Γ, G, R, k.bind.mono (fun d G1 H1 e1 x1 k1 v t1 => by
    cases d with
    | int i =>
      cases t1.int
      exact ⟨i, rfl, KRe.here x1.le k1⟩
    | _ => exact k1.elim) fun _ _ _ z => z⟩⟩
  | none, some _, h => by cases h
  | some _, none, h => by cases h
def cutD {α : Type} (xs : List α) (lo hi : Option Int) : List α := (xs.drop (HT.sIx xs.length 0 lo)).take (HT.sIx xs.length xs.length hi - HT.sIx xs.length 0 lo)
theorem RepL.cut {M : Mw} {G : Hp} {vs : List V} {ds : List D} (r : RepL M G vs ds) (lo hi : Option Int) : RepL M G (cutV vs lo hi) (cutD ds lo hi) := by
  unfold cutV cutD
  rw [r.length]
  exact (r.drop _).take _
def slG (d : D) (lo hi : Option Int) : Re D := match d with
  | .lst ds => .ok (.lst (cutD ds lo hi))
  | .tup ds => .ok (.tup (cutD ds lo hi))
  | .str z => if z.length ≤ sizeLine then .ok (.str (cutS z lo hi)) else .no
  | _ => .no
theorem cut_all {α : Type} {xs : List α} {lo hi : Option Int} (h : HT.sIx xs.length 0 lo = 0 ∧ HT.sIx xs.length xs.length hi = xs.length) : cutD xs lo hi = xs := by
  unfold cutD
  rw [h.1, h.2, List.drop_zero, Nat.sub_zero, List.take_length]
def ecSl (a : OC T) (lo hi : Option (OC T)) : EC T := ⟨fun c e => match e with
  | .Subscript x (.Slice l u none _) _ => a.mt c x && mtPart lo c l && mtPart hi c u
  | _ => false, fun Γ => (a.den Γ).bind fun d => (denPart lo Γ).bind fun l => (denPart hi Γ).bind fun u => slG d l u, fun {X W c e} o h G0 H0 => by
  split at h
  · simp only [Bool.and_eq_true] at h
    obtain ⟨tl, pl, kl⟩ := part_ok o G0 H0 lo _ h.1.2
    obtain ⟨tu, pu, ku⟩ := part_ok o G0 H0 hi _ h.2
    refine (pe_slice (sl_str.or ((sl_tupA).or sl_list)) (a.ok o h.1.1 G0 H0) pl pu).weak fun σ H Q => ?_
    rintro ⟨Γ, G, R, k⟩
    refine ⟨Γ, G, R, k.bind.mono (fun d G1 H1 e1 x1 k1 v t1 => ?_) fun _ _ _ z => z⟩
    refine kl σ H1 _ ⟨Γ, G1, R.ext x1, k1.bind.mono (fun l G2 H2 e2 x2 k2 => ?_) fun _ _ _ z => z⟩
    refine ku σ H2 _ ⟨Γ, G2, R.ext (x1.trans x2), k2.bind.mono (fun u G3 H3 e3 x3 k3 => ?_) fun _ _ _ z => z⟩
    have t3 := (t1.ext x2).ext x3
    have s := x3.le
    unfold slG at k3
    split at k3
    · obtain ⟨p, vs, rfl, h1, r⟩ := t3.lst s
      refine .inr (.inr ⟨p, vs, rfl, .of h1, fun q hq => ?_⟩)
      exact KRe.new s k3 hq (.lst upd_same ((r.cut _ _).mono (same_upd s hq)))
    · obtain ⟨p, vs, rfl, h1, r⟩ := t3.tup s
      refine .inr (.inl ⟨p, vs, rfl, .of h1, fun hw => ?_, fun _ q hq => ?_⟩)
      · rw [r.length] at hw
        rw [cut_all hw] at k3
        exact KRe.here s k3 _ t3.rep
      · exact KRe.new s k3 hq (.tup upd_same ((r.cut _ _).mono (same_upd s hq)))
    · split at k3
      · cases t3.str
        exact .inl ⟨_, rfl, by assumption, KRe.here s k3 _ (.str _)⟩
      · exact k3.elim
    · exact k3.elim
  · cases h⟩
/-- xs[::-1] -/
def revR : D → Re D
  | .lst ds => .ok (.lst ds.reverse)
  | _ => .no
def ecRev (a : OC T) : EC T := ⟨fun c e => match e with
  | .Subscript x (.Slice none none (some (.UnaryOp .USub (.Constant (.int 1) _ _) _)) _) _ => a.mt c x
  | _ => false, fun Γ => (a.den Γ).bind revR, fun {X W c e} o h G0 H0 => by
  split at h
  · refine (pe_revL (a.ok o h G0 H0)).weak fun σ H Q => ?_
    rintro ⟨Γ, G, R, k⟩
    refine ⟨Γ, G, R, k.bind.mono (fun d G1 H1 e1 x1 k1 v t1 => ?_) fun _ _ _ z => z⟩
    cases d with
    | lst ds =>
      obtain ⟨p, vs, rfl, h1, r⟩ := t1.lst x1.le
      exact ⟨p, vs, rfl, .of h1, fun q hq => KRe.new x1.le k1 hq (.lst upd_same (r.reverse.mono (same_upd x1.le hq)))⟩
    | _ => exact k1.elim
  · cases h⟩
/-! ### calls -/
def ecCall (f : T.Fn) (as : AC T) : EC T := ⟨fun c e => match e with
  | .Call (.Name x _) (a :: es) [] _ => decide (x = T.name f) && glB c.sc x && nmB x && as.mt c (a :: es) && decide ((a :: es).length = T.ar f) && decide (T.lvl f ≤ c.lv)
  | _ => false, fun Γ => (as.den Γ).bind (T.den f), fun {X W c e} o h G0 H0 => by
  split at h
  · rename_i x _ a es _
    simp only [Bool.and_eq_true, decide_eq_true_eq] at h
    obtain ⟨⟨⟨⟨⟨e1, h2⟩, h3⟩, h4⟩, h5⟩, h6⟩ := h
    obtain ⟨fa, fd, ps, k1, k2, k3, k4, k5⟩ := o.fns f h6
    have pl := as.pl h4
    rw [List.all_cons, Bool.and_eq_true] at pl
    refine (pe_callS k5 (o.room.mono h6) (o.gl h2) (by rw [e1]; exact k1) k2 k4 (fun σ => L2N.passAt o.tk σ) (as.ok o h4 G0 H0) (nmB_d h3) (star_cons pl.1) (star_any pl.2)).weak fun σ H Q => ?_
    rintro ⟨Γ, G, R, k⟩
    refine ⟨Γ, G, R, k.bind.mono (fun ds G1 H1 e1 x1 k1 vs r1 => ?_) fun _ _ _ z => z⟩
    exact ⟨ds, G1, x1.le, r1, k1⟩
  · cases h⟩
end
/-- a built-in by its name, over data -/
def LinkA (M : Mw) (r : List V → Hp → VK → Prop) (g : List D → Re D) : Prop := ∀ (vs : List V) (ds : List D) (G H : Hp) (Q : VK) (w : Value → Option Addr → Hp → Prop), Same G H → TopL M G H vs ds → KRe M G H (fun d' G' H' => ∀ v, Rep M G' v d' → Q v H') w (g ds) → r vs H Q
def LinkAF (M : Mw) (r : List V → Hp → VK → Prop) (g : List D → Re D) : Prop := ∀ (vs : List V) (ds : List D) (G H : Hp) (Q : VK) (w : Value → Option Addr → Hp → Prop), Same G H → TopL M G H vs ds → KRe M G H (fun d' G' H' => ∀ a, H a = none → G' a = none → Cont M G' H' a d' → Q (.ref a) H') w (g ds) → r vs H Q
structure FnL (v : Value) where
  g : List D → Re D
  ok : ∀ (X : Cx) (n : Nat), X.calm = true → Room n X.A → X.base.NoDigits → ∃ r, CallR X v r ∧ LinkA (mw X) r g
structure FnLF (v : Value) where
  g : List D → Re D
  ok : ∀ (X : Cx) (n : Nat), X.calm = true → Room n X.A → X.base.NoDigits → ∃ r, CallR X v r ∧ LinkAF (mw X) r g
section
variable {T : Tbl}
def isBT (v : Value) : Bool := match v with
  | .builtin _ => true
  | .type _ => true
  | _ => false
theorem pe_callAny {X : Cx} {x : Str} {p pos : Pos} {e : Expr} {es : List Expr} {t : TA} {v : Value} {r : List V → Hp → VK → Prop} (hb : isBT v = true) (hc : CallR X v r) (hg : Gl X x) (hm : X.mg x = none) (hv : bootBuiltins x = some v) (ha : PA X (e :: es) t) (hn : x ≠ "__name__") (hdb : (x == ("__debug__" : Str)) = false)
    (he : starEach (e :: es) X.env = (false, eval e X.env) :: starEach es X.env) (hpl : (backTo pos (starEach es X.env)).any (·.1) = false) : PE X (.Call (.Name x p) (e :: es) [] pos) (tCB r t) := by
  cases v with
  | builtin id => exact pe_callB hc hg hm hv ha hn hdb he hpl
  | type id => exact pe_callTy hc hg hm hv ha hn hdb he hpl
  | _ => cases hb
def mtB (y : Str) (v : Value) (as : AO T) (c : Sc) (e : Expr) : Bool := match e with
  | .Call (.Name x _) (a :: es) [] _ => decide (x = y) && glB c.sc x && nmB x && as.mt c (a :: es) && decide (y ∈ blt) && decide (bootBuiltins y = some v) && isBT v
  | _ => false
def ecB (y : Str) {v : Value} (L : FnL v) (as : AO T) : EC T := ⟨mtB y v as, fun Γ => (as.den Γ).bind L.g, fun {X W c e} o h G0 H0 => by
  unfold mtB at h
  split at h
  · simp only [Bool.and_eq_true, decide_eq_true_eq] at h
    obtain ⟨⟨⟨⟨⟨⟨rfl, h2⟩, h3⟩, h4⟩, h5⟩, h6⟩, h7⟩ := h
    obtain ⟨r, hc, lk⟩ := L.ok X c.lv o.calm o.room o.dig
    have pl := as.pl h4
    rw [List.all_cons, Bool.and_eq_true] at pl
    refine (pe_callAny h7 hc (o.gl h2) (o.blt _ h5) h6 (as.ok o h4 G0 H0) (nmB_n h3) (nmB_d h3) (star_cons pl.1) (star_any pl.2)).weak fun σ H Q => ?_
    rintro ⟨Γ, G, R, k⟩
    exact ⟨Γ, G, R, k.bind.mono (fun ds G1 H1 e1 x1 k1 vs r1 => lk _ _ G1 H1 Q _ x1.le r1 k1) fun _ _ _ z => z⟩
  · cases h⟩
def fcB (y : Str) {v : Value} (L : FnLF v) (as : AO T) : FC T := ⟨mtB y v as, fun Γ => (as.den Γ).bind L.g, fun {X W c e} o h G0 H0 => by
  unfold mtB at h
  split at h
  · simp only [Bool.and_eq_true, decide_eq_true_eq] at h
    obtain ⟨⟨⟨⟨⟨⟨rfl, h2⟩, h3⟩, h4⟩, h5⟩, h6⟩, h7⟩ := h
    obtain ⟨r, hc, lk⟩ := L.ok X c.lv o.calm o.room o.dig
    have pl := as.pl h4
    rw [List.all_cons, Bool.and_eq_true] at pl
    refine (pe_callAny h7 hc (o.gl h2) (o.blt _ h5) h6 (as.ok o h4 G0 H0) (nmB_n h3) (nmB_d h3) (star_cons pl.1) (star_any pl.2)).weak fun σ H Q => ?_
    rintro ⟨Γ, G, R, k⟩
    refine ⟨Γ, G, R, k.bind.mono (fun ds G1 H1 e1 x1 k1 vs r1 => lk _ _ G1 H1 Q _ x1.le r1 (k1.mono (fun d G2 H2 e2 x2 k2 a n0 n c => k2 a (x1.h.free n0) n c) fun _ _ _ z => z)) fun _ _ _ z => z⟩
  · cases h⟩
/-- a module's name for a built-in function -/
def ecBf (y : Str) (id : String) (L : FnL (.builtin id)) (as : AO T) : EC T := ⟨fun c e => match e with
  | .Call (.Name x _) (a :: es) [] _ => decide (x = y) && glB c.sc x && nmB x && as.mt c (a :: es) && decide ((y, id) ∈ T.cb)
  | _ => false, fun Γ => (as.den Γ).bind L.g, fun {X W c e} o h G0 H0 => by
  split at h
  · simp only [Bool.and_eq_true, decide_eq_true_eq] at h
    obtain ⟨⟨⟨⟨rfl, h2⟩, h3⟩, h4⟩, h5⟩ := h
    obtain ⟨r, hc, lk⟩ := L.ok X c.lv o.calm o.room o.dig
    have pl := as.pl h4
    rw [List.all_cons, Bool.and_eq_true] at pl
    refine (pe_callBfun hc (o.gl h2) (o.cb _ _ h5) (as.ok o h4 G0 H0) (nmB_d h3) (star_cons pl.1) (star_any pl.2)).weak fun σ H Q => ?_
    rintro ⟨Γ, G, R, k⟩
    exact ⟨Γ, G, R, k.bind.mono (fun ds G1 H1 e1 x1 k1 vs r1 => lk _ _ G1 H1 Q _ x1.le r1 k1) fun _ _ _ z => z⟩
  · cases h⟩
end
end RJ

set_option Elab.async false
set_option linter.all false
set_option maxRecDepth 100000
set_option maxHeartbeats 1000000
set_option autoImplicit false
/-! RjF: targets, what is walked, comprehensions. -/
namespace RJ
open PySem PySem.Spec L2

/-! ### targets -/
def KG (M : Mw) (G0 H0 : Hp) (ws : List Nat) (σ : L2.St) (G H : Hp) (Q : L2.St → Hp → Prop) : Re En → Prop
  | .ok Γ' => ∀ σ', Rel M G0 H0 Γ' σ' G H → σ'.length = σ.length → (∀ j, j ∉ ws → σ'[j]? = σ[j]?) → Q σ' H
  | _ => False
def TGv (M : Mw) (G0 H0 : Hp) (ws : List Nat) (den : D → En → Re En) : TG := fun v σ H Q => ∃ Γ G d, Rel M G0 H0 Γ σ G H ∧ Rep M G v d ∧ KG M G0 H0 ws σ G H Q (den d Γ)
def TGsv (M : Mw) (G0 H0 : Hp) (ws : List Nat) (den : List D → En → Re En) : TGs := fun v σ H Q => ∃ Γ G d, Rel M G0 H0 Γ σ G H ∧ RepL M G v d ∧ KG M G0 H0 ws σ G H Q (den d Γ)
theorem _root_.L2.PG.weak {X : Cx} {e : Expr} {t t' : TG} (h : PG X e t) (k : ∀ v σ H Q, t' v σ H Q → t v σ H Q) : PG X e t' := ⟨fun pins s σ H v u Q I r q => h.run pins s σ H v u Q I r (k v σ H Q q)⟩
theorem _root_.L2.PGs.weak {X : Cx} {e : List Expr} {t t' : TGs} (h : PGs X e t) (k : ∀ v σ H Q, t' v σ H Q → t v σ H Q) : PGs X e t' := ⟨fun pins s σ H v u Q I r q => h.run pins s σ H v u Q I r (k v σ H Q q)⟩
theorem _root_.L2.PG.or {X : Cx} {e : Expr} {t t' : TG} (h : PG X e t) (h' : PG X e t') : PG X e (fun v σ H Q => t v σ H Q ∨ t' v σ H Q) := ⟨fun pins s σ H v u Q I r q => q.elim (fun q => h.run pins s σ H v u Q I r q) fun q => h'.run pins s σ H v u Q I r q⟩
def locB (c : Sc) (x : Str) : Bool := match c.sc.names.lookup x with
  | some .local => true
  | some .cell => c.fn x
  | _ => false
theorem XOk.loc {T : Tbl} {X : Cx} {W : WX} {c : Sc} (o : XOk T X W c) {x : Str} (h : locB c x = true) : Loc X.env.scope x ∧ (X.fn x = true ∨ X.env.scope.names.lookup x = some .local) := by
  rw [o.sc, o.fn]
  unfold locB at h
  split at h
  · rename_i e
    exact ⟨.inl e, .inr e⟩
  · rename_i e
    exact ⟨.inr e, .inl h⟩
  · cases h
section
variable {M : Mw} {G0 H0 : Hp} {Γ : En} {σ : L2.St} {G H : Hp}
theorem Rel.set (R : Rel M G0 H0 Γ σ G H) {i : Nat} {v : V} {d : D} (r : Rep M G v d) : Rel M G0 H0 (Γ.set i (.sh d)) (σ.set i (some v)) G H := by
  refine ⟨by rw [List.length_set, List.length_set]; exact R.len, R.le, R.base, R.vis, R.new, fun j s e => ?_, fun j k d1 d2 a ne e1 e2 e3 e4 => ?_⟩
  · by_cases hj : j = i
    · subst hj
      have hl : j < Γ.length := by
        have := (List.getElem?_eq_some_iff.mp e).1
        rwa [List.length_set] at this
      rw [List.getElem?_set_self hl] at e
      cases e
      exact ⟨some v, List.getElem?_set_self (by rw [← R.len]; exact hl), v, rfl, r⟩
    · rw [List.getElem?_set_ne (Ne.symm hj)] at e
      rw [List.getElem?_set_ne (Ne.symm hj)]
      exact R.slot j s e
  · by_cases hj : j = i
    · subst hj
      have hl : j < Γ.length := by
        have := (List.getElem?_eq_some_iff.mp e1).1
        rwa [List.length_set] at this
      rw [List.getElem?_set_self hl] at e1
      cases e1
    · by_cases hk : k = i
      · subst hk
        have hl : k < Γ.length := by
          have := (List.getElem?_eq_some_iff.mp e2).1
          rwa [List.length_set] at this
        rw [List.getElem?_set_self hl] at e2
        cases e2
      · rw [List.getElem?_set_ne (Ne.symm hj)] at e1 e3
        rw [List.getElem?_set_ne (Ne.symm hk)] at e2 e4
        exact R.sep j k d1 d2 a ne e1 e2 e3 e4
/-- slots forgotten -/
def wipeE (Γ : En) : List Nat → En
  | [] => Γ
  | v :: vs => (wipeE Γ vs).set v .no
theorem wipeE_len (Γ : En) : ∀ vs : List Nat, (wipeE Γ vs).length = Γ.length
  | [] => rfl
  | v :: vs => by unfold wipeE; rw [List.length_set, wipeE_len Γ vs]
theorem wipeE_in {i : Nat} : ∀ {vs : List Nat}, i ∈ vs → ∀ {s : Sl}, (wipeE Γ vs)[i]? = some s → s = .no
  | v :: vs, h, s, e => by
    unfold wipeE at e
    by_cases hi : v = i
    · subst hi
      have hl : v < (wipeE Γ vs).length := by
        have := (List.getElem?_eq_some_iff.mp e).1
        rwa [List.length_set] at this
      rw [List.getElem?_set_self hl] at e
      cases e
      rfl
    · rw [List.getElem?_set_ne hi] at e
      rcases List.mem_cons.mp h with z | z
      · exact absurd z.symm hi
      · exact wipeE_in z e
theorem wipeE_out {i : Nat} : ∀ {vs : List Nat}, i ∉ vs → (wipeE Γ vs)[i]? = Γ[i]?
  | [], _ => rfl
  | v :: vs, h => by
    unfold wipeE
    rw [List.getElem?_set_ne fun e => h (by rw [e]; exact List.mem_cons_self)]
    exact wipeE_out fun m => h (List.mem_cons_of_mem _ m)
theorem wipe_at {i : Nat} : ∀ {vs : List Nat}, i < σ.length → ∃ x, (wipe σ vs)[i]? = some x
  | vs, h => by
    have hl : i < (wipe σ vs).length := by rw [wipe_length]; exact h
    exact ⟨_, List.getElem?_eq_some_iff.mpr ⟨hl, rfl⟩⟩
theorem Rel.wipe (R : Rel M G0 H0 Γ σ G H) (vs : List Nat) : Rel M G0 H0 (wipeE Γ vs) (wipe σ vs) G H := by
  refine ⟨by rw [wipeE_len, wipe_length]; exact R.len, R.le, R.base, R.vis, R.new, fun j s e => ?_, fun j k d1 d2 a ne e1 e2 e3 e4 => ?_⟩
  · by_cases hj : j ∈ vs
    · have z := wipeE_in hj e
      subst z
      have hl : j < σ.length := by
        rw [← R.len, ← wipeE_len Γ vs]
        exact (List.getElem?_eq_some_iff.mp e).1
      obtain ⟨x, hx⟩ := wipe_at (vs := vs) hl
      exact ⟨x, hx, trivial⟩
    · rw [wipeE_out hj] at e
      rw [wipe_out hj]
      exact R.slot j s e
  · have hj : j ∉ vs := fun m => by cases wipeE_in m e1
    have hk : k ∉ vs := fun m => by cases wipeE_in m e2
    rw [wipeE_out hj] at e1
    rw [wipeE_out hk] at e2
    rw [wipe_out hj] at e3
    rw [wipe_out hk] at e4
    exact R.sep j k d1 d2 a ne e1 e2 e3 e4
/-- an object of no name's is written -/
theorem Rel.aside (R : Rel M G0 H0 Γ σ G H) {p : Addr} {o : HO} (n : G p = none) (n0 : H0 p = none) (na : ∀ (i : Nat) d, Γ[i]? = some (.own d) → σ[i]? ≠ some (some (.ref p))) : Rel M G0 H0 Γ σ G (upd H p o) := by
  refine ⟨R.len, fun b u e => by rw [upd_ne (ne_of_none e n)]; exact R.le b u e, fun b u e => by rw [upd_ne (ne_of_none e n0)]; exact R.base b u e, R.vis, R.new, fun j s e => ?_, R.sep⟩
  obtain ⟨x, e1, q⟩ := R.slot j s e
  refine ⟨x, e1, ?_⟩
  cases s with
  | no => trivial
  | sh d => exact q
  | own d =>
    obtain ⟨a, e2, g1, g2, c⟩ := q
    have hap : a ≠ p := fun z => na j d e (by rw [e1, e2, z])
    exact ⟨a, e2, g1, g2, c.mono (Same.refl _) fun u hu => by rw [upd_ne hap]; exact hu⟩
end
structure GC (T : Tbl) where
  mt : Sc → Expr → Bool
  ws : List Nat
  den : D → En → Re En
  ok : ∀ {X : Cx} {W : WX} {c : Sc} {e : Expr}, XOk T X W c → mt c e = true → ∀ G0 H0, PG X e (TGv (mw X) G0 H0 ws den)
structure GCs (T : Tbl) where
  mt : Sc → List Expr → Bool
  ws : List Nat
  den : List D → En → Re En
  pl : ∀ {c : Sc} {es : List Expr}, mt c es = true → es.all plainE = true
  ok : ∀ {X : Cx} {W : WX} {c : Sc} {e : List Expr}, XOk T X W c → mt c e = true → ∀ G0 H0, PGs X e (TGsv (mw X) G0 H0 ws den)
theorem assign_cons {e : Expr} {es : List Expr} {env : Env} (h : plainE e = true) : assignEach (e :: es) env = (false, assign e env) :: assignEach es env := by
  cases e <;> first | rfl | cases h
theorem assign_none {es : List Expr} {env : Env} (h : es.all plainE = true) : (assignEach es env).findIdx? (·.1) = none := by
  induction es with
  | nil => rfl
  | cons e r ih =>
    rw [List.all_cons, Bool.and_eq_true] at h
    rw [assign_cons h.1, List.findIdx?_cons, ih h.2] <;> rfl
theorem assign_len {es : List Expr} {env : Env} (h : es.all plainE = true) : (assignEach es env).length = es.length := by
  induction es with
  | nil => rfl
  | cons e r ih =>
    rw [List.all_cons, Bool.and_eq_true] at h
    rw [assign_cons h.1, List.length_cons, ih h.2] <;> rfl
section
variable {T : Tbl}
def gcName (i : Nat) : GC T := ⟨fun c e => match e with
  | .Name x _ => decide (c.N[i]? = some x) && locB c x
  | _ => false, [i], fun d Γ => .ok (Γ.set i (.sh d)), fun {X W c e} o h G0 H0 => by
  split at h
  · simp only [Bool.and_eq_true, decide_eq_true_eq] at h
    obtain ⟨l1, l2⟩ := o.loc h.2
    refine (pg_name o.nd (by rw [o.N]; exact h.1) l1 l2).weak fun v σ H Q => ?_
    rintro ⟨Γ, G, d, R, r, k⟩
    exact k _ (R.set r) (by rw [List.length_set]) fun j hj => List.getElem?_set_ne fun z => hj (by rw [z]; exact List.mem_singleton.mpr rfl)
  · cases h⟩
def gsNil : GCs T := ⟨fun _ es => match es with
  | [] => true
  | _ => false, [], fun ds Γ => match ds with
  | [] => .ok Γ
  | _ => .no, fun {c es} h => by
  split at h
  · rfl
  · (cases h), fun {X W c e} o h G0 H0 => by
  split at h
  · refine pgs_nil.weak fun v σ H Q => ?_
    rintro ⟨Γ, G, d, R, r, k⟩
    cases r with
    | nil => exact ⟨rfl, k σ R rfl fun _ _ => rfl⟩
    | cons _ _ => exact k.elim
  · cases h⟩
def gsCons (a : GC T) (r : GCs T) : GCs T := ⟨fun c es => match es with
  | e :: es => plainE e && a.mt c e && r.mt c es
  | _ => false, a.ws ++ r.ws, fun ds Γ => match ds with
  | d :: ds => (a.den d Γ).bind (r.den ds)
  | _ => .no, fun {c es} h => by
  split at h
  · simp only [Bool.and_eq_true] at h
    rw [List.all_cons, h.1.1, r.pl h.2] <;> rfl
  · (cases h), fun {X W c e} o h G0 H0 => by
  split at h
  · simp only [Bool.and_eq_true] at h
    refine (pgs_cons (a.ok o h.1.2 G0 H0) (r.ok o h.2 G0 H0) (by rw [assign_cons h.1.1] <;> rfl)).weak fun v σ H Q => ?_
    rintro ⟨Γ, G, ds, R, rl, k⟩
    cases rl with
    | nil => exact k.elim
    | @cons v vs d ds hr hl =>
      refine ⟨v, vs, rfl, Γ, G, d, R, hr, ?_⟩
      have k : KG (mw X) G0 H0 (a.ws ++ r.ws) σ G H Q ((a.den d Γ).bind (r.den ds)) := k
      cases e1 : a.den d Γ with
      | ok Γ1 =>
        rw [e1] at k
        have k : KG (mw X) G0 H0 (a.ws ++ r.ws) σ G H Q (r.den ds Γ1) := k
        intro σ1 R1 l1 w1
        refine ⟨Γ1, G, ds, R1, hl, ?_⟩
        cases e2 : r.den ds Γ1 with
        | ok Γ2 =>
          rw [e2] at k
          exact fun σ2 R2 l2 w2 => k σ2 R2 (l2.trans l1) fun j hj => (w2 j fun m => hj (List.mem_append_right _ m)).trans (w1 j fun m => hj (List.mem_append_left _ m))
        | ex z =>
          rw [e2] at k
          exact k.elim
        | no =>
          rw [e2] at k
          exact k.elim
      | ex z =>
        rw [e1] at k
        exact k.elim
      | no =>
        rw [e1] at k
        exact k.elim
  · cases h⟩
def seqOf : D → Option (List D)
  | .tup ds => some ds
  | .lst ds => some ds
  | _ => none
def gcTup (n : Nat) (a : GCs T) : GC T := ⟨fun c e => match e with
  | .Tuple es _ _ => a.mt c es && decide (es.length = n)
  | _ => false, a.ws, fun d Γ => match seqOf d with
  | some ds => if ds.length = n then a.den ds Γ else .no
  | none => .no, fun {X W c e} o h G0 H0 => by
  split at h
  · rename_i es k p
    simp only [Bool.and_eq_true, decide_eq_true_eq] at h
    have h1 := a.ok o h.1 G0 H0
    have pl := a.pl h.1
    refine ((pg_tup (n := n) o.calm h1 (by rw [assign_len pl]; exact h.2) (assign_none pl)).or (pg_unl (n := n) o.calm h1 (by rw [assign_len pl]; exact h.2) (assign_none pl))).weak fun v σ H Q => ?_
    rintro ⟨Γ, G, d, R, r, k⟩
    cases r with
    | @lst b vs ds hb hl =>
      dsimp only [seqOf] at k
      by_cases hn : ds.length = n
      · rw [if_pos hn] at k
        exact .inr ⟨b, vs, rfl, .of (R.le _ _ hb), by rw [hl.length]; exact hn, Γ, G, ds, R, hl, k⟩
      · rw [if_neg hn] at k
        exact k.elim
    | @tup b vs ds hb hl =>
      dsimp only [seqOf] at k
      by_cases hn : ds.length = n
      · rw [if_pos hn] at k
        exact .inl ⟨b, vs, rfl, .of (R.le _ _ hb), by rw [hl.length]; exact hn, Γ, G, ds, R, hl, k⟩
      · rw [if_neg hn] at k
        exact k.elim
    | _ => exact k.elim
  · cases h⟩
end

/-! ### what is walked -/
structure ItOk (M : Mw) (J : It) (ds : List D) (G1 : Hp) : Prop where
  go : ∀ i G H, Same G1 G → Same G H → i < ds.length → J.go i H
  yld : ∀ i G H x H' d, Same G1 G → Same G H → ds[i]? = some d → J.yld i H x H' → ∃ G', Ext G H G' H' ∧ Rep M G' x d
  stop : ∀ i G H, Same G1 G → Same G H → ds.length ≤ i → J.stop i H
def TIv (M : Mw) (G0 H0 : Hp) (W : WX) (f : En → Re (List D)) : TI := fun σ H R => ∃ Γ G, Rel M G0 H0 Γ σ G H ∧ KRe M G H (fun ds G' H' => ∀ J, ItOk M J ds G' → R J H') (fun c dd H' => W c dd σ H') (f Γ)
structure IC (T : Tbl) where
  mt : Sc → Expr → Expr → Bool
  den : En → Re (List D)
  ok : ∀ {X : Cx} {W : WX} {c : Sc} {tg e : Expr}, XOk T X W c → mt c tg e = true → ∀ G0 H0, PI X tg e (TIv (mw X) G0 H0 W den)
theorem _root_.L2.PI.weak {X : Cx} {tg e : Expr} {t t' : TI} (h : PI X tg e t) (k : ∀ σ H R, t' σ H R → t σ H R) : PI X tg e t' := ⟨fun pins s σ H R I q => h.run pins s σ H R I (k σ H R q)⟩
theorem it_list {M : Mw} {G : Hp} {a : Addr} {vs : List V} {ds : List D} (h : G a = some (.lst vs)) (r : RepL M G vs ds) : ItOk M (Itl M.K a) ds G where
  go := fun i G2 H s1 s2 hi => by
    obtain ⟨v, e, _⟩ := r.get (List.getElem?_eq_getElem hi)
    exact ⟨vs, v, .of (s2 _ _ (s1 _ _ h)), e⟩
  yld := fun i G2 H x H' d s1 s2 hd hy => by
    obtain ⟨e, hy⟩ := hy
    subst e
    obtain ⟨v, e, q⟩ := r.get hd
    have e2 := hy vs (.of (s2 _ _ (s1 _ _ h)))
    rw [e] at e2
    cases e2
    exact ⟨G2, Ext.refl s2, q.mono s1⟩
  stop := fun i G2 H s1 s2 hi => ⟨vs, .of (s2 _ _ (s1 _ _ h)), by rw [r.length]; exact hi⟩
theorem it_tup {M : Mw} {G : Hp} {a : Addr} {vs : List V} {ds : List D} (h : G a = some (.tup vs)) (r : RepL M G vs ds) : ItOk M (Itt M.K a) ds G where
  go := fun i G2 H s1 s2 hi => by
    obtain ⟨v, e, _⟩ := r.get (List.getElem?_eq_getElem hi)
    exact ⟨vs, v, .of (s2 _ _ (s1 _ _ h)), e⟩
  yld := fun i G2 H x H' d s1 s2 hd hy => by
    obtain ⟨e, hy⟩ := hy
    subst e
    obtain ⟨v, e, q⟩ := r.get hd
    have e2 := hy vs (.of (s2 _ _ (s1 _ _ h)))
    rw [e] at e2
    cases e2
    exact ⟨G2, Ext.refl s2, q.mono s1⟩
  stop := fun i G2 H s1 s2 hi => ⟨vs, .of (s2 _ _ (s1 _ _ h)), by rw [r.length]; exact hi⟩
theorem it_scr {M : Mw} {G : Hp} {a : Addr} {ns : List Int} (h : SqL M.K G a (ns.map V.int)) : ItOk M (Itl M.K a) (ns.map D.int) G where
  go := fun i G2 H s1 s2 hi => by
    rw [List.length_map] at hi
    exact ⟨_, _, SqL.mono s2 (SqL.mono s1 h), by rw [List.getElem?_map, List.getElem?_eq_getElem hi]; rfl⟩
  yld := fun i G2 H x H' d s1 s2 hd hy => by
    obtain ⟨e, hy⟩ := hy
    subst e
    have e2 := hy _ (SqL.mono s2 (SqL.mono s1 h))
    rw [List.getElem?_map] at hd e2
    cases q : ns[i]? with
    | none =>
      rw [q] at hd
      cases hd
    | some n =>
      rw [q] at hd e2
      cases hd
      cases e2
      exact ⟨G2, Ext.refl s2, .int n⟩
  stop := fun i G2 H s1 s2 hi => ⟨_, SqL.mono s2 (SqL.mono s1 h), by rw [List.length_map]; rwa [List.length_map] at hi⟩
theorem it_str {M : Mw} {G : Hp} (x : Str) : ItOk M (Its x) (x.cps.toList.map fun c => .str ⟨#[c]⟩) G where
  go := fun i G2 H s1 s2 hi => by
    rw [List.length_map, Array.length_toList] at hi
    exact hi
  yld := fun i G2 H v H' d s1 s2 hd hy => by
    obtain ⟨e, c, h1, h2⟩ := hy
    subst e h2
    rw [List.getElem?_map, Array.getElem?_toList, h1] at hd
    cases hd
    exact ⟨G2, Ext.refl s2, .str _⟩
  stop := fun i G2 H s1 s2 hi => by
    rw [List.length_map, Array.length_toList] at hi
    exact hi
def rangeD (lo : Int) (n : Nat) : List D := (List.range n).map fun (i : Nat) => D.int (lo + (i : Int))
theorem it_rng {M : Mw} {G : Hp} (lo : Int) (n : Nat) : ItOk M (Itr lo n) (rangeD lo n) G where
  go := fun i G2 H s1 s2 hi => by
    unfold rangeD at hi
    rw [List.length_map, List.length_range] at hi
    exact hi
  yld := fun i G2 H v H' d s1 s2 hd hy => by
    obtain ⟨e, h2⟩ := hy
    subst e h2
    unfold rangeD at hd
    rw [List.getElem?_map] at hd
    cases q : (List.range n)[i]? with
    | none =>
      rw [q] at hd
      cases hd
    | some j =>
      rw [q] at hd
      cases hd
      obtain ⟨h3, h4⟩ := List.getElem?_eq_some_iff.mp q
      rw [List.getElem_range] at h4
      subst h4
      exact ⟨G2, Ext.refl s2, .int _⟩
  stop := fun i G2 H s1 s2 hi => by
    unfold rangeD at hi
    rw [List.length_map, List.length_range] at hi
    exact hi
section
variable {T : Tbl}
/-- a list, a tuple, a text, the script -/
def itemsR : D → Re (List D)
  | .lst ds => .ok ds
  | _ => .no
def itemsT : D → Re (List D)
  | .tup ds => .ok ds
  | _ => .no
def itemsS : D → Re (List D)
  | .str x => .ok (x.cps.toList.map fun c => .str ⟨#[c]⟩)
  | _ => .no
def itemsC : D → Re (List D)
  | .scr ns => .ok (ns.map D.int)
  | _ => .no
def itemsA : D → Re (List D)
  | .lst ds => .ok ds
  | .tup ds => .ok ds
  | .str x => .ok (x.cps.toList.map fun c => .str ⟨#[c]⟩)
  | .scr ns => .ok (ns.map D.int)
  | _ => .no
theorem _root_.L2.PI.or {X : Cx} {tg e : Expr} {te : TE} {t t' : V → Hp → (It → Hp → Prop) → Prop} (h : PI X tg e (fun σ H R => te σ H fun x H1 => t x H1 R)) (h' : PI X tg e (fun σ H R => te σ H fun x H1 => t' x H1 R))
    (hp : ∀ (pins : List (Addr × Obj)) (s : Shared) (σ : L2.St) (H : Hp) (Q : VK), Inv X pins σ H s → te σ H Q → wpAny (model X.prog X.w) X.A (eval e X.env) (EP X pins σ Q) X.xe s)
    (hi : ∀ (pins : List (Addr × Obj)) (s : Shared) (σ : L2.St) (H : Hp) (x : V) (v : Value) (R : It → Hp → Prop), Inv X pins σ H s → RelV x v → t x H R → wpAny (model X.prog X.w) X.A (pyIter v) (PIE X pins σ tg R) X.xe s)
    (hi' : ∀ (pins : List (Addr × Obj)) (s : Shared) (σ : L2.St) (H : Hp) (x : V) (v : Value) (R : It → Hp → Prop), Inv X pins σ H s → RelV x v → t' x H R → wpAny (model X.prog X.w) X.A (pyIter v) (PIE X pins σ tg R) X.xe s) :
    PI X tg e (fun σ H R => te σ H fun x H1 => t x H1 R ∨ t' x H1 R) := ⟨fun pins s σ H R I q => thn (hp pins s σ H _ I q) fun v s1 ⟨x, H1, I1, r1, q1⟩ => q1.elim (fun q1 => hi pins s1 σ H1 x v R I1 r1 q1) fun q1 => hi' pins s1 σ H1 x v R I1 r1 q1⟩
def icLst (a : EC T) : IC T := ⟨fun c _ e => a.mt c e, fun Γ => (a.den Γ).bind itemsR, fun {X W c tg e} o h G0 H0 => (pi_list (a.ok o h G0 H0)).weak fun σ H R => by
  rintro ⟨Γ, G, Rl, k⟩
  refine ⟨Γ, G, Rl, k.bind.mono (fun d G1 H1 e1 x1 k1 v r1 => ?_) fun _ _ _ z => z⟩
  cases r1 with
  | @lst b vs ds hb hl => exact ⟨b, rfl, ⟨vs, .of (x1.le _ _ hb)⟩, KRe.here x1.le k1 _ (it_list hb hl)⟩
  | _ => exact k1.elim⟩
def icTup (a : EC T) : IC T := ⟨fun c _ e => a.mt c e, fun Γ => (a.den Γ).bind itemsT, fun {X W c tg e} o h G0 H0 => (pi_tup (a.ok o h G0 H0)).weak fun σ H R => by
  rintro ⟨Γ, G, Rl, k⟩
  refine ⟨Γ, G, Rl, k.bind.mono (fun d G1 H1 e1 x1 k1 v r1 => ?_) fun _ _ _ z => z⟩
  cases r1 with
  | @tup b vs ds hb hl => exact ⟨b, rfl, ⟨vs, .of (x1.le _ _ hb)⟩, KRe.here x1.le k1 _ (it_tup hb hl)⟩
  | _ => exact k1.elim⟩
def icScr (a : EC T) : IC T := ⟨fun c _ e => a.mt c e, fun Γ => (a.den Γ).bind itemsC, fun {X W c tg e} o h G0 H0 => (pi_list (a.ok o h G0 H0)).weak fun σ H R => by
  rintro ⟨Γ, G, Rl, k⟩
  refine ⟨Γ, G, Rl, k.bind.mono (fun d G1 H1 e1 x1 k1 v r1 => ?_) fun _ _ _ z => z⟩
  cases r1 with
  | @scr b ns hb => exact ⟨b, rfl, ⟨_, SqL.mono x1.le hb⟩, KRe.here x1.le k1 _ (it_scr hb)⟩
  | _ => exact k1.elim⟩
def icStr (a : EC T) : IC T := ⟨fun c _ e => a.mt c e, fun Γ => (a.den Γ).bind itemsS, fun {X W c tg e} o h G0 H0 => (pi_str (a.ok o h G0 H0)).weak fun σ H R => by
  rintro ⟨Γ, G, Rl, k⟩
  refine ⟨Γ, G, Rl, k.bind.mono (fun d G1 H1 e1 x1 k1 v r1 => ?_) fun _ _ _ z => z⟩
  cases r1 with
  | str s => exact ⟨s, rfl, KRe.here x1.le k1 _ (it_str s)⟩
  | _ => exact k1.elim⟩
/-- a list or a tuple, as comes -/
theorem pi_seq {X : Cx} {tg l : Expr} {tl : TE} (hl : PE X l tl) : PI X tg l (fun σ H R => tl σ H fun x H1 => (∃ a, x = .ref a ∧ (∃ xs, SqL X.K H1 a xs) ∧ R (Itl X.K a) H1) ∨ (∃ a, x = .ref a ∧ (∃ xs, SqT X.K H1 a xs) ∧ R (Itt X.K a) H1)) := by
  refine ⟨fun pins s σ H R I h => ?_⟩
  refine thn (hl.run pins s σ H _ I h) fun v s1 ⟨x, H1, I1, r1, q1⟩ => ?_
  rcases q1 with ⟨a, e, ⟨xs, hq⟩, q⟩ | ⟨a, e, ⟨xs, hq⟩, q⟩
  · subst e
    cases r1
    obtain ⟨its, rv, p, hz⟩ := I1.list hq
    refine wpAny_pyIter_list p.isList ?_
    refine ⟨s1.heap.objs.size, [s1.heap.objs.size], _, _, H1, rfl, I1.kept (t' := s1.toks) fun b o e => Heap.get?_push_of_some _ e, turn_list a _, ⟨_, Heap.get?_push_size _ rfl, rfl, rfl⟩, fun b hb => ?_, q⟩
    have e : b = s1.heap.objs.size := by simpa using hb
    subst e
    exact I1.fpOk (Nat.le_refl _) (I1.hok.fresh (Nat.le_refl _))
  · subst e
    cases r1
    obtain ⟨its, rv, p, hz⟩ := I1.tuple hq
    refine wpAny_pyIter_tuple (show s1.heap.IsTuple a its.toArray from p) ?_
    refine ⟨s1.heap.objs.size, [s1.heap.objs.size], _, _, H1, rfl, I1.kept (t' := s1.toks) fun b o e => Heap.get?_push_of_some _ e, turn_tuple a _, ⟨_, Heap.get?_push_size _ rfl, rfl, rfl⟩, fun b hb => ?_, q⟩
    have e : b = s1.heap.objs.size := by simpa using hb
    subst e
    exact I1.fpOk (Nat.le_refl _) (I1.hok.fresh (Nat.le_refl _))
def itemsQ (d : D) : Re (List D) := match seqOf d with
  | some ds => .ok ds
  | none => .no
def icSeq (a : EC T) : IC T := ⟨fun c _ e => a.mt c e, fun Γ => (a.den Γ).bind itemsQ, fun {X W c tg e} o h G0 H0 => (pi_seq (a.ok o h G0 H0)).weak fun σ H R => by
  rintro ⟨Γ, G, Rl, k⟩
  refine ⟨Γ, G, Rl, k.bind.mono (fun d G1 H1 e1 x1 k1 v r1 => ?_) fun _ _ _ z => z⟩
  cases r1 with
  | @lst b vs ds hb hl => exact .inl ⟨b, rfl, ⟨vs, .of (x1.le _ _ hb)⟩, KRe.here x1.le k1 _ (it_list hb hl)⟩
  | @tup b vs ds hb hl => exact .inr ⟨b, rfl, ⟨vs, .of (x1.le _ _ hb)⟩, KRe.here x1.le k1 _ (it_tup hb hl)⟩
  | _ => exact k1.elim⟩
/-- range(a), range(a, b) -/
def rng1 : D → Re (List D)
  | .int j => if blk (decide (-(2 ^ 62) ≤ j ∧ j < 2 ^ 62)) = true then .ok (rangeD 0 j.toNat) else .no
  | _ => .no
def rng2 : D → D → Re (List D)
  | .int i, .int j => if blk (decide (-(2 ^ 62) ≤ i ∧ i < 2 ^ 62 ∧ -(2 ^ 62) ≤ j ∧ j < 2 ^ 62)) = true then .ok (rangeD i (j - i).toNat) else .no
  | _, _ => .no
theorem star1 {a : Expr} {env : Env} (h : plainE a = true) : starEach [a] env = [(false, eval a env)] := star_cons h
theorem star2 {a b : Expr} {env : Env} (h : plainE a = true) (h2 : plainE b = true) : starEach [a, b] env = [(false, eval a env), (false, eval b env)] := by
  rw [star_cons h, star1 h2]
theorem TAo.one {M : Mw} {G0 H0 : Hp} {W : WX} {f : En → Re D} {σ : L2.St} {H : Hp} {Q : List V → Hp → Prop} (h : TOv M G0 H0 W f σ H fun v H1 => Q [v] H1) : tCons (TOv M G0 H0 W f) tNil σ H Q := h
def icRng1 (a : OC T) : IC T := ⟨fun c _ e => match e with
  | .Call (.Name x _) [y] [] _ => decide (x = "range") && glB c.sc x && plainE y && a.mt c y
  | _ => false, fun Γ => (a.den Γ).bind rng1, fun {X W c tg e} o h G0 H0 => by
  split at h
  · simp only [Bool.and_eq_true, decide_eq_true_eq] at h
    obtain ⟨⟨⟨rfl, h2⟩, h3⟩, h4⟩ := h
    refine (pi_range1 (o.gl h2) (o.blt _ (by decide)) (pa_cons (a.ok o h4 G0 H0) pa_nil (star_cons h3)) (star1 h3)).weak fun σ H R => ?_
    rintro ⟨Γ, G, Rl, k⟩
    refine ⟨Γ, G, Rl, k.bind.mono (fun d G1 H1 e1 x1 k1 v t1 => ?_) fun _ _ _ z => z⟩
    unfold rng1 at k1
    split at k1
    · split at k1
      · rename_i hz
        have hz := blk_of hz
        cases t1.int
        exact ⟨_, rfl, hz.1, hz.2, KRe.here x1.le k1 _ (it_rng _ _)⟩
      · exact k1.elim
    · exact k1.elim
  · cases h⟩
def icRng2 (a b : OC T) : IC T := ⟨fun c _ e => match e with
  | .Call (.Name x _) [y, z] [] _ => decide (x = "range") && glB c.sc x && plainE y && a.mt c y && plainE z && b.mt c z
  | _ => false, fun Γ => (a.den Γ).bind fun d => (b.den Γ).bind fun e => rng2 d e, fun {X W c tg e} o h G0 H0 => by
  split at h
  · simp only [Bool.and_eq_true, decide_eq_true_eq] at h
    obtain ⟨⟨⟨⟨⟨rfl, h2⟩, h3⟩, h4⟩, h5⟩, h6⟩ := h
    refine (pi_range2 (o.gl h2) (o.blt _ (by decide)) (pa_cons (a.ok o h4 G0 H0) (pa_cons (b.ok o h6 G0 H0) pa_nil (star_cons h5)) (star_cons h3)) (star2 h3 h5) (star1 h5)).weak fun σ H R => ?_
    rintro ⟨Γ, G, Rl, k⟩
    refine ⟨Γ, G, Rl, k.bind.mono (fun d G1 H1 e1 x1 k1 v t1 => ?_) fun _ _ _ z => z⟩
    refine ⟨Γ, G1, Rl.ext x1, k1.bind.mono (fun e G2 H2 e2 x2 k2 u t2 => ?_) fun _ _ _ z => z⟩
    unfold rng2 at k2
    split at k2
    · split at k2
      · rename_i hz
        have hz := blk_of hz
        cases t1.int
        cases t2.int
        exact ⟨_, _, rfl, hz, KRe.here x2.le k2 _ (it_rng _ _)⟩
      · exact k2.elim
    · exact k2.elim
  · cases h⟩
end
end RJ

set_option Elab.async false
set_option linter.all false
set_option maxRecDepth 100000
set_option maxHeartbeats 1000000
set_option autoImplicit false
/-! RjG: list comprehensions. -/
namespace RJ
open PySem PySem.Spec L2

def Sc.blk (c : Sc) (scope : Scope) : Sc := { c with sc := relS scope c.sc, fn := fun x => scope.names.lookup x == some .cell }
theorem takesN0 {X : Cx} : L2N.Takes X (fun _ _ _ _ => False) := fun _ _ ⟨_, _, _, _, _, _, _, _, _, _, _, _, _, _, _, _, z⟩ => z.elim
theorem XOk.blk {T : Tbl} {X : Cx} {W : WX} {c : Sc} (o : XOk T X W c) (s : Shared) (H : Hp) (scope : Scope) (C : Addr) (cl : List (Str × Addr)) (fp : List Addr) :
    XOk T (X.blk s H scope (compEnvC scope cl C X.env) fp) (fun _ _ _ _ => False) (c.blk scope) where
  N := o.N
  sc := by
    show relS scope X.env.scope = relS scope c.sc
    rw [o.sc]
  fn := rfl
  nd := o.nd
  calm := o.calm
  tk := takesN0
  room := o.room
  fns := o.fns
  blt := o.blt
  ci := o.ci
  cs := o.cs
  cb := o.cb
  pass := PassesOwn.never
  dig := o.dig
  xk := o.xk
def okO {α : Type} : Re α → Option α
  | .ok a => some a
  | _ => none
theorem okO_some {α : Type} {r : Re α} {a : α} (h : okO r = some a) : r = .ok a := by
  cases r with
  | ok b =>
    cases h
    rfl
  | _ => cases h
theorem Ext.priv2 {G H G' H' : Hp} (x : Ext G H G' H') {p : Addr} {o : HO} (h : H p = none) (g : G' p = none) : Ext G H G' (upd H' p o) :=
  ⟨x.g, fun b u e => by rw [upd_ne (ne_of_none e h)]; exact x.h b u e, fun b u e => by rw [upd_ne (ne_of_none e g)]; exact x.le b u e, x.new⟩
theorem Ext.noG {G H G' H' : Hp} (x : Ext G H G' H') {p : Addr} {ys : List V} (g : G p = none) (h : H p = some (.lst ys)) : G' p = none := by
  cases q : G' p with
  | none => rfl
  | some u =>
    rcases x.new p u q g with z | ⟨xs, z⟩
    · rw [h] at z
      cases z
    · subst z
      have h1 := x.h _ _ h
      rw [x.le _ _ q] at h1
      cases h1
theorem wipe_in {σ : L2.St} {i : Nat} : ∀ {vs : List Nat}, i ∈ vs → i < σ.length → (wipe σ vs)[i]? = some none
  | v :: vs, h, hl => by
    unfold wipe
    by_cases hi : v = i
    · subst hi
      exact List.getElem?_set_self (by rw [wipe_length]; exact hl)
    · rw [List.getElem?_set_ne hi]
      rcases List.mem_cons.mp h with z | z
      · exact absurd z.symm hi
      · exact wipe_in z hl
theorem wipe_eq {σ σ' : L2.St} {vs ws : List Nat} (hl : σ'.length = (wipe σ vs).length) (h : ∀ j, j ∉ ws → σ'[j]? = (wipe σ vs)[j]?) (hw : ∀ j ∈ ws, j ∈ vs) : wipe σ' vs = wipe σ vs := by
  rw [wipe_length] at hl
  refine List.ext_getElem? fun j => ?_
  by_cases hj : j ∈ vs
  · by_cases hlt : j < σ.length
    · rw [wipe_in hj hlt, wipe_in hj (by rw [hl]; exact hlt)]
    · rw [List.getElem?_eq_none (by rw [wipe_length]; omega), List.getElem?_eq_none (by rw [wipe_length]; omega)]
  · rw [wipe_out hj, h j fun m => hj (hw j m)]
section
variable {T : Tbl}
def denC : Option (TC T) → En → Re Bool
  | none, _ => .ok true
  | some t, Γ => t.den Γ
def lcGo (tg : D → En → Re En) (ct : En → Re Bool) (el : En → Re D) (vs : List Nat) : List D → En → Option (List D)
  | [], _ => some []
  | d :: r, Γ => (okO (tg d (wipeE Γ vs))).bind fun Γ2 => (okO (ct Γ2)).bind fun b =>
    if b = true then (okO (el Γ2)).bind fun y => (lcGo tg ct el vs r Γ).map (y :: ·) else lcGo tg ct el vs r Γ
def denLc (it : IC T) (tg : GC T) (ct : Option (TC T)) (el : EC T) (vs : List Nat) : En → Re D := fun Γ => (it.den Γ).bind fun ds => if ds.length ≤ sizeLine then (match lcGo tg.den (denC ct) el.den vs ds Γ with
  | some ys => .ok (.lst ys)
  | none => .no) else .no
def tYesOr (M : Mw) (G0 H0 : Hp) : Option (TC T) → TT
  | none => tYes
  | some t => TTv M G0 H0 (fun _ _ _ _ => False) t.den
theorem yes_of {M : Mw} {G0 H0 : Hp} {ct : Option (TC T)} {Γ : En} {G H : Hp} {σ : L2.St} {Q : Bool → Hp → Prop} {b : Bool} (R : Rel M G0 H0 Γ σ G H) (e : denC ct Γ = .ok b) (h : ∀ G' H', Ext G H G' H' → Q b H') : tYesOr M G0 H0 ct σ H Q := by
  cases ct with
  | none =>
    cases e
    exact h G H R.refl
  | some t =>
    refine ⟨Γ, G, R, ?_⟩
    have e : t.den Γ = .ok b := e
    rw [e]
    exact h
theorem lc_read {M : Mw} {G0 H0 : Hp} {W : WX} {it : IC T} {tg : GC T} {ct : Option (TC T)} {el : EC T} {vs : List Nat} (hw : ∀ j ∈ tg.ws, j ∈ vs) {σ : L2.St} {H : Hp} {Q : VK} (h : TFv M G0 H0 W (denLc it tg ct el vs) σ H Q) :
    tLc (TIv M G0 H0 W it.den) (TGv M G0 H0 tg.ws tg.den) (tYesOr M G0 H0 ct) (TEv M G0 H0 (fun _ _ _ _ => False) el.den) vs σ H Q := by
  obtain ⟨Γ, G, R, k⟩ := h
  refine ⟨Γ, G, R, k.bind.mono (fun ds G1 H1 e1 x1 k1 J hJ Dd hD => ?_) fun _ _ _ z => z⟩
  have R1 := R.ext x1
  by_cases hz : ds.length ≤ sizeLine
  · rw [if_pos hz] at k1
    cases hys : lcGo tg.den (denC ct) el.den vs ds Γ with
    | none =>
      rw [hys] at k1
      exact k1.elim
    | some ys =>
      rw [hys] at k1
      have hna : ∀ (i : Nat) d, Γ[i]? = some (.own d) → σ[i]? ≠ some (some (.ref Dd)) := fun i d e1 e2 => by
        obtain ⟨x, e3, a, e4, _, _, ct⟩ := R1.slot i _ e1
        rw [e2] at e3
        cases e3
        cases e4
        obtain ⟨o, ho⟩ := ct.there
        rw [hD] at ho
        cases ho
      have h0D : H0 Dd = none := R1.base.free hD
      refine ⟨fun i m H => m = ds.length - i ∧ i ≤ ds.length ∧ ∃ G acc vacc, Rel M G0 H0 Γ σ G H ∧ Ext G1 H1 G H ∧ G Dd = none ∧ H Dd = some (.lst vacc) ∧ RepL M G vacc acc ∧ acc.length ≤ i ∧ (lcGo tg.den (denC ct) el.den vs (ds.drop i) Γ).map (acc ++ ·) = some ys,
        ⟨ds.length, by simp, Nat.zero_le _, G1, [], [], R1.aside (x1.le.free hD) h0D hna, Ext.priv x1.le hD, x1.le.free hD, upd_same, .nil, Nat.le_refl _, by rw [List.drop_zero, hys]; rfl⟩, ?_⟩
      rintro i m H2 ⟨rfl, hi, G2, acc, vacc, R2, x2, n2, d2, r2, l2, e2⟩
      by_cases hlt : i < ds.length
      · refine .inr ⟨hJ.go i G2 H2 x2.g R2.le hlt, fun H' => ∃ G acc vacc, Rel M G0 H0 Γ σ G H' ∧ Ext G1 H1 G H' ∧ G Dd = none ∧ H' Dd = some (.lst vacc) ∧ RepL M G vacc acc ∧ acc.length ≤ i + 1 ∧ (lcGo tg.den (denC ct) el.den vs (ds.drop (i + 1)) Γ).map (acc ++ ·) = some ys, fun H' q => ⟨ds.length - (i + 1), by omega, rfl, hlt, q⟩, fun x H3 hy => ?_⟩
        have hd : ds[i]? = some ds[i] := List.getElem?_eq_getElem hlt
        obtain ⟨G3, x3, r3⟩ := hJ.yld i G2 H2 x H3 _ x2.g R2.le hd hy
        rw [List.drop_eq_getElem_cons hlt] at e2
        unfold lcGo at e2
        obtain ⟨zs, e4, e5⟩ := Option.map_eq_some_iff.mp e2
        obtain ⟨Γ2, e6, e7⟩ := Option.bind_eq_some_iff.mp e4
        obtain ⟨b, e8, e9⟩ := Option.bind_eq_some_iff.mp e7
        have R3 := R2.ext x3
        refine ⟨wipeE Γ vs, G3, _, R3.wipe vs, r3, ?_⟩
        rw [okO_some e6]
        intro σ4 R4 l4 w4
        refine ⟨wipe_eq l4 w4 hw, yes_of R4 (okO_some e8) fun G5 H5 x5 => ?_⟩
        cases b with
        | true =>
          rw [if_pos rfl] at e9 ⊢
          obtain ⟨y, e10, e11⟩ := Option.bind_eq_some_iff.mp e9
          obtain ⟨us, e12, e13⟩ := Option.map_eq_some_iff.mp e11
          refine ⟨Γ2, G5, R4.ext x5, ?_⟩
          rw [okO_some e10]
          intro G6 H6 x6 v r6
          have x26 := x3.trans (x5.trans x6)
          have d6 := x26.h _ _ d2
          refine ⟨vacc, d6, by rw [r2.length]; omega, G6, acc ++ [y], vacc ++ [v], (R2.ext x26).aside (x26.noG n2 d2) h0D hna, (x2.trans x26).priv2 hD (x26.noG n2 d2), x26.noG n2 d2, upd_same, (r2.mono x26.g).append (.cons r6 .nil), by rw [List.length_append, List.length_singleton]; omega, ?_⟩
          rw [e12, Option.map_some]
          subst e13 e5
          rw [List.append_assoc]
          rfl
        | false =>
          rw [if_neg Bool.false_ne_true] at e9 ⊢
          have x25 := x3.trans x5
          refine ⟨G5, acc, vacc, R2.ext x25, x2.trans x25, x25.noG n2 d2, x25.h _ _ d2, r2.mono x25.g, by omega, ?_⟩
          rw [e9, Option.map_some, e5]
      · have ei : i = ds.length := by omega
        subst ei
        refine .inl ⟨hJ.stop _ G2 H2 x2.g R2.le (Nat.le_refl _), ?_⟩
        rw [List.drop_length] at e2
        unfold lcGo at e2
        rw [Option.map_some, List.append_nil] at e2
        cases e2
        exact k1 G2 H2 x2 Dd (x1.h.free hD) n2 ⟨vacc, d2, r2⟩
  · rw [if_neg hz] at k1
    exact k1.elim
def mtIfs : Option (TC T) → Sc → List Expr → Bool
  | none, _, [] => true
  | some t, c, [e] => t.mt c e
  | _, _, _ => false
theorem ifs_ok {X : Cx} {W : WX} {c : Sc} (o : XOk T X W c) (G0 H0 : Hp) (scope : Scope) : ∀ (ct : Option (TC T)) (ifs : List Expr), mtIfs ct (c.blk scope) ifs = true → ∀ (s : Shared) (H : Hp) (C : Addr) (cl : List (Str × Addr)) (fp : List Addr), PTs (X.blk s H scope (compEnvC scope cl C X.env) fp) ifs (tYesOr (mw X) G0 H0 ct)
  | none, [], _ => fun _ _ _ _ _ => pts_nil
  | some t, [e], h => fun s H C cl fp => pts_one (t.ok (o.blk s H scope C cl fp) h G0 H0)
  | none, _ :: _, h => by cases h
  | some _, [], h => by cases h
  | some _, _ :: _ :: _, h => by cases h
def mtLc (own : List (Str × Nat)) (it : IC T) (tg : GC T) (ct : Option (TC T)) (el : EC T) (c : Sc) (e : Expr) : Bool := match e with
  | .ListComp x [⟨t, i, ifs, 0⟩] scope _ => it.mt c t i && tg.mt (c.blk scope) t && mtIfs ct (c.blk scope) ifs && el.mt (c.blk scope) x && blkC c.N c.sc scope own && tg.ws.all (fun j => decide (j ∈ own.map (·.2))) && notSet i
  | _ => false
theorem fold_ok {i : Expr} {env : Env} (h : notSet i = true) (x : Value) : foldedSetIterable i env x = pure x := by
  cases i <;> first | rfl | cases h
/-- [el for tg in it if ct]; own: the names of its block, each with its slot -/
def fcLc (own : List (Str × Nat)) (it : IC T) (tg : GC T) (ct : Option (TC T)) (el : EC T) : FC T := ⟨mtLc own it tg ct el, denLc it tg ct el (own.map (·.2)), fun {X W c e} o h G0 H0 => by
  unfold mtLc at h
  split at h
  · rename_i x t i ifs scope p
    simp only [Bool.and_eq_true, List.all_eq_true, decide_eq_true_eq] at h
    obtain ⟨⟨⟨⟨⟨⟨h1, h2⟩, h3⟩, h4⟩, h5⟩, h6⟩, h7⟩ := h
    refine (pe_lc (own := own) o.calm o.nd (it.ok o h1 G0 H0) (blkOk_by (by rw [o.N, o.sc]; exact h5)) (fun s H C cl fp => tg.ok (o.blk s H scope C cl fp) h2 G0 H0) (ifs_ok o G0 H0 scope ct ifs h3) (fun s H C cl fp => el.ok (o.blk s H scope C cl fp) h4 G0 H0) (fold_ok h7)).weak fun σ H Q => lc_read h6
  · cases h⟩
end
end RJ

set_option Elab.async false
set_option linter.all false
set_option maxRecDepth 100000
set_option maxHeartbeats 1000000
set_option autoImplicit false
/-! RjH: statements, blocks, defs. -/
namespace RJ
open PySem PySem.Spec L2

inductive SR where
  | nx (Γ : En) | rt (d : D) | bk (Γ : En) | ct (Γ : En) | ex (e : Ex) (Γ : En) | no
def Re.st {α : Type} (r : Re α) (Γ : En) (f : α → SR) : SR := match r with
  | .ok a => f a
  | .ex e => .ex e Γ
  | .no => .no
def SR.seq (r : SR) (f : En → SR) : SR := match r with
  | .nx Γ => f Γ
  | r => r
def KSt (M : Mw) (G0 H0 G : Hp) (D : Ends) (W : WX) : SR → Prop
  | .nx Γ => ∀ σ G' H', Same G G' → Rel M G0 H0 Γ σ G' H' → D.nx σ H'
  | .rt d => ∀ v G' H', Same G G' → Ext G0 H0 G' H' → Rep M G' v d → D.rt v H'
  | .bk Γ => ∀ σ G' H', Same G G' → Rel M G0 H0 Γ σ G' H' → D.bk σ H'
  | .ct Γ => ∀ σ G' H', Same G G' → Rel M G0 H0 Γ σ G' H' → D.ct σ H'
  | .ex e Γ => ∀ cls dd σ G' H', Same G G' → Rel M G0 H0 Γ σ G' H' → RepX M G' cls dd e → W cls dd σ H'
  | .no => False
def TSv (M : Mw) (G0 H0 : Hp) (W : WX) (f : En → SR) : TS := fun D σ H => ∃ Γ G, Rel M G0 H0 Γ σ G H ∧ KSt M G0 H0 G D W (f Γ)
section
variable {M : Mw} {G0 H0 G G' H : Hp} {D : Ends} {W : WX} {Γ : En} {σ : L2.St}
theorem Rel.out (R : Rel M G0 H0 Γ σ G H) : Ext G0 H0 G H := ⟨R.vis, R.base, R.le, R.new⟩
theorem KSt.mono {r : SR} (h : KSt M G0 H0 G D W r) (s : Same G G') : KSt M G0 H0 G' D W r := by
  cases r with
  | nx Γ => exact fun σ G2 H2 s2 => h σ G2 H2 (s.trans s2)
  | rt d => exact fun v G2 H2 s2 => h v G2 H2 (s.trans s2)
  | bk Γ => exact fun σ G2 H2 s2 => h σ G2 H2 (s.trans s2)
  | ct Γ => exact fun σ G2 H2 s2 => h σ G2 H2 (s.trans s2)
  | ex e Γ => exact fun c d σ G2 H2 s2 => h c d σ G2 H2 (s.trans s2)
  | no => exact h
theorem KSt.bind {α : Type} {r : Re α} {f : α → SR} (R : Rel M G0 H0 Γ σ G H) (h : KSt M G0 H0 G D W (r.st Γ f)) : KRe M G H (fun a G' H' => KSt M G0 H0 G' D W (f a)) (fun c dd H' => W c dd σ H') r := by
  cases r with
  | ok a => exact fun G' H' x => KSt.mono h x.g
  | ex e => exact fun c d G' H' x q => h c d σ G' H' x.g (R.ext x) q
  | no => exact h
theorem KSt.seq {r : SR} {g : En → SR} (h : KSt M G0 H0 G D W (r.seq g)) : KSt M G0 H0 G { D with nx := TSv M G0 H0 W g D } W r := by
  cases r with
  | nx Γ => exact fun σ G2 H2 s2 R2 => ⟨Γ, G2, R2, KSt.mono h s2⟩
  | _ => exact h
end
structure SC (T : Tbl) where
  mt : Sc → Stmt → Bool
  den : En → SR
  ok : ∀ {X : Cx} {W : WX} {c : Sc} {e : Stmt}, XOk T X W c → mt c e = true → ∀ G0 H0, PS X e (TSv (mw X) G0 H0 W den)
structure BC (T : Tbl) where
  mt : Sc → List Stmt → Bool
  den : En → SR
  ok : ∀ {X : Cx} {W : WX} {c : Sc} {e : List Stmt}, XOk T X W c → mt c e = true → ∀ G0 H0, PSs X e (TSv (mw X) G0 H0 W den)
section
variable {T : Tbl}
def bNil : BC T := ⟨fun _ es => match es with
  | [] => true
  | _ => false, SR.nx, fun {X W c e} o h G0 H0 => by
  split at h
  · refine pss_nil.weak fun D σ H => ?_
    rintro ⟨Γ, G, R, k⟩
    exact k σ G H (Same.refl _) R
  · cases h⟩
def bCons (a : SC T) (r : BC T) : BC T := ⟨fun c es => match es with
  | e :: es => a.mt c e && r.mt c es
  | _ => false, fun Γ => (a.den Γ).seq r.den, fun {X W c e} o h G0 H0 => by
  split at h
  · rw [Bool.and_eq_true] at h
    refine (pss_cons (a.ok o h.1 G0 H0) (r.ok o h.2 G0 H0)).weak fun D σ H => ?_
    rintro ⟨Γ, G, R, k⟩
    exact ⟨Γ, G, R, k.seq⟩
  · cases h⟩
def bList : List (SC T) → BC T
  | [] => bNil
  | a :: r => bCons a (bList r)
/-- a docstring ahead -/
def bDoc (r : BC T) : BC T := ⟨fun c es => match es with
  | .Expr (.Constant (.str _) _ _) _ :: es => r.mt c es
  | _ => false, r.den, fun {X W c e} o h G0 H0 => by
  split at h
  · exact (pss_cons ps_doc (r.ok o h G0 H0)).weak fun D σ H q => q
  · cases h⟩
theorem Rel.share {M : Mw} {G0 H0 G H : Hp} {Γ : En} {σ : L2.St} {i : Nat} {d : D} (R : Rel M G0 H0 Γ σ G H) (e : Γ[i]? = some (.own d)) : ∃ G', Same G G' ∧ Rel M G0 H0 (Γ.set i (.sh d)) σ G' H := by
  obtain ⟨x, e1, a, e2, n, n0, c⟩ := R.slot i _ e
  subst e2
  have key : ∃ G', Same G G' ∧ Same G' H ∧ Rep M G' (.ref a) d ∧ (∀ b, b ≠ a → G' b = G b) := by
    have k2 : ∀ o, H a = some o → Same G (upd G a o) ∧ Same (upd G a o) H := fun o ho => ⟨fun b u q => by rw [upd_ne (ne_of_none q n)]; exact q, fun b u q => by
      by_cases hb : b = a
      · subst hb
        rw [upd_same] at q
        rw [ho, ← q]
      · rw [upd_ne hb] at q
        exact R.le b u q⟩
    cases d with
    | lst ds =>
      obtain ⟨vs, h, r⟩ := c
      obtain ⟨s1, s2⟩ := k2 _ h
      exact ⟨_, s1, s2, .lst upd_same (r.mono s1), fun b hb => upd_ne hb⟩
    | dK ds =>
      obtain ⟨vs, h, r⟩ := c
      obtain ⟨s1, s2⟩ := k2 _ h
      exact ⟨_, s1, s2, .dK upd_same (r.mono s1), fun b hb => upd_ne hb⟩
    | dT ds =>
      obtain ⟨vs, h, r⟩ := c
      obtain ⟨s1, s2⟩ := k2 _ h
      exact ⟨_, s1, s2, .dT upd_same (r.mono s1), fun b hb => upd_ne hb⟩
    | _ => exact c.elim
  obtain ⟨G', s1, s2, r, hb⟩ := key
  refine ⟨G', s1, by rw [List.length_set]; exact R.len, s2, R.base, R.vis.trans s1, fun b o q m => ?_, fun j s q => ?_, fun j k d1 d2 b ne q1 q2 q3 q4 => ?_⟩
  · by_cases hba : b = a
    · subst hba
      exact .inl n0
    · rw [hb b hba] at q
      exact R.new b o q m
  · by_cases hj : j = i
    · subst hj
      have hl : j < Γ.length := by
        have := (List.getElem?_eq_some_iff.mp q).1
        rwa [List.length_set] at this
      rw [List.getElem?_set_self hl] at q
      cases q
      exact ⟨_, e1, _, rfl, r⟩
    · rw [List.getElem?_set_ne (Ne.symm hj)] at q
      obtain ⟨y, f1, f2⟩ := R.slot j s q
      refine ⟨y, f1, ?_⟩
      cases s with
      | no => trivial
      | sh d' =>
        obtain ⟨v, g1, g2⟩ := f2
        exact ⟨v, g1, g2.mono s1⟩
      | own d' =>
        obtain ⟨b, g1, m1, m2, ct⟩ := f2
        subst g1
        have hba : b ≠ a := fun z => by
          subst z
          exact R.sep j i d' d b hj q e f1 e1
        exact ⟨b, rfl, by rw [hb b hba]; exact m1, m2, ct.mono s1 fun o ho => ho⟩
  · by_cases hj : j = i
    · subst hj
      have hl : j < Γ.length := by
        have := (List.getElem?_eq_some_iff.mp q1).1
        rwa [List.length_set] at this
      rw [List.getElem?_set_self hl] at q1
      cases q1
    · by_cases hk : k = i
      · subst hk
        have hl : k < Γ.length := by
          have := (List.getElem?_eq_some_iff.mp q2).1
          rwa [List.length_set] at this
        rw [List.getElem?_set_self hl] at q2
        cases q2
      · rw [List.getElem?_set_ne (Ne.symm hj)] at q1
        rw [List.getElem?_set_ne (Ne.symm hk)] at q2
        exact R.sep j k d1 d2 b ne q1 q2 q3 q4
/-- a ghost: what slot i holds is given out -/
def dFrz (i : Nat) (Γ : En) : En := match Γ[i]? with
  | some (.own d) => Γ.set i (.sh d)
  | _ => Γ
def bFrz (i : Nat) (r : BC T) : BC T := ⟨r.mt, fun Γ => r.den (dFrz i Γ), fun {X W c e} o h G0 H0 => (r.ok o h G0 H0).weak fun D σ H => by
  rintro ⟨Γ, G, R, k⟩
  have k : KSt (mw X) G0 H0 G D W (r.den (dFrz i Γ)) := k
  unfold dFrz at k
  split at k
  · rename_i d hd
    obtain ⟨G', s, R'⟩ := R.share hd
    exact ⟨_, G', R', k.mono s⟩
  · exact ⟨Γ, G, R, k⟩⟩
/-! ### assignments -/
def noComp : Expr → Bool
  | .ListComp .. => false
  | .SetComp .. => false
  | .DictComp .. => false
  | _ => true
theorem swap_no {e : Expr} {t : Option Expr} {l : Nat} {env : Env} (h : noComp e = true) : swapsWith e t l env = pure false := by
  cases e <;> first | rfl | cases h
def mtSet (i : Nat) (f : Sc → Expr → Bool) (c : Sc) (s : Stmt) : Bool := match s with
  | .Assign [.Name x _] e _ => decide (c.N[i]? = some x) && locB c x && f c e && noComp e
  | _ => false
def scSet (i : Nat) (a : EC T) : SC T := ⟨mtSet i a.mt, fun Γ => (a.den Γ).st Γ fun d => .nx (Γ.set i (.sh d)), fun {X W c e} o h G0 H0 => by
  unfold mtSet at h
  split at h
  · simp only [Bool.and_eq_true, decide_eq_true_eq] at h
    obtain ⟨⟨⟨h1, h2⟩, h3⟩, h4⟩ := h
    obtain ⟨l1, l2⟩ := o.loc h2
    refine (ps_set o.nd (by rw [o.N]; exact h1) l1 (a.ok o h3 G0 H0) (swap_no h4) l2).weak fun D σ H => ?_
    rintro ⟨Γ, G, R, k⟩
    refine ⟨Γ, G, R, (KSt.bind R k).mono (fun d G1 H1 e1 x1 k1 v r1 => ?_) fun _ _ _ z => z⟩
    exact k1 _ G1 H1 (Same.refl _) ((R.ext x1).set r1)
  · cases h⟩
theorem Rel.setOwn {M : Mw} {G0 H0 G H G' H' : Hp} {Γ : En} {σ : L2.St} {i : Nat} {d : D} {a : Addr} (R : Rel M G0 H0 Γ σ G H) (x : Ext G H G' H') (n0 : H a = none) (n : G' a = none) (c : Cont M G' H' a d) : Rel M G0 H0 (Γ.set i (.own d)) (σ.set i (some (.ref a))) G' H' := by
  have R' := R.ext x
  have far : ∀ (j : Nat) e, j ≠ i → (Γ.set i (.own d))[j]? = some (.own e) → (σ.set i (some (.ref a)))[j]? = some (some (.ref a)) → False := fun j e hj q1 q2 => by
    rw [List.getElem?_set_ne (Ne.symm hj)] at q1 q2
    obtain ⟨y, f1, b, f2, _, _, ct⟩ := R.slot j _ q1
    rw [q2] at f1
    cases f1
    cases f2
    obtain ⟨u, hu⟩ := ct.there
    rw [n0] at hu
    cases hu
  refine ⟨by rw [List.length_set, List.length_set]; exact R.len, R'.le, R'.base, R'.vis, R'.new, fun j s q => ?_, fun j k d1 d2 b ne q1 q2 q3 q4 => ?_⟩
  · by_cases hj : j = i
    · subst hj
      have hl : j < Γ.length := by
        have := (List.getElem?_eq_some_iff.mp q).1
        rwa [List.length_set] at this
      rw [List.getElem?_set_self hl] at q
      cases q
      exact ⟨_, List.getElem?_set_self (by rw [← R.len]; exact hl), a, rfl, n, R.base.free n0, c⟩
    · rw [List.getElem?_set_ne (Ne.symm hj)] at q
      rw [List.getElem?_set_ne (Ne.symm hj)]
      exact R'.slot j s q
  · by_cases hj : j = i
    · subst hj
      have hb : b = a := by
        have hl : j < σ.length := by
          have := (List.getElem?_eq_some_iff.mp q3).1
          rwa [List.length_set] at this
        rw [List.getElem?_set_self hl] at q3
        cases q3
        rfl
      subst hb
      exact far k d2 (Ne.symm ne) q2 q4
    · by_cases hk : k = i
      · subst hk
        have hb : b = a := by
          have hl : k < σ.length := by
            have := (List.getElem?_eq_some_iff.mp q4).1
            rwa [List.length_set] at this
          rw [List.getElem?_set_self hl] at q4
          cases q4
          rfl
        subst hb
        exact far j d1 ne q1 q3
      · rw [List.getElem?_set_ne (Ne.symm hj)] at q1 q3
        rw [List.getElem?_set_ne (Ne.symm hk)] at q2 q4
        exact R.sep j k d1 d2 b ne q1 q2 q3 q4
def scSetF (i : Nat) (a : FC T) : SC T := ⟨mtSet i a.mt, fun Γ => (a.den Γ).st Γ fun d => .nx (Γ.set i (.own d)), fun {X W c e} o h G0 H0 => by
  unfold mtSet at h
  split at h
  · simp only [Bool.and_eq_true, decide_eq_true_eq] at h
    obtain ⟨⟨⟨h1, h2⟩, h3⟩, h4⟩ := h
    obtain ⟨l1, l2⟩ := o.loc h2
    refine (ps_set o.nd (by rw [o.N]; exact h1) l1 (a.ok o h3 G0 H0) (swap_no h4) l2).weak fun D σ H => ?_
    rintro ⟨Γ, G, R, k⟩
    refine ⟨Γ, G, R, (KSt.bind R k).mono (fun d G1 H1 e1 x1 k1 b n0 n ct => ?_) fun _ _ _ z => z⟩
    exact k1 _ G1 H1 (Same.refl _) (R.setOwn x1 n0 n ct)
  · cases h⟩
/-- name = [.. for ..], one's own -/
def scSetLc (i : Nat) (own : List (Str × Nat)) (it : IC T) (tg : GC T) (ct : Option (TC T)) (el : EC T) : SC T := ⟨fun c s => match s with
  | .Assign [.Name y py] (.ListComp x [⟨t, j, ifs, 0⟩] scope pos) spos => decide (c.N[i]? = some y) && decide (c.sc.names.lookup y = some .local) && mtLc own it tg ct el c (.ListComp x [⟨t, j, ifs, 0⟩] scope pos) && decide (c.sc.kind = .function) && (py.line == pos.line) && !(scope.names.any fun (n, k) => n == y && (k == .local || k == .cell))
  | _ => false, fun Γ => (denLc it tg ct el (own.map (·.2)) Γ).st Γ fun d => .nx (Γ.set i (.own d)), fun {X W c e} o h G0 H0 => by
  split at h
  · rename_i y py x t j ifs scope pos spos
    simp only [Bool.and_eq_true, decide_eq_true_eq, Bool.not_eq_true'] at h
    obtain ⟨⟨⟨⟨⟨g1, g2⟩, h⟩, g3⟩, g4⟩, g5⟩ := h
    unfold mtLc at h
    simp only [Bool.and_eq_true, List.all_eq_true, decide_eq_true_eq] at h
    obtain ⟨⟨⟨⟨⟨⟨h1, h2⟩, h3⟩, h4⟩, h5⟩, h6⟩, h7⟩ := h
    refine (ps_setLc (own := own) (wi := TIv (mw X) G0 H0 W it.den) (g := TGv (mw X) G0 H0 tg.ws tg.den) (tt := tYesOr (mw X) G0 H0 ct) (te := TEv (mw X) G0 H0 (fun _ _ _ _ => False) el.den) o.calm o.nd (by rw [o.N]; exact g1) (by rw [o.sc]; exact g2) (sw_true (by rw [o.sc]; exact g3) (by rw [o.sc]; exact g2) g4 g5) (it.ok o h1 G0 H0) (blkOk_by (by rw [o.N, o.sc]; exact h5)) (fun s H C cl fp => tg.ok (o.blk s H scope C cl fp) h2 G0 H0) (ifs_ok o G0 H0 scope ct ifs h3) (fun s H C cl fp => el.ok (o.blk s H scope C cl fp) h4 G0 H0) (fold_ok h7)).weak fun D σ H => ?_
    rintro ⟨Γ, G, R, k⟩
    refine lc_read h6 ⟨Γ, G, R, (KSt.bind R k).mono (fun d G1 H1 e1 x1 k1 b n0 n ct => ?_) fun _ _ _ z => z⟩
    exact k1 _ G1 H1 (Same.refl _) (R.setOwn x1 n0 n ct)
  · cases h⟩
theorem sole_no {t e : Expr} {l : Nat} {env : Env} (h : noComp e = true) : swapsWithSole [t] e l env = pure false := swap_no h
def noTup : Expr → Bool
  | .Tuple .. => false
  | _ => true
theorem stores_no {t e : Expr} {env : Env} (h : noTup e = true) : swappedStores [t] e env = pure none := by
  cases e <;> first | (cases t <;> rfl) | cases h
theorem assign_sole {t : Expr} {env : Env} (h : plainE t = true) : (assignEach [t] env).map (·.2) = [assign t env] := by
  rw [assign_cons h]
  rfl
def noName : Expr → Bool
  | .Name .. => false
  | _ => true
def tgS : Re En → SR
  | .ok Γ => .nx Γ
  | _ => .no
theorem tgS_ok {M : Mw} {G0 H0 G H : Hp} {D : Ends} {W : WX} {σ : L2.St} {ws : List Nat} {r : Re En} (k : KSt M G0 H0 G D W (tgS r)) : KG M G0 H0 ws σ G H D.nx r := by
  cases r with
  | ok Γ2 => exact fun σ2 R2 _ _ => k σ2 G H (Same.refl _) R2
  | _ => exact k.elim
/-- a, b = e -/
def scTgt (tg : GC T) (a : EC T) : SC T := ⟨fun c s => match s with
  | .Assign [t] e _ => plainE t && tg.mt c t && a.mt c e && noComp e && noTup e
  | _ => false, fun Γ => (a.den Γ).st Γ fun d => tgS (tg.den d Γ), fun {X W c e} o h G0 H0 => by
  split at h
  · simp only [Bool.and_eq_true] at h
    obtain ⟨⟨⟨⟨h1, h2⟩, h3⟩, h4⟩, h5⟩ := h
    refine (ps_asg (a.ok o h3 G0 H0) (tg.ok o h2 G0 H0) (sole_no h4) (stores_no h5) (assign_sole h1)).weak fun D σ H => ?_
    rintro ⟨Γ, G, R, k⟩
    refine ⟨Γ, G, R, (KSt.bind R k).mono (fun d G1 H1 e1 x1 k1 v r1 => ?_) fun _ _ _ z => z⟩
    exact ⟨Γ, G1, d, R.ext x1, r1, tgS_ok k1⟩
  · cases h⟩
/-! ### things changed -/
theorem Rel.own_at {M : Mw} {G0 H0 G H : Hp} {Γ : En} {σ : L2.St} {i : Nat} {d : D} (R : Rel M G0 H0 Γ σ G H) (e : Γ[i]? = some (.own d)) : ∃ a, σ[i]? = some (some (.ref a)) ∧ G a = none ∧ H0 a = none ∧ Cont M G H a d := by
  obtain ⟨x, e1, a, e2, n, n0, c⟩ := R.slot i _ e
  subst e2
  exact ⟨a, e1, n, n0, c⟩
/-- one's own object is changed -/
theorem Rel.write {M : Mw} {G0 H0 G H : Hp} {Γ : En} {σ : L2.St} {i : Nat} {d d' : D} {a : Addr} {o : HO} (R : Rel M G0 H0 Γ σ G H) (e : Γ[i]? = some (.own d)) (e1 : σ[i]? = some (some (.ref a))) (c : ∀ H', H' a = some o → Cont M G H' a d') : Rel M G0 H0 (Γ.set i (.own d')) σ G (upd H a o) := by
  obtain ⟨a', e2, n, n0, c0⟩ := R.own_at e
  rw [e1] at e2
  cases e2
  refine ⟨by rw [List.length_set]; exact R.len, fun b u q => by rw [upd_ne (ne_of_none q n)]; exact R.le b u q, fun b u q => by rw [upd_ne (ne_of_none q n0)]; exact R.base b u q, R.vis, R.new, fun j s q => ?_, fun j k d1 d2 b ne q1 q2 q3 q4 => ?_⟩
  · by_cases hj : j = i
    · subst hj
      have hl : j < Γ.length := by
        have := (List.getElem?_eq_some_iff.mp q).1
        rwa [List.length_set] at this
      rw [List.getElem?_set_self hl] at q
      cases q
      exact ⟨_, e1, a, rfl, n, n0, c _ upd_same⟩
    · rw [List.getElem?_set_ne (Ne.symm hj)] at q
      obtain ⟨y, f1, f2⟩ := R.slot j s q
      refine ⟨y, f1, ?_⟩
      cases s with
      | no => trivial
      | sh d => exact f2
      | own d2 =>
        obtain ⟨b, g1, m1, m2, ct⟩ := f2
        subst g1
        have hba : b ≠ a := fun z => by
          subst z
          exact R.sep j i d2 d b hj q e f1 e1
        exact ⟨b, rfl, m1, m2, ct.mono (Same.refl _) fun u hu => by rw [upd_ne hba]; exact hu⟩
  · have hs : ∀ (m : Nat) s, (Γ.set i (.own d'))[m]? = some (.own s) → ∃ s', Γ[m]? = some (.own s') := fun m s q => by
      by_cases hm : m = i
      · subst hm
        exact ⟨d, e⟩
      · rw [List.getElem?_set_ne (Ne.symm hm)] at q
        exact ⟨s, q⟩
    obtain ⟨s1, q1'⟩ := hs j d1 q1
    obtain ⟨s2, q2'⟩ := hs k d2 q2
    exact R.sep j k s1 s2 b ne q1' q2' q3 q4
/-- x.append(e) -/
def dApp (i : Nat) (a : En → Re D) (Γ : En) : SR := match Γ[i]? with
  | some (.own (.lst ds)) => (a Γ).st Γ fun d => if ds.length < sizeLine then .nx (Γ.set i (.own (.lst (ds ++ [d])))) else .no
  | _ => .no
def scApp (i : Nat) (a : EC T) : SC T := ⟨fun c s => match s with
  | .Expr (.Call (.Attribute (.Name x p) m apos) [e] [] pos) _ => mtName i c (.Name x p) && decide (m = "append") && a.mt c e && plainE e && (apos.endLine == pos.line)
  | _ => false, dApp i a.den, fun {X W c e} o h G0 H0 => by
  split at h
  · rename_i x p m apos e pos spos
    simp only [Bool.and_eq_true, decide_eq_true_eq] at h
    obtain ⟨⟨⟨⟨h1, rfl⟩, h2⟩, h3⟩, h4⟩ := h
    refine (ps_expr (pe_bm PySem.F.plainAttrs_list PySem.F.slot_list_append PySem.F.type_list_append mt_append (mtName_pe o h1) (pa_cons (a.ok o h2 G0 H0) pa_nil (star_cons h3)) (attrBase_ok rfl) (by rw [star1 h3] <;> rfl) h4 (star_cons h3) rfl) (swap_no rfl)).weak fun D σ H => ?_
    rintro ⟨Γ, G, R, k⟩
    unfold dApp at k
    split at k
    · rename_i ds hi
      obtain ⟨b, e1, n, n0, vs, hb, rl⟩ := R.own_at hi
      refine ⟨.ref b, e1, .inl ⟨rfl, vs, .of hb⟩, Γ, G, R, (KSt.bind R k).mono (fun d G1 H1 e2 x1 k1 v r1 => ?_) fun _ _ _ z => z⟩
      by_cases hz : ds.length < sizeLine
      · rw [if_pos hz] at k1
        have hb1 := x1.h _ _ hb
        refine ⟨b, vs, v, rfl, rfl, hb1, by rw [rl.length]; exact hz, ?_⟩
        exact k1 σ G1 _ (Same.refl _) ((R.ext x1).write hi e1 fun H' hH => ⟨_, hH, (rl.mono x1.g).append (.cons r1 .nil)⟩)
      · rw [if_neg hz] at k1
        exact k1.elim
    · exact k.elim
  · cases h⟩
/-- x[k] = e, x a list -/
def dPutL (i : Nat) (a k : En → Re D) (Γ : En) : SR := match Γ[i]? with
  | some (.own (.lst ds)) => (a Γ).st Γ fun d => (k Γ).st Γ fun kd => match kd with
    | .int n => (match ixN ds.length n with
      | some j => .nx (Γ.set i (.own (.lst (ds.set j d))))
      | none => .no)
    | _ => .no
  | _ => .no
theorem sub_plain {o i : Expr} {pos : Pos} {env : Env} (h : noSlice i = true) (v : Value) : assign (.Subscript o i pos) env v = (do
      let ov ← holding [v] (eval o env)
      let iv ← holding [v, ov] (eval i env)
      standAt pos
      holding [v, ov, iv] (setItem ov iv v)
      release [v, ov, iv] []) := by
  cases i <;> first | rfl | cases h
def mtPut (i : Nat) (k a : Sc → Expr → Bool) (c : Sc) (s : Stmt) : Bool := match s with
  | .Assign [.Subscript o x _] e _ => mtName i c o && k c x && a c e && noComp e && noTup e && noSlice x
  | _ => false
def scPutL (i : Nat) (kk : OC T) (a : EC T) : SC T := ⟨mtPut i kk.mt a.mt, dPutL i a.den kk.den, fun {X W c e} o h G0 H0 => by
  unfold mtPut at h
  split at h
  · simp only [Bool.and_eq_true] at h
    obtain ⟨⟨⟨⟨⟨h1, h2⟩, h3⟩, h4⟩, h5⟩, h6⟩ := h
    refine (ps_asg (a.ok o h3 G0 H0) (pg_sub (mtName_pe o h1) (kk.ok o h2 G0 H0) set_list (sub_plain h6)) (sole_no h4) (stores_no h5) (assign_sole rfl)).weak fun D σ H => ?_
    rintro ⟨Γ, G, R, k⟩
    unfold dPutL at k
    split at k
    · rename_i ds hi
      obtain ⟨b, e1, n, n0, vs, hb, rl⟩ := R.own_at hi
      refine ⟨Γ, G, R, (KSt.bind R k).mono (fun d G1 H1 e2 x1 k1 v r1 => ?_) fun _ _ _ z => z⟩
      have R1 := R.ext x1
      refine ⟨.ref b, e1, Γ, G1, R1, (KSt.bind R1 k1).mono (fun kd G2 H2 e3 x2 k2 y t2 => ?_) fun _ _ _ z => z⟩
      split at k2
      · rename_i m
        split at k2
        · rename_i j hj
          cases t2.int
          have x12 := x1.trans x2
          refine ⟨b, vs, m, j, rfl, rfl, x12.h _ _ hb, by rw [rl.length]; exact hj, ?_⟩
          exact k2 σ G2 _ (Same.refl _) ((R.ext x12).write hi e1 fun H' hH => ⟨_, hH, RepL.set (r1.mono x2.g) j (rl.mono x12.g)⟩)
        · exact k2.elim
      · exact k2.elim
    · exact k.elim
  · cases h⟩
/-- x[k] = e, x a dict -/
def putG (o : D) (k d : D) : Option D := match o with
  | .dK kvs => (keyD k).bind fun q => if kvs.length < sizeLine then some (.dK (putD kvs q d)) else none
  | .dT kvs => (keyT k).bind fun q => if kvs.length < sizeLine then some (.dT (putD kvs q d)) else none
  | _ => none
def dPutD (i : Nat) (a k : En → Re D) (Γ : En) : SR := match Γ[i]? with
  | some (.own o) => (a Γ).st Γ fun d => (k Γ).st Γ fun kd => match putG o kd d with
    | some o' => .nx (Γ.set i (.own o'))
    | none => .no
  | _ => .no
def scPutD (i : Nat) (kk a : EC T) : SC T := ⟨mtPut i kk.mt a.mt, dPutD i a.den kk.den, fun {X W c e} o h G0 H0 => by
  unfold mtPut at h
  split at h
  · simp only [Bool.and_eq_true] at h
    obtain ⟨⟨⟨⟨⟨h1, h2⟩, h3⟩, h4⟩, h5⟩, h6⟩ := h
    refine (ps_dput (hu_of o.room) (mtName_pe o h1) (kk.ok o h2 G0 H0) (a.ok o h3 G0 H0) (swap_no h4)).weak fun D σ H => ?_
    rintro ⟨Γ, G, R, k⟩
    unfold dPutD at k
    split at k
    · rename_i d0 hi
      obtain ⟨b, e1, n, n0, ct⟩ := R.own_at hi
      refine ⟨Γ, G, R, (KSt.bind R k).mono (fun d G1 H1 e2 x1 k1 v r1 => ?_) fun _ _ _ z => z⟩
      have R1 := R.ext x1
      refine ⟨.ref b, e1, Γ, G1, R1, (KSt.bind R1 k1).mono (fun kd G2 H2 e3 x2 k2 y r2 => ?_) fun _ _ _ z => z⟩
      have x12 := x1.trans x2
      split at k2
      · rename_i o' ho
        cases d0 with
        | dK kvs =>
          obtain ⟨ks, hb, rl⟩ := ct
          obtain ⟨q, hq, hq2⟩ := Option.bind_eq_some_iff.mp ho
          by_cases hz : kvs.length < sizeLine
          · rw [if_pos hz] at hq2
            cases hq2
            refine ⟨b, _, rfl, .inl ⟨ks, q, x12.h _ _ hb, keyD_v (H := H2) (.inl r2) hq, by rw [rl.len]; exact hz, rfl⟩, ?_⟩
            exact k2 σ G2 _ (Same.refl _) ((R.ext x12).write hi e1 fun H' hH => ⟨_, hH, (rl.mono x12.g).put (r1.mono x2.g)⟩)
          · rw [if_neg hz] at hq2
            cases hq2
        | dT kvs =>
          obtain ⟨ks, hb, rl⟩ := ct
          obtain ⟨q, hq, hq2⟩ := Option.bind_eq_some_iff.mp ho
          by_cases hz : kvs.length < sizeLine
          · rw [if_pos hz] at hq2
            cases hq2
            cases r2 with
            | @tup p us es hp rp =>
              have eu := keysD_v rp hq
              subst eu
              refine ⟨b, _, rfl, .inr ⟨ks, q, p, x12.h _ _ hb, rfl, x2.le _ _ hp, by rw [rl.len]; exact hz, rfl⟩, ?_⟩
              exact k2 σ G2 _ (Same.refl _) ((R.ext x12).write hi e1 fun H' hH => ⟨_, hH, (rl.mono x12.g).put (r1.mono x2.g)⟩)
            | _ => cases hq
          · rw [if_neg hz] at hq2
            cases hq2
        | _ => cases ho
      · exact k2.elim
    · exact k.elim
  · cases h⟩
/-- {} -/
def fcDk : FC T := ⟨fun _ e => match e with
  | .Dict [] [] _ => true
  | _ => false, fun _ => .ok (.dK []), fun {X W c e} o h G0 H0 => by
  split at h
  · refine pe_dnewK.weak fun σ H Q => ?_
    rintro ⟨Γ, G, R, k⟩
    exact fun p hp => k G _ (Ext.priv R.le hp) p hp (R.le.free hp) ⟨[], upd_same, .nil⟩
  · cases h⟩
def fcDt : FC T := ⟨fun _ e => match e with
  | .Dict [] [] _ => true
  | _ => false, fun _ => .ok (.dT []), fun {X W c e} o h G0 H0 => by
  split at h
  · refine pe_dnewT.weak fun σ H Q => ?_
    rintro ⟨Γ, G, R, k⟩
    exact fun p hp => k G _ (Ext.priv R.le hp) p hp (R.le.free hp) ⟨[], upd_same, .nil⟩
  · cases h⟩
/-! ### ways -/
def scRet (a : EC T) : SC T := ⟨fun c s => match s with
  | .Return (some e) _ => a.mt c e
  | _ => false, fun Γ => (a.den Γ).st Γ .rt, fun {X W c e} o h G0 H0 => by
  split at h
  · refine (ps_ret (a.ok o h G0 H0)).weak fun D σ H => ?_
    rintro ⟨Γ, G, R, k⟩
    exact ⟨Γ, G, R, (KSt.bind R k).mono (fun d G1 H1 e1 x1 k1 v r1 => k1 v G1 H1 (Same.refl _) (R.ext x1).out r1) fun _ _ _ z => z⟩
  · cases h⟩
def scRetN : SC T := ⟨fun _ s => match s with
  | .Return none _ => true
  | _ => false, fun _ => .rt .non, fun {X W c e} o h G0 H0 => by
  split at h
  · refine ps_retN.weak fun D σ H => ?_
    rintro ⟨Γ, G, R, k⟩
    exact k .non G H (Same.refl _) R.out .non
  · cases h⟩
def scBrk : SC T := ⟨fun _ s => match s with
  | .Break _ => true
  | _ => false, .bk, fun {X W c e} o h G0 H0 => by
  split at h
  · refine ps_break.weak fun D σ H => ?_
    rintro ⟨Γ, G, R, k⟩
    exact k σ G H (Same.refl _) R
  · cases h⟩
def scCont : SC T := ⟨fun _ s => match s with
  | .Continue _ => true
  | _ => false, .ct, fun {X W c e} o h G0 H0 => by
  split at h
  · refine ps_continue.weak fun D σ H => ?_
    rintro ⟨Γ, G, R, k⟩
    exact k σ G H (Same.refl _) R
  · cases h⟩
def scPass : SC T := ⟨fun _ s => match s with
  | .Pass _ => true
  | _ => false, .nx, fun {X W c e} o h G0 H0 => by
  split at h
  · refine ps_pass.weak fun D σ H => ?_
    rintro ⟨Γ, G, R, k⟩
    exact k σ G H (Same.refl _) R
  · cases h⟩
/-- an expression for its effect (an error) -/
def scExp (a : EC T) : SC T := ⟨fun c s => match s with
  | .Expr e _ => a.mt c e && noComp e
  | _ => false, fun Γ => (a.den Γ).st Γ fun _ => .nx Γ, fun {X W c e} o h G0 H0 => by
  split at h
  · rw [Bool.and_eq_true] at h
    refine (ps_expr (a.ok o h.1 G0 H0) (swap_no h.2)).weak fun D σ H => ?_
    rintro ⟨Γ, G, R, k⟩
    exact ⟨Γ, G, R, (KSt.bind R k).mono (fun d G1 H1 e1 x1 k1 v r1 => k1 σ G1 H1 (Same.refl _) (R.ext x1)) fun _ _ _ z => z⟩
  · cases h⟩
def scIf (t : TC T) (a b : BC T) : SC T := ⟨fun c s => match s with
  | .If e x y _ => t.mt c e && a.mt c x && b.mt c y
  | _ => false, fun Γ => (t.den Γ).st Γ fun k => if k = true then a.den Γ else b.den Γ, fun {X W c e} o h G0 H0 => by
  split at h
  · simp only [Bool.and_eq_true] at h
    refine (ps_if (t.ok o h.1.1 G0 H0) (a.ok o h.1.2 G0 H0) (b.ok o h.2 G0 H0)).weak fun D σ H => ?_
    rintro ⟨Γ, G, R, k⟩
    refine ⟨Γ, G, R, (KSt.bind R k).mono (fun d G1 H1 e1 x1 k1 => ?_) fun _ _ _ z => z⟩
    cases d with
    | true => exact ⟨Γ, G1, R.ext x1, k1⟩
    | false => exact ⟨Γ, G1, R.ext x1, k1⟩
  · cases h⟩
/-! ### loops -/
def SR.turn (r : SR) (f : En → SR) : SR := match r with
  | .nx Γ => f Γ
  | .ct Γ => f Γ
  | .bk Γ => .nx Γ
  | r => r
def forD (tg : D → En → Re En) (body : En → SR) : List D → En → SR
  | [], Γ => .nx Γ
  | d :: r, Γ => (tgS (tg d Γ)).seq fun Γ1 => (body Γ1).turn (forD tg body r)
theorem KSt.turn {M : Mw} {G0 H0 G : Hp} {D : Ends} {W : WX} {r : SR} {f : En → SR} (h : KSt M G0 H0 G D W (r.turn f)) {N : L2.St → Hp → Prop} (hN : ∀ Γ σ G' H', Same G G' → Rel M G0 H0 Γ σ G' H' → KSt M G0 H0 G' D W (f Γ) → N σ H') : KSt M G0 H0 G { D with nx := N, ct := N, bk := D.nx } W r := by
  cases r with
  | nx Γ => exact fun σ G' H' s R => hN Γ σ G' H' s R (KSt.mono h s)
  | ct Γ => exact fun σ G' H' s R => hN Γ σ G' H' s R (KSt.mono h s)
  | bk Γ => exact h
  | rt d => exact h
  | ex e Γ => exact h
  | no => exact h
def scFor (tg : GC T) (it : IC T) (b : BC T) : SC T := ⟨fun c s => match s with
  | .For t e x [] _ => tg.mt c t && it.mt c t e && b.mt c x && notSet e
  | _ => false, fun Γ => (it.den Γ).st Γ fun ds => forD tg.den b.den ds Γ, fun {X W c e} o h G0 H0 => by
  split at h
  · simp only [Bool.and_eq_true] at h
    obtain ⟨⟨⟨h1, h2⟩, h3⟩, h4⟩ := h
    refine (ps_for o.pass o.calm (it.ok o h2 G0 H0) (tg.ok o h1 G0 H0) (b.ok o h3 G0 H0) (fold_ok h4)).weak fun D σ H => ?_
    rintro ⟨Γ, G, R, k⟩
    refine ⟨Γ, G, R, (KSt.bind R k).mono (fun ds G1 H1 e1 x1 k1 J hJ => ?_) fun _ _ _ z => z⟩
    refine ⟨fun i m σ H => m = ds.length - i ∧ i ≤ ds.length ∧ ∃ Γ G, Rel (mw X) G0 H0 Γ σ G H ∧ Same G1 G ∧ KSt (mw X) G0 H0 G D W (forD tg.den b.den (ds.drop i) Γ), ⟨ds.length, by simp, Nat.zero_le _, Γ, G1, R.ext x1, Same.refl _, by rw [List.drop_zero]; exact k1⟩, ?_⟩
    rintro i m σ2 H2 ⟨rfl, hi, Γ2, G2, R2, s2, k2⟩
    by_cases hlt : i < ds.length
    · refine .inr ⟨hJ.go i G2 H2 s2 R2.le hlt, fun σ' H' => ∃ Γ G, Rel (mw X) G0 H0 Γ σ' G H' ∧ Same G1 G ∧ KSt (mw X) G0 H0 G D W (forD tg.den b.den (ds.drop (i + 1)) Γ), fun σ' H' q => ⟨ds.length - (i + 1), by omega, rfl, hlt, q⟩, fun x H3 hy => ?_⟩
      obtain ⟨G3, x3, r3⟩ := hJ.yld i G2 H2 x H3 _ s2 R2.le (List.getElem?_eq_getElem hlt) hy
      rw [List.drop_eq_getElem_cons hlt] at k2
      unfold forD at k2
      refine ⟨Γ2, G3, _, R2.ext x3, r3, ?_⟩
      have k3 := KSt.mono k2 x3.g
      cases e4 : tg.den ds[i] Γ2 with
      | ok Γ4 =>
        rw [e4] at k3
        have k3 : KSt (mw X) G0 H0 G3 D W ((b.den Γ4).turn (forD tg.den b.den (ds.drop (i + 1)))) := k3
        intro σ4 R4 _ _
        exact ⟨Γ4, G3, R4, KSt.turn k3 fun Γ5 σ5 G5 H5 s5 R5 k5 => ⟨Γ5, G5, R5, s2.trans (x3.g.trans s5), k5⟩⟩
      | ex z =>
        rw [e4] at k3
        exact k3.elim
      | no =>
        rw [e4] at k3
        exact k3.elim
    · have ei : i = ds.length := by omega
      subst ei
      rw [List.drop_length] at k2
      exact .inl ⟨hJ.stop _ G2 H2 s2 R2.le (Nat.le_refl _), k2 σ2 G2 H2 (Same.refl _) R2⟩
  · cases h⟩
def whileD (t : En → Re Bool) (body : En → SR) : Nat → En → SR
  | 0, _ => .no
  | n + 1, Γ => (t Γ).st Γ fun k => if k = true then (body Γ).turn (whileD t body n) else .nx Γ
def scWhile (fuel : En → Nat) (t : TC T) (b : BC T) : SC T := ⟨fun c s => match s with
  | .While e x [] _ => t.mt c e && b.mt c x
  | _ => false, fun Γ => whileD t.den b.den (fuel Γ) Γ, fun {X W c e} o h G0 H0 => by
  split at h
  · rw [Bool.and_eq_true] at h
    refine (ps_while o.pass (t.ok o h.1 G0 H0) (b.ok o h.2 G0 H0)).weak fun D σ H => ?_
    rintro ⟨Γ, G, R, k⟩
    refine ⟨fun m σ H => ∃ Γ G, Rel (mw X) G0 H0 Γ σ G H ∧ KSt (mw X) G0 H0 G D W (whileD t.den b.den m Γ), ⟨fuel Γ, Γ, G, R, k⟩, ?_⟩
    rintro m σ2 H2 ⟨Γ2, G2, R2, k2⟩
    cases m with
    | zero => exact k2.elim
    | succ m =>
      unfold whileD at k2
      refine ⟨Γ2, G2, R2, (KSt.bind R2 k2).mono (fun d G3 H3 e3 x3 k3 => ?_) fun _ _ _ z => z⟩
      cases d with
      | true =>
        rw [if_pos rfl] at k3 ⊢
        refine ⟨fun σ' H' => ∃ Γ G, Rel (mw X) G0 H0 Γ σ' G H' ∧ KSt (mw X) G0 H0 G D W (whileD t.den b.den m Γ), fun σ' H' q => ⟨m, Nat.lt_succ_self m, q⟩, ?_⟩
        exact ⟨Γ2, G3, R2.ext x3, KSt.turn k3 fun Γ5 σ5 G5 H5 s5 R5 k5 => ⟨Γ5, G5, R5, k5⟩⟩
      | false =>
        rw [if_neg Bool.false_ne_true] at k3 ⊢
        exact k3 σ2 G3 H3 (Same.refl _) (R2.ext x3)
  · cases h⟩
end
/-! ### defs -/
def startE (n : Nat) (ds : List D) : En := ds.map Sl.sh ++ List.replicate (n - ds.length) .no
def outS : SR → Re D
  | .nx _ => .ok .non
  | .rt d => .ok d
  | .ex e _ => .ex e
  | _ => .no
def fnDen {T : Tbl} (N : List Str) (b : BC T) (ds : List D) : Re D := outS (b.den (startE N.length ds))
theorem RepL.slots {M : Mw} {G : Hp} : ∀ {vs : List V} {ds : List D} {i : Nat} {d : D}, RepL M G vs ds → ds[i]? = some d → ∃ v, vs[i]? = some v ∧ Rep M G v d := fun r e => r.get e
theorem rel_start {M : Mw} {G H : Hp} {vs : List V} {ds : List D} {N : List Str} (s : Same G H) (r : RepL M G vs ds) : Rel M G H (startE N.length ds) (L2.start N vs) G H := by
  have hl := r.length
  refine ⟨?_, s, Same.refl _, Same.refl _, fun b o e n => (by rw [n] at e; cases e), fun i x e => ?_, fun i j d1 d2 a ne e1 e2 e3 e4 => ?_⟩
  · unfold startE L2.start
    rw [List.length_append, List.length_append, List.length_map, List.length_map, List.length_replicate, List.length_replicate, hl]
  · unfold startE at e
    unfold L2.start
    by_cases hi : i < ds.length
    · rw [List.getElem?_append_left (by rw [List.length_map]; exact hi), List.getElem?_map, List.getElem?_eq_getElem hi] at e
      cases e
      obtain ⟨v, e1, q⟩ := r.get (List.getElem?_eq_getElem hi)
      refine ⟨some v, ?_, v, rfl, q⟩
      rw [List.getElem?_append_left (by rw [List.length_map, hl]; exact hi), List.getElem?_map, e1]
      rfl
    · rw [List.getElem?_append_right (by rw [List.length_map]; omega), List.length_map, List.getElem?_replicate] at e
      split at e
      · rename_i hr
        cases e
        refine ⟨none, ?_, trivial⟩
        rw [List.getElem?_append_right (by rw [List.length_map, hl]; omega), List.length_map, hl, List.getElem?_replicate, if_pos hr]
      · cases e
  · unfold startE at e1
    by_cases hi : i < ds.length
    · rw [List.getElem?_append_left (by rw [List.length_map]; exact hi), List.getElem?_map, List.getElem?_eq_getElem hi] at e1
      cases e1
    · rw [List.getElem?_append_right (by rw [List.length_map]; omega), List.length_map, List.getElem?_replicate] at e1
      split at e1 <;> cases e1
theorem out_ok {M : Mw} {G H : Hp} {Q : VK} {E : XK} {r : SR} (k : KRe M G H (fun d G' H' => ∀ v, Rep M G' v d → Q v H') E (outS r)) : KSt M G H G { nx := fun _ H' => Q .non H', rt := Q } (fun cls dd _ H' => E cls dd H') r := by
  cases r with
  | nx Γ => exact fun σ G' H' s R => k G' H' R.out .non .non
  | rt d => exact fun v G' H' s x q => k G' H' x v q
  | ex e Γ => exact fun c d σ G' H' s R q => k c d G' H' R.out q
  | _ => exact k.elim
/-- THE RULE: a def of the text whose body matches keeps the promise of its meaning -/
theorem def_ok {T : Tbl} {P : Program} {w : World} {K : PySem.W.Frag} {mg : Str → Option Value} {base : Heap} {x qual : Str} {st : Stmt} {f : Addr} {fd : FuncData} {N ps : List Str} {lv : Nat} (F : FunD K x qual (defArgs st) (defBody st) (defScope st) [] [] f fd) (S : FnScope N ps (defScope st)) (b : BC T)
    (hm : b.mt ⟨N, defScope st, lv, fun _ => true⟩ (defBody st) = true) {g : List D → Re D} (hg : ∀ ds, g ds = .no ∨ (ds.length = ps.length ∧ fnDen N b ds = g ds))
    (fns : ∀ h : T.Fn, T.lvl h ≤ lv → Knows T P w K mg base h) (hb : ∀ x ∈ blt, mg x = none) (ci : ∀ x i, (x, i) ∈ T.ci → ∃ t, mg x = some (.int i t)) (cs : ∀ x i, (x, i) ∈ T.cs → ∃ t, mg x = some (.str i t)) (cb : ∀ x i, (x, i) ∈ T.cb → mg x = some (.builtin i)) (dig : base.NoDigits) (xk : T.xok K mg) :
    FnOk P w K mg base (L2N.CX P w) (lv + 1) f fd ps (spOf ⟨K, mg⟩ g) := by
  have hg2 : ∀ {ds : List D} {G H : Hp} {q : D → Hp → Hp → Prop} {E : XK}, KRe (⟨K, mg⟩ : Mw) G H q E (g ds) → ds.length = ps.length ∧ fnDen N b ds = g ds := fun {ds G H q E} k => by
    rcases hg ds with e | e
    · rw [e] at k
      exact k.elim
    · exact e
  refine F.ok (CX := L2N.CX P w) S (fun vs H Q E h => ?_) (fun cdv A outer s H vs Q E hr h => ?_)
  · obtain ⟨ds, G, _, r, k⟩ := h
    rw [r.length, (hg2 k).1]
  · obtain ⟨ds, G, sm, r, k⟩ := h
    have hd := (hg2 k).2
    rw [← hd] at k
    refine ⟨TSv ⟨K, mg⟩ G H (fun cls dd _ H' => E cls dd H') b.den, b.ok (T := T) ⟨rfl, rfl, rfl, S.nd, rfl, L2N.takes_of rfl rfl rfl rfl, hr, fns, hb, ci, cs, cb, passes_of rfl, dig, xk⟩ hm G H, ?_⟩
    exact ⟨_, G, rel_start sm r, out_ok k⟩
end RJ

set_option Elab.async false
set_option linter.all false
set_option maxRecDepth 100000
set_option maxHeartbeats 1000000
set_option autoImplicit false
/-! RjI: sorting: lists of ints, lists of tuples, dicts. -/
namespace RJ
open PySem PySem.Spec L2

/-! ### sorted(x), x any source that is collected -/
section
open PyProof.Rows (seqObj sortedHeap)
variable {prog : Program} {w : World} {A : Around} {E : Value → Shared → Prop} {s : Shared}
theorem sorted_src {r : Addr} {acc : List Value} {ltv : Value → Value → Bool} {Q : Value → Shared → Prop} (O : SrtO.Swo ltv) (hz : acc.length ≤ sizeLine)
    (hcol : ∀ R : List Value → Shared → Prop, (∀ (h' : Heap) (tk : Nat), (∀ b o, s.heap.get? b = some o → h'.get? b = some o) → R acc { s with heap := h', toks := tk }) → wpAny (model prog w) A.in1 (collect (.ref r)) R E s)
    (hS : 2 ≤ acc.length → ∀ (h₁ : Heap) (tk : Nat) (a : Addr), h₁.get? a = some (seqObj "list" acc.toArray 0) → (∀ b o, s.heap.get? b = some o → b ≠ a ∧ h₁.get? b = some o) → SrtO.SortableO prog w A.in1.in1 { s with heap := h₁, toks := tk } a acc ltv)
    (h : ∀ (h' h2 : Heap) (tk : Nat) (out : List Value), SrtO.Srtd ltv out → SrtO.Stb ltv out acc → (∀ b o, s.heap.get? b = some o → h'.get? b = some o) → (∀ b o, h'.get? b = some o → h2.get? b = some o) → (∃ n, h2.get? h'.objs.size = some (seqObj "list" out.toArray n)) → Q (.ref h'.objs.size) { s with heap := h2, toks := tk }) :
    wpAny (model prog w) A (call (.builtin "sorted") [.ref r]) Q E s := by
  refine Calls.call_function_entry PyProof.Rows.kind_sorted PyProof.Rows.plain_sorted PyProof.Rows.entry_sorted (PyProof.Rows.args_sorted1 _) ?_
  unfold Builtin.«sorted»
  refine wpAny_bind (m := checkCount "sorted" 1 1 _) (wpAny_pure ?_)
  refine wpAny_bind (hcol _ fun h' tk hk => ?_)
  refine wpAny_bind (wpAny_newList ?_ hz)
  have hoL : (h'.push (seqObj "list" acc.toArray 0)).get? h'.objs.size = some (seqObj "list" acc.toArray 0) := Heap.get?_push_size _ rfl
  have keep : ∀ b o, s.heap.get? b = some o → b ≠ h'.objs.size ∧ (h'.push (seqObj "list" acc.toArray 0)).get? b = some o := fun b o q =>
    ⟨Nat.ne_of_lt (Heap.lt_size (hk b o q)), Heap.get?_push_of_some _ (hk b o q)⟩
  show wpAny _ _ _ _ _ { s with heap := h'.push (seqObj "list" acc.toArray 0), toks := tk }
  refine wpAny_bind (wpAny_holding (wpAny_call_entry PyProof.Rows.slot_list_sort ⟨_, hoL, rfl⟩ PyProof.Rows.entry_list_sort (SrtO.list_sort_ord (s := { s with heap := h'.push (seqObj "list" acc.toArray 0), toks := tk }) O hoL hz (fun h2 => hS h2 _ _ _ hoL keep) fun out hs hb => ⟨_, rfl, ?_⟩) (PyProof.Rows.args_list_sort _)))
  refine wpAny_pure ⟨_, rfl, h h' _ _ out hs hb hk (fun b o q => ?_) (PyProof.Rows.sortedHeap_at (vs := acc) (out := out.toArray) hoL)⟩
  have hb' : b < h'.objs.size := Heap.lt_size q
  refine (PyProof.Rows.sortedHeap_old (Nat.ne_of_lt hb') ?_).trans (Heap.get?_push_of_some _ q)
  show b < (h'.push (seqObj "list" acc.toArray 0)).objs.size
  rw [PyProof.Rows.size_push']
  exact Nat.lt_succ_of_lt hb'
end
/-! ### ints -/
def ikey : Value → Int
  | .int i _ => i
  | _ => 0
def iltv (v u : Value) : Bool := decide (ikey v < ikey u)
theorem swo_int : SrtO.Swo iltv := ⟨fun x y h => by
  unfold iltv at *
  simp only [decide_eq_true_eq, decide_eq_false_iff_not] at *
  omega, fun x y z h1 h2 => by
  unfold iltv at *
  simp only [decide_eq_true_eq, decide_eq_false_iff_not] at *
  omega⟩
theorem ints_sortable {prog : Program} {w : World} {A : Around} {s : Shared} {a : Addr} {vs : List Value} {ns : List Int} (hI : PyProof.Rows.IntsAre vs ns) (h2 : 2 ≤ vs.length) : SrtO.SortableO prog w A s a vs iltv := by
  intro h' keep
  refine ⟨PyProof.Rows.oneType', fun Q E hq => ?_, fun p q hp hq => ?_⟩
  · match vs, h2, hI with
    | v1 :: v2 :: r, _, hI =>
      rw [PyProof.Rows.keyKind_ints hI]
      exact wpAny_pure hq
  · obtain ⟨n, t, e⟩ := hI.all _ hp
    obtain ⟨m, u, e'⟩ := hI.all _ hq
    show wpAny _ _ (PyProof.Rows.keyLt' PyProof.Rows.oneType' p.1 q.1) (fun r s' => s' = _ ∧ r = decide (ikey p.1 < ikey q.1)) _ _
    rw [e, e']
    exact PyProof.Rows.oneLt_int ⟨rfl, rfl⟩
theorem ints_keys : ∀ {vs : List Value} {ns : List Int}, PyProof.Rows.IntsAre vs ns → vs.map ikey = ns
  | _, _, .nil => rfl
  | _, _, .cons _ _ r => by rw [List.map_cons, ints_keys r]; rfl

/-! ### sources -/
/-- what is collected of a is acc -/
def Col (X : Cx) (s : Shared) (a : Addr) (acc : List Value) : Prop := ∀ R : List Value → Shared → Prop, (∀ (h' : Heap) (tk : Nat), (∀ b o, s.heap.get? b = some o → h'.get? b = some o) → R acc { s with heap := h', toks := tk }) → wpAny (model X.prog X.w) X.A.in1 (collect (.ref a)) R X.xe s
section
variable {X : Cx} {pins : List (Addr × Obj)} {σ : L2.St} {H : Hp} {s : Shared} {a : Addr}
theorem col_list {xs : List V} (I : Inv X pins σ H s) (h : SqL X.K H a xs) : ∃ acc, Vals xs acc ∧ acc.length ≤ sizeLine ∧ Col X s a acc := by
  obtain ⟨its, r, pl, hz⟩ := I.list h
  have hz' : its.length ≤ sizeLine := by rw [← r.length]; exact hz
  refine ⟨its, r, hz', fun R k => ?_⟩
  refine PyProof.Rows.collect_list pl.isList ?_ hz'
  refine k _ s.toks fun b o q => ?_
  have hlt : b < s.heap.objs.size := Heap.lt_size q
  rw [Heap.get?_update_ne _ _ _ _ (Nat.ne_of_lt hlt)]
  exact Heap.get?_push_of_some _ q
theorem items_raw {es : Array DictEntry} {acc : Array Value} (h : ItemsOf (fun (i : Nat) (v : Value) => ∃ en : DictEntry, es[i]? = some en ∧ v = en.key) acc es.size) : acc.toList = es.toList.map (·.key) := by
  refine List.ext_getElem? fun j => ?_
  rw [List.getElem?_map]
  cases hj : acc.toList[j]? with
  | none =>
    have h1 := List.getElem?_eq_none_iff.mp hj
    have h2 := h.1
    rw [List.getElem?_eq_none (by rw [Array.length_toList] at *; omega)]
    rfl
  | some v =>
    obtain ⟨en, hen, hv⟩ := h.2 j v (by rw [← Array.getElem?_toList]; exact hj)
    rw [Array.getElem?_toList, hen, hv]
    rfl
theorem col_raw {o : Obj} {es : Array DictEntry} {ep : Nat} (hc : X.calm = true) (I : Inv X pins σ H s) (lo : (a == sysModules) = false) (ho : s.heap.get? a = some o) (hx : o.ExactDict) (hd : o.data = .dict es ep) (hz : es.size ≤ sizeLine) : Col X s a (es.toList.map (·.key)) := fun R k => by
  refine PySem.W.kdu_collect (A := X.A.in1) (kdl_raw lo hx hd) (I.ok.hd hc) ho hz fun h' tk acc hk hacc => ?_
  rw [items_raw hacc]
  exact k h' tk hk
theorem pairs_keys {P : Program} {w : World} : ∀ {es : List DictEntry} {vs : List (Key × Value)}, Pairs (mixKind P w) es vs → Vals (vs.map fun kv => kV kv.1) (es.map (·.key))
  | _, _, .nil => .nil
  | _, _, .cons h _ r => .cons (keyIs_rel h) (pairs_keys r)
theorem col_dK {kvs : List (Key × V)} (hc : X.calm = true) (I : Inv X pins σ H s) (hd : Rd H a (.dK kvs)) : ∃ acc, Vals (kvs.map fun kv => kV kv.1) acc ∧ acc.length ≤ sizeLine ∧ Col X s a acc := by
  obtain ⟨z, lo, vs, rel, o, es, ep, ho, hx, hdt, _, pr, _⟩ := dk_rd I.hok hd
  have e1 : (kvs.map fun kv => kV kv.1) = vs.map fun kv => kV kv.1 := by
    have e := L2.KV.keys rel
    have e2 := congrArg (List.map kV) e
    rw [List.map_map, List.map_map] at e2
    exact e2
  have hl : es.toList.length ≤ sizeLine := by
    rw [pr.length, ← Paired.length rel]
    exact z
  exact ⟨_, by rw [e1]; exact pairs_keys pr, by rw [List.length_map]; exact hl, col_raw hc I lo ho hx hdt (by rw [← Array.length_toList]; exact hl)⟩
theorem col_dT {kvs : List (List Key × V)} (hc : X.calm = true) (I : Inv X pins σ H s) (hd : Rd H a (.dT kvs)) : ∃ bs acc, IsKeys H kvs bs ∧ Vals (bs.map V.ref) acc ∧ acc.length ≤ sizeLine ∧ Col X s a acc := by
  obtain ⟨z, lo, ks, pr, o, es, ep, ho, hx, hdt, he, hn⟩ := (show ObjOk X.prog X.w H s.heap a (.dT kvs) from hd.ok I.hok)
  have l1 : es.size = ks.length := size_of_entries he
  have l2 : kvs.length = ks.length := Paired.length pr
  have e2 : es.toList.map (·.key) = (ks.map fun x => x.2.1).map Value.ref := by
    rw [he, List.map_map, List.map_map]
    rfl
  refine ⟨ks.map fun x => x.2.1, es.toList.map (·.key), isKeys_of pr, by rw [e2]; exact vals_refs _, by rw [List.length_map, Array.length_toList]; omega, col_raw hc I lo ho hx hdt (by omega)⟩
end
/-! ### the calls -/
theorem ints_of : ∀ {ks : List Int} {us : List Value}, Vals (ks.map V.int) us → PyProof.Rows.IntsAre us ks
  | [], _, .nil => .nil
  | _ :: _, _, .cons ⟨t, e⟩ r => by
    subst e
    exact .cons _ _ (ints_of r)
theorem of_ints : ∀ {ks : List Int} {us : List Value}, PyProof.Rows.IntsAre us ks → Vals (ks.map V.int) us
  | _, _, .nil => .nil
  | _, _, .cons _ t r => .cons ⟨t, rfl⟩ (of_ints r)
theorem ints_perm {us vs : List Value} {ks : List Int} (h : PyProof.Rows.IntsAre vs ks) (p : us.Perm vs) : PyProof.Rows.IntsAre us (us.map ikey) := by
  have all : ∀ v ∈ us, ∃ n t, v = Value.int n t := fun v hv => h.all _ (p.mem_iff.mp hv)
  clear p h
  induction us with
  | nil => exact .nil
  | cons u r ih =>
    obtain ⟨n, t, rfl⟩ := all _ List.mem_cons_self
    exact .cons _ _ (ih fun v hv => all v (List.mem_cons_of_mem _ hv))
def rSrtI : List Int → Hp → VK → Prop := fun ks H Q => ∀ (ys : List Int) (p : Addr), ys.Perm ks → ys.Pairwise (· ≤ ·) → H p = none → Q (.ref p) (upd H p (.lst (ys.map V.int)))
theorem sorted_I {X : Cx} {pins : List (Addr × Obj)} {σ : L2.St} {H : Hp} {s : Shared} {a : Addr} {ks : List Int} {acc : List Value} {Q : VK} (I : Inv X pins σ H s) (r : Vals (ks.map V.int) acc) (hz : acc.length ≤ sizeLine) (hc : Col X s a acc) (q : rSrtI ks H Q) :
    wpAny (model X.prog X.w) X.A (call (.builtin "sorted") [.ref a]) (EP X pins σ Q) X.xe s := by
  have hI := ints_of r
  refine sorted_src swo_int hz hc (fun h2 h1 tk d _ _ => ints_sortable hI h2) fun h' h2 tk out hs hb k1 k2 ⟨n, hd⟩ => ?_
  have I1 : Inv X pins σ H { s with heap := h', toks := tk } := I.kept k1
  have hO := ints_perm hI hb.perm
  have hl : (out.map ikey).length ≤ sizeLine := by rw [List.length_map, hb.perm.length_eq]; exact hz
  refine ⟨.ref h'.objs.size, upd H h'.objs.size (.lst ((out.map ikey).map V.int)), I1.laid (t' := tk) k2 (Nat.le_refl _) (show ObjOk X.prog X.w _ _ _ (.lst ((out.map ikey).map V.int)) from ⟨by rw [List.length_map]; exact hl, out, n, of_ints hO, hd⟩), rfl, q _ _ ?_ ?_ (I1.hok.fresh (Nat.le_refl _))⟩
  · have := hb.perm.map ikey
    rw [ints_keys hI] at this
    exact this
  · rw [List.pairwise_map]
    refine hs.imp fun {x y} h => ?_
    unfold iltv at h
    have := of_decide_eq_false h
    omega

/-! ### tuples of ints and texts -/
open PyProof.Rows (itemOrd tupItems tupKey tupKind TupsOf TupOf)
abbrev lxLt : List (Int ⊕ List Nat) → List (Int ⊕ List Nat) → Bool := PyProof.Rows.lexLt itemOrd
def tokK : Key → Int ⊕ List Nat
  | .inl i => .inl i
  | .inr x => .inr x.cps.toList
def toK (k : List Key) : List (Int ⊕ List Nat) := k.map tokK
theorem toK_inj : ∀ {k l : List Key}, toK k = toK l → k = l
  | [], [], _ => rfl
  | [], _ :: _, h => by cases h
  | _ :: _, [], h => by cases h
  | x :: k, y :: l, h => by
    obtain ⟨h1, h2⟩ := List.cons.inj h
    rw [toK_inj h2]
    cases x <;> cases y <;> simp only [tokK, Sum.inl.injEq, Sum.inr.injEq, reduceCtorEq] at h1
    · rw [h1]
    · rw [TL.ext_tl h1]
def shOk (sh : Nat → Bool) : Nat → List Key → Bool
  | _, [] => true
  | i, .inl _ :: r => !sh i && shOk sh (i + 1) r
  | i, .inr _ :: r => sh i && shOk sh (i + 1) r
def kOk (sh : Nat → Bool) (k : List Key) : Bool := !k.isEmpty && shOk sh 0 k
theorem tupItems_of {sh : Nat → Bool} : ∀ {k : List Key} {its : List Value} {i : Nat}, Vals (k.map kV) its → shOk sh i k = true → tupItems sh i its = some (toK k)
  | [], _, _, .nil, _ => rfl
  | .inl x :: k, _, i, .cons ⟨t, e⟩ r, h => by
    subst e
    simp only [shOk, Bool.and_eq_true, Bool.not_eq_true'] at h
    unfold tupItems
    rw [if_neg (by rw [h.1]; exact Bool.false_ne_true), tupItems_of r h.2]
    rfl
  | .inr x :: k, _, i, .cons ⟨t, e⟩ r, h => by
    subst e
    simp only [shOk, Bool.and_eq_true] at h
    unfold tupItems
    rw [if_pos h.1, tupItems_of r h.2]
    rfl
def TAt (h : Heap) (sh : Nat → Bool) (k : List Key) (v : Value) : Prop := ∃ b o its n, v = .ref b ∧ h.get? b = some o ∧ o.cls = .type "tuple" ∧ o.data = .seq its n ∧ kOk sh k = true ∧ Vals (k.map kV) its.toList
theorem TAt.keep {h h' : Heap} {sh : Nat → Bool} {k : List Key} {v : Value} (t : TAt h sh k v) (kp : ∀ b o, o.cls = .type "tuple" → h.get? b = some o → h'.get? b = some o) : TAt h' sh k v := by
  obtain ⟨b, o, its, n, e, ho, c, d, r⟩ := t
  exact ⟨b, o, its, n, e, kp b o c ho, c, d, r⟩
theorem TAt.key {h : Heap} {sh : Nat → Bool} {k : List Key} {v : Value} (t : TAt h sh k v) : tupKey h sh v = some (toK k) := by
  obtain ⟨b, o, its, n, rfl, ho, c, d, hk, r⟩ := t
  unfold kOk at hk
  rw [Bool.and_eq_true] at hk
  simp only [tupKey, ho, d, tupItems_of r hk.2]
theorem TAt.tup {h : Heap} {sh : Nat → Bool} {k : List Key} {v : Value} (t : TAt h sh k v) : ∃ f, TupOf h sh v f := by
  obtain ⟨b, o, its, n, rfl, ho, c, d, hk, r⟩ := t
  unfold kOk at hk
  rw [Bool.and_eq_true] at hk
  cases k with
  | nil => exact absurd hk.1 (by decide)
  | cons x k =>
    have hf : ∃ f fs, its.toList = f :: fs ∧ RelV (kV x) f := by
      cases e : its.toList with
      | nil =>
        rw [e] at r
        cases r
      | cons f fs =>
        rw [e] at r
        cases r with
        | cons a _ => exact ⟨f, fs, rfl, a⟩
    obtain ⟨f, fs, e, rf⟩ := hf
    refine ⟨f, b, o, its, n, rfl, ho, c, d, by rw [← Array.getElem?_toList, e]; rfl, fun h0 => ?_, fun h0 => ?_⟩
    · cases x with
      | inl i =>
        obtain ⟨t, e⟩ := rf
        exact ⟨i, t, e⟩
      | inr y =>
        simp only [shOk, Bool.and_eq_true, h0, Bool.false_eq_true, false_and, and_false] at hk
    · cases x with
      | inr y =>
        obtain ⟨t, e⟩ := rf
        exact ⟨y, t, e⟩
      | inl i =>
        simp only [shOk, Bool.and_eq_true, h0, Bool.not_true, Bool.false_eq_true, false_and, and_false] at hk
theorem tups_of {h : Heap} {sh : Nat → Bool} : ∀ {vs : List Value}, (∀ v ∈ vs, ∃ k, TAt h sh k v) → ∃ fs, TupsOf h sh vs fs ∧ fs.length = vs.length
  | [], _ => ⟨[], .nil, rfl⟩
  | v :: vs, H => by
    obtain ⟨k, t⟩ := H v List.mem_cons_self
    obtain ⟨f, hf⟩ := t.tup
    obtain ⟨fs, h1, h2⟩ := tups_of (vs := vs) fun u hu => H u (List.mem_cons_of_mem _ hu)
    exact ⟨f :: fs, .cons hf h1, by rw [List.length_cons, List.length_cons, h2]⟩
def tltv (h : Heap) (sh : Nat → Bool) (v u : Value) : Bool := lxLt ((tupKey h sh v).getD []) ((tupKey h sh u).getD [])
theorem lxt_asym (x y : List (Int ⊕ List Nat)) (h : lxLt x y = true) : lxLt y x = false := by
  cases e : lxLt y x with
  | false => rfl
  | true =>
    have z := PyProof.Rows.lex_trans (O := itemOrd) _ _ _ h e
    rw [PyProof.Rows.lex_irrefl] at z
    exact z.symm
theorem lxt_tr (x y z : List (Int ⊕ List Nat)) (h1 : lxLt y x = false) (h2 : lxLt z y = false) : lxLt z x = false := by
  cases e : lxLt z x with
  | false => rfl
  | true =>
    rcases PyProof.Rows.lex_negTrans (O := itemOrd) z y x e with q | q
    · rw [show lxLt z y = true from q] at h2
      exact h2
    · rw [show lxLt y x = true from q] at h1
      exact h1
theorem swo_lxt : SrtO.Swo lxLt := ⟨lxt_asym, lxt_tr⟩
theorem swo_tup (h : Heap) (sh : Nat → Bool) : SrtO.Swo (tltv h sh) := ⟨fun x y => swo_lxt.asym _ _, fun x y z => swo_lxt.tr _ _ _⟩
theorem tups_sortable {prog : Program} {w : World} {A : Around} {h0 : Heap} {s : Shared} {a : Addr} {vs : List Value} {sh : Nat → Bool} (hI : ∀ v ∈ vs, ∃ k, TAt h0 sh k v) (h2 : 2 ≤ vs.length) (ha : s.heap.get? a = some (PyProof.Rows.seqObj "list" vs.toArray 0)) (hk : ∀ b o, h0.get? b = some o → s.heap.get? b = some o) : SrtO.SortableO prog w A s a vs (tltv h0 sh) := by
  intro h' keep
  have kp : ∀ b o, o.cls = Value.type "tuple" → h0.get? b = some o → h'.get? b = some o := fun b o c e => keep b o (fun z => by
    subst z
    rw [hk _ _ e] at ha
    cases ha
    exact absurd (Value.type.inj c) (by decide)) (hk _ _ e)
  have hI' : ∀ v ∈ vs, ∃ k, TAt h' sh k v := fun v hv => (hI v hv).imp fun k t => t.keep kp
  obtain ⟨fs, h3, h4⟩ := tups_of hI'
  refine ⟨PyProof.Rows.tuples' true, fun Q E hq => PyProof.Rows.tup_kind (by omega) h3 hq, fun p q hp hq => ?_⟩
  obtain ⟨k, t⟩ := hI _ hp
  obtain ⟨l, u⟩ := hI _ hq
  refine PyProof.Rows.tup_ltAt (shape := sh) true _ _ _ _ _ _ (show tupKey h' sh p.1 = some _ from (t.keep kp).key) (show tupKey h' sh q.1 = some _ from (u.keep kp).key) ⟨rfl, ?_⟩
  show _ = tltv h0 sh p.1 q.1
  unfold tltv
  rw [t.key, u.key]
  rfl
theorem perm_map_inv {α β : Type} {f : α → β} : ∀ {m : List β} {l : List α}, m.Perm (l.map f) → ∃ l' : List α, l'.Perm l ∧ m = l'.map f
  | [], l, h => by
    have e := h.length_eq
    rw [List.length_map, List.length_nil] at e
    cases l with
    | nil => exact ⟨[], .nil, rfl⟩
    | cons _ _ => cases e
  | y :: m, l, h => by
    have hy : y ∈ l.map f := h.mem_iff.mp List.mem_cons_self
    obtain ⟨x, hx, rfl⟩ := List.mem_map.mp hy
    obtain ⟨l1, l2, rfl⟩ := List.append_of_mem hx
    have p : m.Perm ((l1 ++ l2).map f) := by
      rw [List.map_append, List.map_cons] at h
      have := h.trans List.perm_middle
      rw [List.map_append]
      exact List.perm_cons _ |>.mp this
    obtain ⟨l', p', e⟩ := perm_map_inv p
    exact ⟨x :: l', (p'.cons x).trans List.perm_middle.symm, by rw [e, List.map_cons]⟩
def rSrtT : List (Addr × List Key) → Hp → VK → Prop := fun ps H Q => ∀ (qs : List (Addr × List Key)) (p : Addr), qs.Perm ps → qs.Pairwise (fun x y => lxLt (toK y.2) (toK x.2) = false) → H p = none → Q (.ref p) (upd H p (.lst (qs.map fun x => V.ref x.1)))
theorem sorted_T {X : Cx} {pins : List (Addr × Obj)} {σ : L2.St} {H : Hp} {s : Shared} {a : Addr} {ps : List (Addr × List Key)} {sh : Nat → Bool} {acc : List Value} {Q : VK} (I : Inv X pins σ H s) (hp : ∀ p ∈ ps, H p.1 = some (.tup (p.2.map kV)) ∧ kOk sh p.2 = true)
    (r : Vals (ps.map fun x => V.ref x.1) acc) (hz : acc.length ≤ sizeLine) (hc : Col X s a acc) (q : rSrtT ps H Q) :
    wpAny (model X.prog X.w) X.A (call (.builtin "sorted") [.ref a]) (EP X pins σ Q) X.xe s := by
  have ea : acc = ps.map fun x => Value.ref x.1 := by
    clear hp hz hc q
    induction ps generalizing acc with
    | nil =>
      cases r
      rfl
    | cons x ps ih =>
      cases r with
      | cons a r =>
        cases a
        rw [ih r, List.map_cons]
  have tat : ∀ p ∈ ps, TAt s.heap sh p.2 (.ref p.1) := fun p m => by
    obtain ⟨_, its, rv, o, h1, h2, n, h3⟩ := (show ObjOk X.prog X.w H s.heap p.1 (.tup (p.2.map kV)) from I.hok p.1 _ (hp p m).1)
    exact ⟨p.1, o, its.toArray, n, rfl, h1, h2, h3, (hp p m).2, rv⟩
  have hI : ∀ v ∈ acc, ∃ k, TAt s.heap sh k v := fun v hv => by
    rw [ea] at hv
    obtain ⟨p, m, rfl⟩ := List.mem_map.mp hv
    exact ⟨_, tat p m⟩
  refine sorted_src (swo_tup s.heap sh) hz hc (fun h2 h1 tk d hd kk => tups_sortable hI h2 hd fun b o e => (kk b o e).2) fun h' h2 tk out hs hb k1 k2 ⟨n, hd⟩ => ?_
  have I1 : Inv X pins σ H { s with heap := h', toks := tk } := I.kept k1
  have pm := hb.perm
  rw [ea] at pm
  obtain ⟨qs, pq, rfl⟩ := perm_map_inv pm
  have rq : ∀ l : List (Addr × List Key), Vals (l.map fun x => V.ref x.1) (l.map fun x => Value.ref x.1) := fun l => by
    induction l with
    | nil => exact .nil
    | cons x l ih => exact .cons rfl ih
  have hl : (qs.map fun x => V.ref x.1).length ≤ sizeLine := by
    have := pq.length_eq
    rw [ea, List.length_map] at hz
    rw [List.length_map]
    omega
  refine ⟨.ref h'.objs.size, upd H h'.objs.size (.lst (qs.map fun x => V.ref x.1)), I1.laid (t' := tk) k2 (Nat.le_refl _) (show ObjOk X.prog X.w _ _ _ (.lst (qs.map fun x => V.ref x.1)) from ⟨hl, _, n, rq qs, hd⟩), rfl, q _ _ pq ?_ (I1.hok.fresh (Nat.le_refl _))⟩
  have hs' : qs.Pairwise fun x y => tltv s.heap sh (.ref y.1) (.ref x.1) = false := List.pairwise_map.mp hs
  refine hs'.imp_of_mem fun {x y} hx hy h => ?_
  unfold tltv at h
  rw [(tat x (pq.mem_iff.mp hx)).key, (tat y (pq.mem_iff.mp hy)).key] at h
  exact h
end RJ

set_option Elab.async false
set_option linter.all false
set_option maxRecDepth 100000
set_option maxHeartbeats 1000000
set_option autoImplicit false
/-! RjJ: the built-in functions over data. -/
namespace RJ
open PySem PySem.Spec L2

theorem TopL.one {M : Mw} {G H : Hp} {vs : List V} {d : D} (t : TopL M G H vs [d]) : ∃ v, vs = [v] ∧ Top M G H v d := by
  cases t with
  | cons a r =>
    cases r
    exact ⟨_, rfl, a⟩
theorem TopL.two {M : Mw} {G H : Hp} {vs : List V} {d e : D} (t : TopL M G H vs [d, e]) : ∃ v u, vs = [v, u] ∧ Top M G H v d ∧ Top M G H u e := by
  cases t with
  | cons a r =>
    obtain ⟨u, rfl, b⟩ := r.one
    exact ⟨_, _, rfl, a, b⟩
theorem CallR.or2 {X : Cx} {f : Value} {r r' : List V → Hp → VK → Prop} (h : CallR X f r) (h' : CallR X f r') : CallR X f (fun xs H Q => r xs H Q ∨ r' xs H Q) := fun pins s σ H xs us Q I rv q => q.elim (fun q => h pins s σ H xs us Q I rv q) fun q => h' pins s σ H xs us Q I rv q
/-- tuples of the heap are shown -/
noncomputable def shG (G H : Hp) (bs : List Addr) : Hp := fun a => if a ∈ bs then H a else G a
theorem Ext.show {G H : Hp} (s : Same G H) {bs : List Addr} (hb : ∀ b ∈ bs, ∃ xs, H b = some (.tup xs)) : Ext G H (shG G H bs) H := by
  refine ⟨fun a o e => ?_, Same.refl _, fun a o e => ?_, fun a o e n => ?_⟩
  · unfold shG
    split
    · exact s _ _ e
    · exact e
  · unfold shG at e
    split at e
    · exact e
    · exact s _ _ e
  · unfold shG at e
    split at e
    · rename_i h
      obtain ⟨xs, h2⟩ := hb a h
      rw [h2] at e
      cases e
      exact .inr ⟨xs, rfl⟩
    · rw [n] at e
      cases e

/-! ### sorted -/
def intsD : List D → Option (List Int)
  | [] => some []
  | .int i :: r => (intsD r).map (i :: ·)
  | _ :: _ => none
def keysTs : List D → Option (List (List Key))
  | [] => some []
  | d :: r => match keyT d, keysTs r with
    | some k, some ks => some (k :: ks)
    | _, _ => none
def intsK : List Key → Option (List Int)
  | [] => some []
  | .inl i :: r => (intsK r).map (i :: ·)
  | _ :: _ => none
def dKey : Key → D
  | .inl i => .int i
  | .inr x => .str x
def dTup (k : List Key) : D := .tup (k.map dKey)
def sortI (l : List Int) : List Int := l.mergeSort fun a b => decide (a ≤ b)
def sortK (l : List (List Key)) : List (List Key) := l.mergeSort fun a b => !lxLt (toK b) (toK a)
theorem sortI_perm (l : List Int) : (sortI l).Perm l := List.mergeSort_perm _ _
theorem sortK_perm (l : List (List Key)) : (sortK l).Perm l := List.mergeSort_perm _ _
theorem sortI_srt (l : List Int) : (sortI l).Pairwise (· ≤ ·) := by
  have h := List.pairwise_mergeSort (le := fun a b : Int => decide (a ≤ b)) (fun a b c h1 h2 => by
    simp only [decide_eq_true_eq] at *
    omega) (fun a b => by
    simp only [Bool.or_eq_true, decide_eq_true_eq]
    omega) l
  exact h.imp fun h => of_decide_eq_true h
theorem sortK_srt (l : List (List Key)) : (sortK l).Pairwise fun a b => lxLt (toK b) (toK a) = false := by
  have h := List.pairwise_mergeSort (le := fun a b : List Key => !lxLt (toK b) (toK a)) (fun a b c h1 h2 => by
    simp only [Bool.not_eq_true'] at *
    exact lxt_tr _ _ _ h1 h2) (fun a b => by
    simp only [Bool.or_eq_true, Bool.not_eq_true']
    cases e : lxLt (toK b) (toK a) with
    | false => exact .inl rfl
    | true => exact .inr (lxt_asym _ _ e)) l
  exact h.imp fun h => by simpa using h
theorem sortI_of {l m : List Int} (p : m.Perm l) (s : m.Pairwise (· ≤ ·)) : m = sortI l :=
  List.Perm.eq_of_pairwise (le := (· ≤ ·)) (fun a b _ _ h1 h2 => by omega) s (sortI_srt l) (p.trans (sortI_perm l).symm)
theorem sortK_of {l m : List (List Key)} (p : m.Perm l) (s : m.Pairwise fun a b => lxLt (toK b) (toK a) = false) : m = sortK l :=
  List.Perm.eq_of_pairwise (le := fun a b => lxLt (toK b) (toK a) = false) (fun a b _ _ h1 h2 => toK_inj (PyProof.Rows.lex_total (O := PyProof.Rows.itemOrd) _ _ h2 h1)) s (sortK_srt l) (p.trans (sortK_perm l).symm)
def sorG (sh : Nat → Bool) : List D → Re D
  | [.lst ds] => match intsD ds with
    | some ns => .ok (.lst ((sortI ns).map .int))
    | none => match keysTs ds with
      | some ks => if ks.all (kOk sh) = true then .ok (.lst ((sortK ks).map dTup)) else .no
      | none => .no
  | [.dK kvs] => match intsK (kvs.map (·.1)) with
    | some ns => .ok (.lst ((sortI ns).map .int))
    | none => .no
  | [.dT kvs] => if (kvs.map (·.1)).all (kOk sh) = true then .ok (.lst ((sortK (kvs.map (·.1))).map dTup)) else .no
  | _ => .no
section
variable {M : Mw} {G H : Hp}
theorem RepL.intsOf : ∀ {vs : List V} {ds : List D} {ns : List Int}, RepL M G vs ds → intsD ds = some ns → vs = ns.map V.int
  | _, _, _, .nil, e => by
    cases e
    rfl
  | _, d :: _, _, .cons h r, e => by
    cases d with
    | int i =>
      obtain ⟨l, e1, e2⟩ := Option.map_eq_some_iff.mp e
      subst e2
      cases h
      rw [RepL.intsOf r e1]
      rfl
    | _ => cases e
theorem RepL.keysOf (s : Same G H) : ∀ {vs : List V} {ds : List D} {ks : List (List Key)}, RepL M G vs ds → keysTs ds = some ks → ∃ ps : List (Addr × List Key), vs = ps.map (fun x => V.ref x.1) ∧ ks = ps.map (·.2) ∧ ∀ p ∈ ps, G p.1 = some (.tup (p.2.map kV))
  | _, _, _, .nil, e => by
    cases e
    exact ⟨[], rfl, rfl, fun p h => by cases h⟩
  | _, d :: _, _, .cons h r, e => by
    unfold keysTs at e
    split at e
    · rename_i k l e1 e2
      cases e
      obtain ⟨ps, rfl, rfl, h3⟩ := RepL.keysOf s r e2
      cases d with
      | tup us =>
        cases h with
        | @tup a vs _ hp rp =>
          have eu := keysD_v rp e1
          subst eu
          refine ⟨(a, k) :: ps, rfl, rfl, fun p m => ?_⟩
          rcases List.mem_cons.mp m with z | z
          · subst z
            exact hp
          · exact h3 p z
      | _ => cases e1
    · cases e
theorem rep_key (k : Key) : Rep M G (kV k) (dKey k) := by
  cases k
  · exact .int _
  · exact .str _
theorem repL_keys : ∀ k : List Key, RepL M G (k.map kV) (k.map dKey)
  | [] => .nil
  | k :: r => .cons (rep_key k) (repL_keys r)
theorem repL_tups : ∀ {ps : List (Addr × List Key)}, (∀ p ∈ ps, G p.1 = some (.tup (p.2.map kV))) → RepL M G (ps.map fun x => V.ref x.1) ((ps.map (·.2)).map dTup)
  | [], _ => .nil
  | p :: r, h => .cons (.tup (h p List.mem_cons_self) (repL_keys _)) (repL_tups fun q m => h q (List.mem_cons_of_mem _ m))
theorem intsK_of : ∀ {ks : List Key} {ns : List Int}, intsK ks = some ns → ks.map kV = ns.map V.int
  | [], _, e => by
    cases e
    rfl
  | .inl i :: r, _, e => by
    obtain ⟨l, e1, e2⟩ := Option.map_eq_some_iff.mp e
    subst e2
    rw [List.map_cons, intsK_of e1]
    rfl
  | .inr _ :: _, _, e => by cases e
theorem RepK.fst : ∀ {ks : List (Key × V)} {ds : List (Key × D)}, RepK M G ks ds → ks.map (·.1) = ds.map (·.1)
  | _, _, .nil => rfl
  | _, _, .cons _ r => by rw [List.map_cons, List.map_cons, RepK.fst r]
theorem RepT.fst : ∀ {ks : List (List Key × V)} {ds : List (List Key × D)}, RepT M G ks ds → ks.map (·.1) = ds.map (·.1)
  | _, _, .nil => rfl
  | _, _, .cons _ r => by rw [List.map_cons, List.map_cons, RepT.fst r]
theorem Top.lstA (s : Same G H) {v : V} {ds : List D} (t : Top M G H v (.lst ds)) : ∃ a vs, v = .ref a ∧ H a = some (.lst vs) ∧ RepL M G vs ds := t.lst s
end
theorem keys_pairs {H : Hp} {kvs : List (List Key × V)} {bs : List Addr} (h : IsKeys H kvs bs) : ∃ ps : List (Addr × List Key), bs = ps.map (·.1) ∧ kvs.map (·.1) = ps.map (·.2) ∧ ∀ p ∈ ps, H p.1 = some (.tup (p.2.map kV)) := by
  unfold IsKeys at h
  induction h with
  | nil => exact ⟨[], rfl, rfl, fun p h => by cases h⟩
  | @cons kv b kvs bs h t ih =>
    obtain ⟨ps, rfl, e, k⟩ := ih
    refine ⟨(b, kv.1) :: ps, rfl, by rw [List.map_cons, List.map_cons, e], fun p m => ?_⟩
    rcases List.mem_cons.mp m with z | z
    · subst z
      exact h
    · exact k p z
/-- the layer's sorted, all sources -/
def rSort (sh : Nat → Bool) (X : Cx) : List V → Hp → VK → Prop := fun xs H Q => ∃ a, xs = [.ref a] ∧ ((∃ ks : List Int, SqL X.K H a (ks.map V.int) ∧ rSrtI ks H Q) ∨
  (∃ ps : List (Addr × List Key), SqL X.K H a (ps.map fun x => V.ref x.1) ∧ (∀ p ∈ ps, H p.1 = some (.tup (p.2.map kV)) ∧ kOk sh p.2 = true) ∧ rSrtT ps H Q) ∨
  (∃ kvs ks, Rd H a (.dK kvs) ∧ (kvs.map fun kv => kV kv.1) = ks.map V.int ∧ rSrtI ks H Q) ∨
  (∃ kvs, Rd H a (.dT kvs) ∧ (∀ kv ∈ kvs, kOk sh kv.1 = true) ∧ ∀ ps : List (Addr × List Key), kvs.map (·.1) = ps.map (·.2) → (∀ p ∈ ps, H p.1 = some (.tup (p.2.map kV))) → rSrtT ps H Q))
theorem call_sort {X : Cx} {sh : Nat → Bool} (hc : X.calm = true) : CallR X (.builtin "sorted") (rSort sh X) := by
  intro pins s σ H xs us Q I r q
  obtain ⟨a, rfl, q⟩ := q
  obtain ⟨u, rfl, rx⟩ := vals1 r
  cases rx
  rcases q with ⟨ks, hs, q⟩ | ⟨ps, hs, hp, q⟩ | ⟨kvs, ks, hd, e, q⟩ | ⟨kvs, hd, hp, q⟩
  · obtain ⟨acc, r1, hz, co⟩ := col_list I hs
    exact sorted_I I r1 hz co q
  · obtain ⟨acc, r1, hz, co⟩ := col_list I hs
    exact sorted_T I hp r1 hz co q
  · obtain ⟨acc, r1, hz, co⟩ := col_dK hc I hd
    rw [e] at r1
    exact sorted_I I r1 hz co q
  · obtain ⟨bs, acc, hk, r1, hz, co⟩ := col_dT hc I hd
    obtain ⟨ps, e1, e2, h3⟩ := keys_pairs hk
    subst e1
    rw [List.map_map] at r1
    refine sorted_T (sh := sh) I (fun p m => ⟨h3 p m, ?_⟩) r1 hz co (q ps e2 h3)
    have : p.2 ∈ kvs.map (·.1) := by
      rw [e2]
      exact List.mem_map.mpr ⟨p, m, rfl⟩
    obtain ⟨kv, m2, e3⟩ := List.mem_map.mp this
    rw [← e3]
    exact hp kv m2
theorem srtI_link {M : Mw} {G H : Hp} {Q : VK} {w : Value → Option Addr → Hp → Prop} {ks : List Int} (s : Same G H) (k : KRe M G H (fun d' G' H' => ∀ v, Rep M G' v d' → Q v H') w (.ok (.lst ((sortI ks).map .int)))) : rSrtI ks H Q := fun ys p pm srt hp => by
  rw [sortI_of pm srt]
  exact KRe.new s k hp (.lst upd_same (RepL.ints _))
theorem srtT_link {M : Mw} {G H : Hp} {Q : VK} {w : Value → Option Addr → Hp → Prop} {ps : List (Addr × List Key)} (s : Same G H) (hp : ∀ p ∈ ps, H p.1 = some (.tup (p.2.map kV))) (k : KRe M G H (fun d' G' H' => ∀ v, Rep M G' v d' → Q v H') w (.ok (.lst ((sortK (ps.map (·.2))).map dTup)))) : rSrtT ps H Q := fun qs p pm srt hpn => by
  have e : qs.map (·.2) = sortK (ps.map (·.2)) := sortK_of (pm.map _) (List.pairwise_map.mpr srt)
  rw [← e] at k
  have x1 : Ext G H (shG G H (qs.map (·.1))) H := Ext.show s fun b m => by
    obtain ⟨q, m2, rfl⟩ := List.mem_map.mp m
    exact ⟨_, hp q (pm.mem_iff.mp m2)⟩
  have x2 := Ext.both x1.le (o := .lst (qs.map fun x => V.ref x.1)) hpn
  refine k _ _ (x1.trans x2) _ (.lst upd_same (RepL.mono x2.g (repL_tups fun q m => ?_)))
  unfold shG
  rw [if_pos (List.mem_map.mpr ⟨q, m, rfl⟩)]
  exact hp q (pm.mem_iff.mp m)
def lSorted (sh : Nat → Bool) : FnL (.builtin "sorted") := ⟨sorG sh, fun X n hc hr hd => ⟨_, call_sort (sh := sh) hc, fun vs ds G H Q w s t k => by
  unfold sorG at k
  split at k
  · rename_i ds
    obtain ⟨v, rfl, tv⟩ := t.one
    obtain ⟨a, us, rfl, h1, r⟩ := tv.lst s
    split at k
    · rename_i ns hn
      have eu := r.intsOf hn
      subst eu
      exact ⟨a, rfl, .inl ⟨ns, .of h1, srtI_link s k⟩⟩
    · split at k
      · rename_i ks hk
        split at k
        · rename_i hall
          obtain ⟨ps, rfl, rfl, h3⟩ := r.keysOf s hk
          rw [List.all_eq_true] at hall
          exact ⟨a, rfl, .inr (.inl ⟨ps, .of h1, fun p m => ⟨s _ _ (h3 p m), hall _ (List.mem_map.mpr ⟨p, m, rfl⟩)⟩, srtT_link s (fun p m => s _ _ (h3 p m)) k⟩)⟩
        · exact k.elim
      · exact k.elim
  · rename_i kvs
    obtain ⟨v, rfl, tv⟩ := t.one
    obtain ⟨a, us, rfl, h1, r⟩ := tv.dK s
    split at k
    · rename_i ns hn
      refine ⟨a, rfl, .inr (.inr (.inl ⟨us, ns, .inl h1, ?_, srtI_link s k⟩))⟩
      have e := intsK_of hn
      rw [← r.fst, List.map_map] at e
      exact e
    · exact k.elim
  · rename_i kvs
    obtain ⟨v, rfl, tv⟩ := t.one
    obtain ⟨a, us, rfl, h1, r⟩ := tv.dT s
    split at k
    · rename_i hall
      rw [List.all_eq_true] at hall
      have e : us.map (·.1) = kvs.map (·.1) := r.fst
      refine ⟨a, rfl, .inr (.inr (.inr ⟨us, .inl h1, fun kv m => hall _ (by rw [← e]; exact List.mem_map.mpr ⟨kv, m, rfl⟩), fun ps e2 h3 => srtT_link (w := w) (M := mw X) (G := G) s h3 ?_⟩))⟩
      rw [← e2, e]
      exact k
    · exact k.elim
  · exact k.elim⟩⟩
/-! ### len, int, abs, str, divmod, gcd -/
def lenG : List D → Re D
  | [.str y] => if y.length ≤ sizeLine then .ok (.int y.length) else .no
  | [.lst ds] => .ok (.int ds.length)
  | [.tup ds] => .ok (.int ds.length)
  | [.scr ns] => .ok (.int ns.length)
  | _ => .no
def lLen : FnL (.builtin "len") := ⟨lenG, fun X n hc hr hd => ⟨_, call_len, fun vs ds G H Q w s t k => by
  unfold lenG at k
  split at k
  · obtain ⟨v, rfl, tv⟩ := t.one
    cases tv.str
    split at k
    · exact ⟨_, _, rfl, ⟨by assumption, rfl⟩, KRe.here s k _ (.int _)⟩
    · exact k.elim
  · obtain ⟨v, rfl, tv⟩ := t.one
    obtain ⟨a, us, rfl, h1, r⟩ := tv.lst s
    exact ⟨_, us.length, rfl, .inl ⟨us, .of h1, rfl⟩, by rw [r.length]; exact KRe.here s k _ (.int _)⟩
  · obtain ⟨v, rfl, tv⟩ := t.one
    obtain ⟨a, us, rfl, h1, r⟩ := tv.tup s
    exact ⟨_, us.length, rfl, .inr ⟨us, .of h1, rfl⟩, by rw [r.length]; exact KRe.here s k _ (.int _)⟩
  · obtain ⟨v, rfl, tv⟩ := t.one
    obtain ⟨a, rfl, h1⟩ := tv.scr s
    refine ⟨_, _, rfl, .inl ⟨_, h1, rfl⟩, ?_⟩
    rw [List.length_map]
    exact KRe.here s k _ (.int _)
  · exact k.elim⟩⟩
def intG : List D → Re D
  | [.int i] => .ok (.int i)
  | [.bl b] => .ok (.int (if b then 1 else 0))
  | _ => .no
def lInt : FnL (.type "int") := ⟨intG, fun X n hc hr hd => ⟨_, call_int1, fun vs ds G H Q w s t k => by
  unfold intG at k
  split at k
  · obtain ⟨v, rfl, tv⟩ := t.one
    cases tv.int
    exact .inl ⟨_, rfl, KRe.here s k _ (.int _)⟩
  · obtain ⟨v, rfl, tv⟩ := t.one
    cases tv.bl
    exact .inr ⟨_, rfl, KRe.here s k _ (.int _)⟩
  · exact k.elim⟩⟩
def absG : List D → Re D
  | [.int i] => .ok (.int (if i < 0 then -i else i))
  | _ => .no
def lAbs : FnL (.builtin "abs") := ⟨absG, fun X n hc hr hd => ⟨_, call_abs, fun vs ds G H Q w s t k => by
  unfold absG at k
  split at k
  · obtain ⟨v, rfl, tv⟩ := t.one
    cases tv.int
    exact ⟨_, rfl, KRe.here s k _ (.int _)⟩
  · exact k.elim⟩⟩
def divmG : List D → Re D
  | [.int i, .int j] => if 0 < j ∧ Builtin.divisionGoesByPylong i j = false then .ok (.tup [.int (i / j), .int (i % j)]) else .no
  | _ => .no
def lDivm : FnL (.builtin "divmod") := ⟨divmG, fun X n hc hr hd => ⟨_, call_divmodW, fun vs ds G H Q w s t k => by
  unfold divmG at k
  split at k
  · obtain ⟨v, u, rfl, tv, tu⟩ := t.two
    cases tv.int
    cases tu.int
    split at k
    · rename_i hz
      exact ⟨_, _, rfl, hz, fun p hp => KRe.new s k hp (.tup upd_same (.cons (.int _) (.cons (.int _) .nil)))⟩
    · exact k.elim
  · exact k.elim⟩⟩
def gcdG : List D → Re D
  | [.int i, .int j] => .ok (.int (Int.gcd i j))
  | _ => .no
def lGcd : FnL (.builtin "math.gcd") := ⟨gcdG, fun X n hc hr hd => ⟨_, cr_gcd, fun vs ds G H Q w s t k => by
  unfold gcdG at k
  split at k
  · obtain ⟨v, u, rfl, tv, tu⟩ := t.two
    cases tv.int
    cases tu.int
    exact ⟨_, _, rfl, KRe.here s k _ (.int _)⟩
  · exact k.elim⟩⟩
def strG : List D → Re D
  | [.int i] => if i.natAbs < 10 ^ 4300 then .ok (.str (toString i)) else .no
  | _ => .no
theorem call_strI {X : Cx} {n : Nat} (hc : X.calm = true) (hr : Room n X.A) (hd : X.base.NoDigits) : CallR X (.type "str") (fun xs H Q => ∃ i : Int, xs = [.int i] ∧ i.natAbs < 10 ^ 4300 ∧ Q (.str (toString i)) H) := by
  intro pins s σ H xs us Q I r h
  obtain ⟨i, rfl, hi, q⟩ := h
  obtain ⟨u, rfl, t, rfl⟩ := vals1 r
  exact PyProof.Rows.str_of_int_or (I.ok.hd hc) (hd.keeps I.bk) (fun _ => ⟨.str (toString i), H, I.tok _, ⟨_, rfl⟩, q⟩) fun h2 => absurd hi (by omega)
def lStr : FnL (.type "str") := ⟨strG, fun X n hc hr hd => ⟨_, call_strI hc hr hd, fun vs ds G H Q w s t k => by
  unfold strG at k
  split at k
  · obtain ⟨v, rfl, tv⟩ := t.one
    cases tv.int
    split at k
    · exact ⟨_, rfl, by assumption, KRe.here s k _ (.str _)⟩
    · exact k.elim
  · exact k.elim⟩⟩
end RJ

set_option Elab.async false
set_option linter.all false
set_option maxRecDepth 100000
set_option maxHeartbeats 1000000
set_option autoImplicit false
/-! RjK: list, tuple, isinstance, methods. -/
namespace RJ
open PySem PySem.Spec L2

/-! ### list, tuple -/
def listG : List D → Re D
  | [.lst ds] => .ok (.lst ds)
  | [.tup ds] => .ok (.lst ds)
  | [.scr ns] => .ok (.lst (ns.map .int))
  | [.dK kvs] => .ok (.lst ((kvs.map (·.1)).map dKey))
  | [.dT kvs] => .ok (.lst ((kvs.map (·.1)).map dTup))
  | _ => .no
theorem repK_keys {M : Mw} {G G' : Hp} : ∀ {ks : List (Key × V)} {ds : List (Key × D)}, RepK M G ks ds → RepL M G' (ks.map fun kv => kV kv.1) ((ds.map (·.1)).map dKey)
  | _, _, .nil => .nil
  | _, _, .cons _ r => .cons (rep_key _) (repK_keys r)
def lList : FnL (.type "list") := ⟨listG, fun X n hc hr hd => ⟨_, CallR.or2 call_list_of (CallR.or2 (call_list_dK hc) (call_list_dT hc)), fun vs ds G H Q w s t k => by
  unfold listG at k
  split at k
  · obtain ⟨v, rfl, tv⟩ := t.one
    obtain ⟨a, us, rfl, h1, r⟩ := tv.lst s
    exact .inl ⟨a, us, rfl, .inl (.of h1), fun p hp => KRe.new s k hp (.lst upd_same (r.mono (same_upd s hp)))⟩
  · obtain ⟨v, rfl, tv⟩ := t.one
    obtain ⟨a, us, rfl, h1, r⟩ := tv.tup s
    exact .inl ⟨a, us, rfl, .inr (.of h1), fun p hp => KRe.new s k hp (.lst upd_same (r.mono (same_upd s hp)))⟩
  · obtain ⟨v, rfl, tv⟩ := t.one
    obtain ⟨a, rfl, h1⟩ := tv.scr s
    exact .inl ⟨a, _, rfl, .inl h1, fun p hp => KRe.new s k hp (.lst upd_same (RepL.ints _))⟩
  · obtain ⟨v, rfl, tv⟩ := t.one
    obtain ⟨a, us, rfl, h1, r⟩ := tv.dK s
    exact .inr (.inl ⟨a, us, rfl, h1, fun p hp => KRe.new s k hp (.lst upd_same (repK_keys r))⟩)
  · obtain ⟨v, rfl, tv⟩ := t.one
    obtain ⟨a, us, rfl, h1, r⟩ := tv.dT s
    refine .inr (.inr ⟨a, us, rfl, .inl h1, fun p bs hp hk => ?_⟩)
    obtain ⟨ps, rfl, e2, h3⟩ := keys_pairs hk
    have x1 : Ext G H (shG G H (ps.map (·.1))) H := Ext.show s fun b m => by
      obtain ⟨q, m2, rfl⟩ := List.mem_map.mp m
      exact ⟨_, h3 q m2⟩
    have x2 := Ext.both x1.le (o := .lst ((ps.map (·.1)).map V.ref)) hp
    refine k _ _ (x1.trans x2) _ (.lst upd_same (RepL.mono x2.g ?_))
    rw [← r.fst, e2, List.map_map]
    refine repL_tups fun q m => ?_
    unfold shG
    rw [if_pos (List.mem_map.mpr ⟨q, m, rfl⟩)]
    exact h3 q m
  · exact k.elim⟩⟩
def tupG : List D → Re D
  | [.lst ds] => .ok (.tup ds)
  | [.tup ds] => .ok (.tup ds)
  | _ => .no
def lTuple : FnL (.type "tuple") := ⟨tupG, fun X n hc hr hd => ⟨_, call_tuple_of, fun vs ds G H Q w s t k => by
  unfold tupG at k
  split at k
  · obtain ⟨v, rfl, tv⟩ := t.one
    obtain ⟨a, us, rfl, h1, r⟩ := tv.lst s
    exact ⟨a, us, rfl, .inl ⟨.of h1, fun p hp => KRe.new s k hp (.tup upd_same (r.mono (same_upd s hp)))⟩⟩
  · obtain ⟨v, rfl, tv⟩ := t.one
    obtain ⟨a, us, rfl, h1, r⟩ := tv.tup s
    exact ⟨a, us, rfl, .inr ⟨.of h1, KRe.here s k _ tv.rep⟩⟩
  · exact k.elim⟩⟩
/-! ### isinstance with a built-in type -/
def tyD : D → Option String
  | .non => some "NoneType"
  | .bl _ => some "bool"
  | .int _ => some "int"
  | .str _ => some "str"
  | .lst _ => some "list"
  | .tup _ => some "tuple"
  | .dK _ => some "dict"
  | .dT _ => some "dict"
  | _ => none
def isiG (ty : String) (d : D) : Re D := match tyD d with
  | some a => match kitB a ty with
    | some b => .ok (.bl b)
    | none => .no
  | none => .no
theorem ty_of {M : Mw} {G H : Hp} (s : Same G H) {v : V} {d : D} {a : String} (t : Top M G H v d) (e : tyD d = some a) : TyX M.K H v (.type a) := by
  cases d with
  | non => cases e; cases t.non; exact .base .non
  | bl b => cases e; cases t.bl; exact .base (.bl _)
  | int b => cases e; cases t.int; exact .base (.int _)
  | str b => cases e; cases t.str; exact .base (.str _)
  | lst b => cases e; obtain ⟨a, us, rfl, h1, r⟩ := t.lst s; exact .base (.lst h1)
  | tup b => cases e; obtain ⟨a, us, rfl, h1, r⟩ := t.tup s; exact .base (.tup h1)
  | dK b => cases e; obtain ⟨a, us, rfl, h1, r⟩ := t.dK s; exact .base (.dK h1)
  | dT b => cases e; obtain ⟨a, us, rfl, h1, r⟩ := t.dT s; exact .base (.dT h1)
  | _ => cases e
section
variable {T : Tbl}
def ecIsi (ty : String) (a : OC T) : EC T := ⟨fun c e => match e with
  | .Call (.Name f _) [x, .Name y _] [] _ => decide (f = "isinstance") && glB c.sc f && nmB f && plainE x && a.mt c x && glB c.sc y && nmB y && decide (y ∈ blt) && decide (bootBuiltins y = some (.type ty))
  | _ => false, fun Γ => (a.den Γ).bind (isiG ty), fun {X W c e} o h G0 H0 => by
  split at h
  · simp only [Bool.and_eq_true, decide_eq_true_eq] at h
    obtain ⟨⟨⟨⟨⟨⟨⟨⟨rfl, h2⟩, h3⟩, h4⟩, h5⟩, h6⟩, h7⟩, h8⟩, h9⟩ := h
    refine (pe_callAny (v := .builtin "isinstance") rfl call_isi (o.gl h2) (o.blt _ (by decide)) (by rfl) (pa_cons (a.ok o h5 G0 H0) (pa_cons (pe_bltn (v := .ty ty) (o.gl h6) (o.blt _ h8) h9 rfl (nmB_n h7) (nmB_d h7)) pa_nil) (star_cons h4)) (nmB_n h3) (nmB_d h3) (star_cons h4) (star_any (by rfl))).weak fun σ H Q => ?_
    rintro ⟨Γ, G, R, k⟩
    refine ⟨Γ, G, R, k.bind.mono (fun d G1 H1 e1 x1 k1 v t1 => ?_) fun _ _ _ z => z⟩
    unfold isiG at k1
    split at k1
    · rename_i a' ha
      split at k1
      · rename_i b hb
        exact ⟨v, .ty ty, .type a', .type ty, b, rfl, .ty ty, ty_of x1.le t1 ha, kit_ty hb, KRe.here x1.le k1 _ (.bl _)⟩
      · exact k1.elim
    · exact k1.elim
  · cases h⟩
/-! ### methods of texts, numbers, dicts -/
def bitsR : D → Re D
  | .int i => .ok (.int (Builtin.Int.intBits i : Nat))
  | _ => .no
def ecBits (a : OC T) : EC T := ⟨fun c e => match e with
  | .Call (.Attribute x m ap) [] [] cp => decide (m = "bit_length") && notSup x && a.mt c x && (ap.endLine == cp.line)
  | _ => false, fun Γ => (a.den Γ).bind bitsR, fun {X W c e} o h G0 H0 => by
  split at h
  · simp only [Bool.and_eq_true, decide_eq_true_eq] at h
    obtain ⟨⟨⟨rfl, h2⟩, h3⟩, h4⟩ := h
    refine (pe_bits (a.ok o h3 G0 H0) (attrBase_ok h2) h4).weak fun σ H Q => ?_
    rintro ⟨Γ, G, R, k⟩
    refine ⟨Γ, G, R, k.bind.mono (fun d G1 H1 e1 x1 k1 v t1 => ?_) fun _ _ _ z => z⟩
    cases d with
    | int i =>
      cases t1.int
      exact ⟨i, rfl, KRe.here x1.le k1 _ (.int _)⟩
    | _ => exact k1.elim
  · cases h⟩
def mtM1 (nm : Str) (a : OC T) (b : OC T) (c : Sc) (e : Expr) : Bool := match e with
  | .Call (.Attribute x m ap) [y] [] cp => decide (m = nm) && notSup x && a.mt c x && (ap.endLine == cp.line) && plainE y && b.mt c y
  | _ => false
def strR (d : D) : Re Str := match d with
  | .str y => .ok y
  | _ => .no
def denM1 (fa fb : En → Re D) (g : Str → D → Re D) (Γ : En) : Re D := ((fa Γ).bind strR).bind fun s => (fb Γ).bind fun y => g s y
theorem m1_link {M : Mw} {G0 H0 : Hp} {W : WX} {fa fb : En → Re D} {g : Str → D → Re D} {r : V → List V → Hp → VK → Prop} {σ : L2.St} {H : Hp} {Q : VK}
    (L : ∀ (s : Str) (y : V) (d : D) (G H : Hp) (w : Value → Option Addr → Hp → Prop), Same G H → Top M G H y d → KRe M G H (fun d' G' H' => ∀ v, Rep M G' v d' → Q v H') w (g s d) → r (.str s) [y] H Q)
    (h : TEv M G0 H0 W (denM1 fa fb g) σ H Q) : tM1 r (TOv M G0 H0 W fa) (TOv M G0 H0 W fb) σ H Q := by
  obtain ⟨Γ, G, R, k⟩ := h
  refine ⟨Γ, G, R, k.bind.bind.mono (fun d G1 H1 e1 x1 k1 v t1 => ?_) fun _ _ _ z => z⟩
  cases d with
  | str y =>
    cases t1.str
    have k1 := KRe.here x1.le k1
    refine ⟨⟨y, rfl⟩, Γ, G1, R.ext x1, k1.bind.mono (fun d2 G2 H2 e2 x2 k2 u t2 => ?_) fun _ _ _ z => z⟩
    exact L y u d2 G2 H2 _ x2.le t2 k2
  | _ => exact k1.elim
theorem m1_linkF {M : Mw} {G0 H0 : Hp} {W : WX} {fa fb : En → Re D} {g : Str → D → Re D} {r : V → List V → Hp → VK → Prop} {σ : L2.St} {H : Hp} {Q : VK}
    (L : ∀ (s : Str) (y : V) (d : D) (G H : Hp) (w : Value → Option Addr → Hp → Prop), Same G H → Top M G H y d → KRe M G H (fun d' G' H' => ∀ a, H a = none → G' a = none → Cont M G' H' a d' → Q (.ref a) H') w (g s d) → r (.str s) [y] H Q)
    (h : TFv M G0 H0 W (denM1 fa fb g) σ H Q) : tM1 r (TOv M G0 H0 W fa) (TOv M G0 H0 W fb) σ H Q := by
  obtain ⟨Γ, G, R, k⟩ := h
  refine ⟨Γ, G, R, k.bind.bind.mono (fun d G1 H1 e1 x1 k1 v t1 => ?_) fun _ _ _ z => z⟩
  cases d with
  | str y =>
    cases t1.str
    have k1 := KRe.here x1.le k1
    refine ⟨⟨y, rfl⟩, Γ, G1, R.ext x1, k1.bind.mono (fun d2 G2 H2 e2 x2 k2 u t2 => ?_) fun _ _ _ z => z⟩
    exact L y u d2 G2 H2 _ x2.le t2 (k2.mono (fun d3 G3 H3 e3 x3 k3 a n0 n c => k3 a ((x1.trans x2).h.free n0) n c) fun _ _ _ z => z)
  | _ => exact k1.elim
def splitG (s : Str) (d : D) : Re D := match d with
  | .str b => if (b.length == 0) = false ∧ s.length + 2 ≤ sizeLine then .ok (.lst ((Txt.split s b).map .str)) else .no
  | _ => .no
def fcSplit (a b : OC T) : FC T := ⟨mtM1 "split" a b, denM1 a.den b.den splitG, fun {X W c e} o h G0 H0 => by
  unfold mtM1 at h
  split at h
  · simp only [Bool.and_eq_true, decide_eq_true_eq] at h
    obtain ⟨⟨⟨⟨⟨rfl, h2⟩, h3⟩, h4⟩, h5⟩, h6⟩ := h
    refine (pe_split (a.ok o h3 G0 H0) (b.ok o h6 G0 H0) (star1 h5) (attrBase_ok h2) h4).weak fun σ H Q => m1_linkF fun s y d G H w sm t k => ?_
    unfold splitG at k
    split at k
    · cases t.str
      split at k
      · rename_i hz
        exact ⟨_, _, rfl, rfl, hz.1, hz.2, fun p hp => k G _ (Ext.priv sm hp) p hp (sm.free hp) ⟨_, upd_same, RepL.strs _⟩⟩
      · exact k.elim
    · exact k.elim
  · cases h⟩
def strsD : List D → Option (List Str)
  | [] => some []
  | .str i :: r => (strsD r).map (i :: ·)
  | _ :: _ => none
theorem RepL.strsOf {M : Mw} {G : Hp} : ∀ {vs : List V} {ds : List D} {ns : List Str}, RepL M G vs ds → strsD ds = some ns → vs = ns.map V.str
  | _, _, _, .nil, e => by
    cases e
    rfl
  | _, d :: _, _, .cons h r, e => by
    cases d with
    | str i =>
      obtain ⟨l, e1, e2⟩ := Option.map_eq_some_iff.mp e
      subst e2
      cases h
      rw [RepL.strsOf r e1]
      rfl
    | _ => cases e
def joinG (s : Str) (d : D) : Re D := match seqOf d with
  | some ds => match strsD ds with
    | some ys => if (ys.map (·.length)).sum + ys.length * s.length ≤ 16777216 then .ok (.str (Txt.join s ys)) else .no
    | none => .no
  | none => .no
def ecJoin (a b : OC T) : EC T := ⟨mtM1 "join" a b, denM1 a.den b.den joinG, fun {X W c e} o h G0 H0 => by
  unfold mtM1 at h
  split at h
  · simp only [Bool.and_eq_true, decide_eq_true_eq] at h
    obtain ⟨⟨⟨⟨⟨rfl, h2⟩, h3⟩, h4⟩, h5⟩, h6⟩ := h
    refine (pe_join (a.ok o h3 G0 H0) (b.ok o h6 G0 H0) (star1 h5) (attrBase_ok h2) h4).weak fun σ H Q => m1_link fun s y d G H w sm t k => ?_
    unfold joinG at k
    split at k
    · rename_i ds hq
      split at k
      · rename_i ys hy
        split at k
        · rename_i hz
          cases d with
          | lst us =>
            cases hq
            obtain ⟨a, vs, rfl, h1, r⟩ := t.lst sm
            have e := r.strsOf hy
            subst e
            exact ⟨s, a, ys, rfl, rfl, .inl (.of h1), hz, KRe.here sm k _ (.str _)⟩
          | tup us =>
            cases hq
            obtain ⟨a, vs, rfl, h1, r⟩ := t.tup sm
            have e := r.strsOf hy
            subst e
            exact ⟨s, a, ys, rfl, rfl, .inr (.of h1), hz, KRe.here sm k _ (.str _)⟩
          | _ => cases hq
        · exact k.elim
      · exact k.elim
    · exact k.elim
  · cases h⟩
def findG (s : Str) (d : D) : Re D := match d with
  | .str b => .ok (.int (Txt.find s b))
  | _ => .no
def ecFind (a b : OC T) : EC T := ⟨mtM1 "find" a b, denM1 a.den b.den findG, fun {X W c e} o h G0 H0 => by
  unfold mtM1 at h
  split at h
  · simp only [Bool.and_eq_true, decide_eq_true_eq] at h
    obtain ⟨⟨⟨⟨⟨rfl, h2⟩, h3⟩, h4⟩, h5⟩, h6⟩ := h
    refine (pe_m1 F.slot_str_find F.type_str_find mt_find (a.ok o h3 G0 H0) (b.ok o h6 G0 H0) (star1 h5) (attrBase_ok h2) h4).weak fun σ H Q => m1_link fun s y d G H w sm t k => ?_
    unfold findG at k
    split at k
    · cases t.str
      exact ⟨_, _, rfl, rfl, KRe.here sm k _ (.int _)⟩
    · exact k.elim
  · cases h⟩
def indexG (s : Str) (d : D) : Re D := match d with
  | .str b => match Txt.index0 s b with
    | some k => .ok (.int (k : Nat))
    | none => .no
  | _ => .no
theorem mt_index0 {X : Cx} (hc : X.calm = true) : MtR X "str.index" (fun x xs H Q => ∃ (a b : Str) (k : Nat), x = .str a ∧ xs = [.str b] ∧ Txt.index0 a b = some k ∧ Q (.int k) H) := fun pins s σ H x xs v us Q I rx rs h => by
  obtain ⟨a, b, k, rfl, rfl, e, q⟩ := h
  exact mt_indexX hc takes0 pins s σ H _ _ _ _ Q I rx rs ⟨a, b, rfl, rfl, fun j hj => by
    rw [e] at hj
    cases hj
    exact q, fun hj => by
    rw [e] at hj
    cases hj⟩
def ecIndex (a b : OC T) : EC T := ⟨mtM1 "index" a b, denM1 a.den b.den indexG, fun {X W c e} o h G0 H0 => by
  unfold mtM1 at h
  split at h
  · simp only [Bool.and_eq_true, decide_eq_true_eq] at h
    obtain ⟨⟨⟨⟨⟨rfl, h2⟩, h3⟩, h4⟩, h5⟩, h6⟩ := h
    refine (pe_m1 F.slot_str_index F.type_str_index (mt_index0 o.calm) (a.ok o h3 G0 H0) (b.ok o h6 G0 H0) (star1 h5) (attrBase_ok h2) h4).weak fun σ H Q => m1_link fun s y d G H w sm t k => ?_
    unfold indexG at k
    split at k
    · cases t.str
      split at k
      · exact ⟨_, _, _, rfl, rfl, by assumption, KRe.here sm k _ (.int _)⟩
      · exact k.elim
    · exact k.elim
  · cases h⟩
def zfillG (s : Str) (d : D) : Re D := match d with
  | .int i => if PadOk i = true then .ok (.str (Txt.zfill s i)) else .no
  | _ => .no
def ecZfill (a b : OC T) : EC T := ⟨mtM1 "zfill" a b, denM1 a.den b.den zfillG, fun {X W c e} o h G0 H0 => by
  unfold mtM1 at h
  split at h
  · simp only [Bool.and_eq_true, decide_eq_true_eq] at h
    obtain ⟨⟨⟨⟨⟨rfl, h2⟩, h3⟩, h4⟩, h5⟩, h6⟩ := h
    refine (pe_m1 F.slot_str_zfill F.type_str_zfill mt_zfill (a.ok o h3 G0 H0) (b.ok o h6 G0 H0) (star1 h5) (attrBase_ok h2) h4).weak fun σ H Q => m1_link fun s y d G H w sm t k => ?_
    unfold zfillG at k
    split at k
    · cases t.int
      split at k
      · exact ⟨_, _, rfl, rfl, by assumption, KRe.here sm k _ (.str _)⟩
      · exact k.elim
    · exact k.elim
  · cases h⟩
/-- d.get(k, x) -/
def dget2G (d k x : D) : Re D := match getD' d k with
  | some o => .ok (o.getD x)
  | none => .no
def isDR : D → Re D
  | .dK kvs => .ok (.dK kvs)
  | .dT kvs => .ok (.dT kvs)
  | _ => .no
theorem m2_ok {X : Cx} {o e f : Expr} {m : Str} {apos cpos : Pos} (h1 : notSup o = true) (h2 : plainE e = true) (h3 : plainE f = true) (h4 : (apos.endLine == cpos.line) = true) : M2 X o m apos e f cpos where
  base := attrBase_ok h1
  few := by
    rw [star2 h2 h3]
    rfl
  line := h4
  trees := by
    rw [star2 h2 h3]
    rfl
def ecGet (a k : OC T) (x : EC T) : EC T := ⟨fun c e => match e with
  | .Call (.Attribute o m ap) [y, z] [] cp => decide (m = "get") && notSup o && a.mt c o && (ap.endLine == cp.line) && plainE y && k.mt c y && plainE z && x.mt c z
  | _ => false, fun Γ => ((a.den Γ).bind isDR).bind fun d => (k.den Γ).bind fun y => (x.den Γ).bind fun z => dget2G d y z, fun {X W c e} o h G0 H0 => by
  split at h
  · simp only [Bool.and_eq_true, decide_eq_true_eq] at h
    obtain ⟨⟨⟨⟨⟨⟨⟨rfl, h2⟩, h3⟩, h4⟩, h5⟩, h6⟩, h7⟩, h8⟩ := h
    refine (pe_dget2 (hu_of o.room) (a.ok o h3 G0 H0) (k.ok o h6 G0 H0) (x.ok o h8 G0 H0) (m2_ok h2 h5 h7 h4)).weak fun σ H Q => ?_
    rintro ⟨Γ, G, R, q⟩
    refine ⟨Γ, G, R, q.bind.bind.mono (fun d G1 H1 e1 x1 q0 v t1 => ?_) fun _ _ _ z => z⟩
    have hd : ∃ a, v = .ref a ∧ IsD H1 a := by
      cases d with
      | dK kvs =>
        obtain ⟨a, us, rfl, h1, r⟩ := t1.dK x1.le
        exact ⟨a, rfl, .inl ⟨_, .inl h1⟩⟩
      | dT kvs =>
        obtain ⟨a, us, rfl, h1, r⟩ := t1.dT x1.le
        exact ⟨a, rfl, .inr ⟨_, .inl h1⟩⟩
      | _ => exact q0.elim
    have q1 : KRe (mw X) G1 H1 (fun d' G' H' => ∀ v, Rep (mw X) G' v d' → Q v H') (fun c dd H' => W c dd σ H') ((k.den Γ).bind fun y => (x.den Γ).bind fun z => dget2G d y z) := by
      cases d with
      | dK kvs => exact KRe.here x1.le q0
      | dT kvs => exact KRe.here x1.le q0
      | _ => exact q0.elim
    obtain ⟨ad, rfl, hd⟩ := hd
    refine ⟨ad, rfl, hd, Γ, G1, R.ext x1, q1.bind.mono (fun y G2 H2 e2 x2 q2 u t2 => ?_) fun _ _ _ z => z⟩
    refine ⟨Γ, G2, R.ext (x1.trans x2), q2.bind.mono (fun z G3 H3 e3 x3 q3 u2 t3 => ?_) fun _ _ _ z => z⟩
    unfold dget2G at q3
    split at q3
    · rename_i oo eo
      obtain ⟨p, ov, ep, g, _, hv⟩ := dget_link x3.le ((t1.ext x2).ext x3) (t2.ext x3) eo
      cases ep
      refine ⟨ov, g, ?_⟩
      cases oo with
      | some z' =>
        obtain ⟨v', rfl, r⟩ := hv
        exact KRe.here x3.le q3 _ r
      | none =>
        have hv : ov = none := hv
        subst hv
        exact KRe.here x3.le q3 _ t3
    · exact q3.elim
  · cases h⟩
end
end RJ

set_option Elab.async false
set_option linter.all false
set_option maxRecDepth 100000
set_option maxHeartbeats 2000000
/-! RjL: the error BadNotation (begun as the block of the worked proof for an own error with __init__), raised. -/
namespace PySem
namespace NotX
open PySem.W PySem.Calls PyProof.Rows PySem.HandSPX
/-! ### the text of __init__ -/
def iA (p1 p2 : Pos) : Arguments := { posonlyargs := [], args := [{ arg := "self", annotation := none, pos := p1 }, { arg := "line", annotation := none, pos := p2 }], vararg := none, kwonlyargs := [], kw_defaults := [], kwarg := none, defaults := [] }
def iB (q1 q2 q3 q4 : Pos) : List Stmt := [.Assign [.Attribute (.Name "self" q1) "line" q2] (.Name "line" q3) q4]
def iS : Scope := { kind := .function, names := [(PySem.Str.ofString "self", .local), (PySem.Str.ofString "line", .local)], isGenerator := false, isCoroutine := false, more := [] }
/-- what the written part says of Low, at C, and of its __init__, at fI -/
structure NotTxt (K : Frag) (mg : Str → Option Value) (C fI : Addr) : Prop where
  gC : mg "BadNotation" = some (.ref C)
  cls : ∃ nm q N bs bm sn sub ab col dd k0 k1 k2 k3 k5, K.lookup C = some (excClassObj nm q C N bs bm true sn sub ab col dd k0 k1 k2 k3 k5 "ValueError.__new__") ∧ refsVE bm = true
  sa : findIn K (.ref C) "__setattr__" = some (some (.builtin "object.__setattr__"))
  ga : findIn K (.ref C) "__getattribute__" = some (some (.builtin "BaseException.__getattribute__"))
  gg : findIn K (.ref C) "__getattr__" = some none
  noN : findIn K (.ref C) "line" = some none
  iC : findIn K (.ref C) "__init__" = some (some (.ref fI))
  tC : typeIn K (.ref fI) = some (.type "function")
  kC : keepIn K (.ref C) = true
  exC : subIn K (.ref C) (.type "BaseException") = some true
  tyC : typeIn K (.ref C) = some (.type "type")
  hdC : hasDictIn K C = true
  te : exmOne K (.ref C) (.ref C) = some true
  fn : ∃ (oc : Value) (od : Option Addr) (kV doc pm : Value) (an : Option Addr) (cdv ct : Value) (osl : Array (Option Value)) (p1 p2 q1 q2 q3 q4 : Pos),
    K.lookup fI = some ⟨oc, od, .func (fnOf "__init__" "BadNotation.__init__" (iA p1 p2) (iB q1 q2 q3 q4) iS .none kV doc pm an cdv ct), osl⟩ ∧ codeIn K cdv "BadNotation.__init__" = true
theorem one_size (v : Value) : [v].length ≤ sizeLine := by
  rw [sizeLine_eq]
  exact (by decide : 1 ≤ 16777216)
theorem kept_but {K : Frag} {h h' : Heap} {x : Addr} (X : K.In h) (hx : K.lookup x = none) (k : ∀ b o, b ≠ x → h.get? b = some o → h'.get? b = some o) : K.In h' := fun a o e =>
  k a o (fun z => by rw [z, hx] at e; cases e) (X a o e)
theorem ldC {M : Model} {s : Shared} {name : Str} {scope : Scope} {L a : Addr} {cd : Value} {m : Str → Option Value} {x : Str} {pos : Pos} {v : Value} {Q : Value → Shared → Prop} {A : Around} {E : Value → Shared → Prop} (hn : s.heap.Ns L m) (hv : m x = some v) (h : Q v s)
    (hk : scope.kind = .function := by rfl) (hl : (envOfC name scope L a cd).kindOf x = some .local := by rfl) (hd : (x == ("__debug__" : Str)) = false := by decide) :
    wpAny M A (eval (.Name x pos) (envOfC name scope L a cd)) Q E s := wpAny_Name (wpAny_loadName_local hk hl hn hv h) hd
/-- what __init__ leaves of a fresh exception at x -/
structure InitEnd (h h' : Heap) (x C dx t1 : Addr) (v : Value) : Prop where
  keep : ∀ b o, b ≠ x → h.get? b = some o → h'.get? b = some o
  obj : h'.get? x = some { cls := .ref C, dict := some dx, data := .fields #[.ref t1, .none, .none, .none, .bool false, .none] }
  dbig : h.objs.size ≤ dx
  dne : dx ≠ x
  ns : h'.Ns1 dx (fun y => if y = "line" then some v else none)
/-- a made Low -/
structure OwnMade (h h' : Heap) (e C d : Addr) (v : Value) : Prop where
  keep : ∀ b o, h.get? b = some o → h'.get? b = some o
  new : h.objs.size ≤ e
  obj : ∃ oe vs, h'.get? e = some oe ∧ oe.cls = .ref C ∧ oe.dict = some d ∧ oe.data = .fields vs ∧ vs[1]? = some .none ∧ vs[2]? = some .none
  dbig : h.objs.size ≤ d
  dne : d ≠ e
  ns : h'.Ns1 d (fun y => if y = "line" then some v else none)
section
variable {prog : Program} {w : World} {A : Around} {E : Value → Shared → Prop} {R : Result → Shared → Prop} {s : Shared} {K : Frag} {mg : Str → Option Value} {C fI : Addr}
theorem not_init (T : NotTxt K mg C fI) {x t0 : Addr} {v : Value} (X : K.In s.heap) (hlim : s.heap.NoLimit) (hx : s.heap.get? x = some (excO C t0)) (hnx : K.lookup x = none) (hroom : A.depth < recursionLimit)
    (hq : ∀ h' tk dx, InitEnd s.heap h' x C dx t0 v → R (.ok (.ret .none)) { s with heap := h', toks := tk }) :
    codeAny (model prog w) A (.call (.ref fI) ⟨[.ref x, v], []⟩) R s := by
  obtain ⟨oc, od, kV, doc, pm, an, cdv, ct, osl, p1, p2, q1, q2, q3, q4, ho, hcd⟩ := T.fn
  obtain ⟨nm, q, N, bs, bm, sn, sub, ab, col, dd, k0, k1, k2, k3, k5, hC, hbm⟩ := T.cls
  have hcl : clsIn K C = some { name := nm, bases := bs, mro := .ref C :: bm, ns := N, qualname := q, hasDict := true, slotNames := sn, subclasses := sub, abstract := ab, collection := col, hasDel := false } := by unfold clsIn; rw [hC] <;> rfl
  refine Att.call_fn (binds := [("self", .ref x), ("line", v)]) X hlim ho hcd hroom (BindsTo.of_eq (by first | rfl | with_unfolding_all rfl)) (by first | rfl | decide | with_unfolding_all rfl) (fun s₁ IC => ?_) rfl rfl rfl
  obtain ⟨h₁, tk₁, rfl⟩ := IC.toInCall.same
  have k : ∀ b o, s.heap.get? b = some o → h₁.get? b = some o := IC.toInCall.keep
  have hn := IC.toInCall.ns
  have hxL : s.heap.objs.size ≠ x := Nat.ne_of_gt (Heap.lt_size hx)
  have X₁ : K.In h₁ := X.keeps k
  have hx₁ := k _ _ hx
  -- self.by = by
  show wpAny _ _ (execs _ _) _ _ _
  refine wpAny_execs_cons (plainObj_wpAny_Assign_Attribute ?_)
  refine ldC (v := v) hn (by first | rfl | with_unfolding_all rfl | kernel_rfl) (ldC (v := .ref x) hn (by first | rfl | with_unfolding_all rfl | kernel_rfl) ?_)
  refine set_plain X₁ (ox := excO C t0) (od := none) ⟨hx₁, rfl, rfl, trivial⟩ T.sa ?_
  refine exc_osa X₁ hx₁ hcl (show refsVE (.ref C :: bm) = true from hbm) rfl T.noN (fun h₃ tk₃ dx k₃ dn dne hx₃ hn₃ => ?_)
  show wpAny _ _ (execs _ _) _ _ _
  have z : s.heap.objs.size < h₁.objs.size := hn.lt
  exact wpAny_execs_nil (hq h₃ tk₃ dx ⟨fun b o hb e => k₃ b o hb (k b o e), hx₃, Nat.le_of_lt (Nat.lt_of_lt_of_le z dn), dne, hn₃⟩)
theorem not_made (T : NotTxt K mg C fI) {v : Value} (X : K.In s.heap) (hlim : s.heap.NoLimit) (hroom : A.depth + 1 < recursionLimit)
    (hq : ∀ h' tk e d, OwnMade s.heap h' e C d v → R (.ok (.ret (.ref e))) { s with heap := h', toks := tk }) :
    codeAny (model prog w) A (.call (.ref C) ⟨[v], []⟩) R s := by
  obtain ⟨nm, q, N, bs, bm, sn, sub, ab, col, dd, k0, k1, k2, k3, k5, hC, hbm⟩ := T.cls
  obtain ⟨hp, g, dr, tk, os⟩ := s
  have k : ∀ b o, hp.get? b = some o → ((hp.push (kdv_tup [v])).push (excO C hp.objs.size)).get? b = some o := fun b o e => Heap.get?_push_of_some _ (Heap.get?_push_of_some _ e)
  have hget : ((hp.push (kdv_tup [v])).push (excO C hp.objs.size)).get? (hp.objs.size + 1) = some (excO C hp.objs.size) := by heap_get
  have hnx : K.lookup (hp.objs.size + 1) = none := by
    cases e : K.lookup (hp.objs.size + 1) with
    | none => rfl
    | some o =>
      have z : hp.get? (hp.objs.size + 1) = some o := X _ _ e
      exact absurd (Nat.lt_of_succ_lt (Heap.lt_size z)) (Nat.lt_irrefl _)
  refine call_own F.excBase_ValueError (fun X => refsVE_contains X bm hbm) (X _ _ hC) (looks_findIn X T.iC) (fun self => bind_fn X self T.tC) (one_size v) ?_
  refine not_init (s := ⟨(hp.push (kdv_tup [v])).push (excO C hp.objs.size), g, dr, tk, os⟩) T (X.keeps k) (hlim.keeps k) hget hnx ?_ fun h' tk' dx ⟨k', hx, dn, dne, hns⟩ => ?_
  · show A.depth + 1 < recursionLimit
    exact hroom
  · have old : ∀ b o, hp.get? b = some o → h'.get? b = some o := fun b o e => k' b o (Nat.ne_of_lt (Nat.lt_succ_of_lt (Heap.lt_size e))) (k b o e)
    have z : hp.objs.size + 1 + 1 ≤ dx := by
      first
        | (simpa only [Heap.size_push] using dn)
        | exact dn
        | (have q := dn; rw [Heap.size_push, Heap.size_push] at q; exact q)
    exact ⟨rfl, hq h' tk' (hp.objs.size + 1) dx ⟨old, Nat.le_succ _, ⟨_, _, hx, rfl, rfl, rfl, rfl, rfl⟩, Nat.le_trans (Nat.le_trans (Nat.le_succ _) (Nat.le_succ _)) z, dne, hns⟩⟩
end
end NotX
end PySem
namespace L2
open PySem PySem.Spec PyProof.Rows
theorem relO_not {v : V} {v' : Value} (r : RelV v v') (f : Str) : RelO (List.lookup f [(("line" : Str), v)]) (if f = "line" then some v' else none) := by
  by_cases hw : f = "line"
  · subst hw
    rw [if_pos rfl]
    have q : List.lookup ("line" : Str) [(("line" : Str), v)] = some v := by simp [List.lookup]
    rw [q]
    exact r
  · rw [if_neg hw]
    have qw : (f == ("line" : Str)) = false := by simpa using hw
    have q2 : List.lookup f [(("line" : Str), v)] = none := by simp [List.lookup, qw]
    rw [q2]
    trivial
section
variable {X : Cx} {C fI : Addr}
/-- Low(e) -/
def tMkNot (C : Addr) (ta : TA) : St → Hp → XK → Prop := fun σ H Q => ta σ H fun vs H1 => ∃ v, vs = [v] ∧ ∀ d, H1 d = none → Q (.ref C) (some d) (upd H1 d (.xd [(("line" : Str), v)]))
theorem pmk_not {a : Expr} {ta : TA} {p pos : Pos} {k : Nat} (T : PySem.NotX.NotTxt X.K X.mg C fI) (hr : Room k X.A) (ha : PA X [a] ta) (hg : Gl X "BadNotation" := by rfl)
    (he : starEach (a :: []) X.env = (false, eval a X.env) :: starEach [] X.env := by rfl) (hpl : (backTo pos (starEach [] X.env)).any (·.1) = false := by rfl) :
    L2N.PMk X (.Call (.Name "BadNotation" p) [a] [] pos) (tMkNot C ta) := by
  intro pins s σ H Q I h
  refine wpAny_Call_Name_kw (ld_glob I hg T.gC ?_)
  refine PySem.W.callWith_K (h₀ := X.base) I.ok.mod.kin T.kC (thn (ha.run pos pins s σ H _ I h) fun us s1 hh => ?_) he hpl
  obtain ⟨vs, H1, I1, r1, v, ev, q1⟩ := hh
  subst ev
  refine ⟨I1.kIn, ?_⟩
  cases r1 with
  | cons rv rn =>
    rename_i v' us'
    cases rn
    show wpAny _ _ (call (.ref C) [v']) _ _ _
    have hlim := I1.nolimit
    obtain ⟨hp, g, dr, tk, os⟩ := s1
    refine wpAny_call (PySem.NotX.not_made T I1.kIn hlim (by have := hr.dp; omega) fun h' tk' e d M => ?_)
    show L2N.MkP X pins σ Q (.ref e) ⟨h', g, dr, tk', os⟩
    obtain ⟨oe, fv, hoe, hc, hd, hdat, h1, h2⟩ := M.obj
    have hns := M.ns
    obtain ⟨G', g1, g2⟩ := restrict h' fun b => decide (b ≠ e)
    have gk : ∀ b, b ≠ e → G'.get? b = h'.get? b := fun b hb => g1 b (decide_eq_true hb)
    have ge : G'.get? e = none := g2 e (by simp)
    have old : ∀ b o, hp.get? b = some o → G'.get? b = some o := fun b o q => (gk b (Nat.ne_of_lt (Nat.lt_of_lt_of_le (Heap.lt_size q) M.new))).trans (M.keep b o q)
    have ob : ObjOk X.prog X.w (upd H1 d (.xd [(("line" : Str), v)])) G' d (.xd [(("line" : Str), v)]) :=
      ⟨_, hns.at (fun o q => (gk d M.dne).trans q), fun f => relO_not rv f⟩
    have J : Inv X pins σ (upd H1 d (.xd [(("line" : Str), v)])) ⟨G', g, dr, tk', os⟩ := I1.laid (t' := tk') old M.dbig ob
    refine ⟨e, oe, fv, ⟨G', g, dr, tk', os⟩, _, .ref C, some d, rfl, J, fun b o q => ?_, ge, hoe, ⟨hc, hd, fun ws hw => (by rw [hdat] at hw; cases hw; exact h2)⟩, hdat, h1, ?_, rfl, I1.bare, raises_own T.exC T.tyC, q1 d (I1.hok.fresh M.dbig)⟩
    · by_cases hb : b = e
      · have q' : G'.get? b = some o := q
        rw [hb, ge] at q'; cases q'
      · exact (gk b hb).symm.trans q
    · rw [upd_ne (Ne.symm M.dne)]
      exact I1.hok.fresh M.new
/-- raise Low(e) -/
def tRaiseNot (C : Addr) (W : WX) (ta : TA) : TS := fun _ σ H => tMkNot C ta σ H fun cls d H' => W cls d σ H'
theorem ps_raiseNot {a : Expr} {ta : TA} {W : WX} {p pos pos2 : Pos} {k : Nat} (hc : X.calm = true) (T : PySem.NotX.NotTxt X.K X.mg C fI) (hr : Room k X.A) (tk : L2N.Takes X W) (ha : PA X [a] ta) (hg : Gl X "BadNotation" := by rfl)
    (he : starEach (a :: []) X.env = (false, eval a X.env) :: starEach [] X.env := by rfl) (hpl : (backTo pos (starEach [] X.env)).any (·.1) = false := by rfl) :
    PS X (.Raise (some (.Call (.Name "BadNotation" p) [a] [] pos)) none pos2) (tRaiseNot C W ta)   := L2N.ps_raise hc tk (pmk_not T hr ha hg he hpl)
/-- e.line, e the exception that the suite holds (at a; its class cls, its dict d) -/
def tByNot (C : Addr) (a : Addr) (cls : Value) (d : Option Addr) (te : TE) : TE := fun σ H Q => te σ H fun x H1 => x = .ref a ∧ cls = .ref C ∧ ∃ (dd : Addr) (v : V), d = some dd ∧ H1 dd = some (.xd [(("line" : Str), v)]) ∧ Q v H1
theorem pe_byNot {a : Addr} {oe : Obj} {cls : Value} {d : Option Addr} {pn : List (Addr × Obj)} {e : Expr} {te : TE} {pos : Pos} (T : PySem.NotX.NotTxt X.K X.mg C fI) (hz : Zc cls d oe) (hf : ∃ vs, oe.data = .fields vs) (he : PE (X.suite a ((a, oe) :: pn)) e te)
    (hb : attributeBase e "line" X.env (eval e X.env) = eval e X.env := by rfl) :
    PE (X.suite a ((a, oe) :: pn)) (.Attribute e "line" pos) (tByNot C a cls d te) := by
  refine ⟨fun pins s σ H Q I h => ?_⟩
  refine attr_of hb (thn (he.run pins s σ H _ I h) fun u s1 hh => ?_)
  obtain ⟨x, H1, I1, rx, ex, ec, dd, v, ed, ea, q⟩ := hh
  subst ex
  obtain rfl : u = Value.ref a := rx
  subst ec
  subst ed
  obtain ⟨ha, _⟩ := I1.pin (a, oe) (List.mem_append_left _ List.mem_cons_self)
  obtain ⟨vs, hd⟩ := hf
  have hx : ObjOk X.prog X.w H1 s1.heap dd (.xd [(("line" : Str), v)]) := I1.hok dd _ ea
  obtain ⟨mA, hns, hr⟩ := hx
  obtain ⟨od, ho, hl⟩ := lookIn_ns hns
  have l : List.lookup ("line" : Str) [(("line" : Str), v)] = some v := by simp [List.lookup]
  obtain ⟨u, hu, ru⟩ := RelO.some_of (v := v) (o := mA "line") (by rw [← l]; exact hr "line")
  have J : PySem.W.InstAt s1.heap a oe C (some od) := ⟨ha, hz.1, by unfold PySem.W.notCls; rw [hd] <;> rfl, by rw [hz.2]; exact ho⟩
  exact HandSPX.exc_get I1.kIn J T.ga T.gg T.exC (PySem.W.findObj_own T.hdC T.noN rfl (by rw [hl, hu])) (handed_of ru) ⟨v, H1, I1.tok _, ru, q⟩
end
end L2

namespace RJ
open PySem PySem.Spec L2
/-- raise BadNotation(a) -/
def scRaiseNot {T : Tbl} (hx : ∀ K mg, T.xok K mg → ∃ C fI, PySem.NotX.NotTxt K mg C fI) (a : EC T) : SC T := ⟨fun c s => match s with
  | .Raise (some (.Call (.Name x _) [e] [] _)) none _ => decide (x = "BadNotation") && glB c.sc x && plainE e && a.mt c e
  | _ => false, fun Γ => (a.den Γ).st Γ fun d => .ex ⟨"BadNotation", [("line", d)]⟩ Γ, fun {X W c e} o h G0 H0 => by
  split at h
  · simp only [Bool.and_eq_true, decide_eq_true_eq] at h
    obtain ⟨⟨⟨rfl, h2⟩, h3⟩, h4⟩ := h
    obtain ⟨C, fI, N⟩ := hx _ _ o.xk
    refine (ps_raiseNot o.calm N o.room o.tk (pa_cons (a.ok o h4 G0 H0) pa_nil (star_cons h3)) (o.gl h2) (star_cons h3) (star_any (es := []) rfl)).weak fun D σ H => ?_
    rintro ⟨Γ, G, R, k⟩
    refine ⟨Γ, G, R, (KSt.bind R k).mono (fun d G1 H1 e1 x1 k1 v r1 => ?_) fun _ _ _ z => z⟩
    refine ⟨v, rfl, fun d2 hd => ?_⟩
    have x2 := Ext.both x1.le (o := .xd [(("line" : Str), v)]) hd
    exact k1 _ _ σ _ _ x2.g (R.ext (x1.trans x2)) ⟨C, N.gC, rfl, .inr ⟨d2, _, rfl, upd_same, .cons (r1.mono x2.g) .nil⟩⟩
  · cases h⟩
end RJ

set_option Elab.async false
set_option linter.all false
set_option maxRecDepth 100000
set_option maxHeartbeats 1000000
set_option autoImplicit false
/-! RjM: order of data; the meaning's equations. -/
namespace RJ
open PySem PySem.Spec L2

/-! ### >=, < .. of data of one form -/
theorem room_d {X : Cx} {n : Nat} (hr : Room n X.A) {p q : PyData} (h : decide (p.depth ≤ 50) = true) : X.A.units + min p.depth q.depth < cLine := by
  have := hr.units
  have h := of_decide_eq_true h
  have := Nat.min_le_left p.depth q.depth
  omega
def noneP : PyData → Bool
  | .none => true
  | _ => false
theorem noneP_ne {p : PyData} (h : (!noneP p) = true) : p ≠ .none := fun e => by
  subst e
  cases h
def dcG (f : PyData → PyData → Bool) : D → D → Re D := fun d e => match toP d, toP e with
  | some p, some q => if (PySem.W.alike p q && !noneP p && decide (p.depth ≤ 50)) = true then .ok (.bl (f p q)) else .no
  | _, _ => .no
def rDc (K : PySem.W.Frag) (f : PyData → PyData → Bool) : R2 := fun x y H Q => ∃ p q, Dp K H x p ∧ Dp K H y q ∧ PySem.W.alike p q = true ∧ p ≠ .none ∧ decide (p.depth ≤ 50) = true ∧ Q (.bl (f p q)) H
theorem dc_link {M : Mw} (f : PyData → PyData → Bool) : LinkR M (rDc M.K f) (dcG f) := fun x y d e G H Q w s tx ty k => by
  unfold dcG at k
  split at k
  · rename_i p q e1 e2
    split at k
    · rename_i hz
      simp only [Bool.and_eq_true] at hz
      exact ⟨p, q, top_dp s tx e1, top_dp s ty e2, hz.1.1, noneP_ne hz.1.2, hz.2, KRe.here s k _ (.bl _)⟩
    · exact k.elim
  · exact k.elim
def lGeD : CmL .GtE := ⟨dcG fun p q => !PySem.W.dataLt p q, fun X n hc hr => ⟨_, fun pins s σ H x y v u Q I rx ry h => by
  obtain ⟨p, q, h1, h2, h3, h4, h5, k⟩ := h
  obtain ⟨as, r1⟩ := Dp.reads I p x v h1 rx
  obtain ⟨bs, r2⟩ := Dp.reads I q y u h2 ry
  exact PySem.W.ge_data r1 r2 h3 h4 (room_d hr h5) ⟨.bl _, H, I, rfl, k⟩, dc_link _⟩⟩
def lGtD : CmL .Gt := ⟨dcG fun p q => PySem.W.dataLt q p, fun X n hc hr => ⟨_, fun pins s σ H x y v u Q I rx ry h => by
  obtain ⟨p, q, h1, h2, h3, h4, h5, k⟩ := h
  obtain ⟨as, r1⟩ := Dp.reads I p x v h1 rx
  obtain ⟨bs, r2⟩ := Dp.reads I q y u h2 ry
  exact PySem.W.gt_data r1 r2 h3 h4 (room_d hr h5) ⟨.bl _, H, I, rfl, k⟩, dc_link _⟩⟩
def lLeD : CmL .LtE := ⟨dcG fun p q => !PySem.W.dataLt q p, fun X n hc hr => ⟨_, fun pins s σ H x y v u Q I rx ry h => by
  obtain ⟨p, q, h1, h2, h3, h4, h5, k⟩ := h
  obtain ⟨as, r1⟩ := Dp.reads I p x v h1 rx
  obtain ⟨bs, r2⟩ := Dp.reads I q y u h2 ry
  exact PySem.W.le_data r1 r2 h3 h4 (room_d hr h5) ⟨.bl _, H, I, rfl, k⟩, dc_link _⟩⟩
def lLtD : CmL .Lt := ⟨dcG fun p q => PySem.W.dataLt p q, fun X n hc hr => ⟨_, fun pins s σ H x y v u Q I rx ry h => by
  obtain ⟨p, q, h1, h2, h3, h4, h5, k⟩ := h
  obtain ⟨as, r1⟩ := Dp.reads I p x v h1 rx
  obtain ⟨bs, r2⟩ := Dp.reads I q y u h2 ry
  exact PySem.W.lt_data r1 r2 h3 h4 (room_d hr h5) ⟨.bl _, H, I, rfl, k⟩, dc_link _⟩⟩

def min2G : List D → Re D
  | [.int i, .int j] => .ok (.int (if j < i then j else i))
  | _ => .no
def lMin2 : FnL (.builtin "min") := ⟨min2G, fun X n hc hr hd => ⟨_, call_min2 hc, fun vs ds G H Q w s t k => by
  unfold min2G at k
  split at k
  · obtain ⟨v, u, rfl, tv, tu⟩ := t.two
    cases tv.int
    cases tu.int
    exact ⟨_, _, rfl, KRe.here s k _ (.int _)⟩
  · exact k.elim⟩⟩
def max2G : List D → Re D
  | [.int i, .int j] => .ok (.int (if j > i then j else i))
  | _ => .no
def lMax2 : FnL (.builtin "max") := ⟨max2G, fun X n hc hr hd => ⟨_, call_max2 hc, fun vs ds G H Q w s t k => by
  unfold max2G at k
  split at k
  · obtain ⟨v, u, rfl, tv, tu⟩ := t.two
    cases tv.int
    cases tu.int
    exact ⟨_, _, rfl, KRe.here s k _ (.int _)⟩
  · exact k.elim⟩⟩
/-! ### the meaning's equations -/
@[simp] theorem g_lMin2 : lMin2.g = min2G := rfl
@[simp] theorem g_lMax2 : lMax2.g = max2G := rfl
section
variable {T : Tbl}
@[simp] theorem Re.bind_ok {α β : Type} (a : α) (f : α → Re β) : (Re.ok a).bind f = f a := rfl
@[simp] theorem Re.bind_no {α β : Type} (f : α → Re β) : (Re.no : Re α).bind f = .no := rfl
@[simp] theorem Re.bind_ex {α β : Type} (e : Ex) (f : α → Re β) : (Re.ex e : Re α).bind f = .ex e := rfl
@[simp] theorem Re.st_ok {α : Type} (a : α) (Γ : En) (f : α → SR) : (Re.ok a).st Γ f = f a := rfl
@[simp] theorem Re.st_no {α : Type} (Γ : En) (f : α → SR) : (Re.no : Re α).st Γ f = .no := rfl
@[simp] theorem Re.st_ex {α : Type} (e : Ex) (Γ : En) (f : α → SR) : (Re.ex e : Re α).st Γ f = .ex e Γ := rfl
@[simp] theorem SR.seq_nx (Γ : En) (f : En → SR) : (SR.nx Γ).seq f = f Γ := rfl
@[simp] theorem SR.seq_rt (d : D) (f : En → SR) : (SR.rt d).seq f = .rt d := rfl
@[simp] theorem SR.seq_bk (Γ : En) (f : En → SR) : (SR.bk Γ).seq f = .bk Γ := rfl
@[simp] theorem SR.seq_ct (Γ : En) (f : En → SR) : (SR.ct Γ).seq f = .ct Γ := rfl
@[simp] theorem SR.seq_ex (e : Ex) (Γ : En) (f : En → SR) : (SR.ex e Γ).seq f = .ex e Γ := rfl
@[simp] theorem SR.seq_no (f : En → SR) : (SR.no).seq f = .no := rfl
@[simp] theorem SR.turn_nx (Γ : En) (f : En → SR) : (SR.nx Γ).turn f = f Γ := rfl
@[simp] theorem SR.turn_ct (Γ : En) (f : En → SR) : (SR.ct Γ).turn f = f Γ := rfl
@[simp] theorem SR.turn_bk (Γ : En) (f : En → SR) : (SR.bk Γ).turn f = .nx Γ := rfl
@[simp] theorem SR.turn_rt (d : D) (f : En → SR) : (SR.rt d).turn f = .rt d := rfl
@[simp] theorem SR.turn_ex (e : Ex) (Γ : En) (f : En → SR) : (SR.ex e Γ).turn f = .ex e Γ := rfl
@[simp] theorem SR.turn_no (f : En → SR) : (SR.no).turn f = .no := rfl
@[simp] theorem outS_rt (d : D) : outS (.rt d) = .ok d := rfl
@[simp] theorem outS_nx (Γ : En) : outS (.nx Γ) = .ok .non := rfl
@[simp] theorem outS_ex (e : Ex) (Γ : En) : outS (.ex e Γ) = .ex e := rfl
@[simp] theorem outS_no : outS .no = .no := rfl
@[simp] theorem den_ocE (a : EC T) (Γ : En) : (ocE a).den Γ = a.den Γ := rfl
@[simp] theorem den_ecF (a : FC T) (Γ : En) : (ecF a).den Γ = a.den Γ := rfl
@[simp] theorem den_ecVar (i : Nat) (Γ : En) : (ecVar i : EC T).den Γ = dVar i Γ := rfl
@[simp] theorem den_ocVar (i : Nat) (Γ : En) : (ocVar i : OC T).den Γ = dVarO i Γ := rfl
@[simp] theorem den_ecInt (n : Int) (Γ : En) : (ecInt n : EC T).den Γ = .ok (.int n) := rfl
@[simp] theorem den_ecStr (n : Str) (Γ : En) : (ecStr n : EC T).den Γ = .ok (.str n) := rfl
@[simp] theorem den_ecBl (n : Bool) (Γ : En) : (ecBl n : EC T).den Γ = .ok (.bl n) := rfl
@[simp] theorem den_ecNon (Γ : En) : (ecNon : EC T).den Γ = .ok .non := rfl
@[simp] theorem den_ecGi (y : Str) (n : Int) (Γ : En) : (ecGi y n : EC T).den Γ = .ok (.int n) := rfl
@[simp] theorem den_ecGs (y : Str) (n : Str) (Γ : En) : (ecGs y n : EC T).den Γ = .ok (.str n) := rfl
@[simp] theorem den_acNil (Γ : En) : (acNil : AC T).den Γ = .ok [] := rfl
@[simp] theorem den_acCons (a : EC T) (r : AC T) (Γ : En) : (acCons a r).den Γ = (a.den Γ).bind fun d => (r.den Γ).bind fun ds => .ok (d :: ds) := rfl
@[simp] theorem den_aoNil (Γ : En) : (aoNil : AO T).den Γ = .ok [] := rfl
@[simp] theorem den_aoCons (a : OC T) (r : AO T) (Γ : En) : (aoCons a r).den Γ = (a.den Γ).bind fun d => (r.den Γ).bind fun ds => .ok (d :: ds) := rfl
@[simp] theorem den_ecTup (a : AC T) (Γ : En) : (ecTup a).den Γ = (a.den Γ).bind fun ds => if ds.length ≤ sizeLine then .ok (.tup ds) else .no := rfl
@[simp] theorem den_fcLst (a : AC T) (Γ : En) : (fcLst a).den Γ = (a.den Γ).bind fun ds => if ds.length ≤ sizeLine then .ok (.lst ds) else .no := rfl
@[simp] theorem den_ecBin {op : Operator} (L : BiL op) (a b : OC T) (Γ : En) : (ecBin L a b).den Γ = (a.den Γ).bind fun d => (b.den Γ).bind fun e => L.g d e := rfl
@[simp] theorem den_ecCmp {op : CmpOp} (L : CmL op) (a b : OC T) (Γ : En) : (ecCmp L a b).den Γ = (a.den Γ).bind fun d => (b.den Γ).bind fun e => L.g d e := rfl
@[simp] theorem den_tcCmp {op : CmpOp} (L : CmL op) (a b : OC T) (Γ : En) : (tcCmp L a b).den Γ = ((a.den Γ).bind fun d => (b.den Γ).bind fun e => L.g d e).bind boolR := rfl
@[simp] theorem den_ecChn {op op' : CmpOp} (L : CmL op) (L' : CmL op') (a b d : OC T) (Γ : En) : (ecChn L L' a b d).den Γ = den3 a.den b.den d.den L.g L'.g Γ := rfl
@[simp] theorem den_tcChn {op op' : CmpOp} (L : CmL op) (L' : CmL op') (a b d : OC T) (Γ : En) : (tcChn L L' a b d).den Γ = (den3 a.den b.den d.den L.g L'.g Γ).bind boolR := rfl
@[simp] theorem den_ecNeg (a : OC T) (Γ : En) : (ecNeg a).den Γ = (a.den Γ).bind negR := rfl
@[simp] theorem g_lAdd : lAdd.g = addG := rfl
@[simp] theorem g_lSub : lSub.g = subG := rfl
@[simp] theorem g_lMul : lMul.g = mulG := rfl
@[simp] theorem g_lFdiv : lFdiv.g = fdivG := rfl
@[simp] theorem g_lMod : lMod.g = modG := rfl
@[simp] theorem g_lPow : lPow.g = powG := rfl
@[simp] theorem g_lEq : lEq.g = eqG false := rfl
@[simp] theorem g_lNe : lNe.g = eqG true := rfl
@[simp] theorem g_lLt : lLt.g = ordG (fun i j => decide (i < j)) (fun i j => decide (i < j)) := rfl
@[simp] theorem g_lLe : lLe.g = ordG (fun i j => decide (i ≤ j)) (fun i j => !decide (j < i)) := rfl
@[simp] theorem g_lGt : lGt.g = ordG (fun i j => decide (j < i)) (fun i j => decide (j < i)) := rfl
@[simp] theorem g_lGe : lGe.g = ordG (fun i j => decide (j ≤ i)) (fun i j => !decide (i < j)) := rfl
@[simp] theorem g_lGeD : lGeD.g = dcG fun p q => !PySem.W.dataLt p q := rfl
@[simp] theorem g_lInS : lInS.g = sgnG false := rfl
@[simp] theorem g_lNinS : lNinS.g = sgnG true := rfl
@[simp] theorem g_lIn : lIn.g = inG false := rfl
@[simp] theorem g_lNin : lNin.g = inG true := rfl
@[simp] theorem g_lInD : lInD.g = inDG false := rfl
@[simp] theorem g_lNinD : lNinD.g = inDG true := rfl
@[simp] theorem g_lIs : lIs.g = isG false := rfl
@[simp] theorem g_lIsNot : lIsNot.g = isG true := rfl
@[simp] theorem den_tcTru (a : OC T) (Γ : En) : (tcTru a).den Γ = (a.den Γ).bind truG := rfl
@[simp] theorem den_tcNot (a : TC T) (Γ : En) : (tcNot a).den Γ = (a.den Γ).bind fun b => .ok (!b) := rfl
@[simp] theorem den_tcAnd (ts : List (TC T)) (Γ : En) : (tcAnd ts).den Γ = denAnd ts Γ := rfl
@[simp] theorem den_tcOr (ts : List (TC T)) (Γ : En) : (tcOr ts).den Γ = denOr ts Γ := rfl
@[simp] theorem den_ecAnd (ts : List (EC T)) (Γ : En) : (ecAnd ts).den Γ = denAndV ts Γ := rfl
@[simp] theorem den_ecOr (ts : List (EC T)) (Γ : En) : (ecOr ts).den Γ = denOrV ts Γ := rfl
@[simp] theorem denAnd_1 (t : TC T) (Γ : En) : denAnd [t] Γ = t.den Γ := rfl
@[simp] theorem denAnd_2 (t u : TC T) (r : List (TC T)) (Γ : En) : denAnd (t :: u :: r) Γ = (t.den Γ).bind fun b => if b = true then denAnd (u :: r) Γ else .ok false := rfl
@[simp] theorem denOr_1 (t : TC T) (Γ : En) : denOr [t] Γ = t.den Γ := rfl
@[simp] theorem denOr_2 (t u : TC T) (r : List (TC T)) (Γ : En) : denOr (t :: u :: r) Γ = (t.den Γ).bind fun b => if b = true then .ok true else denOr (u :: r) Γ := rfl
@[simp] theorem denAndV_1 (t : EC T) (Γ : En) : denAndV [t] Γ = t.den Γ := rfl
@[simp] theorem denAndV_2 (t u : EC T) (r : List (EC T)) (Γ : En) : denAndV (t :: u :: r) Γ = ((t.den Γ).bind boolR).bind fun b => if b = true then denAndV (u :: r) Γ else .ok (.bl false) := rfl
@[simp] theorem denOrV_1 (t : EC T) (Γ : En) : denOrV [t] Γ = t.den Γ := rfl
@[simp] theorem denOrV_2 (t u : EC T) (r : List (EC T)) (Γ : En) : denOrV (t :: u :: r) Γ = ((t.den Γ).bind boolR).bind fun b => if b = true then .ok (.bl true) else denOrV (u :: r) Γ := rfl
@[simp] theorem den_ecNot (a : EC T) (Γ : En) : (ecNot a).den Γ = ((a.den Γ).bind boolR).bind fun b => .ok (.bl (!b)) := rfl
@[simp] theorem den_ecIf (t : TC T) (a b : EC T) (Γ : En) : (ecIf t a b).den Γ = (t.den Γ).bind fun k => if k = true then a.den Γ else b.den Γ := rfl
@[simp] theorem den_ecIx (a i : OC T) (Γ : En) : (ecIx a i).den Γ = (a.den Γ).bind fun d => (i.den Γ).bind fun e => ixG d e := rfl
@[simp] theorem den_ecDg (a i : OC T) (Γ : En) : (ecDg a i).den Γ = (a.den Γ).bind fun d => (i.den Γ).bind fun e => dgG d e := rfl
@[simp] theorem den_ecSl (a : OC T) (lo hi : Option (OC T)) (Γ : En) : (ecSl a lo hi).den Γ = (a.den Γ).bind fun d => (denPart lo Γ).bind fun l => (denPart hi Γ).bind fun u => slG d l u := rfl
@[simp] theorem denPart_none (Γ : En) : denPart (none : Option (OC T)) Γ = .ok none := rfl
@[simp] theorem denPart_some (a : OC T) (Γ : En) : denPart (some a) Γ = (a.den Γ).bind intR := rfl
@[simp] theorem intR_int (i : Int) : intR (.int i) = .ok (some i) := rfl
@[simp] theorem den_ecRev (a : OC T) (Γ : En) : (ecRev a).den Γ = (a.den Γ).bind revR := rfl
@[simp] theorem den_ecCall (f : T.Fn) (as : AC T) (Γ : En) : (ecCall f as).den Γ = (as.den Γ).bind (T.den f) := rfl
@[simp] theorem den_ecB (y : Str) {v : Value} (L : FnL v) (as : AO T) (Γ : En) : (ecB y L as).den Γ = (as.den Γ).bind L.g := rfl
@[simp] theorem den_fcB (y : Str) {v : Value} (L : FnLF v) (as : AO T) (Γ : En) : (fcB y L as).den Γ = (as.den Γ).bind L.g := rfl
@[simp] theorem den_ecBf (y : Str) (id : String) (L : FnL (.builtin id)) (as : AO T) (Γ : En) : (ecBf y id L as).den Γ = (as.den Γ).bind L.g := rfl
@[simp] theorem g_lSorted (sh : Nat → Bool) : (lSorted sh).g = sorG sh := rfl
@[simp] theorem g_lLen : lLen.g = lenG := rfl
@[simp] theorem g_lInt : lInt.g = intG := rfl
@[simp] theorem g_lAbs : lAbs.g = absG := rfl
@[simp] theorem g_lDivm : lDivm.g = divmG := rfl
@[simp] theorem g_lGcd : lGcd.g = gcdG := rfl
@[simp] theorem g_lStr : lStr.g = strG := rfl
@[simp] theorem g_lList : lList.g = listG := rfl
@[simp] theorem g_lTuple : lTuple.g = tupG := rfl
@[simp] theorem den_ecIsi (ty : String) (a : OC T) (Γ : En) : (ecIsi ty a).den Γ = (a.den Γ).bind (isiG ty) := rfl
@[simp] theorem den_ecBits (a : OC T) (Γ : En) : (ecBits a).den Γ = (a.den Γ).bind bitsR := rfl
@[simp] theorem den_fcSplit (a b : OC T) (Γ : En) : (fcSplit a b).den Γ = denM1 a.den b.den splitG Γ := rfl
@[simp] theorem den_ecJoin (a b : OC T) (Γ : En) : (ecJoin a b).den Γ = denM1 a.den b.den joinG Γ := rfl
@[simp] theorem den_ecFind (a b : OC T) (Γ : En) : (ecFind a b).den Γ = denM1 a.den b.den findG Γ := rfl
@[simp] theorem den_ecIndex (a b : OC T) (Γ : En) : (ecIndex a b).den Γ = denM1 a.den b.den indexG Γ := rfl
@[simp] theorem den_ecZfill (a b : OC T) (Γ : En) : (ecZfill a b).den Γ = denM1 a.den b.den zfillG Γ := rfl
@[simp] theorem den_ecGet (a k : OC T) (x : EC T) (Γ : En) : (ecGet a k x).den Γ = ((a.den Γ).bind isDR).bind fun d => (k.den Γ).bind fun y => (x.den Γ).bind fun z => dget2G d y z := rfl
@[simp] theorem den_fcLc (own : List (Str × Nat)) (it : IC T) (tg : GC T) (ct : Option (TC T)) (el : EC T) (Γ : En) : (fcLc own it tg ct el).den Γ = denLc it tg ct el (own.map (·.2)) Γ := rfl
@[simp] theorem den_fcDk (Γ : En) : (fcDk : FC T).den Γ = .ok (.dK []) := rfl
@[simp] theorem den_fcDt (Γ : En) : (fcDt : FC T).den Γ = .ok (.dT []) := rfl
@[simp] theorem den_bNil (Γ : En) : (bNil : BC T).den Γ = .nx Γ := rfl
@[simp] theorem den_bCons (a : SC T) (r : BC T) (Γ : En) : (bCons a r).den Γ = (a.den Γ).seq r.den := rfl
@[simp] theorem bList_nil : (bList [] : BC T) = bNil := rfl
@[simp] theorem bList_cons (a : SC T) (r : List (SC T)) : bList (a :: r) = bCons a (bList r) := rfl
@[simp] theorem den_bDoc (r : BC T) (Γ : En) : (bDoc r).den Γ = r.den Γ := rfl
@[simp] theorem den_bFrz (i : Nat) (r : BC T) (Γ : En) : (bFrz i r).den Γ = r.den (dFrz i Γ) := rfl
@[simp] theorem den_scSet (i : Nat) (a : EC T) (Γ : En) : (scSet i a).den Γ = (a.den Γ).st Γ fun d => .nx (Γ.set i (.sh d)) := rfl
@[simp] theorem den_scSetF (i : Nat) (a : FC T) (Γ : En) : (scSetF i a).den Γ = (a.den Γ).st Γ fun d => .nx (Γ.set i (.own d)) := rfl
@[simp] theorem den_scSetLc (i : Nat) (own : List (Str × Nat)) (it : IC T) (tg : GC T) (ct : Option (TC T)) (el : EC T) (Γ : En) : (scSetLc i own it tg ct el).den Γ = (denLc it tg ct el (own.map (·.2)) Γ).st Γ fun d => .nx (Γ.set i (.own d)) := rfl
@[simp] theorem den_scTgt (tg : GC T) (a : EC T) (Γ : En) : (scTgt tg a).den Γ = (a.den Γ).st Γ fun d => tgS (tg.den d Γ) := rfl
@[simp] theorem tgS_ok' (Γ : En) : tgS (.ok Γ) = .nx Γ := rfl
@[simp] theorem tgS_no : tgS .no = .no := rfl
@[simp] theorem den_scApp (i : Nat) (a : EC T) (Γ : En) : (scApp i a).den Γ = dApp i a.den Γ := rfl
@[simp] theorem den_scPutL (i : Nat) (kk : OC T) (a : EC T) (Γ : En) : (scPutL i kk a).den Γ = dPutL i a.den kk.den Γ := rfl
@[simp] theorem den_scPutD (i : Nat) (kk a : EC T) (Γ : En) : (scPutD i kk a).den Γ = dPutD i a.den kk.den Γ := rfl
@[simp] theorem den_scRet (a : EC T) (Γ : En) : (scRet a).den Γ = (a.den Γ).st Γ .rt := rfl
@[simp] theorem den_scRetN (Γ : En) : (scRetN : SC T).den Γ = .rt .non := rfl
@[simp] theorem den_scBrk (Γ : En) : (scBrk : SC T).den Γ = .bk Γ := rfl
@[simp] theorem den_scCont (Γ : En) : (scCont : SC T).den Γ = .ct Γ := rfl
@[simp] theorem den_scPass (Γ : En) : (scPass : SC T).den Γ = .nx Γ := rfl
@[simp] theorem den_scExp (a : EC T) (Γ : En) : (scExp a).den Γ = (a.den Γ).st Γ fun _ => .nx Γ := rfl
@[simp] theorem den_scIf (t : TC T) (a b : BC T) (Γ : En) : (scIf t a b).den Γ = (t.den Γ).st Γ fun k => if k = true then a.den Γ else b.den Γ := rfl
@[simp] theorem den_scFor (tg : GC T) (it : IC T) (b : BC T) (Γ : En) : (scFor tg it b).den Γ = (it.den Γ).st Γ fun ds => forD tg.den b.den ds Γ := rfl
@[simp] theorem den_scWhile (fuel : En → Nat) (t : TC T) (b : BC T) (Γ : En) : (scWhile fuel t b).den Γ = whileD t.den b.den (fuel Γ) Γ := rfl
@[simp] theorem den_scRaiseNot (hx : ∀ K mg, T.xok K mg → ∃ C fI, PySem.NotX.NotTxt K mg C fI) (a : EC T) (Γ : En) : (scRaiseNot hx a).den Γ = (a.den Γ).st Γ fun d => .ex ⟨"BadNotation", [("line", d)]⟩ Γ := rfl
@[simp] theorem den_icLst (a : EC T) (Γ : En) : (icLst a).den Γ = (a.den Γ).bind itemsR := rfl
@[simp] theorem den_icTup (a : EC T) (Γ : En) : (icTup a).den Γ = (a.den Γ).bind itemsT := rfl
@[simp] theorem den_icScr (a : EC T) (Γ : En) : (icScr a).den Γ = (a.den Γ).bind itemsC := rfl
@[simp] theorem den_icStr (a : EC T) (Γ : En) : (icStr a).den Γ = (a.den Γ).bind itemsS := rfl
@[simp] theorem den_icSeq (a : EC T) (Γ : En) : (icSeq a).den Γ = (a.den Γ).bind itemsQ := rfl
@[simp] theorem den_icRng1 (a : OC T) (Γ : En) : (icRng1 a).den Γ = (a.den Γ).bind rng1 := rfl
@[simp] theorem den_icRng2 (a b : OC T) (Γ : En) : (icRng2 a b).den Γ = (a.den Γ).bind fun d => (b.den Γ).bind fun e => rng2 d e := rfl
@[simp] theorem boolR_bl (b : Bool) : boolR (.bl b) = .ok b := rfl
@[simp] theorem ok_inj {α : Type} (a b : α) : (Re.ok a = Re.ok b) ↔ a = b := ⟨fun h => by cases h; rfl, fun h => by rw [h]⟩
end
end RJ

set_option Elab.async false
set_option linter.all false
set_option maxRecDepth 100000
set_option maxHeartbeats 1000000
set_option autoImplicit false
/-! printed by gen.py: the defs as terms. -/
namespace RJ
open PySem PySem.Spec L2

inductive Fn where
  | f_polynomial | f_poly_times | f_ratio | f_parts_of | f_fraction | f_times | f_is_row_name | f_terms_of | f_ordered | f_sum_times | f_written | f_format_fraction | f_format_polynomial | f_format_sum | f_whole_number | f_read_fraction | f_read_polynomial | f_read_sum | f_parse_fraction | f_parse_polynomial | f_parse_sum | f_law_whole | f_law_cell | f_law_digits | f_law_gcd | f_law_frac | f_law_is_fraction | f_law_poly | f_law_pairs | f_law_sum | f_law_terms | f_law_is_sum | f_law_is_poly | f_law_is_name | f_law_number | f_law_write | f_law_written | f_law_drawn_number | f_law_drawn_items | f_law_spoilt | f_law_free_text | f_law_parsed | f_law_has_form | f_law_formatted | f_law_reaches_far | f_law_text_agrees | f_law_far_agrees | f_law_drawn_worth | f_law_handed | f_law
abbrev Dn := Fn → List D → Re D
def fnName : Fn → Str
  | .f_polynomial => "polynomial"
  | .f_poly_times => "poly_times"
  | .f_ratio => "ratio"
  | .f_parts_of => "parts_of"
  | .f_fraction => "fraction"
  | .f_times => "times"
  | .f_is_row_name => "is_row_name"
  | .f_terms_of => "terms_of"
  | .f_ordered => "ordered"
  | .f_sum_times => "sum_times"
  | .f_written => "written"
  | .f_format_fraction => "format_fraction"
  | .f_format_polynomial => "format_polynomial"
  | .f_format_sum => "format_sum"
  | .f_whole_number => "whole_number"
  | .f_read_fraction => "read_fraction"
  | .f_read_polynomial => "read_polynomial"
  | .f_read_sum => "read_sum"
  | .f_parse_fraction => "parse_fraction"
  | .f_parse_polynomial => "parse_polynomial"
  | .f_parse_sum => "parse_sum"
  | .f_law_whole => "_law_whole"
  | .f_law_cell => "_law_cell"
  | .f_law_digits => "_law_digits"
  | .f_law_gcd => "_law_gcd"
  | .f_law_frac => "_law_frac"
  | .f_law_is_fraction => "_law_is_fraction"
  | .f_law_poly => "_law_poly"
  | .f_law_pairs => "_law_pairs"
  | .f_law_sum => "_law_sum"
  | .f_law_terms => "_law_terms"
  | .f_law_is_sum => "_law_is_sum"
  | .f_law_is_poly => "_law_is_poly"
  | .f_law_is_name => "_law_is_name"
  | .f_law_number => "_law_number"
  | .f_law_write => "_law_write"
  | .f_law_written => "_law_written"
  | .f_law_drawn_number => "_law_drawn_number"
  | .f_law_drawn_items => "_law_drawn_items"
  | .f_law_spoilt => "_law_spoilt"
  | .f_law_free_text => "_law_free_text"
  | .f_law_parsed => "_law_parsed"
  | .f_law_has_form => "_law_has_form"
  | .f_law_formatted => "_law_formatted"
  | .f_law_reaches_far => "_law_reaches_far"
  | .f_law_text_agrees => "_law_text_agrees"
  | .f_law_far_agrees => "_law_far_agrees"
  | .f_law_drawn_worth => "_law_drawn_worth"
  | .f_law_handed => "_law_handed"
  | .f_law => "law"
def fnLvl : Fn → Nat
  | .f_polynomial => 1
  | .f_poly_times => 1
  | .f_ratio => 1
  | .f_parts_of => 1
  | .f_fraction => 2
  | .f_times => 2
  | .f_is_row_name => 1
  | .f_terms_of => 1
  | .f_ordered => 2
  | .f_sum_times => 2
  | .f_written => 1
  | .f_format_fraction => 3
  | .f_format_polynomial => 2
  | .f_format_sum => 3
  | .f_whole_number => 1
  | .f_read_fraction => 3
  | .f_read_polynomial => 2
  | .f_read_sum => 3
  | .f_parse_fraction => 4
  | .f_parse_polynomial => 3
  | .f_parse_sum => 4
  | .f_law_whole => 1
  | .f_law_cell => 1
  | .f_law_digits => 1
  | .f_law_gcd => 1
  | .f_law_frac => 2
  | .f_law_is_fraction => 2
  | .f_law_poly => 1
  | .f_law_pairs => 1
  | .f_law_sum => 1
  | .f_law_terms => 1
  | .f_law_is_sum => 2
  | .f_law_is_poly => 2
  | .f_law_is_name => 1
  | .f_law_number => 1
  | .f_law_write => 1
  | .f_law_written => 3
  | .f_law_drawn_number => 1
  | .f_law_drawn_items => 2
  | .f_law_spoilt => 1
  | .f_law_free_text => 2
  | .f_law_parsed => 5
  | .f_law_has_form => 3
  | .f_law_formatted => 4
  | .f_law_reaches_far => 2
  | .f_law_text_agrees => 6
  | .f_law_far_agrees => 6
  | .f_law_drawn_worth => 3
  | .f_law_handed => 4
  | .f_law => 7
def fnAr : Fn → Nat
  | .f_polynomial => 1
  | .f_poly_times => 2
  | .f_ratio => 2
  | .f_parts_of => 1
  | .f_fraction => 1
  | .f_times => 2
  | .f_is_row_name => 1
  | .f_terms_of => 1
  | .f_ordered => 1
  | .f_sum_times => 2
  | .f_written => 1
  | .f_format_fraction => 1
  | .f_format_polynomial => 1
  | .f_format_sum => 1
  | .f_whole_number => 1
  | .f_read_fraction => 1
  | .f_read_polynomial => 1
  | .f_read_sum => 1
  | .f_parse_fraction => 1
  | .f_parse_polynomial => 1
  | .f_parse_sum => 1
  | .f_law_whole => 1
  | .f_law_cell => 2
  | .f_law_digits => 2
  | .f_law_gcd => 2
  | .f_law_frac => 2
  | .f_law_is_fraction => 1
  | .f_law_poly => 1
  | .f_law_pairs => 1
  | .f_law_sum => 1
  | .f_law_terms => 1
  | .f_law_is_sum => 1
  | .f_law_is_poly => 1
  | .f_law_is_name => 1
  | .f_law_number => 1
  | .f_law_write => 2
  | .f_law_written => 2
  | .f_law_drawn_number => 3
  | .f_law_drawn_items => 4
  | .f_law_spoilt => 3
  | .f_law_free_text => 1
  | .f_law_parsed => 2
  | .f_law_has_form => 2
  | .f_law_formatted => 2
  | .f_law_reaches_far => 2
  | .f_law_text_agrees => 2
  | .f_law_far_agrees => 4
  | .f_law_drawn_worth => 4
  | .f_law_handed => 3
  | .f_law => 1
def constI : List (Str × Int) := [("LONGEST", 10), ("WIDTH", 64), ("PIECE", 10000000000000000000000000000000000000000000000000000000000000000)]
def constS : List (Str × Str) := [("LETTERS", "abcdefghijklmnopqrstuvwxyz"), ("SIGNS", "abcdefghijklmnopqrstuvwxyz0123456789"), ("DIGITS", "0123456789")]
def xokT (K : PySem.W.Frag) (mg : Str → Option Value) : Prop := ∃ C fI, PySem.NotX.NotTxt K mg C fI
abbrev mkT (δ : Dn) : Tbl := ⟨Fn, fnName, fnLvl, fnAr, δ, constI, constS, [("gcd", "math.gcd")], xokT⟩
theorem xokNot {δ : Dn} : ∀ K mg, (mkT δ).xok K mg → ∃ C fI, PySem.NotX.NotTxt K mg C fI := fun _ _ h => h
def shRow (i : Nat) : Bool := i == 0
def n_polynomial : List Str := ["pairs", "found", "shift", "coefficient", "at"]
def p_polynomial : List Str := ["pairs"]
def b_polynomial (δ : Dn) : BC (mkT δ) :=
  bCons (scSetF 1 fcDk) <|
  bCons (scFor (gcTup 2 (gsCons (gcName 2) (gsCons (gcName 3) gsNil))) (icSeq (ecVar 0)) (bCons (scPutD 1 (ecVar 2) (ecBin lAdd (ocE (ecGet (ocVar 1) (ocVar 2) (ecInt 0))) (ocVar 3))) bNil)) <|
  bCons (scRet (ecB "tuple" lTuple (aoCons (ocE (ecF (fcLc [(("at" : Str), 4)] (icSeq (ecB "sorted" (lSorted shRow) (aoCons (ocVar 1) aoNil))) (gcName 4) (some (tcCmp lNe (ocE (ecDg (ocVar 1) (ocVar 4))) (ocE (ecInt 0)))) (ecTup (acCons (ecVar 4) (acCons (ecDg (ocVar 1) (ocVar 4)) acNil)))))) aoNil))) bNil
def t_polynomial : Dn := fun _ _ => .no
def d_polynomial (ds : List D) : Re D := if ds.length = 1 then fnDen n_polynomial (b_polynomial t_polynomial) ds else .no
def n_poly_times : List Str := ["p", "q", "found", "one", "two", "shift", "at"]
def p_poly_times : List Str := ["p", "q"]
def b_poly_times (δ : Dn) : BC (mkT δ) :=
  bCons (scSetF 2 fcDk) <|
  bCons (scFor (gcName 3) (icSeq (ecVar 0)) (bCons (scFor (gcName 4) (icSeq (ecVar 1)) (bCons (scSet 5 (ecBin lAdd (ocE (ecIx (ocVar 3) (ocE (ecInt 0)))) (ocE (ecIx (ocVar 4) (ocE (ecInt 0)))))) <|
      bCons (scPutD 2 (ecVar 5) (ecBin lAdd (ocE (ecGet (ocVar 2) (ocVar 5) (ecInt 0))) (ocE (ecBin lMul (ocE (ecIx (ocVar 3) (ocE (ecInt 1)))) (ocE (ecIx (ocVar 4) (ocE (ecInt 1)))))))) bNil)) bNil)) <|
  bCons (scRet (ecB "tuple" lTuple (aoCons (ocE (ecF (fcLc [(("at" : Str), 6)] (icSeq (ecB "sorted" (lSorted shRow) (aoCons (ocVar 2) aoNil))) (gcName 6) (some (tcCmp lNe (ocE (ecDg (ocVar 2) (ocVar 6))) (ocE (ecInt 0)))) (ecTup (acCons (ecVar 6) (acCons (ecDg (ocVar 2) (ocVar 6)) acNil)))))) aoNil))) bNil
def t_poly_times : Dn := fun _ _ => .no
def d_poly_times (ds : List D) : Re D := if ds.length = 2 then fnDen n_poly_times (b_poly_times t_poly_times) ds else .no
def n_ratio : List Str := ["top", "bottom", "part"]
def p_ratio : List Str := ["top", "bottom"]
def b_ratio (δ : Dn) : BC (mkT δ) :=
  bCons (scSet 2 (ecBf "gcd" "math.gcd" lGcd (aoCons (ocVar 0) (aoCons (ocVar 1) aoNil)))) <|
  bCons (scIf (tcCmp lLt (ocVar 1) (ocE (ecInt 0))) (bCons (scSet 2 (ecNeg (ocVar 2))) bNil) (bNil)) <|
  bCons (scRet (ecTup (acCons (ecBin lFdiv (ocVar 0) (ocVar 2)) (acCons (ecBin lFdiv (ocVar 1) (ocVar 2)) acNil)))) bNil
def t_ratio : Dn := fun _ _ => .no
def d_ratio (ds : List D) : Re D := if ds.length = 2 then fnDen n_ratio (b_ratio t_ratio) ds else .no
def n_parts_of : List Str := ["value"]
def p_parts_of : List Str := ["value"]
def b_parts_of (δ : Dn) : BC (mkT δ) :=
  bCons (scIf (tcTru (ocE (ecIsi "int" (ocVar 0)))) (bCons (scRet (ecTup (acCons (ecVar 0) (acCons (ecInt 1) acNil)))) bNil) (bNil)) <|
  bCons (scRet (ecTup (acCons (ecIx (ocVar 0) (ocE (ecInt 0))) (acCons (ecIx (ocVar 0) (ocE (ecInt 1))) acNil)))) bNil
def t_parts_of : Dn := fun _ _ => .no
def d_parts_of (ds : List D) : Re D := if ds.length = 1 then fnDen n_parts_of (b_parts_of t_parts_of) ds else .no
def n_is_row_name : List Str := ["value", "sign"]
def p_is_row_name : List Str := ["value"]
def b_is_row_name (δ : Dn) : BC (mkT δ) :=
  bCons (scIf (tcOr [(tcNot (tcChn lLe lLe (ocE (ecInt 1)) (ocE (ecB "len" lLen (aoCons (ocVar 0) aoNil))) (ocE (ecGi ("LONGEST" : Str) 10)))), (tcCmp lNinS (ocE (ecIx (ocVar 0) (ocE (ecInt 0)))) (ocE (ecGs ("LETTERS" : Str) ("abcdefghijklmnopqrstuvwxyz" : Str))))]) (bCons (scRet (ecBl false)) bNil) (bNil)) <|
  bCons (scFor (gcName 1) (icStr (ecVar 0)) (bCons (scIf (tcCmp lNinS (ocVar 1) (ocE (ecGs ("SIGNS" : Str) ("abcdefghijklmnopqrstuvwxyz0123456789" : Str)))) (bCons (scRet (ecBl false)) bNil) (bNil)) bNil)) <|
  bCons (scRet (ecBl true)) bNil
def t_is_row_name : Dn := fun _ _ => .no
def d_is_row_name (ds : List D) : Re D := if ds.length = 1 then fnDen n_is_row_name (b_is_row_name t_is_row_name) ds else .no
def n_terms_of : List Str := ["found", "spot"]
def p_terms_of : List Str := ["found"]
def b_terms_of (δ : Dn) : BC (mkT δ) :=
  bCons (scRet (ecB "tuple" lTuple (aoCons (ocE (ecF (fcLc [(("spot" : Str), 1)] (icSeq (ecB "sorted" (lSorted shRow) (aoCons (ocVar 0) aoNil))) (gcName 1) (some (tcCmp lNe (ocE (ecDg (ocVar 0) (ocVar 1))) (ocE (ecInt 0)))) (ecTup (acCons (ecIx (ocVar 1) (ocE (ecInt 0))) (acCons (ecIx (ocVar 1) (ocE (ecInt 1))) (acCons (ecDg (ocVar 0) (ocVar 1)) acNil))))))) aoNil))) bNil
def t_terms_of : Dn := fun _ _ => .no
def d_terms_of (ds : List D) : Re D := if ds.length = 1 then fnDen n_terms_of (b_terms_of t_terms_of) ds else .no
def n_written : List Str := ["number", "rest", "pieces", "digits", "low"]
def p_written : List Str := ["number"]
def b_written (δ : Dn) : BC (mkT δ) :=
  bCons (scSet 1 (ecB "abs" lAbs (aoCons (ocVar 0) aoNil))) <|
  bCons (scSetF 2 (fcLst acNil)) <|
  bCons (scWhile (fun (Γ : En) => match Γ[1]? with | some (Sl.sh (D.int i)) => i.natAbs + 1 | _ => 0) (tcCmp lGe (ocVar 1) (ocE (ecGi ("PIECE" : Str) 10000000000000000000000000000000000000000000000000000000000000000))) (bCons (scTgt (gcTup 2 (gsCons (gcName 1) (gsCons (gcName 4) gsNil))) (ecB "divmod" lDivm (aoCons (ocVar 1) (aoCons (ocE (ecGi ("PIECE" : Str) 10000000000000000000000000000000000000000000000000000000000000000)) aoNil)))) <|
    bCons (scApp 2 (ecZfill (ocE (ecB "str" lStr (aoCons (ocVar 4) aoNil))) (ocE (ecGi ("WIDTH" : Str) 64)))) bNil)) <|
  bCons (scSet 3 (ecBin lAdd (ocE (ecB "str" lStr (aoCons (ocVar 1) aoNil))) (ocE (ecJoin (ocE (ecStr ("" : Str))) (ocE (ecRev (ocVar 2))))))) <|
  bCons (scRet (ecIf (tcCmp lLt (ocVar 0) (ocE (ecInt 0))) (ecBin lAdd (ocE (ecStr ("-" : Str))) (ocVar 3)) (ecVar 3))) bNil
def t_written : Dn := fun _ _ => .no
def d_written (ds : List D) : Re D := if ds.length = 1 then fnDen n_written (b_written t_written) ds else .no
def n_whole_number : List Str := ["text", "digits", "number", "sign"]
def p_whole_number : List Str := ["text"]
def b_whole_number (δ : Dn) : BC (mkT δ) :=
  bCons (scSet 1 (ecIf (tcCmp lEq (ocE (ecSl (ocVar 0) none (some (ocE (ecInt 1))))) (ocE (ecStr ("-" : Str)))) (ecSl (ocVar 0) (some (ocE (ecInt 1))) none) (ecVar 0))) <|
  bCons (scIf (tcOr [(tcCmp lEq (ocVar 1) (ocE (ecStr ("" : Str)))), (tcAnd [(tcCmp lEq (ocE (ecIx (ocVar 1) (ocE (ecInt 0)))) (ocE (ecStr ("0" : Str)))), (tcCmp lNe (ocVar 0) (ocE (ecStr ("0" : Str))))])]) (bCons (scRet ecNon) bNil) (bNil)) <|
  bCons (scSet 2 (ecInt 0)) <|
  bCons (scFor (gcName 3) (icStr (ecVar 1)) (bCons (scIf (tcCmp lNinS (ocVar 3) (ocE (ecGs ("DIGITS" : Str) ("0123456789" : Str)))) (bCons (scRet ecNon) bNil) (bNil)) <|
    bCons (scSet 2 (ecBin lAdd (ocE (ecBin lMul (ocE (ecInt 10)) (ocVar 2))) (ocE (ecFind (ocE (ecGs ("DIGITS" : Str) ("0123456789" : Str))) (ocVar 3))))) bNil)) <|
  bCons (scRet (ecIf (tcCmp lEq (ocVar 1) (ocVar 0)) (ecVar 2) (ecNeg (ocVar 2)))) bNil
def t_whole_number : Dn := fun _ _ => .no
def d_whole_number (ds : List D) : Re D := if ds.length = 1 then fnDen n_whole_number (b_whole_number t_whole_number) ds else .no
def n_law_whole : List Str := ["value"]
def p_law_whole : List Str := ["value"]
def b_law_whole (δ : Dn) : BC (mkT δ) :=
  bCons (scRet (ecAnd [(ecIsi "int" (ocVar 0)), (ecNot (ecIsi "bool" (ocVar 0)))])) bNil
def t_law_whole : Dn := fun _ _ => .no
def d_law_whole (ds : List D) : Re D := if ds.length = 1 then fnDen n_law_whole (b_law_whole t_law_whole) ds else .no
def n_law_cell : List Str := ["script", "k", "seed", "cell"]
def p_law_cell : List Str := ["script", "k"]
def b_law_cell (δ : Dn) : BC (mkT δ) :=
  bCons (scIf (tcCmp lLt (ocVar 1) (ocE (ecB "len" lLen (aoCons (ocVar 0) aoNil)))) (bCons (scRet (ecIx (ocVar 0) (ocVar 1))) bNil) (bNil)) <|
  bCons (scSet 2 (ecInt 17)) <|
  bCons (scFor (gcName 3) (icScr (ecVar 0)) (bCons (scSet 2 (ecBin lMod (ocE (ecB "int" lInt (aoCons (ocE (ecBin lAdd (ocE (ecBin lMul (ocVar 2) (ocE (ecInt 31)))) (ocE (ecBin lMod (ocE (ecB "int" lInt (aoCons (ocVar 3) aoNil))) (ocE (ecInt 1000003)))))) aoNil))) (ocE (ecInt 1000003)))) bNil)) <|
  bCons (scRet (ecBin lMod (ocE (ecB "int" lInt (aoCons (ocE (ecBin lMul (ocE (ecBin lMul (ocE (ecBin lAdd (ocVar 2) (ocE (ecInt 7)))) (ocE (ecBin lAdd (ocVar 1) (ocE (ecInt 3)))))) (ocE (ecInt 69621)))) aoNil))) (ocE (ecInt 2147483647)))) bNil
def t_law_cell : Dn := fun _ _ => .no
def d_law_cell (ds : List D) : Re D := if ds.length = 2 then fnDen n_law_cell (b_law_cell t_law_cell) ds else .no
def n_law_digits : List Str := ["cell", "sizes", "row", "rest", "seed", "k", "size", "twice"]
def p_law_digits : List Str := ["cell", "sizes"]
def b_law_digits (δ : Dn) : BC (mkT δ) :=
  bCons (scSetF 2 (fcLst acNil)) <|
  bCons (scSet 3 (ecB "int" lInt (aoCons (ocVar 0) aoNil))) <|
  bCons (scIf (tcCmp lGe (ocVar 3) (ocE (ecBin lPow (ocE (ecInt 10)) (ocE (ecInt 18))))) (bCons (scSet 3 (ecBin lSub (ocVar 3) (ocE (ecBin lPow (ocE (ecInt 10)) (ocE (ecInt 18)))))) <|
    bCons (scFor (gcName 6) (icSeq (ecVar 1)) (bCons (scApp 2 (ecBin lMod (ocE (ecB "int" lInt (aoCons (ocVar 3) aoNil))) (ocVar 6))) <|
      bCons (scSet 3 (ecBin lFdiv (ocE (ecB "int" lInt (aoCons (ocVar 3) aoNil))) (ocVar 6))) bNil)) <|
    bFrz 2 <| bCons (scRet (ecVar 2)) bNil) (bNil)) <|
  bCons (scSet 4 (ecBin lMod (ocE (ecB "int" lInt (aoCons (ocVar 3) aoNil))) (ocE (ecInt 2147483629)))) <|
  bCons (scFor (gcName 5) (icRng1 (ocE (ecB "len" lLen (aoCons (ocVar 1) aoNil)))) (bCons (scSet 4 (ecBin lMod (ocE (ecB "int" lInt (aoCons (ocE (ecBin lAdd (ocE (ecBin lAdd (ocE (ecBin lMul (ocVar 4) (ocE (ecInt 48271)))) (ocE (ecBin lMul (ocE (ecInt 974711)) (ocVar 5))))) (ocE (ecInt 12345)))) aoNil))) (ocE (ecInt 2147483647)))) <|
    bCons (scSet 7 (ecBin lMod (ocE (ecB "int" lInt (aoCons (ocE (ecBin lMul (ocVar 4) (ocE (ecBin lAdd (ocE (ecBin lFdiv (ocVar 4) (ocE (ecInt 65537)))) (ocE (ecInt 3)))))) aoNil))) (ocE (ecInt 2147483629)))) <|
    bCons (scApp 2 (ecBin lMod (ocE (ecBin lFdiv (ocVar 7) (ocE (ecInt 19)))) (ocE (ecIx (ocVar 1) (ocVar 5))))) bNil)) <|
  bFrz 2 <| bCons (scRet (ecVar 2)) bNil
def t_law_digits : Dn := fun _ _ => .no
def d_law_digits (ds : List D) : Re D := if ds.length = 2 then fnDen n_law_digits (b_law_digits t_law_digits) ds else .no
def n_law_gcd : List Str := ["a", "b", "turn", "rest"]
def p_law_gcd : List Str := ["a", "b"]
def b_law_gcd (δ : Dn) : BC (mkT δ) :=
  bCons (scSet 0 (ecB "abs" lAbs (aoCons (ocVar 0) aoNil))) <|
  bCons (scSet 1 (ecB "abs" lAbs (aoCons (ocVar 1) aoNil))) <|
  bCons (scFor (gcName 2) (icRng1 (ocE (ecBin lAdd (ocE (ecBin lMul (ocE (ecInt 2)) (ocE (ecBits (ocVar 1))))) (ocE (ecInt 2))))) (bCons (scIf (tcCmp lEq (ocVar 1) (ocE (ecInt 0))) (bCons (scRet (ecVar 0)) bNil) (bNil)) <|
    bCons (scSet 3 (ecBin lMod (ocE (ecB "int" lInt (aoCons (ocVar 0) aoNil))) (ocVar 1))) <|
    bCons (scSet 0 (ecVar 1)) <|
    bCons (scSet 1 (ecVar 3)) bNil)) <|
  bCons (scRet (ecVar 0)) bNil
def t_law_gcd : Dn := fun _ _ => .no
def d_law_gcd (ds : List D) : Re D := if ds.length = 2 then fnDen n_law_gcd (b_law_gcd t_law_gcd) ds else .no
def n_law_poly : List Str := ["pairs", "p", "pair", "told", "shift"]
def p_law_poly : List Str := ["pairs"]
def b_law_poly (δ : Dn) : BC (mkT δ) :=
  bCons (scSetF 1 fcDk) <|
  bCons (scFor (gcName 2) (icSeq (ecVar 0)) (bCons (scPutD 1 (ecIx (ocVar 2) (ocE (ecInt 0))) (ecBin lAdd (ocE (ecGet (ocVar 1) (ocE (ecIx (ocVar 2) (ocE (ecInt 0)))) (ecInt 0))) (ocE (ecIx (ocVar 2) (ocE (ecInt 1)))))) bNil)) <|
  bCons (scSetF 3 fcDk) <|
  bCons (scFor (gcName 4) (icSeq (ecB "sorted" (lSorted shRow) (aoCons (ocE (ecB "list" lList (aoCons (ocVar 1) aoNil))) aoNil))) (bCons (scIf (tcCmp lNe (ocE (ecDg (ocVar 1) (ocVar 4))) (ocE (ecInt 0))) (bCons (scPutD 3 (ecVar 4) (ecDg (ocVar 1) (ocVar 4))) bNil) (bNil)) bNil)) <|
  bFrz 3 <| bCons (scRet (ecVar 3)) bNil
def t_law_poly : Dn := fun _ _ => .no
def d_law_poly (ds : List D) : Re D := if ds.length = 1 then fnDen n_law_poly (b_law_poly t_law_poly) ds else .no
def n_law_pairs : List Str := ["p", "shift"]
def p_law_pairs : List Str := ["p"]
def b_law_pairs (δ : Dn) : BC (mkT δ) :=
  bCons (scRet (ecB "tuple" lTuple (aoCons (ocE (ecF (fcLc [(("shift" : Str), 1)] (icSeq (ecB "sorted" (lSorted shRow) (aoCons (ocE (ecB "list" lList (aoCons (ocVar 0) aoNil))) aoNil))) (gcName 1) none (ecTup (acCons (ecVar 1) (acCons (ecDg (ocVar 0) (ocVar 1)) acNil)))))) aoNil))) bNil
def t_law_pairs : Dn := fun _ _ => .no
def d_law_pairs (ds : List D) : Re D := if ds.length = 1 then fnDen n_law_pairs (b_law_pairs t_law_pairs) ds else .no
def n_law_sum : List Str := ["terms", "s", "term", "told", "key"]
def p_law_sum : List Str := ["terms"]
def b_law_sum (δ : Dn) : BC (mkT δ) :=
  bCons (scSetF 1 fcDt) <|
  bCons (scFor (gcName 2) (icSeq (ecVar 0)) (bCons (scPutD 1 (ecTup (acCons (ecIx (ocVar 2) (ocE (ecInt 0))) (acCons (ecIx (ocVar 2) (ocE (ecInt 1))) acNil))) (ecBin lAdd (ocE (ecGet (ocVar 1) (ocE (ecTup (acCons (ecIx (ocVar 2) (ocE (ecInt 0))) (acCons (ecIx (ocVar 2) (ocE (ecInt 1))) acNil)))) (ecInt 0))) (ocE (ecIx (ocVar 2) (ocE (ecInt 2)))))) bNil)) <|
  bCons (scSetF 3 fcDt) <|
  bCons (scFor (gcName 4) (icSeq (ecB "sorted" (lSorted shRow) (aoCons (ocE (ecB "list" lList (aoCons (ocVar 1) aoNil))) aoNil))) (bCons (scIf (tcCmp lNe (ocE (ecDg (ocVar 1) (ocVar 4))) (ocE (ecInt 0))) (bCons (scPutD 3 (ecVar 4) (ecDg (ocVar 1) (ocVar 4))) bNil) (bNil)) bNil)) <|
  bFrz 3 <| bCons (scRet (ecVar 3)) bNil
def t_law_sum : Dn := fun _ _ => .no
def d_law_sum (ds : List D) : Re D := if ds.length = 1 then fnDen n_law_sum (b_law_sum t_law_sum) ds else .no
def n_law_terms : List Str := ["s", "key"]
def p_law_terms : List Str := ["s"]
def b_law_terms (δ : Dn) : BC (mkT δ) :=
  bCons (scRet (ecB "tuple" lTuple (aoCons (ocE (ecF (fcLc [(("key" : Str), 1)] (icSeq (ecB "sorted" (lSorted shRow) (aoCons (ocE (ecB "list" lList (aoCons (ocVar 0) aoNil))) aoNil))) (gcName 1) none (ecTup (acCons (ecIx (ocVar 1) (ocE (ecInt 0))) (acCons (ecIx (ocVar 1) (ocE (ecInt 1))) (acCons (ecDg (ocVar 0) (ocVar 1)) acNil))))))) aoNil))) bNil
def t_law_terms : Dn := fun _ _ => .no
def d_law_terms (ds : List D) : Re D := if ds.length = 1 then fnDen n_law_terms (b_law_terms t_law_terms) ds else .no
def n_law_is_name : List Str := ["text", "letters", "sign"]
def p_law_is_name : List Str := ["text"]
def b_law_is_name (δ : Dn) : BC (mkT δ) :=
  bCons (scSet 1 (ecStr ("abcdefghijklmnopqrstuvwxyz" : Str))) <|
  bCons (scIf (tcOr [(tcCmp lLt (ocE (ecB "len" lLen (aoCons (ocVar 0) aoNil))) (ocE (ecInt 1))), (tcCmp lGt (ocE (ecB "len" lLen (aoCons (ocVar 0) aoNil))) (ocE (ecInt 10))), (tcCmp lNinS (ocE (ecIx (ocVar 0) (ocE (ecInt 0)))) (ocVar 1))]) (bCons (scRet (ecBl false)) bNil) (bNil)) <|
  bCons (scFor (gcName 2) (icStr (ecVar 0)) (bCons (scIf (tcCmp lNinS (ocVar 2) (ocE (ecBin lAdd (ocVar 1) (ocE (ecStr ("0123456789" : Str)))))) (bCons (scRet (ecBl false)) bNil) (bNil)) bNil)) <|
  bCons (scRet (ecBl true)) bNil
def t_law_is_name : Dn := fun _ _ => .no
def d_law_is_name (ds : List D) : Re D := if ds.length = 1 then fnDen n_law_is_name (b_law_is_name t_law_is_name) ds else .no
def n_law_number : List Str := ["text", "digits", "number", "sign"]
def p_law_number : List Str := ["text"]
def b_law_number (δ : Dn) : BC (mkT δ) :=
  bCons (scSet 1 (ecVar 0)) <|
  bCons (scIf (tcCmp lEq (ocE (ecSl (ocVar 0) none (some (ocE (ecInt 1))))) (ocE (ecStr ("-" : Str)))) (bCons (scSet 1 (ecSl (ocVar 0) (some (ocE (ecInt 1))) none)) bNil) (bNil)) <|
  bCons (scIf (tcOr [(tcCmp lEq (ocE (ecB "len" lLen (aoCons (ocVar 1) aoNil))) (ocE (ecInt 0))), (tcAnd [(tcCmp lEq (ocE (ecIx (ocVar 1) (ocE (ecInt 0)))) (ocE (ecStr ("0" : Str)))), (tcCmp lNe (ocVar 0) (ocE (ecStr ("0" : Str))))])]) (bCons (scRet ecNon) bNil) (bNil)) <|
  bCons (scSet 2 (ecInt 0)) <|
  bCons (scFor (gcName 3) (icStr (ecVar 1)) (bCons (scIf (tcCmp lNinS (ocVar 3) (ocE (ecStr ("0123456789" : Str)))) (bCons (scRet ecNon) bNil) (bNil)) <|
    bCons (scSet 2 (ecBin lAdd (ocE (ecBin lMul (ocE (ecInt 10)) (ocVar 2))) (ocE (ecIndex (ocE (ecStr ("0123456789" : Str))) (ocVar 3))))) bNil)) <|
  bCons (scIf (tcCmp lNe (ocVar 0) (ocVar 1)) (bCons (scRet (ecNeg (ocVar 2))) bNil) (bNil)) <|
  bCons (scRet (ecVar 2)) bNil
def t_law_number : Dn := fun _ _ => .no
def d_law_number (ds : List D) : Re D := if ds.length = 1 then fnDen n_law_number (b_law_number t_law_number) ds else .no
def n_law_write : List Str := ["kind", "worth", "term", "pair"]
def p_law_write : List Str := ["kind", "worth"]
def b_law_write (δ : Dn) : BC (mkT δ) :=
  bCons (scIf (tcCmp lEq (ocVar 0) (ocE (ecInt 0))) (bCons (scIf (tcCmp lEq (ocE (ecIx (ocVar 1) (ocE (ecInt 1)))) (ocE (ecInt 1))) (bCons (scRet (ecB "str" lStr (aoCons (ocE (ecIx (ocVar 1) (ocE (ecInt 0)))) aoNil))) bNil) (bNil)) <|
    bCons (scRet (ecBin lAdd (ocE (ecBin lAdd (ocE (ecB "str" lStr (aoCons (ocE (ecIx (ocVar 1) (ocE (ecInt 0)))) aoNil))) (ocE (ecStr ("/" : Str))))) (ocE (ecB "str" lStr (aoCons (ocE (ecIx (ocVar 1) (ocE (ecInt 1)))) aoNil))))) bNil) (bNil)) <|
  bCons (scIf (tcCmp lEq (ocE (ecB "len" lLen (aoCons (ocVar 1) aoNil))) (ocE (ecInt 0))) (bCons (scRet (ecStr ("0" : Str))) bNil) (bNil)) <|
  bCons (scIf (tcCmp lEq (ocVar 0) (ocE (ecInt 1))) (bCons (scRet (ecJoin (ocE (ecStr (", " : Str))) (ocE (ecF (fcLc [(("pair" : Str), 3)] (icSeq (ecVar 1)) (gcName 3) none (ecBin lAdd (ocE (ecBin lAdd (ocE (ecB "str" lStr (aoCons (ocE (ecIx (ocVar 3) (ocE (ecInt 1)))) aoNil))) (ocE (ecStr (" " : Str))))) (ocE (ecB "str" lStr (aoCons (ocE (ecIx (ocVar 3) (ocE (ecInt 0)))) aoNil))))))))) bNil) (bNil)) <|
  bCons (scRet (ecJoin (ocE (ecStr (", " : Str))) (ocE (ecF (fcLc [(("term" : Str), 2)] (icSeq (ecVar 1)) (gcName 2) none (ecBin lAdd (ocE (ecBin lAdd (ocE (ecBin lAdd (ocE (ecBin lAdd (ocE (ecB "str" lStr (aoCons (ocE (ecIx (ocVar 2) (ocE (ecInt 2)))) aoNil))) (ocE (ecStr (" " : Str))))) (ocE (ecIx (ocVar 2) (ocE (ecInt 0)))))) (ocE (ecStr (" " : Str))))) (ocE (ecB "str" lStr (aoCons (ocE (ecIx (ocVar 2) (ocE (ecInt 1)))) aoNil))))))))) bNil
def t_law_write : Dn := fun _ _ => .no
def d_law_write (ds : List D) : Re D := if ds.length = 2 then fnDen n_law_write (b_law_write t_law_write) ds else .no
def n_law_drawn_number : List Str := ["digit", "wide", "cell"]
def p_law_drawn_number : List Str := ["digit", "wide", "cell"]
def b_law_drawn_number (δ : Dn) : BC (mkT δ) :=
  bCons (scIf (tcOr [(tcCmp lEq (ocVar 1) (ocE (ecInt 0))), (tcCmp lGt (ocVar 0) (ocE (ecInt 3)))]) (bCons (scRet (ecBin lSub (ocVar 0) (ocE (ecInt 5)))) bNil) (bNil)) <|
  bCons (scIf (tcCmp lEq (ocVar 1) (ocE (ecInt 1))) (bCons (scRet (ecBin lSub (ocE (ecBin lMod (ocE (ecB "int" lInt (aoCons (ocVar 2) aoNil))) (ocE (ecBin lAdd (ocE (ecBin lMul (ocE (ecInt 2)) (ocE (ecBin lPow (ocE (ecInt 10)) (ocE (ecInt 9)))))) (ocE (ecInt 1)))))) (ocE (ecBin lPow (ocE (ecInt 10)) (ocE (ecInt 9)))))) bNil) (bNil)) <|
  bCons (scRet (ecBin lSub (ocE (ecBin lMod (ocE (ecB "int" lInt (aoCons (ocE (ecBin lMul (ocE (ecB "int" lInt (aoCons (ocVar 2) aoNil))) (ocE (ecBin lAdd (ocE (ecBin lPow (ocE (ecInt 10)) (ocE (ecInt 20)))) (ocE (ecInt 39)))))) aoNil))) (ocE (ecBin lAdd (ocE (ecBin lMul (ocE (ecInt 2)) (ocE (ecBin lPow (ocE (ecInt 10)) (ocE (ecInt 26)))))) (ocE (ecInt 1)))))) (ocE (ecBin lPow (ocE (ecInt 10)) (ocE (ecInt 26)))))) bNil
def t_law_drawn_number : Dn := fun _ _ => .no
def d_law_drawn_number (ds : List D) : Re D := if ds.length = 3 then fnDen n_law_drawn_number (b_law_drawn_number t_law_drawn_number) ds else .no
def n_law_spoilt : List Str := ["kind", "text", "row", "at", "sign", "pieces", "k", "words"]
def p_law_spoilt : List Str := ["kind", "text", "row"]
def b_law_spoilt (δ : Dn) : BC (mkT δ) :=
  bCons (scSet 3 (ecBin lMod (ocE (ecB "int" lInt (aoCons (ocE (ecIx (ocVar 2) (ocE (ecInt 1)))) aoNil))) (ocE (ecBin lAdd (ocE (ecB "len" lLen (aoCons (ocVar 1) aoNil))) (ocE (ecInt 1)))))) <|
  bCons (scSet 4 (ecIx (ocE (ecStr ("0123456789 -+,/abx_Z.\n:'" : Str))) (ocE (ecIx (ocVar 2) (ocE (ecInt 2)))))) <|
  bCons (scSet 5 (ecF (fcSplit (ocVar 1) (ocE (ecStr (", " : Str)))))) <|
  bCons (scSet 6 (ecBin lMod (ocE (ecB "int" lInt (aoCons (ocE (ecIx (ocVar 2) (ocE (ecInt 1)))) aoNil))) (ocE (ecB "len" lLen (aoCons (ocVar 5) aoNil))))) <|
  bCons (scSetF 7 (fcSplit (ocE (ecIx (ocVar 5) (ocVar 6))) (ocE (ecStr (" " : Str))))) <|
  bCons (scIf (tcCmp lEq (ocE (ecIx (ocVar 2) (ocE (ecInt 0)))) (ocE (ecInt 0))) (bCons (scRet (ecBin lAdd (ocE (ecBin lAdd (ocE (ecSl (ocVar 1) none (some (ocVar 3)))) (ocVar 4))) (ocE (ecSl (ocVar 1) (some (ocVar 3)) none)))) bNil) (bNil)) <|
  bCons (scIf (tcCmp lEq (ocE (ecIx (ocVar 2) (ocE (ecInt 0)))) (ocE (ecInt 1))) (bCons (scRet (ecBin lAdd (ocE (ecSl (ocVar 1) none (some (ocVar 3)))) (ocE (ecSl (ocVar 1) (some (ocE (ecBin lAdd (ocVar 3) (ocE (ecInt 1))))) none)))) bNil) (bNil)) <|
  bCons (scIf (tcCmp lEq (ocE (ecIx (ocVar 2) (ocE (ecInt 0)))) (ocE (ecInt 2))) (bCons (scRet (ecBin lAdd (ocE (ecBin lAdd (ocE (ecSl (ocVar 1) none (some (ocVar 3)))) (ocVar 4))) (ocE (ecSl (ocVar 1) (some (ocE (ecBin lAdd (ocVar 3) (ocE (ecInt 1))))) none)))) bNil) (bNil)) <|
  bCons (scIf (tcCmp lEq (ocE (ecIx (ocVar 2) (ocE (ecInt 0)))) (ocE (ecInt 3))) (bCons (scRet (ecBin lAdd (ocE (ecBin lAdd (ocE (ecBin lAdd (ocE (ecSl (ocVar 1) none (some (ocVar 3)))) (ocE (ecSl (ocVar 1) (some (ocE (ecBin lAdd (ocVar 3) (ocE (ecInt 1))))) (some (ocE (ecBin lAdd (ocVar 3) (ocE (ecInt 2))))))))) (ocE (ecSl (ocVar 1) (some (ocVar 3)) (some (ocE (ecBin lAdd (ocVar 3) (ocE (ecInt 1))))))))) (ocE (ecSl (ocVar 1) (some (ocE (ecBin lAdd (ocVar 3) (ocE (ecInt 2))))) none)))) bNil) (bNil)) <|
  bCons (scIf (tcCmp lEq (ocE (ecIx (ocVar 2) (ocE (ecInt 0)))) (ocE (ecInt 4))) (bCons (scRet (ecJoin (ocE (ecStr (", " : Str))) (ocE (ecBin lAdd (ocE (ecBin lAdd (ocE (ecSl (ocVar 5) none (some (ocVar 6)))) (ocE (ecF (fcLst (acCons (ecIx (ocVar 5) (ocVar 6)) acNil)))))) (ocE (ecSl (ocVar 5) (some (ocVar 6)) none)))))) bNil) (bNil)) <|
  bCons (scIf (tcCmp lEq (ocE (ecIx (ocVar 2) (ocE (ecInt 0)))) (ocE (ecInt 5))) (bCons (scRet (ecJoin (ocE (ecStr (", " : Str))) (ocE (ecBin lAdd (ocE (ecSl (ocVar 5) (some (ocVar 6)) none)) (ocE (ecSl (ocVar 5) none (some (ocVar 6)))))))) bNil) (bNil)) <|
  bCons (scIf (tcCmp lEq (ocE (ecIx (ocVar 2) (ocE (ecInt 0)))) (ocE (ecInt 6))) (bCons (scRet (ecJoin (ocE (ecStr (", " : Str))) (ocE (ecBin lAdd (ocE (ecBin lAdd (ocE (ecSl (ocVar 5) none (some (ocVar 6)))) (ocE (ecF (fcLst (acCons (ecIx (ocE (ecF (fcLst (acCons (ecStr ("0" : Str)) (acCons (ecStr ("0 0" : Str)) (acCons (ecStr ("0 a 0" : Str)) acNil)))))) (ocVar 0)) acNil)))))) (ocE (ecSl (ocVar 5) (some (ocVar 6)) none)))))) bNil) (bNil)) <|
  bCons (scIf (tcCmp lEq (ocE (ecIx (ocVar 2) (ocE (ecInt 0)))) (ocE (ecInt 7))) (bCons (scRet (ecJoin (ocE (ecIx (ocE (ecF (fcLst (acCons (ecStr ("," : Str)) (acCons (ecStr (" , " : Str)) (acCons (ecStr (",  " : Str)) (acCons (ecStr (", ," : Str)) (acCons (ecStr ("; " : Str)) acNil)))))))) (ocE (ecBin lMod (ocE (ecB "int" lInt (aoCons (ocE (ecIx (ocVar 2) (ocE (ecInt 2)))) aoNil))) (ocE (ecInt 5)))))) (ocVar 5))) bNil) (bNil)) <|
  bCons (scIf (tcCmp lEq (ocE (ecIx (ocVar 2) (ocE (ecInt 0)))) (ocE (ecInt 8))) (bCons (scSet 3 (ecIx (ocE (ecF (fcLst (acCons (ecInt 0) (acCons (ecBin lSub (ocE (ecB "len" lLen (aoCons (ocVar 7) aoNil))) (ocE (ecInt 1))) acNil))))) (ocE (ecBin lMod (ocE (ecB "int" lInt (aoCons (ocE (ecIx (ocVar 2) (ocE (ecInt 2)))) aoNil))) (ocE (ecInt 2)))))) <|
    bCons (scPutL 7 (ocVar 3) (ecBin lAdd (ocE (ecIx (ocE (ecF (fcLst (acCons (ecStr ("0" : Str)) (acCons (ecStr ("+" : Str)) (acCons (ecStr ("-" : Str)) (acCons (ecStr ("00" : Str)) (acCons (ecStr ("--" : Str)) (acCons (ecStr ("-0" : Str)) (acCons (ecStr ("1_" : Str)) (acCons (ecStr (" " : Str)) acNil))))))))))) (ocE (ecBin lMod (ocE (ecBin lFdiv (ocE (ecB "int" lInt (aoCons (ocE (ecIx (ocVar 2) (ocE (ecInt 2)))) aoNil))) (ocE (ecInt 2)))) (ocE (ecInt 8)))))) (ocE (ecIx (ocVar 7) (ocVar 3))))) <|
    bCons (scRet (ecJoin (ocE (ecStr (", " : Str))) (ocE (ecBin lAdd (ocE (ecBin lAdd (ocE (ecSl (ocVar 5) none (some (ocVar 6)))) (ocE (ecF (fcLst (acCons (ecJoin (ocE (ecStr (" " : Str))) (ocVar 7)) acNil)))))) (ocE (ecSl (ocVar 5) (some (ocE (ecBin lAdd (ocVar 6) (ocE (ecInt 1))))) none)))))) bNil) (bNil)) <|
  bCons (scIf (tcCmp lEq (ocE (ecIx (ocVar 2) (ocE (ecInt 0)))) (ocE (ecInt 9))) (bCons (scRet (ecBin lAdd (ocVar 1) (ocE (ecIx (ocE (ecF (fcLst (acCons (ecStr ("\n" : Str)) (acCons (ecStr (" " : Str)) (acCons (ecStr ("," : Str)) (acCons (ecStr (", " : Str)) (acCons (ecStr ("/1" : Str)) (acCons (ecStr ("/0" : Str)) (acCons (ecStr ("/-2" : Str)) (acCons (ecStr (".0" : Str)) (acCons (ecStr (", 0" : Str)) (acCons (ecStr ("/" : Str)) (acCons (ecStr (" 0" : Str)) acNil)))))))))))))) (ocE (ecBin lMod (ocE (ecB "int" lInt (aoCons (ocE (ecIx (ocVar 2) (ocE (ecInt 2)))) aoNil))) (ocE (ecInt 11)))))))) bNil) (bNil)) <|
  bCons (scIf (tcCmp lEq (ocE (ecIx (ocVar 2) (ocE (ecInt 0)))) (ocE (ecInt 10))) (bCons (scPutL 7 (ocE (ecInt 0)) (ecIx (ocE (ecF (fcLst (acCons (ecStr ("7" : Str)) (acCons (ecStr ("-7" : Str)) (acCons (ecStr ("0" : Str)) (acCons (ecStr ("1" : Str)) acNil))))))) (ocE (ecBin lMod (ocE (ecB "int" lInt (aoCons (ocE (ecIx (ocVar 2) (ocE (ecInt 2)))) aoNil))) (ocE (ecInt 4)))))) <|
    bCons (scRet (ecJoin (ocE (ecStr (", " : Str))) (ocE (ecBin lAdd (ocE (ecBin lAdd (ocE (ecSl (ocVar 5) none (some (ocVar 6)))) (ocE (ecF (fcLst (acCons (ecJoin (ocE (ecStr (" " : Str))) (ocVar 7)) acNil)))))) (ocE (ecSl (ocVar 5) (some (ocVar 6)) none)))))) bNil) (bNil)) <|
  bCons (scRet (ecIx (ocE (ecF (fcLst (acCons (ecStr ("" : Str)) (acCons (ecStr (" " : Str)) (acCons (ecStr ("\n" : Str)) (acCons (ecStr ("-" : Str)) (acCons (ecStr ("-0" : Str)) (acCons (ecStr ("00" : Str)) (acCons (ecStr ("1/1" : Str)) (acCons (ecStr ("0/1" : Str)) (acCons (ecStr ("2/4" : Str)) (acCons (ecStr ("0 0" : Str)) (acCons (ecStr ("1 a" : Str)) (acCons (ecStr ("a" : Str)) (acCons (ecStr ("-1/-2" : Str)) (acCons (ecStr ("1/2/3" : Str)) (acCons (ecStr ("0/5" : Str)) acNil)))))))))))))))))) (ocE (ecBin lMod (ocE (ecB "int" lInt (aoCons (ocE (ecIx (ocVar 2) (ocE (ecInt 2)))) aoNil))) (ocE (ecInt 15)))))) bNil
def t_law_spoilt : Dn := fun _ _ => .no
def d_law_spoilt (ds : List D) : Re D := if ds.length = 3 then fnDen n_law_spoilt (b_law_spoilt t_law_spoilt) ds else .no
def n_fraction : List Str := ["value", "top", "bottom"]
def p_fraction : List Str := ["value"]
def b_fraction (δ : Dn) : BC (mkT δ) :=
  bCons (scTgt (gcTup 2 (gsCons (gcName 1) (gsCons (gcName 2) gsNil))) (ecCall .f_parts_of (acCons (ecVar 0) acNil))) <|
  bCons (scRet (ecCall .f_ratio (acCons (ecVar 1) (acCons (ecVar 2) acNil)))) bNil
def t_fraction : Dn := fun f => match f with | .f_ratio => d_ratio | .f_parts_of => d_parts_of | _ => fun _ => .no
def d_fraction (ds : List D) : Re D := if ds.length = 1 then fnDen n_fraction (b_fraction t_fraction) ds else .no
def n_times : List Str := ["one", "two", "top", "bottom", "other_top", "other_bottom"]
def p_times : List Str := ["one", "two"]
def b_times (δ : Dn) : BC (mkT δ) :=
  bCons (scTgt (gcTup 2 (gsCons (gcName 2) (gsCons (gcName 3) gsNil))) (ecCall .f_parts_of (acCons (ecVar 0) acNil))) <|
  bCons (scTgt (gcTup 2 (gsCons (gcName 4) (gsCons (gcName 5) gsNil))) (ecCall .f_parts_of (acCons (ecVar 1) acNil))) <|
  bCons (scRet (ecCall .f_ratio (acCons (ecBin lMul (ocVar 2) (ocVar 4)) (acCons (ecBin lMul (ocVar 3) (ocVar 5)) acNil)))) bNil
def t_times : Dn := fun f => match f with | .f_ratio => d_ratio | .f_parts_of => d_parts_of | _ => fun _ => .no
def d_times (ds : List D) : Re D := if ds.length = 2 then fnDen n_times (b_times t_times) ds else .no
def n_ordered : List Str := ["terms", "found", "row", "shift", "coefficient"]
def p_ordered : List Str := ["terms"]
def b_ordered (δ : Dn) : BC (mkT δ) :=
  bCons (scSetF 1 fcDt) <|
  bCons (scFor (gcTup 3 (gsCons (gcName 2) (gsCons (gcName 3) (gsCons (gcName 4) gsNil)))) (icSeq (ecVar 0)) (bCons (scPutD 1 (ecTup (acCons (ecVar 2) (acCons (ecVar 3) acNil))) (ecBin lAdd (ocE (ecGet (ocVar 1) (ocE (ecTup (acCons (ecVar 2) (acCons (ecVar 3) acNil)))) (ecInt 0))) (ocVar 4))) bNil)) <|
  bFrz 1 <| bCons (scRet (ecCall .f_terms_of (acCons (ecVar 1) acNil))) bNil
def t_ordered : Dn := fun f => match f with | .f_terms_of => d_terms_of | _ => fun _ => .no
def d_ordered (ds : List D) : Re D := if ds.length = 1 then fnDen n_ordered (b_ordered t_ordered) ds else .no
def n_sum_times : List Str := ["p", "terms", "found", "by", "factor", "row", "shift", "coefficient"]
def p_sum_times : List Str := ["p", "terms"]
def b_sum_times (δ : Dn) : BC (mkT δ) :=
  bCons (scSetF 2 fcDt) <|
  bCons (scFor (gcTup 2 (gsCons (gcName 3) (gsCons (gcName 4) gsNil))) (icSeq (ecVar 0)) (bCons (scFor (gcTup 3 (gsCons (gcName 5) (gsCons (gcName 6) (gsCons (gcName 7) gsNil)))) (icSeq (ecVar 1)) (bCons (scPutD 2 (ecTup (acCons (ecVar 5) (acCons (ecBin lAdd (ocVar 6) (ocVar 3)) acNil))) (ecBin lAdd (ocE (ecGet (ocVar 2) (ocE (ecTup (acCons (ecVar 5) (acCons (ecBin lAdd (ocVar 6) (ocVar 3)) acNil)))) (ecInt 0))) (ocE (ecBin lMul (ocVar 4) (ocVar 7))))) bNil)) bNil)) <|
  bFrz 2 <| bCons (scRet (ecCall .f_terms_of (acCons (ecVar 2) acNil))) bNil
def t_sum_times : Dn := fun f => match f with | .f_terms_of => d_terms_of | _ => fun _ => .no
def d_sum_times (ds : List D) : Re D := if ds.length = 2 then fnDen n_sum_times (b_sum_times t_sum_times) ds else .no
def n_format_polynomial : List Str := ["p", "told", "shift", "coefficient"]
def p_format_polynomial : List Str := ["p"]
def b_format_polynomial (δ : Dn) : BC (mkT δ) :=
  bCons (scSet 1 (ecCall .f_polynomial (acCons (ecVar 0) acNil))) <|
  bCons (scIf (tcNot (tcTru (ocVar 1))) (bCons (scRet (ecStr ("0" : Str))) bNil) (bNil)) <|
  bCons (scRet (ecJoin (ocE (ecStr (", " : Str))) (ocE (ecF (fcLc [(("shift" : Str), 2), (("coefficient" : Str), 3)] (icSeq (ecVar 1)) (gcTup 2 (gsCons (gcName 2) (gsCons (gcName 3) gsNil))) none (ecBin lAdd (ocE (ecBin lAdd (ocE (ecCall .f_written (acCons (ecVar 3) acNil))) (ocE (ecStr (" " : Str))))) (ocE (ecCall .f_written (acCons (ecVar 2) acNil))))))))) bNil
def t_format_polynomial : Dn := fun f => match f with | .f_polynomial => d_polynomial | .f_written => d_written | _ => fun _ => .no
def d_format_polynomial (ds : List D) : Re D := if ds.length = 1 then fnDen n_format_polynomial (b_format_polynomial t_format_polynomial) ds else .no
def n_read_polynomial : List Str := ["text", "pairs", "piece", "told", "numbers", "word"]
def p_read_polynomial : List Str := ["text"]
def b_read_polynomial (δ : Dn) : BC (mkT δ) :=
  bCons (scIf (tcCmp lEq (ocVar 0) (ocE (ecStr ("0" : Str)))) (bCons (scRet (ecTup acNil)) bNil) (bNil)) <|
  bCons (scSetF 1 (fcLst acNil)) <|
  bCons (scFor (gcName 2) (icSeq (ecF (fcSplit (ocVar 0) (ocE (ecStr (", " : Str)))))) (bCons (scSetLc 4 [(("word" : Str), 5)] (icSeq (ecF (fcSplit (ocVar 2) (ocE (ecStr (" " : Str)))))) (gcName 5) none (ecCall .f_whole_number (acCons (ecVar 5) acNil))) <|
    bCons (scIf (tcOr [(tcCmp lIn (ocE ecNon) (ocVar 4)), (tcCmp lNe (ocE (ecB "len" lLen (aoCons (ocVar 4) aoNil))) (ocE (ecInt 2)))]) (bCons (scRet ecNon) bNil) (bNil)) <|
    bCons (scApp 1 (ecTup (acCons (ecIx (ocVar 4) (ocE (ecInt 1))) (acCons (ecIx (ocVar 4) (ocE (ecInt 0))) acNil)))) bNil)) <|
  bFrz 1 <| bCons (scSet 3 (ecCall .f_polynomial (acCons (ecVar 1) acNil))) <|
  bCons (scRet (ecIf (tcCmp lEq (ocE (ecB "list" lList (aoCons (ocVar 3) aoNil))) (ocVar 1)) (ecVar 3) ecNon)) bNil
def t_read_polynomial : Dn := fun f => match f with | .f_polynomial => d_polynomial | .f_whole_number => d_whole_number | _ => fun _ => .no
def d_read_polynomial (ds : List D) : Re D := if ds.length = 1 then fnDen n_read_polynomial (b_read_polynomial t_read_polynomial) ds else .no
def n_law_frac : List Str := ["top", "bottom", "part"]
def p_law_frac : List Str := ["top", "bottom"]
def b_law_frac (δ : Dn) : BC (mkT δ) :=
  bCons (scSet 2 (ecCall .f_law_gcd (acCons (ecVar 0) (acCons (ecVar 1) acNil)))) <|
  bCons (scIf (tcCmp lLt (ocVar 1) (ocE (ecInt 0))) (bCons (scSet 2 (ecNeg (ocVar 2))) bNil) (bNil)) <|
  bCons (scRet (ecTup (acCons (ecBin lFdiv (ocVar 0) (ocVar 2)) (acCons (ecBin lFdiv (ocVar 1) (ocVar 2)) acNil)))) bNil
def t_law_frac : Dn := fun f => match f with | .f_law_gcd => d_law_gcd | _ => fun _ => .no
def d_law_frac (ds : List D) : Re D := if ds.length = 2 then fnDen n_law_frac (b_law_frac t_law_frac) ds else .no
def n_law_is_fraction : List Str := ["value"]
def p_law_is_fraction : List Str := ["value"]
def b_law_is_fraction (δ : Dn) : BC (mkT δ) :=
  bCons (scIf (tcOr [(tcNot (tcTru (ocE (ecIsi "tuple" (ocVar 0))))), (tcCmp lNe (ocE (ecB "len" lLen (aoCons (ocVar 0) aoNil))) (ocE (ecInt 2)))]) (bCons (scRet (ecBl false)) bNil) (bNil)) <|
  bCons (scIf (tcOr [(tcNot (tcTru (ocE (ecCall .f_law_whole (acCons (ecIx (ocVar 0) (ocE (ecInt 0))) acNil))))), (tcNot (tcTru (ocE (ecCall .f_law_whole (acCons (ecIx (ocVar 0) (ocE (ecInt 1))) acNil))))), (tcCmp lLt (ocE (ecIx (ocVar 0) (ocE (ecInt 1)))) (ocE (ecInt 1)))]) (bCons (scRet (ecBl false)) bNil) (bNil)) <|
  bCons (scRet (ecCmp lEq (ocE (ecCall .f_law_gcd (acCons (ecIx (ocVar 0) (ocE (ecInt 0))) (acCons (ecIx (ocVar 0) (ocE (ecInt 1))) acNil)))) (ocE (ecInt 1)))) bNil
def t_law_is_fraction : Dn := fun f => match f with | .f_law_whole => d_law_whole | .f_law_gcd => d_law_gcd | _ => fun _ => .no
def d_law_is_fraction (ds : List D) : Re D := if ds.length = 1 then fnDen n_law_is_fraction (b_law_is_fraction t_law_is_fraction) ds else .no
def n_law_is_sum : List Str := ["value", "term", "k"]
def p_law_is_sum : List Str := ["value"]
def b_law_is_sum (δ : Dn) : BC (mkT δ) :=
  bCons (scIf (tcNot (tcTru (ocE (ecIsi "tuple" (ocVar 0))))) (bCons (scRet (ecBl false)) bNil) (bNil)) <|
  bCons (scFor (gcName 1) (icSeq (ecVar 0)) (bCons (scIf (tcOr [(tcNot (tcTru (ocE (ecIsi "tuple" (ocVar 1))))), (tcCmp lNe (ocE (ecB "len" lLen (aoCons (ocVar 1) aoNil))) (ocE (ecInt 3))), (tcNot (tcTru (ocE (ecIsi "str" (ocE (ecIx (ocVar 1) (ocE (ecInt 0))))))))]) (bCons (scRet (ecBl false)) bNil) (bNil)) <|
    bCons (scIf (tcOr [(tcNot (tcTru (ocE (ecCall .f_law_whole (acCons (ecIx (ocVar 1) (ocE (ecInt 1))) acNil))))), (tcNot (tcTru (ocE (ecCall .f_law_whole (acCons (ecIx (ocVar 1) (ocE (ecInt 2))) acNil))))), (tcCmp lEq (ocE (ecIx (ocVar 1) (ocE (ecInt 2)))) (ocE (ecInt 0)))]) (bCons (scRet (ecBl false)) bNil) (bNil)) bNil)) <|
  bCons (scFor (gcName 2) (icRng2 (ocE (ecInt 1)) (ocE (ecB "len" lLen (aoCons (ocVar 0) aoNil)))) (bCons (scIf (tcCmp lGeD (ocE (ecSl (ocE (ecIx (ocVar 0) (ocE (ecBin lSub (ocVar 2) (ocE (ecInt 1)))))) none (some (ocE (ecInt 2))))) (ocE (ecSl (ocE (ecIx (ocVar 0) (ocVar 2))) none (some (ocE (ecInt 2)))))) (bCons (scRet (ecBl false)) bNil) (bNil)) bNil)) <|
  bCons (scRet (ecBl true)) bNil
def t_law_is_sum : Dn := fun f => match f with | .f_law_whole => d_law_whole | _ => fun _ => .no
def d_law_is_sum (ds : List D) : Re D := if ds.length = 1 then fnDen n_law_is_sum (b_law_is_sum t_law_is_sum) ds else .no
def n_law_is_poly : List Str := ["value", "pair", "k"]
def p_law_is_poly : List Str := ["value"]
def b_law_is_poly (δ : Dn) : BC (mkT δ) :=
  bCons (scIf (tcNot (tcTru (ocE (ecIsi "tuple" (ocVar 0))))) (bCons (scRet (ecBl false)) bNil) (bNil)) <|
  bCons (scFor (gcName 1) (icSeq (ecVar 0)) (bCons (scIf (tcOr [(tcNot (tcTru (ocE (ecIsi "tuple" (ocVar 1))))), (tcCmp lNe (ocE (ecB "len" lLen (aoCons (ocVar 1) aoNil))) (ocE (ecInt 2)))]) (bCons (scRet (ecBl false)) bNil) (bNil)) <|
    bCons (scIf (tcOr [(tcNot (tcTru (ocE (ecCall .f_law_whole (acCons (ecIx (ocVar 1) (ocE (ecInt 0))) acNil))))), (tcNot (tcTru (ocE (ecCall .f_law_whole (acCons (ecIx (ocVar 1) (ocE (ecInt 1))) acNil))))), (tcCmp lEq (ocE (ecIx (ocVar 1) (ocE (ecInt 1)))) (ocE (ecInt 0)))]) (bCons (scRet (ecBl false)) bNil) (bNil)) bNil)) <|
  bCons (scFor (gcName 2) (icRng2 (ocE (ecInt 1)) (ocE (ecB "len" lLen (aoCons (ocVar 0) aoNil)))) (bCons (scIf (tcCmp lGe (ocE (ecIx (ocE (ecIx (ocVar 0) (ocE (ecBin lSub (ocVar 2) (ocE (ecInt 1)))))) (ocE (ecInt 0)))) (ocE (ecIx (ocE (ecIx (ocVar 0) (ocVar 2))) (ocE (ecInt 0))))) (bCons (scRet (ecBl false)) bNil) (bNil)) bNil)) <|
  bCons (scRet (ecBl true)) bNil
def t_law_is_poly : Dn := fun f => match f with | .f_law_whole => d_law_whole | _ => fun _ => .no
def d_law_is_poly (ds : List D) : Re D := if ds.length = 1 then fnDen n_law_is_poly (b_law_is_poly t_law_is_poly) ds else .no
def n_law_drawn_items : List Str := ["script", "at", "kind", "wide", "shape", "count", "names", "row", "items", "k", "spot", "shift", "number"]
def p_law_drawn_items : List Str := ["script", "at", "kind", "wide"]
def b_law_drawn_items (δ : Dn) : BC (mkT δ) :=
  bCons (scSet 4 (ecCall .f_law_digits (acCons (ecCall .f_law_cell (acCons (ecVar 0) (acCons (ecVar 1) acNil))) (acCons (ecF (fcLst (acCons (ecInt 12) (acCons (ecInt 3) (acCons (ecInt 2) (acCons (ecInt 30) (acCons (ecInt 2) acNil))))))) acNil)))) <|
  bCons (scSet 5 (ecIx (ocE (ecF (fcLst (acCons (ecInt 2) (acCons (ecInt 1) (acCons (ecInt 3) (acCons (ecInt 2) (acCons (ecInt 4) (acCons (ecInt 0) (acCons (ecInt 1) (acCons (ecInt 5) (acCons (ecInt 3) (acCons (ecInt 2) (acCons (ecInt 6) (acCons (ecBin lSub (ocE (ecInt 36)) (ocE (ecIx (ocVar 4) (ocE (ecInt 3))))) acNil))))))))))))))) (ocE (ecIx (ocVar 4) (ocE (ecInt 0)))))) <|
  bCons (scIf (tcAnd [(tcCmp lEq (ocVar 2) (ocE (ecInt 2))), (tcCmp lGt (ocE (ecIx (ocVar 4) (ocE (ecInt 0)))) (ocE (ecInt 8))), (tcCmp lEq (ocE (ecIx (ocVar 4) (ocE (ecInt 4)))) (ocE (ecInt 1)))]) (bCons (scSet 5 (ecBin lSub (ocE (ecInt 57)) (ocE (ecIx (ocVar 4) (ocE (ecInt 3)))))) bNil) (bNil)) <|
  bCons (scSet 6 (ecF (fcLst (acCons (ecStr ("a" : Str)) (acCons (ecStr ("b1" : Str)) (acCons (ecStr ("level" : Str)) (acCons (ecStr ("abcdefghij" : Str)) (acCons (ecStr ("a0" : Str)) (acCons (ecStr ("z" : Str)) (acCons (ecStr ("x10" : Str)) (acCons (ecStr ("x2" : Str)) acNil))))))))))) <|
  bCons (scSet 7 (ecCall .f_law_digits (acCons (ecCall .f_law_cell (acCons (ecVar 0) (acCons (ecBin lAdd (ocVar 1) (ocE (ecInt 1))) acNil))) (acCons (ecBin lMul (ocE (ecF (fcLst (acCons (ecInt 11) (acCons (ecInt 41) (acCons (ecInt 8) acNil)))))) (ocE (ecInt 8))) acNil)))) <|
  bCons (scSetF 8 (fcLst acNil)) <|
  bCons (scFor (gcName 9) (icRng1 (ocVar 5)) (bCons (scSet 10 (ecBin lMul (ocE (ecInt 3)) (ocE (ecBin lMod (ocE (ecB "int" lInt (aoCons (ocVar 9) aoNil))) (ocE (ecInt 8)))))) <|
    bCons (scSet 11 (ecBin lSub (ocE (ecIx (ocVar 7) (ocE (ecBin lAdd (ocVar 10) (ocE (ecInt 1)))))) (ocE (ecInt 20)))) <|
    bCons (scIf (tcCmp lGt (ocVar 9) (ocE (ecInt 7))) (bCons (scSet 11 (ecBin lSub (ocE (ecBin lMod (ocE (ecB "int" lInt (aoCons (ocE (ecBin lAdd (ocVar 11) (ocE (ecBin lMul (ocE (ecInt 7)) (ocVar 9))))) aoNil))) (ocE (ecInt 41)))) (ocE (ecInt 20)))) bNil) (bNil)) <|
    bCons (scSet 12 (ecCall .f_law_drawn_number (acCons (ecIx (ocVar 7) (ocVar 10)) (acCons (ecVar 3) (acCons (ecBin lFdiv (ocE (ecB "int" lInt (aoCons (ocE (ecCall .f_law_cell (acCons (ecVar 0) (acCons (ecBin lAdd (ocVar 1) (ocE (ecInt 2))) acNil)))) aoNil))) (ocE (ecBin lAdd (ocVar 9) (ocE (ecInt 1))))) acNil))))) <|
    bCons (scApp 8 (ecSl (ocE (ecTup (acCons (ecIx (ocVar 6) (ocE (ecB "int" lInt (aoCons (ocE (ecBin lFdiv (ocE (ecIx (ocVar 7) (ocE (ecBin lAdd (ocVar 10) (ocE (ecInt 2)))))) (ocE (ecBin lAdd (ocE (ecInt 1)) (ocE (ecIx (ocVar 4) (ocE (ecInt 2)))))))) aoNil)))) (acCons (ecVar 11) (acCons (ecVar 12) acNil))))) (some (ocE (ecBin lSub (ocE (ecInt 2)) (ocVar 2)))) none)) bNil)) <|
  bCons (scIf (tcAnd [(tcCmp lEq (ocE (ecIx (ocVar 4) (ocE (ecInt 1)))) (ocE (ecInt 1))), (tcCmp lGt (ocVar 5) (ocE (ecInt 0)))]) (bCons (scSet 8 (ecBin lAdd (ocVar 8) (ocE (ecF (fcLst (acCons (ecBin lAdd (ocE (ecSl (ocE (ecIx (ocVar 8) (ocE (ecInt 0)))) none (some (ocE (ecNeg (ocE (ecInt 1))))))) (ocE (ecTup (acCons (ecInt 5) acNil)))) (acCons (ecBin lAdd (ocE (ecSl (ocE (ecIx (ocVar 8) (ocE (ecNeg (ocE (ecInt 1)))))) none (some (ocE (ecNeg (ocE (ecInt 1))))))) (ocE (ecTup (acCons (ecInt 0) acNil)))) (acCons (ecBin lAdd (ocE (ecSl (ocE (ecIx (ocVar 8) (ocE (ecInt 0)))) none (some (ocE (ecNeg (ocE (ecInt 1))))))) (ocE (ecTup (acCons (ecNeg (ocE (ecInt 5))) acNil)))) acNil)))))))) bNil) (bNil)) <|
  bFrz 8 <| bCons (scRet (ecVar 8)) bNil
def t_law_drawn_items : Dn := fun f => match f with | .f_law_cell => d_law_cell | .f_law_digits => d_law_digits | .f_law_drawn_number => d_law_drawn_number | _ => fun _ => .no
def d_law_drawn_items (ds : List D) : Re D := if ds.length = 4 then fnDen n_law_drawn_items (b_law_drawn_items t_law_drawn_items) ds else .no
def n_law_free_text : List Str := ["cell", "menu", "row", "count", "k"]
def p_law_free_text : List Str := ["cell"]
def b_law_free_text (δ : Dn) : BC (mkT δ) :=
  bCons (scSet 1 (ecF (fcLst (acCons (ecStr ("0" : Str)) (acCons (ecStr ("1" : Str)) (acCons (ecStr ("2" : Str)) (acCons (ecStr ("10" : Str)) (acCons (ecStr ("-" : Str)) (acCons (ecStr (" " : Str)) (acCons (ecStr (", " : Str)) (acCons (ecStr ("a" : Str)) (acCons (ecStr ("b1" : Str)) (acCons (ecStr ("/" : Str)) (acCons (ecStr ("3" : Str)) (acCons (ecStr ("\n" : Str)) (acCons (ecStr ("+" : Str)) (acCons (ecStr ("1 a 0" : Str)) (acCons (ecStr ("-2 b1 3" : Str)) (acCons (ecStr ("3 0" : Str)) (acCons (ecStr ("-1 2" : Str)) (acCons (ecStr ("," : Str)) acNil))))))))))))))))))))) <|
  bCons (scSet 2 (ecCall .f_law_digits (acCons (ecVar 0) (acCons (ecBin lAdd (ocE (ecF (fcLst (acCons (ecInt 17) acNil)))) (ocE (ecBin lMul (ocE (ecF (fcLst (acCons (ecInt 18) acNil)))) (ocE (ecInt 15))))) acNil)))) <|
  bCons (scSet 3 (ecIx (ocE (ecF (fcLst (acCons (ecInt 1) (acCons (ecInt 2) (acCons (ecInt 3) (acCons (ecInt 3) (acCons (ecInt 5) (acCons (ecInt 3) (acCons (ecInt 1) (acCons (ecInt 4) (acCons (ecInt 7) (acCons (ecInt 2) (acCons (ecInt 3) (acCons (ecInt 5) (acCons (ecInt 15) (acCons (ecInt 12) (acCons (ecInt 9) (acCons (ecInt 3) (acCons (ecInt 0) acNil)))))))))))))))))))) (ocE (ecIx (ocVar 2) (ocE (ecInt 0)))))) <|
  bCons (scRet (ecJoin (ocE (ecStr ("" : Str))) (ocE (ecF (fcLc [(("k" : Str), 4)] (icRng1 (ocVar 3)) (gcName 4) none (ecIx (ocVar 1) (ocE (ecIx (ocVar 2) (ocE (ecBin lAdd (ocE (ecInt 1)) (ocVar 4))))))))))) bNil
def t_law_free_text : Dn := fun f => match f with | .f_law_digits => d_law_digits | _ => fun _ => .no
def d_law_free_text (ds : List D) : Re D := if ds.length = 1 then fnDen n_law_free_text (b_law_free_text t_law_free_text) ds else .no
def n_law_reaches_far : List Str := ["kind", "text", "piece", "words", "shift"]
def p_law_reaches_far : List Str := ["kind", "text"]
def b_law_reaches_far (δ : Dn) : BC (mkT δ) :=
  bCons (scFor (gcName 2) (icSeq (ecF (fcSplit (ocVar 1) (ocE (ecStr (", " : Str)))))) (bCons (scSet 3 (ecF (fcSplit (ocVar 2) (ocE (ecStr (" " : Str)))))) <|
    bCons (scSet 4 (ecCall .f_law_number (acCons (ecIx (ocVar 3) (ocE (ecNeg (ocE (ecInt 1))))) acNil))) <|
    bCons (scIf (tcAnd [(tcCmp lGt (ocVar 0) (ocE (ecInt 0))), (tcCmp lEq (ocE (ecB "len" lLen (aoCons (ocVar 3) aoNil))) (ocE (ecBin lAdd (ocVar 0) (ocE (ecInt 1))))), (tcCmp lIsNot (ocVar 4) (ocE ecNon)), (tcCmp lGt (ocE (ecB "abs" lAbs (aoCons (ocVar 4) aoNil))) (ocE (ecInt 20)))]) (bCons (scRet (ecBl true)) bNil) (bNil)) bNil)) <|
  bCons (scRet (ecBl false)) bNil
def t_law_reaches_far : Dn := fun f => match f with | .f_law_number => d_law_number | _ => fun _ => .no
def d_law_reaches_far (ds : List D) : Re D := if ds.length = 2 then fnDen n_law_reaches_far (b_law_reaches_far t_law_reaches_far) ds else .no
def n_format_fraction : List Str := ["value", "top", "bottom"]
def p_format_fraction : List Str := ["value"]
def b_format_fraction (δ : Dn) : BC (mkT δ) :=
  bCons (scTgt (gcTup 2 (gsCons (gcName 1) (gsCons (gcName 2) gsNil))) (ecCall .f_fraction (acCons (ecVar 0) acNil))) <|
  bCons (scIf (tcCmp lEq (ocVar 2) (ocE (ecInt 1))) (bCons (scRet (ecCall .f_written (acCons (ecVar 1) acNil))) bNil) (bNil)) <|
  bCons (scRet (ecBin lAdd (ocE (ecBin lAdd (ocE (ecCall .f_written (acCons (ecVar 1) acNil))) (ocE (ecStr ("/" : Str))))) (ocE (ecCall .f_written (acCons (ecVar 2) acNil))))) bNil
def t_format_fraction : Dn := fun f => match f with | .f_fraction => d_fraction | .f_written => d_written | _ => fun _ => .no
def d_format_fraction (ds : List D) : Re D := if ds.length = 1 then fnDen n_format_fraction (b_format_fraction t_format_fraction) ds else .no
def n_format_sum : List Str := ["terms", "told", "row", "shift", "coefficient"]
def p_format_sum : List Str := ["terms"]
def b_format_sum (δ : Dn) : BC (mkT δ) :=
  bCons (scSet 1 (ecCall .f_ordered (acCons (ecVar 0) acNil))) <|
  bCons (scIf (tcNot (tcTru (ocVar 1))) (bCons (scRet (ecStr ("0" : Str))) bNil) (bNil)) <|
  bCons (scRet (ecJoin (ocE (ecStr (", " : Str))) (ocE (ecF (fcLc [(("row" : Str), 2), (("shift" : Str), 3), (("coefficient" : Str), 4)] (icSeq (ecVar 1)) (gcTup 3 (gsCons (gcName 2) (gsCons (gcName 3) (gsCons (gcName 4) gsNil)))) none (ecBin lAdd (ocE (ecBin lAdd (ocE (ecBin lAdd (ocE (ecBin lAdd (ocE (ecCall .f_written (acCons (ecVar 4) acNil))) (ocE (ecStr (" " : Str))))) (ocVar 2))) (ocE (ecStr (" " : Str))))) (ocE (ecCall .f_written (acCons (ecVar 3) acNil))))))))) bNil
def t_format_sum : Dn := fun f => match f with | .f_ordered => d_ordered | .f_written => d_written | _ => fun _ => .no
def d_format_sum (ds : List D) : Re D := if ds.length = 1 then fnDen n_format_sum (b_format_sum t_format_sum) ds else .no
def n_read_fraction : List Str := ["text", "pieces", "piece"]
def p_read_fraction : List Str := ["text"]
def b_read_fraction (δ : Dn) : BC (mkT δ) :=
  bCons (scSetLc 1 [(("piece" : Str), 2)] (icSeq (ecF (fcSplit (ocVar 0) (ocE (ecStr ("/" : Str)))))) (gcName 2) none (ecCall .f_whole_number (acCons (ecVar 2) acNil))) <|
  bCons (scIf (tcOr [(tcCmp lIn (ocE ecNon) (ocVar 1)), (tcCmp lGt (ocE (ecB "len" lLen (aoCons (ocVar 1) aoNil))) (ocE (ecInt 2)))]) (bCons (scRet ecNon) bNil) (bNil)) <|
  bCons (scIf (tcCmp lEq (ocE (ecB "len" lLen (aoCons (ocVar 1) aoNil))) (ocE (ecInt 1))) (bCons (scRet (ecTup (acCons (ecIx (ocVar 1) (ocE (ecInt 0))) (acCons (ecInt 1) acNil)))) bNil) (bNil)) <|
  bFrz 1 <| bCons (scIf (tcOr [(tcCmp lLt (ocE (ecIx (ocVar 1) (ocE (ecInt 1)))) (ocE (ecInt 2))), (tcCmp lNe (ocE (ecCall .f_fraction (acCons (ecVar 1) acNil))) (ocE (ecB "tuple" lTuple (aoCons (ocVar 1) aoNil))))]) (bCons (scRet ecNon) bNil) (bNil)) <|
  bCons (scRet (ecB "tuple" lTuple (aoCons (ocVar 1) aoNil))) bNil
def t_read_fraction : Dn := fun f => match f with | .f_fraction => d_fraction | .f_whole_number => d_whole_number | _ => fun _ => .no
def d_read_fraction (ds : List D) : Re D := if ds.length = 1 then fnDen n_read_fraction (b_read_fraction t_read_fraction) ds else .no
def n_read_sum : List Str := ["text", "terms", "piece", "told", "words", "coefficient", "shift"]
def p_read_sum : List Str := ["text"]
def b_read_sum (δ : Dn) : BC (mkT δ) :=
  bCons (scIf (tcCmp lEq (ocVar 0) (ocE (ecStr ("0" : Str)))) (bCons (scRet (ecTup acNil)) bNil) (bNil)) <|
  bCons (scSetF 1 (fcLst acNil)) <|
  bCons (scFor (gcName 2) (icSeq (ecF (fcSplit (ocVar 0) (ocE (ecStr (", " : Str)))))) (bCons (scSet 4 (ecF (fcSplit (ocVar 2) (ocE (ecStr (" " : Str)))))) <|
    bCons (scIf (tcOr [(tcCmp lNe (ocE (ecB "len" lLen (aoCons (ocVar 4) aoNil))) (ocE (ecInt 3))), (tcNot (tcTru (ocE (ecCall .f_is_row_name (acCons (ecIx (ocVar 4) (ocE (ecInt 1))) acNil)))))]) (bCons (scRet ecNon) bNil) (bNil)) <|
    bCons (scSet 5 (ecCall .f_whole_number (acCons (ecIx (ocVar 4) (ocE (ecInt 0))) acNil))) <|
    bCons (scSet 6 (ecCall .f_whole_number (acCons (ecIx (ocVar 4) (ocE (ecInt 2))) acNil))) <|
    bCons (scIf (tcOr [(tcCmp lIs (ocVar 5) (ocE ecNon)), (tcCmp lIs (ocVar 6) (ocE ecNon))]) (bCons (scRet ecNon) bNil) (bNil)) <|
    bCons (scApp 1 (ecTup (acCons (ecIx (ocVar 4) (ocE (ecInt 1))) (acCons (ecVar 6) (acCons (ecVar 5) acNil))))) bNil)) <|
  bFrz 1 <| bCons (scSet 3 (ecCall .f_ordered (acCons (ecVar 1) acNil))) <|
  bCons (scRet (ecIf (tcCmp lEq (ocE (ecB "list" lList (aoCons (ocVar 3) aoNil))) (ocVar 1)) (ecVar 3) ecNon)) bNil
def t_read_sum : Dn := fun f => match f with | .f_is_row_name => d_is_row_name | .f_ordered => d_ordered | .f_whole_number => d_whole_number | _ => fun _ => .no
def d_read_sum (ds : List D) : Re D := if ds.length = 1 then fnDen n_read_sum (b_read_sum t_read_sum) ds else .no
def n_parse_polynomial : List Str := ["text", "told"]
def p_parse_polynomial : List Str := ["text"]
def b_parse_polynomial (δ : Dn) : BC (mkT δ) :=
  bCons (scSet 1 (ecCall .f_read_polynomial (acCons (ecVar 0) acNil))) <|
  bCons (scIf (tcCmp lIs (ocVar 1) (ocE ecNon)) (bCons (scRaiseNot xokNot (ecInt 0)) bNil) (bNil)) <|
  bCons (scRet (ecVar 1)) bNil
def t_parse_polynomial : Dn := fun f => match f with | .f_read_polynomial => d_read_polynomial | _ => fun _ => .no
def d_parse_polynomial (ds : List D) : Re D := if ds.length = 1 then fnDen n_parse_polynomial (b_parse_polynomial t_parse_polynomial) ds else .no
def n_law_written : List Str := ["kind", "text", "words", "top", "bottom", "worth", "items", "piece", "coefficient", "shift"]
def p_law_written : List Str := ["kind", "text"]
def b_law_written (δ : Dn) : BC (mkT δ) :=
  bCons (scIf (tcCmp lEq (ocVar 0) (ocE (ecInt 0))) (bCons (scSet 2 (ecF (fcSplit (ocVar 1) (ocE (ecStr ("/" : Str)))))) <|
    bCons (scSet 3 (ecCall .f_law_number (acCons (ecIx (ocVar 2) (ocE (ecInt 0))) acNil))) <|
    bCons (scSet 4 (ecCall .f_law_number (acCons (ecIx (ocE (ecBin lAdd (ocVar 2) (ocE (ecF (fcLst (acCons (ecStr ("1" : Str)) acNil)))))) (ocE (ecInt 1))) acNil))) <|
    bCons (scIf (tcOr [(tcCmp lGt (ocE (ecB "len" lLen (aoCons (ocVar 2) aoNil))) (ocE (ecInt 2))), (tcCmp lIs (ocVar 3) (ocE ecNon)), (tcCmp lIs (ocVar 4) (ocE ecNon)), (tcCmp lLt (ocVar 4) (ocE (ecInt 1)))]) (bCons (scRet ecNon) bNil) (bNil)) <|
    bCons (scSet 5 (ecCall .f_law_frac (acCons (ecVar 3) (acCons (ecVar 4) acNil)))) bNil) (bCons (scIf (tcCmp lEq (ocVar 1) (ocE (ecStr ("0" : Str)))) (bCons (scSet 5 (ecTup acNil)) bNil) (bCons (scSetF 6 (fcLst acNil)) <|
      bCons (scFor (gcName 7) (icSeq (ecF (fcSplit (ocVar 1) (ocE (ecStr (", " : Str)))))) (bCons (scSet 2 (ecF (fcSplit (ocVar 7) (ocE (ecStr (" " : Str)))))) <|
        bCons (scIf (tcCmp lNe (ocE (ecB "len" lLen (aoCons (ocVar 2) aoNil))) (ocE (ecBin lAdd (ocVar 0) (ocE (ecInt 1))))) (bCons (scRet ecNon) bNil) (bNil)) <|
        bCons (scSet 8 (ecCall .f_law_number (acCons (ecIx (ocVar 2) (ocE (ecInt 0))) acNil))) <|
        bCons (scSet 9 (ecCall .f_law_number (acCons (ecIx (ocVar 2) (ocE (ecNeg (ocE (ecInt 1))))) acNil))) <|
        bCons (scIf (tcOr [(tcCmp lIs (ocVar 8) (ocE ecNon)), (tcCmp lIs (ocVar 9) (ocE ecNon))]) (bCons (scRet ecNon) bNil) (bNil)) <|
        bCons (scIf (tcAnd [(tcCmp lEq (ocVar 0) (ocE (ecInt 2))), (tcNot (tcTru (ocE (ecCall .f_law_is_name (acCons (ecIx (ocVar 2) (ocE (ecInt 1))) acNil)))))]) (bCons (scRet ecNon) bNil) (bNil)) <|
        bCons (scApp 6 (ecSl (ocE (ecTup (acCons (ecIx (ocVar 2) (ocE (ecInt 1))) (acCons (ecVar 9) (acCons (ecVar 8) acNil))))) (some (ocE (ecBin lSub (ocE (ecInt 2)) (ocVar 0)))) none)) bNil)) <|
      bFrz 6 <| bCons (scSet 5 (ecIf (tcCmp lEq (ocVar 0) (ocE (ecInt 1))) (ecCall .f_law_pairs (acCons (ecCall .f_law_poly (acCons (ecVar 6) acNil)) acNil)) (ecCall .f_law_terms (acCons (ecCall .f_law_sum (acCons (ecVar 6) acNil)) acNil)))) bNil)) bNil)) <|
  bCons (scIf (tcCmp lNe (ocE (ecCall .f_law_write (acCons (ecVar 0) (acCons (ecVar 5) acNil)))) (ocVar 1)) (bCons (scRet ecNon) bNil) (bNil)) <|
  bCons (scRet (ecVar 5)) bNil
def t_law_written : Dn := fun f => match f with | .f_law_frac => d_law_frac | .f_law_poly => d_law_poly | .f_law_pairs => d_law_pairs | .f_law_sum => d_law_sum | .f_law_terms => d_law_terms | .f_law_is_name => d_law_is_name | .f_law_number => d_law_number | .f_law_write => d_law_write | _ => fun _ => .no
def d_law_written (ds : List D) : Re D := if ds.length = 2 then fnDen n_law_written (b_law_written t_law_written) ds else .no
def n_law_has_form : List Str := ["kind", "worth"]
def p_law_has_form : List Str := ["kind", "worth"]
def b_law_has_form (δ : Dn) : BC (mkT δ) :=
  bCons (scIf (tcCmp lEq (ocVar 0) (ocE (ecInt 0))) (bCons (scRet (ecCall .f_law_is_fraction (acCons (ecVar 1) acNil))) bNil) (bNil)) <|
  bCons (scIf (tcCmp lEq (ocVar 0) (ocE (ecInt 1))) (bCons (scRet (ecCall .f_law_is_poly (acCons (ecVar 1) acNil))) bNil) (bNil)) <|
  bCons (scRet (ecCall .f_law_is_sum (acCons (ecVar 1) acNil))) bNil
def t_law_has_form : Dn := fun f => match f with | .f_law_is_fraction => d_law_is_fraction | .f_law_is_sum => d_law_is_sum | .f_law_is_poly => d_law_is_poly | _ => fun _ => .no
def d_law_has_form (ds : List D) : Re D := if ds.length = 2 then fnDen n_law_has_form (b_law_has_form t_law_has_form) ds else .no
def n_law_drawn_worth : List Str := ["script", "at", "kind", "wide", "row", "top", "bottom", "items"]
def p_law_drawn_worth : List Str := ["script", "at", "kind", "wide"]
def b_law_drawn_worth (δ : Dn) : BC (mkT δ) :=
  bCons (scIf (tcCmp lGt (ocVar 2) (ocE (ecInt 0))) (bCons (scSet 7 (ecCall .f_law_drawn_items (acCons (ecVar 0) (acCons (ecVar 1) (acCons (ecVar 2) (acCons (ecVar 3) acNil)))))) <|
    bCons (scRet (ecIf (tcCmp lEq (ocVar 2) (ocE (ecInt 1))) (ecCall .f_law_pairs (acCons (ecCall .f_law_poly (acCons (ecVar 7) acNil)) acNil)) (ecCall .f_law_terms (acCons (ecCall .f_law_sum (acCons (ecVar 7) acNil)) acNil)))) bNil) (bNil)) <|
  bCons (scSet 4 (ecCall .f_law_digits (acCons (ecCall .f_law_cell (acCons (ecVar 0) (acCons (ecVar 1) acNil))) (acCons (ecF (fcLst (acCons (ecInt 11) (acCons (ecInt 12) (acCons (ecInt 3) acNil))))) acNil)))) <|
  bCons (scSet 5 (ecCall .f_law_drawn_number (acCons (ecIx (ocVar 4) (ocE (ecInt 0))) (acCons (ecVar 3) (acCons (ecCall .f_law_cell (acCons (ecVar 0) (acCons (ecBin lAdd (ocVar 1) (ocE (ecInt 1))) acNil))) acNil))))) <|
  bCons (scSet 6 (ecIx (ocE (ecF (fcLst (acCons (ecInt 1) (acCons (ecInt 1) (acCons (ecInt 2) (acCons (ecInt 3) (acCons (ecInt 4) (acCons (ecInt 6) (acCons (ecInt 1) (acCons (ecInt 10) (acCons (ecInt 1) (acCons (ecInt 2) (acCons (ecInt 12) (acCons (ecInt 5) acNil))))))))))))))) (ocE (ecIx (ocVar 4) (ocE (ecInt 1)))))) <|
  bCons (scIf (tcCmp lEq (ocE (ecIx (ocVar 4) (ocE (ecInt 2)))) (ocE (ecInt 1))) (bCons (scSet 5 (ecBin lSub (ocE (ecIx (ocVar 4) (ocE (ecInt 0)))) (ocE (ecInt 5)))) <|
    bCons (scSet 6 (ecBin lAdd (ocE (ecInt 1)) (ocE (ecBin lMod (ocE (ecB "int" lInt (aoCons (ocE (ecBin lMul (ocE (ecB "int" lInt (aoCons (ocE (ecCall .f_law_cell (acCons (ecVar 0) (acCons (ecBin lAdd (ocVar 1) (ocE (ecInt 2))) acNil)))) aoNil))) (ocE (ecBin lAdd (ocE (ecBin lPow (ocE (ecInt 10)) (ocE (ecInt 20)))) (ocE (ecInt 39)))))) aoNil))) (ocE (ecIx (ocE (ecF (fcLst (acCons (ecInt 60) (acCons (ecBin lPow (ocE (ecInt 10)) (ocE (ecInt 9))) (acCons (ecBin lPow (ocE (ecInt 10)) (ocE (ecInt 26))) acNil)))))) (ocVar 3))))))) bNil) (bNil)) <|
  bCons (scRet (ecCall .f_law_frac (acCons (ecVar 5) (acCons (ecVar 6) acNil)))) bNil
def t_law_drawn_worth : Dn := fun f => match f with | .f_law_cell => d_law_cell | .f_law_digits => d_law_digits | .f_law_frac => d_law_frac | .f_law_poly => d_law_poly | .f_law_pairs => d_law_pairs | .f_law_sum => d_law_sum | .f_law_terms => d_law_terms | .f_law_drawn_number => d_law_drawn_number | .f_law_drawn_items => d_law_drawn_items | _ => fun _ => .no
def d_law_drawn_worth (ds : List D) : Re D := if ds.length = 4 then fnDen n_law_drawn_worth (b_law_drawn_worth t_law_drawn_worth) ds else .no
def n_parse_fraction : List Str := ["text", "told"]
def p_parse_fraction : List Str := ["text"]
def b_parse_fraction (δ : Dn) : BC (mkT δ) :=
  bCons (scSet 1 (ecCall .f_read_fraction (acCons (ecVar 0) acNil))) <|
  bCons (scIf (tcCmp lIs (ocVar 1) (ocE ecNon)) (bCons (scRaiseNot xokNot (ecInt 0)) bNil) (bNil)) <|
  bCons (scRet (ecVar 1)) bNil
def t_parse_fraction : Dn := fun f => match f with | .f_read_fraction => d_read_fraction | _ => fun _ => .no
def d_parse_fraction (ds : List D) : Re D := if ds.length = 1 then fnDen n_parse_fraction (b_parse_fraction t_parse_fraction) ds else .no
def n_parse_sum : List Str := ["text", "told"]
def p_parse_sum : List Str := ["text"]
def b_parse_sum (δ : Dn) : BC (mkT δ) :=
  bCons (scSet 1 (ecCall .f_read_sum (acCons (ecVar 0) acNil))) <|
  bCons (scIf (tcCmp lIs (ocVar 1) (ocE ecNon)) (bCons (scRaiseNot xokNot (ecInt 0)) bNil) (bNil)) <|
  bCons (scRet (ecVar 1)) bNil
def t_parse_sum : Dn := fun f => match f with | .f_read_sum => d_read_sum | _ => fun _ => .no
def d_parse_sum (ds : List D) : Re D := if ds.length = 1 then fnDen n_parse_sum (b_parse_sum t_parse_sum) ds else .no
def n_law_formatted : List Str := ["kind", "worth"]
def p_law_formatted : List Str := ["kind", "worth"]
def b_law_formatted (δ : Dn) : BC (mkT δ) :=
  bCons (scIf (tcCmp lEq (ocVar 0) (ocE (ecInt 0))) (bCons (scRet (ecCall .f_format_fraction (acCons (ecVar 1) acNil))) bNil) (bNil)) <|
  bCons (scIf (tcCmp lEq (ocVar 0) (ocE (ecInt 1))) (bCons (scRet (ecCall .f_format_polynomial (acCons (ecVar 1) acNil))) bNil) (bNil)) <|
  bCons (scRet (ecCall .f_format_sum (acCons (ecVar 1) acNil))) bNil
def t_law_formatted : Dn := fun f => match f with | .f_format_fraction => d_format_fraction | .f_format_polynomial => d_format_polynomial | .f_format_sum => d_format_sum | _ => fun _ => .no
def d_law_formatted (ds : List D) : Re D := if ds.length = 2 then fnDen n_law_formatted (b_law_formatted t_law_formatted) ds else .no
def n_law_handed : List Str := ["script", "kind", "row", "worth", "up", "items", "item"]
def p_law_handed : List Str := ["script", "kind", "row"]
def b_law_handed (δ : Dn) : BC (mkT δ) :=
  bCons (scIf (tcCmp lGt (ocVar 1) (ocE (ecInt 0))) (bCons (scSet 5 (ecCall .f_law_drawn_items (acCons (ecVar 0) (acCons (ecInt 2) (acCons (ecVar 1) (acCons (ecB "min" lMin2 (aoCons (ocE (ecInt 1)) (aoCons (ocE (ecIx (ocVar 2) (ocE (ecInt 1)))) aoNil))) acNil)))))) <|
    bCons (scIf (tcCmp lEq (ocE (ecIx (ocVar 2) (ocE (ecInt 2)))) (ocE (ecInt 0))) (bCons (scRet (ecF (fcLc [(("item" : Str), 6)] (icSeq (ecVar 5)) (gcName 6) none (ecB "list" lList (aoCons (ocVar 6) aoNil))))) bNil) (bNil)) <|
    bCons (scRet (ecB "tuple" lTuple (aoCons (ocVar 5) aoNil))) bNil) (bNil)) <|
  bCons (scSet 3 (ecCall .f_law_drawn_worth (acCons (ecVar 0) (acCons (ecInt 2) (acCons (ecInt 0) (acCons (ecIx (ocVar 2) (ocE (ecInt 1))) acNil)))))) <|
  bCons (scIf (tcAnd [(tcCmp lEq (ocE (ecIx (ocVar 2) (ocE (ecInt 3)))) (ocE (ecInt 0))), (tcCmp lEq (ocE (ecIx (ocVar 3) (ocE (ecInt 1)))) (ocE (ecInt 1)))]) (bCons (scRet (ecIx (ocVar 3) (ocE (ecInt 0)))) bNil) (bNil)) <|
  bCons (scSet 4 (ecIx (ocE (ecF (fcLst (acCons (ecInt 1) (acCons (ecNeg (ocE (ecInt 1))) (acCons (ecInt 2) (acCons (ecNeg (ocE (ecInt 3))) (acCons (ecInt 10) acNil)))))))) (ocE (ecIx (ocVar 2) (ocE (ecInt 3)))))) <|
  bCons (scIf (tcCmp lEq (ocE (ecIx (ocVar 2) (ocE (ecInt 2)))) (ocE (ecInt 0))) (bCons (scRet (ecF (fcLst (acCons (ecBin lMul (ocVar 4) (ocE (ecIx (ocVar 3) (ocE (ecInt 0))))) (acCons (ecBin lMul (ocVar 4) (ocE (ecIx (ocVar 3) (ocE (ecInt 1))))) acNil))))) bNil) (bNil)) <|
  bCons (scRet (ecTup (acCons (ecBin lMul (ocVar 4) (ocE (ecIx (ocVar 3) (ocE (ecInt 0))))) (acCons (ecBin lMul (ocVar 4) (ocE (ecIx (ocVar 3) (ocE (ecInt 1))))) acNil)))) bNil
def t_law_handed : Dn := fun f => match f with | .f_law_drawn_items => d_law_drawn_items | .f_law_drawn_worth => d_law_drawn_worth | _ => fun _ => .no
def d_law_handed (ds : List D) : Re D := if ds.length = 3 then fnDen n_law_handed (b_law_handed t_law_handed) ds else .no
def n_law_parsed : List Str := ["kind", "text", "e", "alone"]
def p_law_parsed : List Str := ["kind", "text"]
-- _law_parsed: by hand
def parsedOf (r : Re D) : Re D := match r with
  | .ok d => .ok (.lst [d])
  | .ex ⟨c, [(f, .int i)]⟩ => if c = "BadNotation" ∧ f = "line" ∧ i = 0 then .ok (.lst [.bl true, .int 0]) else .no
  | .ex _ => .no
  | .no => .no
def d_law_parsed (ds : List D) : Re D := match ds with
  | [.int k, .str x] => parsedOf (if k = 0 then d_parse_fraction [.str x] else if k = 1 then d_parse_polynomial [.str x] else d_parse_sum [.str x])
  | _ => .no
def n_law_text_agrees : List Str := ["kind", "text", "due", "told"]
def p_law_text_agrees : List Str := ["kind", "text"]
def b_law_text_agrees (δ : Dn) : BC (mkT δ) :=
  bCons (scIf (tcTru (ocE (ecCall .f_law_reaches_far (acCons (ecVar 0) (acCons (ecVar 1) acNil))))) (bCons (scRet (ecBl true)) bNil) (bNil)) <|
  bCons (scSet 2 (ecCall .f_law_written (acCons (ecVar 0) (acCons (ecVar 1) acNil)))) <|
  bCons (scSet 3 (ecCall .f_law_parsed (acCons (ecVar 0) (acCons (ecVar 1) acNil)))) <|
  bCons (scIf (tcCmp lIs (ocVar 2) (ocE ecNon)) (bCons (scRet (ecAnd [(ecCmp lEq (ocVar 3) (ocE (ecF (fcLst (acCons (ecBl true) (acCons (ecInt 0) acNil)))))), (ecCmp lEq (ocE (ecCall .f_law_parsed (acCons (ecVar 0) (acCons (ecVar 1) acNil)))) (ocE (ecF (fcLst (acCons (ecBl true) (acCons (ecInt 0) acNil))))))])) bNil) (bNil)) <|
  bCons (scIf (tcOr [(tcCmp lNe (ocE (ecB "len" lLen (aoCons (ocVar 3) aoNil))) (ocE (ecInt 1))), (tcNot (tcTru (ocE (ecCall .f_law_has_form (acCons (ecVar 0) (acCons (ecIx (ocVar 3) (ocE (ecInt 0))) acNil)))))), (tcCmp lNe (ocE (ecIx (ocVar 3) (ocE (ecInt 0)))) (ocVar 2))]) (bCons (scRet (ecBl false)) bNil) (bNil)) <|
  bCons (scRet (ecAnd [(ecCmp lEq (ocE (ecCall .f_law_formatted (acCons (ecVar 0) (acCons (ecIx (ocVar 3) (ocE (ecInt 0))) acNil)))) (ocVar 1)), (ecCmp lEq (ocE (ecCall .f_law_parsed (acCons (ecVar 0) (acCons (ecVar 1) acNil)))) (ocE (ecF (fcLst (acCons (ecVar 2) acNil)))))])) bNil
def t_law_text_agrees : Dn := fun f => match f with | .f_law_written => d_law_written | .f_law_parsed => d_law_parsed | .f_law_has_form => d_law_has_form | .f_law_formatted => d_law_formatted | .f_law_reaches_far => d_law_reaches_far | _ => fun _ => .no
def d_law_text_agrees (ds : List D) : Re D := if ds.length = 2 then fnDen n_law_text_agrees (b_law_text_agrees t_law_text_agrees) ds else .no
def n_law_far_agrees : List Str := ["kind", "worth", "by", "turns", "far", "move", "told", "great", "k", "text", "due", "pair", "term"]
def p_law_far_agrees : List Str := ["kind", "worth", "by", "turns"]
def b_law_far_agrees (δ : Dn) : BC (mkT δ) :=
  bCons (scSet 4 (ecVar 1)) <|
  bCons (scSet 5 (ecBin lMul (ocE (ecInt 4)) (ocE (ecBin lSub (ocVar 2) (ocE (ecInt 20)))))) <|
  bCons (scSet 6 (ecCall .f_times (acCons (ecBin lSub (ocE (ecBin lPow (ocE (ecInt 10)) (ocE (ecInt 30)))) (ocE (ecInt 1))) (acCons (ecInt 1) acNil)))) <|
  bCons (scSet 7 (ecBin lSub (ocE (ecBin lPow (ocE (ecInt 10)) (ocE (ecInt 30)))) (ocE (ecInt 1)))) <|
  bCons (scIf (tcAnd [(tcCmp lGt (ocVar 0) (ocE (ecInt 0))), (tcCmp lGt (ocE (ecB "len" lLen (aoCons (ocVar 1) aoNil))) (ocE (ecInt 6)))]) (bCons (scSet 3 (ecInt 0)) bNil) (bNil)) <|
  bCons (scFor (gcName 8) (icRng1 (ocVar 3)) (bCons (scSet 6 (ecCall .f_times (acCons (ecVar 6) (acCons (ecVar 6) acNil)))) <|
    bCons (scSet 7 (ecBin lMul (ocVar 7) (ocVar 7))) bNil)) <|
  bCons (scIf (tcOr [(tcCmp lNe (ocVar 6) (ocE (ecTup (acCons (ecVar 7) (acCons (ecInt 1) acNil))))), (tcNot (tcTru (ocE (ecCall .f_law_is_fraction (acCons (ecVar 6) acNil)))))]) (bCons (scRet (ecBl false)) bNil) (bNil)) <|
  bCons (scIf (tcCmp lEq (ocVar 0) (ocE (ecInt 0))) (bCons (scSet 4 (ecCall .f_times (acCons (ecCall .f_times (acCons (ecVar 1) (acCons (ecVar 6) acNil))) (acCons (ecTup (acCons (ecNeg (ocE (ecInt 1))) (acCons (ecBin lSub (ocE (ecBin lPow (ocE (ecInt 10)) (ocE (ecInt 30)))) (ocE (ecInt 3))) acNil))) acNil)))) <|
    bCons (scSet 10 (ecCall .f_law_frac (acCons (ecBin lMul (ocE (ecNeg (ocE (ecIx (ocVar 1) (ocE (ecInt 0)))))) (ocVar 7)) (acCons (ecBin lMul (ocE (ecIx (ocVar 1) (ocE (ecInt 1)))) (ocE (ecBin lSub (ocE (ecBin lPow (ocE (ecInt 10)) (ocE (ecInt 30)))) (ocE (ecInt 3))))) acNil)))) bNil) (bNil)) <|
  bCons (scFor (gcName 8) (icRng1 (ocE (ecInt 4))) (bCons (scIf (tcCmp lEq (ocVar 0) (ocE (ecInt 1))) (bCons (scSet 4 (ecCall .f_poly_times (acCons (ecVar 4) (acCons (ecF (fcLst (acCons (ecF (fcLst (acCons (ecBin lSub (ocVar 2) (ocE (ecInt 20))) (acCons (ecBin lPow (ocE (ecInt 10)) (ocE (ecInt 9))) acNil)))) acNil))) acNil)))) bNil) (bNil)) <|
    bCons (scIf (tcCmp lEq (ocVar 0) (ocE (ecInt 2))) (bCons (scSet 4 (ecCall .f_sum_times (acCons (ecF (fcLst (acCons (ecTup (acCons (ecBin lSub (ocVar 2) (ocE (ecInt 20))) (acCons (ecBin lPow (ocE (ecInt 10)) (ocE (ecInt 9))) acNil))) acNil))) (acCons (ecVar 4) acNil)))) bNil) (bNil)) bNil)) <|
  bCons (scIf (tcCmp lEq (ocVar 0) (ocE (ecInt 1))) (bCons (scSet 4 (ecCall .f_poly_times (acCons (ecVar 4) (acCons (ecF (fcLst (acCons (ecTup (acCons (ecInt 0) (acCons (ecIx (ocVar 6) (ocE (ecInt 0))) acNil))) acNil))) acNil)))) <|
    bCons (scSet 10 (ecB "tuple" lTuple (aoCons (ocE (ecF (fcLc [(("pair" : Str), 11)] (icSeq (ecVar 1)) (gcName 11) none (ecTup (acCons (ecBin lAdd (ocE (ecIx (ocVar 11) (ocE (ecInt 0)))) (ocVar 5)) (acCons (ecBin lMul (ocE (ecBin lMul (ocE (ecBin lPow (ocE (ecInt 10)) (ocE (ecInt 36)))) (ocVar 7))) (ocE (ecIx (ocVar 11) (ocE (ecInt 1))))) acNil)))))) aoNil))) bNil) (bNil)) <|
  bCons (scIf (tcCmp lEq (ocVar 0) (ocE (ecInt 2))) (bCons (scSet 4 (ecCall .f_sum_times (acCons (ecF (fcLst (acCons (ecF (fcLst (acCons (ecInt 0) (acCons (ecIx (ocVar 6) (ocE (ecInt 0))) acNil)))) acNil))) (acCons (ecVar 4) acNil)))) <|
    bCons (scSet 10 (ecB "tuple" lTuple (aoCons (ocE (ecF (fcLc [(("term" : Str), 12)] (icSeq (ecVar 1)) (gcName 12) none (ecTup (acCons (ecIx (ocVar 12) (ocE (ecInt 0))) (acCons (ecBin lAdd (ocE (ecIx (ocVar 12) (ocE (ecInt 1)))) (ocVar 5)) (acCons (ecBin lMul (ocE (ecBin lMul (ocE (ecBin lPow (ocE (ecInt 10)) (ocE (ecInt 36)))) (ocVar 7))) (ocE (ecIx (ocVar 12) (ocE (ecInt 2))))) acNil))))))) aoNil))) bNil) (bNil)) <|
  bCons (scSet 9 (ecCall .f_law_formatted (acCons (ecVar 0) (acCons (ecVar 4) acNil)))) <|
  bCons (scRet (ecAnd [(ecCmp lEq (ocVar 9) (ocE (ecCall .f_law_write (acCons (ecVar 0) (acCons (ecVar 10) acNil))))), (ecCmp lEq (ocE (ecCall .f_law_parsed (acCons (ecVar 0) (acCons (ecVar 9) acNil)))) (ocE (ecF (fcLst (acCons (ecVar 10) acNil)))))])) bNil
def t_law_far_agrees : Dn := fun f => match f with | .f_poly_times => d_poly_times | .f_times => d_times | .f_sum_times => d_sum_times | .f_law_frac => d_law_frac | .f_law_is_fraction => d_law_is_fraction | .f_law_write => d_law_write | .f_law_parsed => d_law_parsed | .f_law_formatted => d_law_formatted | _ => fun _ => .no
def d_law_far_agrees (ds : List D) : Re D := if ds.length = 4 then fnDen n_law_far_agrees (b_law_far_agrees t_law_far_agrees) ds else .no
def n_law : List Str := ["script", "row", "kind", "handed", "text", "spot", "spoilt", "due"]
def p_law : List Str := ["script"]
def b_law (δ : Dn) : BC (mkT δ) :=
  bCons (scSet 1 (ecCall .f_law_digits (acCons (ecCall .f_law_cell (acCons (ecVar 0) (acCons (ecInt 0) acNil))) (acCons (ecF (fcLst (acCons (ecInt 6) (acCons (ecInt 3) (acCons (ecInt 2) (acCons (ecInt 5) (acCons (ecInt 6) (acCons (ecInt 3) (acCons (ecInt 41) (acCons (ecInt 8) acNil)))))))))) acNil)))) <|
  bCons (scSet 2 (ecIx (ocE (ecF (fcLst (acCons (ecInt 2) (acCons (ecInt 0) (acCons (ecInt 1) (acCons (ecInt 2) (acCons (ecInt 1) (acCons (ecInt 2) acNil))))))))) (ocE (ecIx (ocVar 1) (ocE (ecInt 0)))))) <|
  bCons (scSet 3 (ecCall .f_law_handed (acCons (ecVar 0) (acCons (ecVar 2) (acCons (ecVar 1) acNil))))) <|
  bCons (scIf (tcCmp lEq (ocVar 2) (ocE (ecInt 0))) (bCons (scSet 7 (ecIf (tcTru (ocE (ecIsi "int" (ocVar 3)))) (ecCall .f_law_frac (acCons (ecVar 3) (acCons (ecInt 1) acNil))) (ecCall .f_law_frac (acCons (ecIx (ocVar 3) (ocE (ecInt 0))) (acCons (ecIx (ocVar 3) (ocE (ecInt 1))) acNil))))) bNil) (bCons (scSet 7 (ecIf (tcCmp lEq (ocVar 2) (ocE (ecInt 1))) (ecCall .f_law_pairs (acCons (ecCall .f_law_poly (acCons (ecVar 3) acNil)) acNil)) (ecCall .f_law_terms (acCons (ecCall .f_law_sum (acCons (ecVar 3) acNil)) acNil)))) bNil)) <|
  bCons (scSet 4 (ecCall .f_law_formatted (acCons (ecVar 2) (acCons (ecVar 3) acNil)))) <|
  bCons (scIf (tcOr [(tcNot (tcTru (ocE (ecIsi "str" (ocVar 4))))), (tcCmp lNe (ocVar 4) (ocE (ecCall .f_law_write (acCons (ecVar 2) (acCons (ecVar 7) acNil))))), (tcCmp lNe (ocVar 3) (ocE (ecCall .f_law_handed (acCons (ecVar 0) (acCons (ecVar 2) (acCons (ecVar 1) acNil))))))]) (bCons (scRet (ecBl false)) bNil) (bNil)) <|
  bCons (scIf (tcCmp lNe (ocE (ecCall .f_law_formatted (acCons (ecVar 2) (acCons (ecVar 3) acNil)))) (ocVar 4)) (bCons (scRet (ecBl false)) bNil) (bNil)) <|
  bCons (scIf (tcOr [(tcNot (tcTru (ocE (ecCall .f_law_text_agrees (acCons (ecVar 2) (acCons (ecVar 4) acNil)))))), (tcNot (tcTru (ocE (ecCall .f_law_far_agrees (acCons (ecVar 2) (acCons (ecIx (ocE (ecCall .f_law_parsed (acCons (ecVar 2) (acCons (ecVar 4) acNil)))) (ocE (ecInt 0))) (acCons (ecIx (ocVar 1) (ocE (ecInt 6))) (acCons (ecIx (ocE (ecF (fcLst (acCons (ecInt 0) (acCons (ecInt 7) (acCons (ecInt 0) (acCons (ecInt 2) (acCons (ecInt 0) (acCons (ecInt 5) (acCons (ecInt 1) (acCons (ecInt 0) acNil))))))))))) (ocE (ecIx (ocVar 1) (ocE (ecInt 7))))) acNil))))))))]) (bCons (scRet (ecBl false)) bNil) (bNil)) <|
  bCons (scSet 4 (ecCall .f_law_write (acCons (ecVar 2) (acCons (ecCall .f_law_drawn_worth (acCons (ecVar 0) (acCons (ecInt 5) (acCons (ecVar 2) (acCons (ecIx (ocVar 1) (ocE (ecInt 5))) acNil))))) acNil)))) <|
  bCons (scIf (tcNot (tcTru (ocE (ecCall .f_law_text_agrees (acCons (ecVar 2) (acCons (ecVar 4) acNil)))))) (bCons (scRet (ecBl false)) bNil) (bNil)) <|
  bCons (scSet 5 (ecCall .f_law_digits (acCons (ecCall .f_law_cell (acCons (ecVar 0) (acCons (ecInt 8) acNil))) (acCons (ecF (fcLst (acCons (ecInt 12) (acCons (ecInt 97) (acCons (ecInt 24) (acCons (ecInt 30) acNil)))))) acNil)))) <|
  bCons (scSet 6 (ecCall .f_law_spoilt (acCons (ecVar 2) (acCons (ecVar 4) (acCons (ecF (fcLst (acCons (ecIx (ocVar 5) (ocE (ecInt 0))) (acCons (ecBin lAdd (ocE (ecIx (ocVar 5) (ocE (ecInt 1)))) (ocE (ecBin lMul (ocE (ecInt 97)) (ocE (ecIx (ocVar 5) (ocE (ecInt 3))))))) (acCons (ecIx (ocVar 5) (ocE (ecInt 2))) acNil))))) acNil))))) <|
  bCons (scIf (tcNot (tcTru (ocE (ecCall .f_law_text_agrees (acCons (ecVar 2) (acCons (ecVar 6) acNil)))))) (bCons (scRet (ecBl false)) bNil) (bNil)) <|
  bCons (scIf (tcCmp lEq (ocE (ecIx (ocVar 1) (ocE (ecInt 4)))) (ocE (ecInt 0))) (bCons (scRet (ecAnd [(ecCall .f_law_text_agrees (acCons (ecBin lMod (ocE (ecB "int" lInt (aoCons (ocE (ecBin lAdd (ocVar 2) (ocE (ecInt 1)))) aoNil))) (ocE (ecInt 3))) (acCons (ecVar 4) acNil))), (ecCall .f_law_text_agrees (acCons (ecBin lMod (ocE (ecB "int" lInt (aoCons (ocE (ecBin lAdd (ocVar 2) (ocE (ecInt 2)))) aoNil))) (ocE (ecInt 3))) (acCons (ecVar 4) acNil)))])) bNil) (bNil)) <|
  bCons (scRet (ecCall .f_law_text_agrees (acCons (ecBin lMod (ocE (ecB "int" lInt (aoCons (ocE (ecIx (ocVar 1) (ocE (ecInt 4)))) aoNil))) (ocE (ecInt 3))) (acCons (ecCall .f_law_free_text (acCons (ecCall .f_law_cell (acCons (ecVar 0) (acCons (ecInt 9) acNil))) acNil)) acNil)))) bNil
def t_law : Dn := fun f => match f with | .f_law_cell => d_law_cell | .f_law_digits => d_law_digits | .f_law_frac => d_law_frac | .f_law_poly => d_law_poly | .f_law_pairs => d_law_pairs | .f_law_sum => d_law_sum | .f_law_terms => d_law_terms | .f_law_write => d_law_write | .f_law_spoilt => d_law_spoilt | .f_law_free_text => d_law_free_text | .f_law_parsed => d_law_parsed | .f_law_formatted => d_law_formatted | .f_law_text_agrees => d_law_text_agrees | .f_law_far_agrees => d_law_far_agrees | .f_law_drawn_worth => d_law_drawn_worth | .f_law_handed => d_law_handed | _ => fun _ => .no
def d_law (ds : List D) : Re D := if ds.length = 1 then fnDen n_law (b_law t_law) ds else .no
def dAll : Dn := fun f => match f with | .f_polynomial => d_polynomial | .f_poly_times => d_poly_times | .f_ratio => d_ratio | .f_parts_of => d_parts_of | .f_fraction => d_fraction | .f_times => d_times | .f_is_row_name => d_is_row_name | .f_terms_of => d_terms_of | .f_ordered => d_ordered | .f_sum_times => d_sum_times | .f_written => d_written | .f_format_fraction => d_format_fraction | .f_format_polynomial => d_format_polynomial | .f_format_sum => d_format_sum | .f_whole_number => d_whole_number | .f_read_fraction => d_read_fraction | .f_read_polynomial => d_read_polynomial | .f_read_sum => d_read_sum | .f_parse_fraction => d_parse_fraction | .f_parse_polynomial => d_parse_polynomial | .f_parse_sum => d_parse_sum | .f_law_whole => d_law_whole | .f_law_cell => d_law_cell | .f_law_digits => d_law_digits | .f_law_gcd => d_law_gcd | .f_law_frac => d_law_frac | .f_law_is_fraction => d_law_is_fraction | .f_law_poly => d_law_poly | .f_law_pairs => d_law_pairs | .f_law_sum => d_law_sum | .f_law_terms => d_law_terms | .f_law_is_sum => d_law_is_sum | .f_law_is_poly => d_law_is_poly | .f_law_is_name => d_law_is_name | .f_law_number => d_law_number | .f_law_write => d_law_write | .f_law_written => d_law_written | .f_law_drawn_number => d_law_drawn_number | .f_law_drawn_items => d_law_drawn_items | .f_law_spoilt => d_law_spoilt | .f_law_free_text => d_law_free_text | .f_law_parsed => d_law_parsed | .f_law_has_form => d_law_has_form | .f_law_formatted => d_law_formatted | .f_law_reaches_far => d_law_reaches_far | .f_law_text_agrees => d_law_text_agrees | .f_law_far_agrees => d_law_far_agrees | .f_law_drawn_worth => d_law_drawn_worth | .f_law_handed => d_law_handed | .f_law => d_law
abbrev TT : Tbl := mkT dAll
end RJ

set_option Elab.async false
set_option linter.all false
set_option maxRecDepth 100000
set_option maxHeartbeats 4000000
set_option autoImplicit false
/-! printed by genmt.py: each def's text matches its term. -/
namespace RJ
open PySem PySem.Spec L2
def top (i : Nat) : Stmt := PySem.Challenge.pw_joinpast_k89_sum_notes.main.body.getD i (.Pass ⟨0, 0, 0, 0⟩)

abbrev s_polynomial : Stmt := top 10
theorem sc_polynomial : FnScope n_polynomial p_polynomial (defScope s_polynomial) := ⟨rfl, rfl, rfl, by decide +kernel, rfl, by decide +kernel, by decide +kernel⟩
theorem mt_polynomial : (b_polynomial dAll).mt ⟨n_polynomial, defScope s_polynomial, fnLvl .f_polynomial - 1, fun _ => true⟩ (defBody s_polynomial) = true := by decide +kernel
abbrev s_poly_times : Stmt := top 11
theorem sc_poly_times : FnScope n_poly_times p_poly_times (defScope s_poly_times) := ⟨rfl, rfl, rfl, by decide +kernel, rfl, by decide +kernel, by decide +kernel⟩
theorem mt_poly_times : (b_poly_times dAll).mt ⟨n_poly_times, defScope s_poly_times, fnLvl .f_poly_times - 1, fun _ => true⟩ (defBody s_poly_times) = true := by decide +kernel
abbrev s_ratio : Stmt := top 13
theorem sc_ratio : FnScope n_ratio p_ratio (defScope s_ratio) := ⟨rfl, rfl, rfl, by decide +kernel, rfl, by decide +kernel, by decide +kernel⟩
theorem mt_ratio : (b_ratio dAll).mt ⟨n_ratio, defScope s_ratio, fnLvl .f_ratio - 1, fun _ => true⟩ (defBody s_ratio) = true := by decide +kernel
abbrev s_parts_of : Stmt := top 14
theorem sc_parts_of : FnScope n_parts_of p_parts_of (defScope s_parts_of) := ⟨rfl, rfl, rfl, by decide +kernel, rfl, by decide +kernel, by decide +kernel⟩
theorem mt_parts_of : (b_parts_of dAll).mt ⟨n_parts_of, defScope s_parts_of, fnLvl .f_parts_of - 1, fun _ => true⟩ (defBody s_parts_of) = true := by decide +kernel
abbrev s_fraction : Stmt := top 15
theorem sc_fraction : FnScope n_fraction p_fraction (defScope s_fraction) := ⟨rfl, rfl, rfl, by decide +kernel, rfl, by decide +kernel, by decide +kernel⟩
theorem mt_fraction : (b_fraction dAll).mt ⟨n_fraction, defScope s_fraction, fnLvl .f_fraction - 1, fun _ => true⟩ (defBody s_fraction) = true := by decide +kernel
abbrev s_times : Stmt := top 16
theorem sc_times : FnScope n_times p_times (defScope s_times) := ⟨rfl, rfl, rfl, by decide +kernel, rfl, by decide +kernel, by decide +kernel⟩
theorem mt_times : (b_times dAll).mt ⟨n_times, defScope s_times, fnLvl .f_times - 1, fun _ => true⟩ (defBody s_times) = true := by decide +kernel
abbrev s_is_row_name : Stmt := top 21
theorem sc_is_row_name : FnScope n_is_row_name p_is_row_name (defScope s_is_row_name) := ⟨rfl, rfl, rfl, by decide +kernel, rfl, by decide +kernel, by decide +kernel⟩
theorem mt_is_row_name : (b_is_row_name dAll).mt ⟨n_is_row_name, defScope s_is_row_name, fnLvl .f_is_row_name - 1, fun _ => true⟩ (defBody s_is_row_name) = true := by decide +kernel
abbrev s_terms_of : Stmt := top 23
theorem sc_terms_of : FnScope n_terms_of p_terms_of (defScope s_terms_of) := ⟨rfl, rfl, rfl, by decide +kernel, rfl, by decide +kernel, by decide +kernel⟩
theorem mt_terms_of : (b_terms_of dAll).mt ⟨n_terms_of, defScope s_terms_of, fnLvl .f_terms_of - 1, fun _ => true⟩ (defBody s_terms_of) = true := by decide +kernel
abbrev s_ordered : Stmt := top 24
theorem sc_ordered : FnScope n_ordered p_ordered (defScope s_ordered) := ⟨rfl, rfl, rfl, by decide +kernel, rfl, by decide +kernel, by decide +kernel⟩
theorem mt_ordered : (b_ordered dAll).mt ⟨n_ordered, defScope s_ordered, fnLvl .f_ordered - 1, fun _ => true⟩ (defBody s_ordered) = true := by decide +kernel
abbrev s_sum_times : Stmt := top 25
theorem sc_sum_times : FnScope n_sum_times p_sum_times (defScope s_sum_times) := ⟨rfl, rfl, rfl, by decide +kernel, rfl, by decide +kernel, by decide +kernel⟩
theorem mt_sum_times : (b_sum_times dAll).mt ⟨n_sum_times, defScope s_sum_times, fnLvl .f_sum_times - 1, fun _ => true⟩ (defBody s_sum_times) = true := by decide +kernel
abbrev s_written : Stmt := top 30
theorem sc_written : FnScope n_written p_written (defScope s_written) := ⟨rfl, rfl, rfl, by decide +kernel, rfl, by decide +kernel, by decide +kernel⟩
theorem mt_written : (b_written dAll).mt ⟨n_written, defScope s_written, fnLvl .f_written - 1, fun _ => true⟩ (defBody s_written) = true := by decide +kernel
abbrev s_format_fraction : Stmt := top 31
theorem sc_format_fraction : FnScope n_format_fraction p_format_fraction (defScope s_format_fraction) := ⟨rfl, rfl, rfl, by decide +kernel, rfl, by decide +kernel, by decide +kernel⟩
theorem mt_format_fraction : (b_format_fraction dAll).mt ⟨n_format_fraction, defScope s_format_fraction, fnLvl .f_format_fraction - 1, fun _ => true⟩ (defBody s_format_fraction) = true := by decide +kernel
abbrev s_format_polynomial : Stmt := top 32
theorem sc_format_polynomial : FnScope n_format_polynomial p_format_polynomial (defScope s_format_polynomial) := ⟨rfl, rfl, rfl, by decide +kernel, rfl, by decide +kernel, by decide +kernel⟩
theorem mt_format_polynomial : (b_format_polynomial dAll).mt ⟨n_format_polynomial, defScope s_format_polynomial, fnLvl .f_format_polynomial - 1, fun _ => true⟩ (defBody s_format_polynomial) = true := by decide +kernel
abbrev s_format_sum : Stmt := top 33
theorem sc_format_sum : FnScope n_format_sum p_format_sum (defScope s_format_sum) := ⟨rfl, rfl, rfl, by decide +kernel, rfl, by decide +kernel, by decide +kernel⟩
theorem mt_format_sum : (b_format_sum dAll).mt ⟨n_format_sum, defScope s_format_sum, fnLvl .f_format_sum - 1, fun _ => true⟩ (defBody s_format_sum) = true := by decide +kernel
abbrev s_whole_number : Stmt := top 34
theorem sc_whole_number : FnScope n_whole_number p_whole_number (defScope s_whole_number) := ⟨rfl, rfl, rfl, by decide +kernel, rfl, by decide +kernel, by decide +kernel⟩
theorem mt_whole_number : (b_whole_number dAll).mt ⟨n_whole_number, defScope s_whole_number, fnLvl .f_whole_number - 1, fun _ => true⟩ (defBody s_whole_number) = true := by decide +kernel
abbrev s_read_fraction : Stmt := top 35
theorem sc_read_fraction : FnScope n_read_fraction p_read_fraction (defScope s_read_fraction) := ⟨rfl, rfl, rfl, by decide +kernel, rfl, by decide +kernel, by decide +kernel⟩
theorem mt_read_fraction : (b_read_fraction dAll).mt ⟨n_read_fraction, defScope s_read_fraction, fnLvl .f_read_fraction - 1, fun _ => true⟩ (defBody s_read_fraction) = true := by decide +kernel
abbrev s_read_polynomial : Stmt := top 36
theorem sc_read_polynomial : FnScope n_read_polynomial p_read_polynomial (defScope s_read_polynomial) := ⟨rfl, rfl, rfl, by decide +kernel, rfl, by decide +kernel, by decide +kernel⟩
theorem mt_read_polynomial : (b_read_polynomial dAll).mt ⟨n_read_polynomial, defScope s_read_polynomial, fnLvl .f_read_polynomial - 1, fun _ => true⟩ (defBody s_read_polynomial) = true := by decide +kernel
abbrev s_read_sum : Stmt := top 37
theorem sc_read_sum : FnScope n_read_sum p_read_sum (defScope s_read_sum) := ⟨rfl, rfl, rfl, by decide +kernel, rfl, by decide +kernel, by decide +kernel⟩
theorem mt_read_sum : (b_read_sum dAll).mt ⟨n_read_sum, defScope s_read_sum, fnLvl .f_read_sum - 1, fun _ => true⟩ (defBody s_read_sum) = true := by decide +kernel
abbrev s_parse_fraction : Stmt := top 38
theorem sc_parse_fraction : FnScope n_parse_fraction p_parse_fraction (defScope s_parse_fraction) := ⟨rfl, rfl, rfl, by decide +kernel, rfl, by decide +kernel, by decide +kernel⟩
theorem mt_parse_fraction : (b_parse_fraction dAll).mt ⟨n_parse_fraction, defScope s_parse_fraction, fnLvl .f_parse_fraction - 1, fun _ => true⟩ (defBody s_parse_fraction) = true := by decide +kernel
abbrev s_parse_polynomial : Stmt := top 39
theorem sc_parse_polynomial : FnScope n_parse_polynomial p_parse_polynomial (defScope s_parse_polynomial) := ⟨rfl, rfl, rfl, by decide +kernel, rfl, by decide +kernel, by decide +kernel⟩
theorem mt_parse_polynomial : (b_parse_polynomial dAll).mt ⟨n_parse_polynomial, defScope s_parse_polynomial, fnLvl .f_parse_polynomial - 1, fun _ => true⟩ (defBody s_parse_polynomial) = true := by decide +kernel
abbrev s_parse_sum : Stmt := top 40
theorem sc_parse_sum : FnScope n_parse_sum p_parse_sum (defScope s_parse_sum) := ⟨rfl, rfl, rfl, by decide +kernel, rfl, by decide +kernel, by decide +kernel⟩
theorem mt_parse_sum : (b_parse_sum dAll).mt ⟨n_parse_sum, defScope s_parse_sum, fnLvl .f_parse_sum - 1, fun _ => true⟩ (defBody s_parse_sum) = true := by decide +kernel
abbrev s_law_whole : Stmt := top 42
theorem sc_law_whole : FnScope n_law_whole p_law_whole (defScope s_law_whole) := ⟨rfl, rfl, rfl, by decide +kernel, rfl, by decide +kernel, by decide +kernel⟩
theorem mt_law_whole : (b_law_whole dAll).mt ⟨n_law_whole, defScope s_law_whole, fnLvl .f_law_whole - 1, fun _ => true⟩ (defBody s_law_whole) = true := by decide +kernel
abbrev s_law_cell : Stmt := top 43
theorem sc_law_cell : FnScope n_law_cell p_law_cell (defScope s_law_cell) := ⟨rfl, rfl, rfl, by decide +kernel, rfl, by decide +kernel, by decide +kernel⟩
theorem mt_law_cell : (b_law_cell dAll).mt ⟨n_law_cell, defScope s_law_cell, fnLvl .f_law_cell - 1, fun _ => true⟩ (defBody s_law_cell) = true := by decide +kernel
abbrev s_law_digits : Stmt := top 44
theorem sc_law_digits : FnScope n_law_digits p_law_digits (defScope s_law_digits) := ⟨rfl, rfl, rfl, by decide +kernel, rfl, by decide +kernel, by decide +kernel⟩
theorem mt_law_digits : (b_law_digits dAll).mt ⟨n_law_digits, defScope s_law_digits, fnLvl .f_law_digits - 1, fun _ => true⟩ (defBody s_law_digits) = true := by decide +kernel
abbrev s_law_gcd : Stmt := top 45
theorem sc_law_gcd : FnScope n_law_gcd p_law_gcd (defScope s_law_gcd) := ⟨rfl, rfl, rfl, by decide +kernel, rfl, by decide +kernel, by decide +kernel⟩
theorem mt_law_gcd : (b_law_gcd dAll).mt ⟨n_law_gcd, defScope s_law_gcd, fnLvl .f_law_gcd - 1, fun _ => true⟩ (defBody s_law_gcd) = true := by decide +kernel
abbrev s_law_frac : Stmt := top 46
theorem sc_law_frac : FnScope n_law_frac p_law_frac (defScope s_law_frac) := ⟨rfl, rfl, rfl, by decide +kernel, rfl, by decide +kernel, by decide +kernel⟩
theorem mt_law_frac : (b_law_frac dAll).mt ⟨n_law_frac, defScope s_law_frac, fnLvl .f_law_frac - 1, fun _ => true⟩ (defBody s_law_frac) = true := by decide +kernel
abbrev s_law_is_fraction : Stmt := top 47
theorem sc_law_is_fraction : FnScope n_law_is_fraction p_law_is_fraction (defScope s_law_is_fraction) := ⟨rfl, rfl, rfl, by decide +kernel, rfl, by decide +kernel, by decide +kernel⟩
theorem mt_law_is_fraction : (b_law_is_fraction dAll).mt ⟨n_law_is_fraction, defScope s_law_is_fraction, fnLvl .f_law_is_fraction - 1, fun _ => true⟩ (defBody s_law_is_fraction) = true := by decide +kernel
abbrev s_law_poly : Stmt := top 48
theorem sc_law_poly : FnScope n_law_poly p_law_poly (defScope s_law_poly) := ⟨rfl, rfl, rfl, by decide +kernel, rfl, by decide +kernel, by decide +kernel⟩
theorem mt_law_poly : (b_law_poly dAll).mt ⟨n_law_poly, defScope s_law_poly, fnLvl .f_law_poly - 1, fun _ => true⟩ (defBody s_law_poly) = true := by decide +kernel
abbrev s_law_pairs : Stmt := top 49
theorem sc_law_pairs : FnScope n_law_pairs p_law_pairs (defScope s_law_pairs) := ⟨rfl, rfl, rfl, by decide +kernel, rfl, by decide +kernel, by decide +kernel⟩
theorem mt_law_pairs : (b_law_pairs dAll).mt ⟨n_law_pairs, defScope s_law_pairs, fnLvl .f_law_pairs - 1, fun _ => true⟩ (defBody s_law_pairs) = true := by decide +kernel
abbrev s_law_sum : Stmt := top 50
theorem sc_law_sum : FnScope n_law_sum p_law_sum (defScope s_law_sum) := ⟨rfl, rfl, rfl, by decide +kernel, rfl, by decide +kernel, by decide +kernel⟩
theorem mt_law_sum : (b_law_sum dAll).mt ⟨n_law_sum, defScope s_law_sum, fnLvl .f_law_sum - 1, fun _ => true⟩ (defBody s_law_sum) = true := by decide +kernel
abbrev s_law_terms : Stmt := top 51
theorem sc_law_terms : FnScope n_law_terms p_law_terms (defScope s_law_terms) := ⟨rfl, rfl, rfl, by decide +kernel, rfl, by decide +kernel, by decide +kernel⟩
theorem mt_law_terms : (b_law_terms dAll).mt ⟨n_law_terms, defScope s_law_terms, fnLvl .f_law_terms - 1, fun _ => true⟩ (defBody s_law_terms) = true := by decide +kernel
abbrev s_law_is_sum : Stmt := top 52
theorem sc_law_is_sum : FnScope n_law_is_sum p_law_is_sum (defScope s_law_is_sum) := ⟨rfl, rfl, rfl, by decide +kernel, rfl, by decide +kernel, by decide +kernel⟩
theorem mt_law_is_sum : (b_law_is_sum dAll).mt ⟨n_law_is_sum, defScope s_law_is_sum, fnLvl .f_law_is_sum - 1, fun _ => true⟩ (defBody s_law_is_sum) = true := by decide +kernel
abbrev s_law_is_poly : Stmt := top 53
theorem sc_law_is_poly : FnScope n_law_is_poly p_law_is_poly (defScope s_law_is_poly) := ⟨rfl, rfl, rfl, by decide +kernel, rfl, by decide +kernel, by decide +kernel⟩
theorem mt_law_is_poly : (b_law_is_poly dAll).mt ⟨n_law_is_poly, defScope s_law_is_poly, fnLvl .f_law_is_poly - 1, fun _ => true⟩ (defBody s_law_is_poly) = true := by decide +kernel
abbrev s_law_is_name : Stmt := top 54
theorem sc_law_is_name : FnScope n_law_is_name p_law_is_name (defScope s_law_is_name) := ⟨rfl, rfl, rfl, by decide +kernel, rfl, by decide +kernel, by decide +kernel⟩
theorem mt_law_is_name : (b_law_is_name dAll).mt ⟨n_law_is_name, defScope s_law_is_name, fnLvl .f_law_is_name - 1, fun _ => true⟩ (defBody s_law_is_name) = true := by decide +kernel
abbrev s_law_number : Stmt := top 55
theorem sc_law_number : FnScope n_law_number p_law_number (defScope s_law_number) := ⟨rfl, rfl, rfl, by decide +kernel, rfl, by decide +kernel, by decide +kernel⟩
theorem mt_law_number : (b_law_number dAll).mt ⟨n_law_number, defScope s_law_number, fnLvl .f_law_number - 1, fun _ => true⟩ (defBody s_law_number) = true := by decide +kernel
abbrev s_law_write : Stmt := top 56
theorem sc_law_write : FnScope n_law_write p_law_write (defScope s_law_write) := ⟨rfl, rfl, rfl, by decide +kernel, rfl, by decide +kernel, by decide +kernel⟩
theorem mt_law_write : (b_law_write dAll).mt ⟨n_law_write, defScope s_law_write, fnLvl .f_law_write - 1, fun _ => true⟩ (defBody s_law_write) = true := by decide +kernel
abbrev s_law_written : Stmt := top 57
theorem sc_law_written : FnScope n_law_written p_law_written (defScope s_law_written) := ⟨rfl, rfl, rfl, by decide +kernel, rfl, by decide +kernel, by decide +kernel⟩
theorem mt_law_written : (b_law_written dAll).mt ⟨n_law_written, defScope s_law_written, fnLvl .f_law_written - 1, fun _ => true⟩ (defBody s_law_written) = true := by decide +kernel
abbrev s_law_drawn_number : Stmt := top 58
theorem sc_law_drawn_number : FnScope n_law_drawn_number p_law_drawn_number (defScope s_law_drawn_number) := ⟨rfl, rfl, rfl, by decide +kernel, rfl, by decide +kernel, by decide +kernel⟩
theorem mt_law_drawn_number : (b_law_drawn_number dAll).mt ⟨n_law_drawn_number, defScope s_law_drawn_number, fnLvl .f_law_drawn_number - 1, fun _ => true⟩ (defBody s_law_drawn_number) = true := by decide +kernel
abbrev s_law_drawn_items : Stmt := top 59
theorem sc_law_drawn_items : FnScope n_law_drawn_items p_law_drawn_items (defScope s_law_drawn_items) := ⟨rfl, rfl, rfl, by decide +kernel, rfl, by decide +kernel, by decide +kernel⟩
theorem mt_law_drawn_items : (b_law_drawn_items dAll).mt ⟨n_law_drawn_items, defScope s_law_drawn_items, fnLvl .f_law_drawn_items - 1, fun _ => true⟩ (defBody s_law_drawn_items) = true := by decide +kernel
abbrev s_law_spoilt : Stmt := top 60
theorem sc_law_spoilt : FnScope n_law_spoilt p_law_spoilt (defScope s_law_spoilt) := ⟨rfl, rfl, rfl, by decide +kernel, rfl, by decide +kernel, by decide +kernel⟩
theorem mt_law_spoilt : (b_law_spoilt dAll).mt ⟨n_law_spoilt, defScope s_law_spoilt, fnLvl .f_law_spoilt - 1, fun _ => true⟩ (defBody s_law_spoilt) = true := by decide +kernel
abbrev s_law_free_text : Stmt := top 61
theorem sc_law_free_text : FnScope n_law_free_text p_law_free_text (defScope s_law_free_text) := ⟨rfl, rfl, rfl, by decide +kernel, rfl, by decide +kernel, by decide +kernel⟩
theorem mt_law_free_text : (b_law_free_text dAll).mt ⟨n_law_free_text, defScope s_law_free_text, fnLvl .f_law_free_text - 1, fun _ => true⟩ (defBody s_law_free_text) = true := by decide +kernel
abbrev s_law_parsed : Stmt := top 62
theorem sc_law_parsed : FnScope n_law_parsed p_law_parsed (defScope s_law_parsed) := ⟨rfl, rfl, rfl, by decide +kernel, rfl, by decide +kernel, by decide +kernel⟩
abbrev s_law_has_form : Stmt := top 63
theorem sc_law_has_form : FnScope n_law_has_form p_law_has_form (defScope s_law_has_form) := ⟨rfl, rfl, rfl, by decide +kernel, rfl, by decide +kernel, by decide +kernel⟩
theorem mt_law_has_form : (b_law_has_form dAll).mt ⟨n_law_has_form, defScope s_law_has_form, fnLvl .f_law_has_form - 1, fun _ => true⟩ (defBody s_law_has_form) = true := by decide +kernel
abbrev s_law_formatted : Stmt := top 64
theorem sc_law_formatted : FnScope n_law_formatted p_law_formatted (defScope s_law_formatted) := ⟨rfl, rfl, rfl, by decide +kernel, rfl, by decide +kernel, by decide +kernel⟩
theorem mt_law_formatted : (b_law_formatted dAll).mt ⟨n_law_formatted, defScope s_law_formatted, fnLvl .f_law_formatted - 1, fun _ => true⟩ (defBody s_law_formatted) = true := by decide +kernel
abbrev s_law_reaches_far : Stmt := top 65
theorem sc_law_reaches_far : FnScope n_law_reaches_far p_law_reaches_far (defScope s_law_reaches_far) := ⟨rfl, rfl, rfl, by decide +kernel, rfl, by decide +kernel, by decide +kernel⟩
theorem mt_law_reaches_far : (b_law_reaches_far dAll).mt ⟨n_law_reaches_far, defScope s_law_reaches_far, fnLvl .f_law_reaches_far - 1, fun _ => true⟩ (defBody s_law_reaches_far) = true := by decide +kernel
abbrev s_law_text_agrees : Stmt := top 66
theorem sc_law_text_agrees : FnScope n_law_text_agrees p_law_text_agrees (defScope s_law_text_agrees) := ⟨rfl, rfl, rfl, by decide +kernel, rfl, by decide +kernel, by decide +kernel⟩
theorem mt_law_text_agrees : (b_law_text_agrees dAll).mt ⟨n_law_text_agrees, defScope s_law_text_agrees, fnLvl .f_law_text_agrees - 1, fun _ => true⟩ (defBody s_law_text_agrees) = true := by decide +kernel
abbrev s_law_far_agrees : Stmt := top 67
theorem sc_law_far_agrees : FnScope n_law_far_agrees p_law_far_agrees (defScope s_law_far_agrees) := ⟨rfl, rfl, rfl, by decide +kernel, rfl, by decide +kernel, by decide +kernel⟩
theorem mt_law_far_agrees : (b_law_far_agrees dAll).mt ⟨n_law_far_agrees, defScope s_law_far_agrees, fnLvl .f_law_far_agrees - 1, fun _ => true⟩ (defBody s_law_far_agrees) = true := by decide +kernel
abbrev s_law_drawn_worth : Stmt := top 68
theorem sc_law_drawn_worth : FnScope n_law_drawn_worth p_law_drawn_worth (defScope s_law_drawn_worth) := ⟨rfl, rfl, rfl, by decide +kernel, rfl, by decide +kernel, by decide +kernel⟩
theorem mt_law_drawn_worth : (b_law_drawn_worth dAll).mt ⟨n_law_drawn_worth, defScope s_law_drawn_worth, fnLvl .f_law_drawn_worth - 1, fun _ => true⟩ (defBody s_law_drawn_worth) = true := by decide +kernel
abbrev s_law_handed : Stmt := top 69
theorem sc_law_handed : FnScope n_law_handed p_law_handed (defScope s_law_handed) := ⟨rfl, rfl, rfl, by decide +kernel, rfl, by decide +kernel, by decide +kernel⟩
theorem mt_law_handed : (b_law_handed dAll).mt ⟨n_law_handed, defScope s_law_handed, fnLvl .f_law_handed - 1, fun _ => true⟩ (defBody s_law_handed) = true := by decide +kernel
abbrev s_law : Stmt := top 70
theorem sc_law : FnScope n_law p_law (defScope s_law) := ⟨rfl, rfl, rfl, by decide +kernel, rfl, by decide +kernel, by decide +kernel⟩
theorem mt_law : (b_law dAll).mt ⟨n_law, defScope s_law, fnLvl .f_law - 1, fun _ => true⟩ (defBody s_law) = true := by decide +kernel
end RJ

set_option Elab.async false
set_option linter.all false
set_option maxRecDepth 100000
set_option maxHeartbeats 4000000
set_option autoImplicit false
/-! printed by genfn.py. -/
namespace RJ
open PySem PySem.Spec L2
theorem do_of {n : Nat} {g h : List D → Re D} (e : ∀ ds, h ds = g ds) : ∀ ds, (if ds.length = n then g ds else .no) = .no ∨ (ds.length = n ∧ h ds = (if ds.length = n then g ds else .no)) := fun ds => by
  by_cases c : ds.length = n
  · rw [if_pos c]
    exact .inr ⟨c, e ds⟩
  · rw [if_neg c]
    exact .inl rfl

theorem do_polynomial : ∀ ds, d_polynomial ds = .no ∨ (ds.length = p_polynomial.length ∧ fnDen n_polynomial (b_polynomial dAll) ds = d_polynomial ds) := do_of (g := fnDen n_polynomial (b_polynomial t_polynomial)) (h := fnDen n_polynomial (b_polynomial dAll)) fun _ => rfl
theorem do_poly_times : ∀ ds, d_poly_times ds = .no ∨ (ds.length = p_poly_times.length ∧ fnDen n_poly_times (b_poly_times dAll) ds = d_poly_times ds) := do_of (g := fnDen n_poly_times (b_poly_times t_poly_times)) (h := fnDen n_poly_times (b_poly_times dAll)) fun _ => rfl
theorem do_ratio : ∀ ds, d_ratio ds = .no ∨ (ds.length = p_ratio.length ∧ fnDen n_ratio (b_ratio dAll) ds = d_ratio ds) := do_of (g := fnDen n_ratio (b_ratio t_ratio)) (h := fnDen n_ratio (b_ratio dAll)) fun _ => rfl
theorem do_parts_of : ∀ ds, d_parts_of ds = .no ∨ (ds.length = p_parts_of.length ∧ fnDen n_parts_of (b_parts_of dAll) ds = d_parts_of ds) := do_of (g := fnDen n_parts_of (b_parts_of t_parts_of)) (h := fnDen n_parts_of (b_parts_of dAll)) fun _ => rfl
theorem do_fraction : ∀ ds, d_fraction ds = .no ∨ (ds.length = p_fraction.length ∧ fnDen n_fraction (b_fraction dAll) ds = d_fraction ds) := do_of (g := fnDen n_fraction (b_fraction t_fraction)) (h := fnDen n_fraction (b_fraction dAll)) fun _ => rfl
theorem do_times : ∀ ds, d_times ds = .no ∨ (ds.length = p_times.length ∧ fnDen n_times (b_times dAll) ds = d_times ds) := do_of (g := fnDen n_times (b_times t_times)) (h := fnDen n_times (b_times dAll)) fun _ => rfl
theorem do_is_row_name : ∀ ds, d_is_row_name ds = .no ∨ (ds.length = p_is_row_name.length ∧ fnDen n_is_row_name (b_is_row_name dAll) ds = d_is_row_name ds) := do_of (g := fnDen n_is_row_name (b_is_row_name t_is_row_name)) (h := fnDen n_is_row_name (b_is_row_name dAll)) fun _ => rfl
theorem do_terms_of : ∀ ds, d_terms_of ds = .no ∨ (ds.length = p_terms_of.length ∧ fnDen n_terms_of (b_terms_of dAll) ds = d_terms_of ds) := do_of (g := fnDen n_terms_of (b_terms_of t_terms_of)) (h := fnDen n_terms_of (b_terms_of dAll)) fun _ => rfl
theorem do_ordered : ∀ ds, d_ordered ds = .no ∨ (ds.length = p_ordered.length ∧ fnDen n_ordered (b_ordered dAll) ds = d_ordered ds) := do_of (g := fnDen n_ordered (b_ordered t_ordered)) (h := fnDen n_ordered (b_ordered dAll)) fun _ => rfl
theorem do_sum_times : ∀ ds, d_sum_times ds = .no ∨ (ds.length = p_sum_times.length ∧ fnDen n_sum_times (b_sum_times dAll) ds = d_sum_times ds) := do_of (g := fnDen n_sum_times (b_sum_times t_sum_times)) (h := fnDen n_sum_times (b_sum_times dAll)) fun _ => rfl
theorem do_written : ∀ ds, d_written ds = .no ∨ (ds.length = p_written.length ∧ fnDen n_written (b_written dAll) ds = d_written ds) := do_of (g := fnDen n_written (b_written t_written)) (h := fnDen n_written (b_written dAll)) fun _ => rfl
theorem do_format_fraction : ∀ ds, d_format_fraction ds = .no ∨ (ds.length = p_format_fraction.length ∧ fnDen n_format_fraction (b_format_fraction dAll) ds = d_format_fraction ds) := do_of (g := fnDen n_format_fraction (b_format_fraction t_format_fraction)) (h := fnDen n_format_fraction (b_format_fraction dAll)) fun _ => rfl
theorem do_format_polynomial : ∀ ds, d_format_polynomial ds = .no ∨ (ds.length = p_format_polynomial.length ∧ fnDen n_format_polynomial (b_format_polynomial dAll) ds = d_format_polynomial ds) := do_of (g := fnDen n_format_polynomial (b_format_polynomial t_format_polynomial)) (h := fnDen n_format_polynomial (b_format_polynomial dAll)) fun _ => rfl
theorem do_format_sum : ∀ ds, d_format_sum ds = .no ∨ (ds.length = p_format_sum.length ∧ fnDen n_format_sum (b_format_sum dAll) ds = d_format_sum ds) := do_of (g := fnDen n_format_sum (b_format_sum t_format_sum)) (h := fnDen n_format_sum (b_format_sum dAll)) fun _ => rfl
theorem do_whole_number : ∀ ds, d_whole_number ds = .no ∨ (ds.length = p_whole_number.length ∧ fnDen n_whole_number (b_whole_number dAll) ds = d_whole_number ds) := do_of (g := fnDen n_whole_number (b_whole_number t_whole_number)) (h := fnDen n_whole_number (b_whole_number dAll)) fun _ => rfl
theorem do_read_fraction : ∀ ds, d_read_fraction ds = .no ∨ (ds.length = p_read_fraction.length ∧ fnDen n_read_fraction (b_read_fraction dAll) ds = d_read_fraction ds) := do_of (g := fnDen n_read_fraction (b_read_fraction t_read_fraction)) (h := fnDen n_read_fraction (b_read_fraction dAll)) fun _ => rfl
theorem do_read_polynomial : ∀ ds, d_read_polynomial ds = .no ∨ (ds.length = p_read_polynomial.length ∧ fnDen n_read_polynomial (b_read_polynomial dAll) ds = d_read_polynomial ds) := do_of (g := fnDen n_read_polynomial (b_read_polynomial t_read_polynomial)) (h := fnDen n_read_polynomial (b_read_polynomial dAll)) fun _ => rfl
theorem do_read_sum : ∀ ds, d_read_sum ds = .no ∨ (ds.length = p_read_sum.length ∧ fnDen n_read_sum (b_read_sum dAll) ds = d_read_sum ds) := do_of (g := fnDen n_read_sum (b_read_sum t_read_sum)) (h := fnDen n_read_sum (b_read_sum dAll)) fun _ => rfl
theorem do_parse_fraction : ∀ ds, d_parse_fraction ds = .no ∨ (ds.length = p_parse_fraction.length ∧ fnDen n_parse_fraction (b_parse_fraction dAll) ds = d_parse_fraction ds) := do_of (g := fnDen n_parse_fraction (b_parse_fraction t_parse_fraction)) (h := fnDen n_parse_fraction (b_parse_fraction dAll)) fun _ => rfl
theorem do_parse_polynomial : ∀ ds, d_parse_polynomial ds = .no ∨ (ds.length = p_parse_polynomial.length ∧ fnDen n_parse_polynomial (b_parse_polynomial dAll) ds = d_parse_polynomial ds) := do_of (g := fnDen n_parse_polynomial (b_parse_polynomial t_parse_polynomial)) (h := fnDen n_parse_polynomial (b_parse_polynomial dAll)) fun _ => rfl
theorem do_parse_sum : ∀ ds, d_parse_sum ds = .no ∨ (ds.length = p_parse_sum.length ∧ fnDen n_parse_sum (b_parse_sum dAll) ds = d_parse_sum ds) := do_of (g := fnDen n_parse_sum (b_parse_sum t_parse_sum)) (h := fnDen n_parse_sum (b_parse_sum dAll)) fun _ => rfl
theorem do_law_whole : ∀ ds, d_law_whole ds = .no ∨ (ds.length = p_law_whole.length ∧ fnDen n_law_whole (b_law_whole dAll) ds = d_law_whole ds) := do_of (g := fnDen n_law_whole (b_law_whole t_law_whole)) (h := fnDen n_law_whole (b_law_whole dAll)) fun _ => rfl
theorem do_law_cell : ∀ ds, d_law_cell ds = .no ∨ (ds.length = p_law_cell.length ∧ fnDen n_law_cell (b_law_cell dAll) ds = d_law_cell ds) := do_of (g := fnDen n_law_cell (b_law_cell t_law_cell)) (h := fnDen n_law_cell (b_law_cell dAll)) fun _ => rfl
theorem do_law_digits : ∀ ds, d_law_digits ds = .no ∨ (ds.length = p_law_digits.length ∧ fnDen n_law_digits (b_law_digits dAll) ds = d_law_digits ds) := do_of (g := fnDen n_law_digits (b_law_digits t_law_digits)) (h := fnDen n_law_digits (b_law_digits dAll)) fun _ => rfl
theorem do_law_gcd : ∀ ds, d_law_gcd ds = .no ∨ (ds.length = p_law_gcd.length ∧ fnDen n_law_gcd (b_law_gcd dAll) ds = d_law_gcd ds) := do_of (g := fnDen n_law_gcd (b_law_gcd t_law_gcd)) (h := fnDen n_law_gcd (b_law_gcd dAll)) fun _ => rfl
theorem do_law_frac : ∀ ds, d_law_frac ds = .no ∨ (ds.length = p_law_frac.length ∧ fnDen n_law_frac (b_law_frac dAll) ds = d_law_frac ds) := do_of (g := fnDen n_law_frac (b_law_frac t_law_frac)) (h := fnDen n_law_frac (b_law_frac dAll)) fun _ => rfl
theorem do_law_is_fraction : ∀ ds, d_law_is_fraction ds = .no ∨ (ds.length = p_law_is_fraction.length ∧ fnDen n_law_is_fraction (b_law_is_fraction dAll) ds = d_law_is_fraction ds) := do_of (g := fnDen n_law_is_fraction (b_law_is_fraction t_law_is_fraction)) (h := fnDen n_law_is_fraction (b_law_is_fraction dAll)) fun _ => rfl
theorem do_law_poly : ∀ ds, d_law_poly ds = .no ∨ (ds.length = p_law_poly.length ∧ fnDen n_law_poly (b_law_poly dAll) ds = d_law_poly ds) := do_of (g := fnDen n_law_poly (b_law_poly t_law_poly)) (h := fnDen n_law_poly (b_law_poly dAll)) fun _ => rfl
theorem do_law_pairs : ∀ ds, d_law_pairs ds = .no ∨ (ds.length = p_law_pairs.length ∧ fnDen n_law_pairs (b_law_pairs dAll) ds = d_law_pairs ds) := do_of (g := fnDen n_law_pairs (b_law_pairs t_law_pairs)) (h := fnDen n_law_pairs (b_law_pairs dAll)) fun _ => rfl
theorem do_law_sum : ∀ ds, d_law_sum ds = .no ∨ (ds.length = p_law_sum.length ∧ fnDen n_law_sum (b_law_sum dAll) ds = d_law_sum ds) := do_of (g := fnDen n_law_sum (b_law_sum t_law_sum)) (h := fnDen n_law_sum (b_law_sum dAll)) fun _ => rfl
theorem do_law_terms : ∀ ds, d_law_terms ds = .no ∨ (ds.length = p_law_terms.length ∧ fnDen n_law_terms (b_law_terms dAll) ds = d_law_terms ds) := do_of (g := fnDen n_law_terms (b_law_terms t_law_terms)) (h := fnDen n_law_terms (b_law_terms dAll)) fun _ => rfl
theorem do_law_is_sum : ∀ ds, d_law_is_sum ds = .no ∨ (ds.length = p_law_is_sum.length ∧ fnDen n_law_is_sum (b_law_is_sum dAll) ds = d_law_is_sum ds) := do_of (g := fnDen n_law_is_sum (b_law_is_sum t_law_is_sum)) (h := fnDen n_law_is_sum (b_law_is_sum dAll)) fun _ => rfl
theorem do_law_is_poly : ∀ ds, d_law_is_poly ds = .no ∨ (ds.length = p_law_is_poly.length ∧ fnDen n_law_is_poly (b_law_is_poly dAll) ds = d_law_is_poly ds) := do_of (g := fnDen n_law_is_poly (b_law_is_poly t_law_is_poly)) (h := fnDen n_law_is_poly (b_law_is_poly dAll)) fun _ => rfl
theorem do_law_is_name : ∀ ds, d_law_is_name ds = .no ∨ (ds.length = p_law_is_name.length ∧ fnDen n_law_is_name (b_law_is_name dAll) ds = d_law_is_name ds) := do_of (g := fnDen n_law_is_name (b_law_is_name t_law_is_name)) (h := fnDen n_law_is_name (b_law_is_name dAll)) fun _ => rfl
theorem do_law_number : ∀ ds, d_law_number ds = .no ∨ (ds.length = p_law_number.length ∧ fnDen n_law_number (b_law_number dAll) ds = d_law_number ds) := do_of (g := fnDen n_law_number (b_law_number t_law_number)) (h := fnDen n_law_number (b_law_number dAll)) fun _ => rfl
theorem do_law_write : ∀ ds, d_law_write ds = .no ∨ (ds.length = p_law_write.length ∧ fnDen n_law_write (b_law_write dAll) ds = d_law_write ds) := do_of (g := fnDen n_law_write (b_law_write t_law_write)) (h := fnDen n_law_write (b_law_write dAll)) fun _ => rfl
theorem do_law_written : ∀ ds, d_law_written ds = .no ∨ (ds.length = p_law_written.length ∧ fnDen n_law_written (b_law_written dAll) ds = d_law_written ds) := do_of (g := fnDen n_law_written (b_law_written t_law_written)) (h := fnDen n_law_written (b_law_written dAll)) fun _ => rfl
theorem do_law_drawn_number : ∀ ds, d_law_drawn_number ds = .no ∨ (ds.length = p_law_drawn_number.length ∧ fnDen n_law_drawn_number (b_law_drawn_number dAll) ds = d_law_drawn_number ds) := do_of (g := fnDen n_law_drawn_number (b_law_drawn_number t_law_drawn_number)) (h := fnDen n_law_drawn_number (b_law_drawn_number dAll)) fun _ => rfl
theorem do_law_drawn_items : ∀ ds, d_law_drawn_items ds = .no ∨ (ds.length = p_law_drawn_items.length ∧ fnDen n_law_drawn_items (b_law_drawn_items dAll) ds = d_law_drawn_items ds) := do_of (g := fnDen n_law_drawn_items (b_law_drawn_items t_law_drawn_items)) (h := fnDen n_law_drawn_items (b_law_drawn_items dAll)) fun _ => rfl
theorem do_law_spoilt : ∀ ds, d_law_spoilt ds = .no ∨ (ds.length = p_law_spoilt.length ∧ fnDen n_law_spoilt (b_law_spoilt dAll) ds = d_law_spoilt ds) := do_of (g := fnDen n_law_spoilt (b_law_spoilt t_law_spoilt)) (h := fnDen n_law_spoilt (b_law_spoilt dAll)) fun _ => rfl
theorem do_law_free_text : ∀ ds, d_law_free_text ds = .no ∨ (ds.length = p_law_free_text.length ∧ fnDen n_law_free_text (b_law_free_text dAll) ds = d_law_free_text ds) := do_of (g := fnDen n_law_free_text (b_law_free_text t_law_free_text)) (h := fnDen n_law_free_text (b_law_free_text dAll)) fun _ => rfl
theorem do_law_has_form : ∀ ds, d_law_has_form ds = .no ∨ (ds.length = p_law_has_form.length ∧ fnDen n_law_has_form (b_law_has_form dAll) ds = d_law_has_form ds) := do_of (g := fnDen n_law_has_form (b_law_has_form t_law_has_form)) (h := fnDen n_law_has_form (b_law_has_form dAll)) fun _ => rfl
theorem do_law_formatted : ∀ ds, d_law_formatted ds = .no ∨ (ds.length = p_law_formatted.length ∧ fnDen n_law_formatted (b_law_formatted dAll) ds = d_law_formatted ds) := do_of (g := fnDen n_law_formatted (b_law_formatted t_law_formatted)) (h := fnDen n_law_formatted (b_law_formatted dAll)) fun _ => rfl
theorem do_law_reaches_far : ∀ ds, d_law_reaches_far ds = .no ∨ (ds.length = p_law_reaches_far.length ∧ fnDen n_law_reaches_far (b_law_reaches_far dAll) ds = d_law_reaches_far ds) := do_of (g := fnDen n_law_reaches_far (b_law_reaches_far t_law_reaches_far)) (h := fnDen n_law_reaches_far (b_law_reaches_far dAll)) fun _ => rfl
theorem do_law_text_agrees : ∀ ds, d_law_text_agrees ds = .no ∨ (ds.length = p_law_text_agrees.length ∧ fnDen n_law_text_agrees (b_law_text_agrees dAll) ds = d_law_text_agrees ds) := do_of (g := fnDen n_law_text_agrees (b_law_text_agrees t_law_text_agrees)) (h := fnDen n_law_text_agrees (b_law_text_agrees dAll)) fun _ => rfl
theorem do_law_far_agrees : ∀ ds, d_law_far_agrees ds = .no ∨ (ds.length = p_law_far_agrees.length ∧ fnDen n_law_far_agrees (b_law_far_agrees dAll) ds = d_law_far_agrees ds) := do_of (g := fnDen n_law_far_agrees (b_law_far_agrees t_law_far_agrees)) (h := fnDen n_law_far_agrees (b_law_far_agrees dAll)) fun _ => rfl
theorem do_law_drawn_worth : ∀ ds, d_law_drawn_worth ds = .no ∨ (ds.length = p_law_drawn_worth.length ∧ fnDen n_law_drawn_worth (b_law_drawn_worth dAll) ds = d_law_drawn_worth ds) := do_of (g := fnDen n_law_drawn_worth (b_law_drawn_worth t_law_drawn_worth)) (h := fnDen n_law_drawn_worth (b_law_drawn_worth dAll)) fun _ => rfl
theorem do_law_handed : ∀ ds, d_law_handed ds = .no ∨ (ds.length = p_law_handed.length ∧ fnDen n_law_handed (b_law_handed dAll) ds = d_law_handed ds) := do_of (g := fnDen n_law_handed (b_law_handed t_law_handed)) (h := fnDen n_law_handed (b_law_handed dAll)) fun _ => rfl
theorem do_law : ∀ ds, d_law ds = .no ∨ (ds.length = p_law.length ∧ fnDen n_law (b_law dAll) ds = d_law ds) := do_of (g := fnDen n_law (b_law t_law)) (h := fnDen n_law (b_law dAll)) fun _ => rfl
end RJ

set_option Elab.async false
set_option linter.all false
set_option maxRecDepth 100000
set_option maxHeartbeats 2000000
set_option autoImplicit false
/-! RjQ: the end: a hook with the module's statics and own checks; the law's call. -/
namespace RJ
open PySem PySem.Spec L2

/-! ### statics: no limit of digits -/
def strKey (e : DictEntry) : Bool := match e.key with
  | .str _ _ => true
  | _ => false
def digB (K : PySem.W.Frag) : Bool := match K.lookup cStatics with
  | some ⟨_, _, .dict es _, _⟩ => es.toList.all strKey && (nsFind es "sys.int_max_str_digits").isNone
  | _ => false
theorem digB_ok {K : PySem.W.Frag} {h : Heap} (X : K.In h) (e : digB K = true) : h.NoDigits := by
  unfold digB at e
  split at e
  · rename_i c d es n sl q
    rw [Bool.and_eq_true, List.all_eq_true] at e
    refine ⟨nsFind es, ⟨_, es, n, X _ _ q, rfl, fun en hen => ?_, fun _ => rfl⟩, ?_⟩
    · have h1 := e.1 en (by simpa using hen)
      unfold strKey at h1
      split at h1
      · rename_i x t hx
        exact ⟨x, t, hx⟩
      · cases h1
    · have h2 := e.2
      cases q2 : nsFind es "sys.int_max_str_digits" with
      | none => rfl
      | some v =>
        rw [q2] at h2
        cases h2
  · cases e
/-! ### the hook -/
def obsJG (n : Nat) (fa : List He.Fa) (fn : List He.DefD) (ex : PySem.W.Frag → Bool) (g : Addr → Option Obj) : He.AlD × Bool := (He.obsD fa fn (He.frG g (cStatics :: He.asD g n)), ex (He.frG g (cStatics :: He.asD g n)))
def hookJ (n : Nat) (fa : List He.Fa) (fn : List He.DefD) (ex : PySem.W.Frag → Bool) : PySem.W.Hook where
  α := He.AlD × Bool
  obs := fun s => obsJG n fa fn ex s.heap.get?
  val := fun _ => (He.valD fn, true)
  says := fun _ h => ∃ K : PySem.W.Frag, K.In h ∧ He.SaysD fa fn K ∧ ex K = true
  of := fun _ _ e => ⟨_, He.frG_in, congrArg Prod.fst e, congrArg Prod.snd e⟩
  keeps := fun _ _ _ ⟨K, hK, c⟩ k => ⟨K, PySem.W.Frag.In.keeps hK k, c⟩
theorem obsJG_eq {n : Nat} {fa : List He.Fa} {fn : List He.DefD} {ex : PySem.W.Frag → Bool} {g : Addr → Option Obj} {s : Shared} (h : ∀ a, g a = s.heap.get? a) : obsJG n fa fn ex g = (hookJ n fa fn ex).obs s := by
  have e : g = s.heap.get? := funext h
  rw [e] <;> rfl
/-! ### the law's end, with the bound on the script's numbers -/
theorem walk_ofEB {l : PySem.W.OpenLaw} {n k : Nat} {q : Program} {loose : List Str} {XP : (Str → Option Value) → Heap → Prop} {YP : World → Heap → Prop} {d : DefRec} {x : Str}
    (hn : l.most = some n) (hn2 : n ≤ sizeLine) (hdf : d.params.defaults = []) (hr : Room k callerA)
    (F : ∀ (w : World) (mg : Str → Option Value) (fa : Addr) (h : Heap), YP w h → h.Ns mainGlobals mg → mg d.name = some (.ref fa) →
      ∃ (K : PySem.W.Frag) (fd : FuncData) (sp : Sp), K.In h ∧ (∀ (s : Shared) (u : Value), BindsTo s fd ⟨[u], []⟩ [(x, u)]) ∧
        (∀ (H : Hp) (a : Addr) (ns : List Int), ns.length ≤ n → (∀ z ∈ ns, Builtin.Int.intBits z ≤ 1048576) → Only H → SqL K H a (ns.map V.int) → sp [.ref a] H (fun v _ => v = .bl true) fun _ _ _ => False) ∧
        ∀ base : Heap, K.In base → base.Ns mainGlobals mg → FnOk l.prog w K mg base (L2N.CX l.prog w) k fa fd [x] sp) :
    PySem.W.WalkO q loose XP YP l.row.toRowW d [] (fun f vs => PySem.call f vs) := by
  refine Att.attach_callB hn hdf fun w s₀ s₁ mg mb fa o pm cd doc a vs ns G Y ho hd hcd hmg hobj hints hlen hbits hg => ?_
  obtain ⟨K, fd, sp, KX, hb, hsp, hF⟩ := F w mg fa _ Y G.T.g hmg
  exact law_call KX G.T.g G.T.b G.T.builtins G.T.nolimit hg hobj hints (Nat.le_trans hlen hn2) hr hF hb (fun H hO hS => hsp H a ns hlen hbits hO hS) fun H e s' ⟨_, _, _, _, _, _, _, _, _, _, _, _, z⟩ => z
/-! ### BadNotation's class -/
def clsB (K : PySem.W.Frag) (C : Addr) : Bool := match K.lookup C with
  | some ⟨.type t, _, .cls ⟨_, _, .ref C' :: bm, _, _, hd, _, _, _, _, hl⟩, sl⟩ => decide (t = "type") && (decide (C' = C) && (PySem.HandSPX.refsVE bm && (hd && (!hl && (match sl.toList with
    | [_, _, _, _, some (.builtin n), _] => decide (n = "ValueError.__new__")
    | _ => false)))))
  | _ => false
theorem clsB_ok {K : PySem.W.Frag} {C : Addr} (e : clsB K C = true) : ∃ nm q N bs bm sn sub ab col dd k0 k1 k2 k3 k5, K.lookup C = some (excClassObj nm q C N bs bm true sn sub ab col dd k0 k1 k2 k3 k5 "ValueError.__new__") ∧ PySem.HandSPX.refsVE bm = true := by
  unfold clsB at e
  split at e
  · rename_i t dd nm bs C' bm N q hd sn sub ab col hl sl lk
    simp only [Bool.and_eq_true, decide_eq_true_eq, Bool.not_eq_true'] at e
    obtain ⟨rfl, rfl, h3, rfl, rfl, h6⟩ := e
    split at h6
    · rename_i k0 k1 k2 k3 n k5 hs
      have h6 := of_decide_eq_true h6
      subst h6
      have es : sl = #[k0, k1, k2, k3, some (.builtin "ValueError.__new__"), k5] := by
        cases sl with
        | mk l =>
          simp only at hs
          rw [hs]
      subst es
      exact ⟨nm, q, N, bs, bm, sn, sub, ab, col, dd, k0, k1, k2, k3, k5, lk, h3⟩
    · cases h6
  · cases e
def notB (K : PySem.W.Frag) : Bool :=
  clsB K (He.ga K "BadNotation") && (He.eqO (PySem.W.findIn K (.ref (He.ga K "BadNotation")) "__setattr__") (some (some (.builtin "object.__setattr__"))) &&
  (He.eqO (PySem.W.findIn K (.ref (He.ga K "BadNotation")) "__getattribute__") (some (some (.builtin "BaseException.__getattribute__"))) &&
  (He.eqO (PySem.W.findIn K (.ref (He.ga K "BadNotation")) "__getattr__") (some none) && (He.eqO (PySem.W.findIn K (.ref (He.ga K "BadNotation")) "line") (some none) &&
  (He.eqO (PySem.W.findIn K (.ref (He.ga K "BadNotation")) "__init__") (some (some (.ref (He.ma K (He.ga K "BadNotation") "__init__")))) &&
  (decide (PySem.W.typeIn K (.ref (He.ma K (He.ga K "BadNotation") "__init__")) = some (.type "function")) && (PySem.W.keepIn K (.ref (He.ga K "BadNotation")) &&
  (decide (PySem.W.subIn K (.ref (He.ga K "BadNotation")) (.type "BaseException") = some true) && (decide (PySem.W.typeIn K (.ref (He.ga K "BadNotation")) = some (.type "type")) &&
  (PySem.W.hasDictIn K (He.ga K "BadNotation") && decide (PySem.W.exmOne K (.ref (He.ga K "BadNotation")) (.ref (He.ga K "BadNotation")) = some true)))))))))))
end RJ

set_option Elab.async false
set_option linter.all false
set_option maxRecDepth 100000
set_option maxHeartbeats 0
/-! printed by genend.py: the head. -/
namespace RJ
open PySem PySem.Spec L2
abbrev R : PySem.W.OpenRow := PySem.W.OpenLaw.row PySem.Challenge.rw_joinpast_k89_sum_notes
def loose0 : List Str := ["gcd", "RowError", "BadName", "UnknownRow", "BadStretch", "BadParts", "NotBlocked", "BadNotation", "polynomial", "poly_times", "ratio", "parts_of", "fraction", "times", "LETTERS", "SIGNS", "LONGEST", "is_row_name", "terms_of", "ordered", "sum_times", "DIGITS", "WIDTH", "PIECE", "written", "format_fraction", "format_polynomial", "format_sum", "whole_number", "read_fraction"]
def loose1 : List Str := ["read_polynomial", "read_sum", "parse_fraction", "parse_polynomial", "parse_sum", "_law_whole", "_law_cell", "_law_digits", "_law_gcd", "_law_frac", "_law_is_fraction", "_law_poly", "_law_pairs", "_law_sum", "_law_terms", "_law_is_sum", "_law_is_poly", "_law_is_name", "_law_number", "_law_write", "_law_written", "_law_drawn_number", "_law_drawn_items", "_law_spoilt", "_law_free_text", "_law_parsed", "_law_has_form", "_law_formatted", "_law_reaches_far", "_law_text_agrees"]
def loose2 : List Str := ["_law_far_agrees", "_law_drawn_worth", "_law_handed"]
def looseAll : List Str := loose0 ++ loose1 ++ loose2
def df_polynomial : He.DefD := ⟨("polynomial", none), "polynomial", "polynomial", defArgs (top 10), defBody (top 10), defScope (top 10), [], []⟩
def df_poly_times : He.DefD := ⟨("poly_times", none), "poly_times", "poly_times", defArgs (top 11), defBody (top 11), defScope (top 11), [], []⟩
def df_ratio : He.DefD := ⟨("ratio", none), "ratio", "ratio", defArgs (top 13), defBody (top 13), defScope (top 13), [], []⟩
def df_parts_of : He.DefD := ⟨("parts_of", none), "parts_of", "parts_of", defArgs (top 14), defBody (top 14), defScope (top 14), [], []⟩
def df_fraction : He.DefD := ⟨("fraction", none), "fraction", "fraction", defArgs (top 15), defBody (top 15), defScope (top 15), [], []⟩
def df_times : He.DefD := ⟨("times", none), "times", "times", defArgs (top 16), defBody (top 16), defScope (top 16), [], []⟩
def df_is_row_name : He.DefD := ⟨("is_row_name", none), "is_row_name", "is_row_name", defArgs (top 21), defBody (top 21), defScope (top 21), [], []⟩
def df_terms_of : He.DefD := ⟨("terms_of", none), "terms_of", "terms_of", defArgs (top 23), defBody (top 23), defScope (top 23), [], []⟩
def df_ordered : He.DefD := ⟨("ordered", none), "ordered", "ordered", defArgs (top 24), defBody (top 24), defScope (top 24), [], []⟩
def df_sum_times : He.DefD := ⟨("sum_times", none), "sum_times", "sum_times", defArgs (top 25), defBody (top 25), defScope (top 25), [], []⟩
def df_written : He.DefD := ⟨("written", none), "written", "written", defArgs (top 30), defBody (top 30), defScope (top 30), [], []⟩
def df_format_fraction : He.DefD := ⟨("format_fraction", none), "format_fraction", "format_fraction", defArgs (top 31), defBody (top 31), defScope (top 31), [], []⟩
def df_format_polynomial : He.DefD := ⟨("format_polynomial", none), "format_polynomial", "format_polynomial", defArgs (top 32), defBody (top 32), defScope (top 32), [], []⟩
def df_format_sum : He.DefD := ⟨("format_sum", none), "format_sum", "format_sum", defArgs (top 33), defBody (top 33), defScope (top 33), [], []⟩
def df_whole_number : He.DefD := ⟨("whole_number", none), "whole_number", "whole_number", defArgs (top 34), defBody (top 34), defScope (top 34), [], []⟩
def df_read_fraction : He.DefD := ⟨("read_fraction", none), "read_fraction", "read_fraction", defArgs (top 35), defBody (top 35), defScope (top 35), [], []⟩
def df_read_polynomial : He.DefD := ⟨("read_polynomial", none), "read_polynomial", "read_polynomial", defArgs (top 36), defBody (top 36), defScope (top 36), [], []⟩
def df_read_sum : He.DefD := ⟨("read_sum", none), "read_sum", "read_sum", defArgs (top 37), defBody (top 37), defScope (top 37), [], []⟩
def df_parse_fraction : He.DefD := ⟨("parse_fraction", none), "parse_fraction", "parse_fraction", defArgs (top 38), defBody (top 38), defScope (top 38), [], []⟩
def df_parse_polynomial : He.DefD := ⟨("parse_polynomial", none), "parse_polynomial", "parse_polynomial", defArgs (top 39), defBody (top 39), defScope (top 39), [], []⟩
def df_parse_sum : He.DefD := ⟨("parse_sum", none), "parse_sum", "parse_sum", defArgs (top 40), defBody (top 40), defScope (top 40), [], []⟩
def df_law_whole : He.DefD := ⟨("_law_whole", none), "_law_whole", "_law_whole", defArgs (top 42), defBody (top 42), defScope (top 42), [], []⟩
def df_law_cell : He.DefD := ⟨("_law_cell", none), "_law_cell", "_law_cell", defArgs (top 43), defBody (top 43), defScope (top 43), [], []⟩
def df_law_digits : He.DefD := ⟨("_law_digits", none), "_law_digits", "_law_digits", defArgs (top 44), defBody (top 44), defScope (top 44), [], []⟩
def df_law_gcd : He.DefD := ⟨("_law_gcd", none), "_law_gcd", "_law_gcd", defArgs (top 45), defBody (top 45), defScope (top 45), [], []⟩
def df_law_frac : He.DefD := ⟨("_law_frac", none), "_law_frac", "_law_frac", defArgs (top 46), defBody (top 46), defScope (top 46), [], []⟩
def df_law_is_fraction : He.DefD := ⟨("_law_is_fraction", none), "_law_is_fraction", "_law_is_fraction", defArgs (top 47), defBody (top 47), defScope (top 47), [], []⟩
def df_law_poly : He.DefD := ⟨("_law_poly", none), "_law_poly", "_law_poly", defArgs (top 48), defBody (top 48), defScope (top 48), [], []⟩
def df_law_pairs : He.DefD := ⟨("_law_pairs", none), "_law_pairs", "_law_pairs", defArgs (top 49), defBody (top 49), defScope (top 49), [], []⟩
def df_law_sum : He.DefD := ⟨("_law_sum", none), "_law_sum", "_law_sum", defArgs (top 50), defBody (top 50), defScope (top 50), [], []⟩
def df_law_terms : He.DefD := ⟨("_law_terms", none), "_law_terms", "_law_terms", defArgs (top 51), defBody (top 51), defScope (top 51), [], []⟩
def df_law_is_sum : He.DefD := ⟨("_law_is_sum", none), "_law_is_sum", "_law_is_sum", defArgs (top 52), defBody (top 52), defScope (top 52), [], []⟩
def df_law_is_poly : He.DefD := ⟨("_law_is_poly", none), "_law_is_poly", "_law_is_poly", defArgs (top 53), defBody (top 53), defScope (top 53), [], []⟩
def df_law_is_name : He.DefD := ⟨("_law_is_name", none), "_law_is_name", "_law_is_name", defArgs (top 54), defBody (top 54), defScope (top 54), [], []⟩
def df_law_number : He.DefD := ⟨("_law_number", none), "_law_number", "_law_number", defArgs (top 55), defBody (top 55), defScope (top 55), [], []⟩
def df_law_write : He.DefD := ⟨("_law_write", none), "_law_write", "_law_write", defArgs (top 56), defBody (top 56), defScope (top 56), [], []⟩
def df_law_written : He.DefD := ⟨("_law_written", none), "_law_written", "_law_written", defArgs (top 57), defBody (top 57), defScope (top 57), [], []⟩
def df_law_drawn_number : He.DefD := ⟨("_law_drawn_number", none), "_law_drawn_number", "_law_drawn_number", defArgs (top 58), defBody (top 58), defScope (top 58), [], []⟩
def df_law_drawn_items : He.DefD := ⟨("_law_drawn_items", none), "_law_drawn_items", "_law_drawn_items", defArgs (top 59), defBody (top 59), defScope (top 59), [], []⟩
def df_law_spoilt : He.DefD := ⟨("_law_spoilt", none), "_law_spoilt", "_law_spoilt", defArgs (top 60), defBody (top 60), defScope (top 60), [], []⟩
def df_law_free_text : He.DefD := ⟨("_law_free_text", none), "_law_free_text", "_law_free_text", defArgs (top 61), defBody (top 61), defScope (top 61), [], []⟩
def df_law_parsed : He.DefD := ⟨("_law_parsed", none), "_law_parsed", "_law_parsed", defArgs (top 62), defBody (top 62), defScope (top 62), [], []⟩
def df_law_has_form : He.DefD := ⟨("_law_has_form", none), "_law_has_form", "_law_has_form", defArgs (top 63), defBody (top 63), defScope (top 63), [], []⟩
def df_law_formatted : He.DefD := ⟨("_law_formatted", none), "_law_formatted", "_law_formatted", defArgs (top 64), defBody (top 64), defScope (top 64), [], []⟩
def df_law_reaches_far : He.DefD := ⟨("_law_reaches_far", none), "_law_reaches_far", "_law_reaches_far", defArgs (top 65), defBody (top 65), defScope (top 65), [], []⟩
def df_law_text_agrees : He.DefD := ⟨("_law_text_agrees", none), "_law_text_agrees", "_law_text_agrees", defArgs (top 66), defBody (top 66), defScope (top 66), [], []⟩
def df_law_far_agrees : He.DefD := ⟨("_law_far_agrees", none), "_law_far_agrees", "_law_far_agrees", defArgs (top 67), defBody (top 67), defScope (top 67), [], []⟩
def df_law_drawn_worth : He.DefD := ⟨("_law_drawn_worth", none), "_law_drawn_worth", "_law_drawn_worth", defArgs (top 68), defBody (top 68), defScope (top 68), [], []⟩
def df_law_handed : He.DefD := ⟨("_law_handed", none), "_law_handed", "_law_handed", defArgs (top 69), defBody (top 69), defScope (top 69), [], []⟩
def df_law : He.DefD := ⟨("law", none), "law", "law", defArgs (top 70), defBody (top 70), defScope (top 70), [], []⟩
def df_init : He.DefD := ⟨("BadNotation", some "__init__"), "__init__", "BadNotation.__init__", PySem.NotX.iA ⟨27, 17, 27, 21⟩ ⟨27, 23, 27, 27⟩, PySem.NotX.iB ⟨28, 8, 28, 12⟩ ⟨28, 8, 28, 17⟩ ⟨28, 20, 28, 24⟩ ⟨28, 8, 28, 24⟩, PySem.NotX.iS, [], []⟩
def fnJ : List He.DefD := [df_polynomial, df_poly_times, df_ratio, df_parts_of, df_fraction, df_times, df_is_row_name, df_terms_of, df_ordered, df_sum_times, df_written, df_format_fraction, df_format_polynomial, df_format_sum, df_whole_number, df_read_fraction, df_read_polynomial, df_read_sum, df_parse_fraction, df_parse_polynomial, df_parse_sum, df_law_whole, df_law_cell, df_law_digits, df_law_gcd, df_law_frac, df_law_is_fraction, df_law_poly, df_law_pairs, df_law_sum, df_law_terms, df_law_is_sum, df_law_is_poly, df_law_is_name, df_law_number, df_law_write, df_law_written, df_law_drawn_number, df_law_drawn_items, df_law_spoilt, df_law_free_text, df_law_parsed, df_law_has_form, df_law_formatted, df_law_reaches_far, df_law_text_agrees, df_law_far_agrees, df_law_drawn_worth, df_law_handed, df_law, df_init]
def faJ : List He.Fa := [.glo "polynomial", .glo "poly_times", .glo "ratio", .glo "parts_of", .glo "fraction", .glo "times", .glo "is_row_name", .glo "terms_of", .glo "ordered", .glo "sum_times", .glo "written", .glo "format_fraction", .glo "format_polynomial", .glo "format_sum", .glo "whole_number", .glo "read_fraction", .glo "read_polynomial", .glo "read_sum", .glo "parse_fraction", .glo "parse_polynomial", .glo "parse_sum", .glo "_law_whole", .glo "_law_cell", .glo "_law_digits", .glo "_law_gcd", .glo "_law_frac", .glo "_law_is_fraction", .glo "_law_poly", .glo "_law_pairs", .glo "_law_sum", .glo "_law_terms", .glo "_law_is_sum", .glo "_law_is_poly", .glo "_law_is_name", .glo "_law_number", .glo "_law_write", .glo "_law_written", .glo "_law_drawn_number", .glo "_law_drawn_items", .glo "_law_spoilt", .glo "_law_free_text", .glo "_law_parsed", .glo "_law_has_form", .glo "_law_formatted", .glo "_law_reaches_far", .glo "_law_text_agrees", .glo "_law_far_agrees", .glo "_law_drawn_worth", .glo "_law_handed", .glo "law", .free "len", .free "range", .free "sorted", .free "list", .free "tuple", .free "int", .free "str", .free "bool", .free "abs", .free "min", .free "max", .free "isinstance", .free "divmod", .free "zip", .free "sum", .free "reversed", .free "enumerate", .free "any", .free "all", .free "iter", .free "ValueError", .int "LONGEST" 10, .int "WIDTH" 64, .int "PIECE" 10000000000000000000000000000000000000000000000000000000000000000, .str "LETTERS" "abcdefghijklmnopqrstuvwxyz", .str "SIGNS" "abcdefghijklmnopqrstuvwxyz0123456789", .str "DIGITS" "0123456789", .glo "RowError", .glo "BadName", .glo "UnknownRow", .glo "BadStretch", .glo "BadParts", .glo "NotBlocked", .glo "BadNotation"]
def kitB2 (K : PySem.W.Frag) (c : Value) (b : Bool) : Bool := decide (PySem.W.kitOne K (.ref (He.ga K "BadNotation")) c = some b)
def excB2 (K : PySem.W.Frag) : Bool := He.eqO (PySem.W.findIn K (.ref (He.ga K "BadNotation")) "__class__") (some (some (.builtin "object.__class__"))) &&
  (He.eqO (PySem.W.specialIn K (.builtin "object.__class__") "__get__") (some (some (.builtin "getset_descriptor.__get__"))) &&
  (decide (PySem.W.takesIn K (.builtin "object.__class__") = some true) && decide (PySem.W.mroIn K (He.ga K "BadNotation") (.type "object") = some true)))
def kitAll (K : PySem.W.Frag) : Bool := kitB2 K (.ref (He.ga K "BadName")) false && (kitB2 K (.ref (He.ga K "BadParts")) false && (kitB2 K (.ref (He.ga K "BadStretch")) false &&
  (kitB2 K (.ref (He.ga K "NotBlocked")) false && (kitB2 K (.ref (He.ga K "UnknownRow")) false && (kitB2 K (.ref (He.ga K "RowError")) true && kitB2 K (.type "ValueError") true)))))
def exJ (K : PySem.W.Frag) : Bool := digB K && (notB K && (excB2 K && (kitAll K && He.eqO (PySem.W.nsIn K mainGlobals "gcd") (some (some (.builtin "math.gcd"))))))
abbrev hkJ : PySem.W.Hook := hookJ 5 faJ fnJ exJ
def obJ (s : PySem.W.SharedT) : He.AlD × Bool := obsJG 5 faJ fnJ exJ (HandSHeadRun.getT s)
theorem obJ_eq (s : PySem.W.SharedT) : obJ s = hkJ.obs s.abs := obsJG_eq (HandSHeadRun.getT_eq s)
theorem run (w : World) : HandSHeadRun.RunEqI R (PySem.W.view R.prog [0, 70]) hkJ obJ 20000 looseAll w := by
  unfold HandSHeadRun.RunEqI
  kernel_rfl
end RJ

set_option Elab.async false
set_option linter.all false
set_option maxRecDepth 100000
set_option maxHeartbeats 1000000
set_option autoImplicit false
/-! RjU: the meanings, evaluated: plain equations. -/
namespace RJ
open PySem PySem.Spec L2

@[simp] theorem line_val : sizeLine = 16777216 := sizeLine_eq
@[simp] theorem shaped_int (i : Int) : SeqAt.shaped (.int i) = true := rfl
@[simp] theorem shaped_bool (i : Bool) : SeqAt.shaped (.bool i) = true := rfl
@[simp] theorem shaped_none : SeqAt.shaped .none = true := rfl
@[simp] theorem eqG_int (n : Bool) (a b : Int) : eqG n (.int a) (.int b) = .ok (.bl (if n then !decide (a = b) else decide (a = b))) := by
  have e : (a == b) = decide (a = b) := by
    rw [Bool.eq_iff_iff]
    simp
  simp only [eqG, eqDG, toP, shaped_int, Bool.and_self, if_true, PyData.eqv, e]
@[simp] theorem eqG_str (n : Bool) (a b : Str) : eqG n (.str a) (.str b) = .ok (.bl (if n then !decide (a = b) else decide (a = b))) := rfl
@[simp] theorem ordG_int (f : Int → Int → Bool) (g : List Nat → List Nat → Bool) (a b : Int) : ordG f g (.int a) (.int b) = .ok (.bl (f a b)) := rfl
@[simp] theorem addG_int (a b : Int) : addG (.int a) (.int b) = .ok (.int (a + b)) := rfl
@[simp] theorem subG_int (a b : Int) : subG (.int a) (.int b) = .ok (.int (a - b)) := rfl
@[simp] theorem addG_str (a b : Str) : addG (.str a) (.str b) = if a.length + b.length ≤ sizeLine then .ok (.str (a ++ b)) else .no := rfl
@[simp] theorem addG_lst (a b : List D) : addG (.lst a) (.lst b) = if a.length + b.length ≤ sizeLine then .ok (.lst (a ++ b)) else .no := rfl
@[simp] theorem addG_tup (a b : List D) : addG (.tup a) (.tup b) = if a.length + b.length ≤ sizeLine then .ok (.tup (a ++ b)) else .no := rfl
@[simp] theorem mulG_int (i j : Int) : mulG (.int i) (.int j) = if (Builtin.Int.intBits i : Int) + (Builtin.Int.intBits j : Int) ≤ 134217728 then .ok (.int (i * j)) else .no := by
  show (if blk (decide _) = true then _ else _) = _
  rw [blk_eq]
  simp only [decide_eq_true_eq]
@[simp] theorem fdivG_int (i j : Int) : fdivG (.int i) (.int j) = if j ≠ 0 ∧ Builtin.divisionGoesByPylong i j = false then .ok (.int (i.fdiv j)) else .no := rfl
@[simp] theorem modG_int (i j : Int) : modG (.int i) (.int j) = if j ≠ 0 then .ok (.int (i.fmod j)) else .no := rfl
@[simp] theorem negR_int (i : Int) : negR (.int i) = .ok (.int (-i)) := rfl
@[simp] theorem intG_int (i : Int) : intG [.int i] = .ok (.int i) := rfl
@[simp] theorem absG_int (i : Int) : absG [.int i] = .ok (.int (if i < 0 then -i else i)) := rfl
@[simp] theorem gcdG_int (i j : Int) : gcdG [.int i, .int j] = .ok (.int (Int.gcd i j)) := rfl
@[simp] theorem strG_int (i : Int) : strG [.int i] = if i.natAbs < 10 ^ 4300 then .ok (.str (toString i)) else .no := rfl
@[simp] theorem lenG_str (y : Str) : lenG [.str y] = if y.length ≤ sizeLine then .ok (.int y.length) else .no := rfl
@[simp] theorem lenG_lst (y : List D) : lenG [.lst y] = .ok (.int y.length) := rfl
@[simp] theorem lenG_tup (y : List D) : lenG [.tup y] = .ok (.int y.length) := rfl
@[simp] theorem lenG_scr (y : List Int) : lenG [.scr y] = .ok (.int y.length) := rfl
@[simp] theorem tupG_lst (y : List D) : tupG [.lst y] = .ok (.tup y) := rfl
@[simp] theorem tupG_tup (y : List D) : tupG [.tup y] = .ok (.tup y) := rfl
@[simp] theorem listG_lst (y : List D) : listG [.lst y] = .ok (.lst y) := rfl
@[simp] theorem listG_tup (y : List D) : listG [.tup y] = .ok (.lst y) := rfl
@[simp] theorem truG_bl (b : Bool) : truG (.bl b) = .ok b := rfl
@[simp] theorem truG_tup (b : List D) : truG (.tup b) = .ok (!b.isEmpty) := rfl
@[simp] theorem truG_lst (b : List D) : truG (.lst b) = .ok (!b.isEmpty) := rfl
@[simp] theorem seqOf_lst (b : List D) : seqOf (.lst b) = some b := rfl
@[simp] theorem seqOf_tup (b : List D) : seqOf (.tup b) = some b := rfl
@[simp] theorem itemsQ_lst (b : List D) : itemsQ (.lst b) = .ok b := rfl
@[simp] theorem itemsQ_tup (b : List D) : itemsQ (.tup b) = .ok b := rfl
@[simp] theorem itemsS_str (x : Str) : itemsS (.str x) = .ok (x.cps.toList.map fun c => .str ⟨#[c]⟩) := rfl
@[simp] theorem itemsC_scr (x : List Int) : itemsC (.scr x) = .ok (x.map .int) := rfl
@[simp] theorem kit_int_int : kitB "int" "int" = some true := by decide +kernel
@[simp] theorem kit_bool_int : kitB "bool" "int" = some true := by decide +kernel
@[simp] theorem kit_tup_int : kitB "tuple" "int" = some false := by decide +kernel
@[simp] theorem kit_lst_int : kitB "list" "int" = some false := by decide +kernel
@[simp] theorem kit_str_int : kitB "str" "int" = some false := by decide +kernel
@[simp] theorem kit_int_bool : kitB "int" "bool" = some false := by decide +kernel
@[simp] theorem kit_bool_bool : kitB "bool" "bool" = some true := by decide +kernel
@[simp] theorem kit_str_str : kitB "str" "str" = some true := by decide +kernel
@[simp] theorem kit_tup_tup : kitB "tuple" "tuple" = some true := by decide +kernel
@[simp] theorem isi_int_int (i : Int) : isiG "int" (.int i) = .ok (.bl true) := by simp [isiG, tyD]
@[simp] theorem isi_tup_int (i : List D) : isiG "int" (.tup i) = .ok (.bl false) := by simp [isiG, tyD]
@[simp] theorem isi_lst_int (i : List D) : isiG "int" (.lst i) = .ok (.bl false) := by simp [isiG, tyD]
@[simp] theorem isi_int_bool (i : Int) : isiG "bool" (.int i) = .ok (.bl false) := by simp [isiG, tyD]
@[simp] theorem isi_str_str (i : Str) : isiG "str" (.str i) = .ok (.bl true) := by simp [isiG, tyD]
@[simp] theorem isi_tup_tup (i : List D) : isiG "tuple" (.tup i) = .ok (.bl true) := by simp [isiG, tyD]
@[simp] theorem isG_non (n : Bool) : isG n .non .non = .ok (.bl (if n then false else true)) := by cases n <;> rfl
@[simp] theorem isG_int (n : Bool) (i : Int) : isG n (.int i) .non = .ok (.bl (if n then true else false)) := by cases n <;> rfl
@[simp] theorem isG_tup (n : Bool) (i : List D) : isG n (.tup i) .non = .ok (.bl (if n then true else false)) := by cases n <;> rfl
theorem ixG_lst {ds : List D} {i : Int} {d : D} (h : atI ds i = some d) : ixG (.lst ds) (.int i) = .ok d := by simp [ixG, h]
theorem ixG_tup {ds : List D} {i : Int} {d : D} (h : atI ds i = some d) : ixG (.tup ds) (.int i) = .ok d := by simp [ixG, h]
theorem ixG_scr {ds : List Int} {i : Int} {d : Int} (h : atI ds i = some d) : ixG (.scr ds) (.int i) = .ok (.int d) := by simp [ixG, h]
end RJ
namespace RJ
open PySem PySem.Spec L2
/-! ### slots, tuples as targets, texts -/
theorem Str.S_of (x : Str) : x = SX.S x.cps.toList := (SX.S_tl x).symm
@[simp] theorem den_gcName {T : Tbl} (i : Nat) (d : D) (Γ : En) : (gcName i : GC T).den d Γ = .ok (Γ.set i (.sh d)) := rfl
@[simp] theorem den_gcNameF {T : Tbl} (i : Nat) : (gcName i : GC T).den = fun d Γ => .ok (Γ.set i (.sh d)) := rfl
@[simp] theorem den_gsNil {T : Tbl} (Γ : En) : (gsNil : GCs T).den [] Γ = .ok Γ := rfl
@[simp] theorem den_gsCons {T : Tbl} (a : GC T) (r : GCs T) (d : D) (ds : List D) (Γ : En) : (gsCons a r).den (d :: ds) Γ = (a.den d Γ).bind (r.den ds) := rfl
theorem den_gcTup {T : Tbl} (n : Nat) (a : GCs T) (d : D) (Γ : En) : (gcTup n a).den d Γ = (match seqOf d with
  | some ds => if ds.length = n then a.den ds Γ else .no
  | none => .no) := rfl
@[simp] theorem den_gcTup_tup {T : Tbl} (n : Nat) (a : GCs T) (ds : List D) (Γ : En) : (gcTup n a).den (.tup ds) Γ = if ds.length = n then a.den ds Γ else .no := rfl
@[simp] theorem den_gcTup_lst {T : Tbl} (n : Nat) (a : GCs T) (ds : List D) (Γ : En) : (gcTup n a).den (.lst ds) Γ = if ds.length = n then a.den ds Γ else .no := rfl
theorem forD_nil (tg : D → En → Re En) (body : En → SR) (Γ : En) : forD tg body [] Γ = .nx Γ := rfl
theorem forD_cons (tg : D → En → Re En) (body : En → SR) (d : D) (r : List D) (Γ : En) : forD tg body (d :: r) Γ = (tgS (tg d Γ)).seq fun Γ1 => (body Γ1).turn (forD tg body r) := rfl
theorem slG_to (a : List Nat) (i : Int) (h : 0 ≤ i) (hl : a.length ≤ sizeLine) : slG (.str (SX.S a)) none (some i) = .ok (.str (SX.S (a.take i.toNat))) := by
  show (if (SX.S a).length ≤ sizeLine then Re.ok (D.str (cutS (SX.S a) none (some i))) else .no) = _
  rw [if_pos (by rw [SX.S_len]; exact hl), C8.cutS_slice, SX.slice_to h]
theorem slG_from (a : List Nat) (i : Int) (h : 0 ≤ i) (hl : a.length ≤ sizeLine) : slG (.str (SX.S a)) (some i) none = .ok (.str (SX.S (a.drop i.toNat))) := by
  show (if (SX.S a).length ≤ sizeLine then Re.ok (D.str (cutS (SX.S a) (some i) none)) else .no) = _
  rw [if_pos (by rw [SX.S_len]; exact hl), C8.cutS_slice, SX.slice_from h]
@[simp] theorem sgnG_one (n : Bool) (c : Nat) (t : List Nat) : sgnG n (.str ⟨#[c]⟩) (.str (SX.S t)) = .ok (.bl (if n then !decide (c ∈ t) else decide (c ∈ t))) := by
  cases n <;> rfl
theorem ixG_str (a : List Nat) (i : Int) (c : Nat) (hl : a.length ≤ sizeLine) (h : atI a i = some c) : ixG (.str (SX.S a)) (.int i) = .ok (.str (SX.S [c])) := by
  show (if (SX.S a).length ≤ sizeLine then (match atI a i with
    | some c => Re.ok (D.str ⟨#[c]⟩)
    | none => .no) else .no) = _
  rw [if_pos (by rw [SX.S_len]; exact hl), h]
end RJ

set_option Elab.async false
set_option linter.all false
set_option maxRecDepth 100000
set_option maxHeartbeats 2000000
set_option autoImplicit false
/-! RjT: _law_parsed: try, except. -/
namespace RJ
open PySem PySem.Spec L2

/-- what is asked of the class -/
structure ExcF (K : PySem.W.Frag) (C : Addr) : Prop where
  hga : PySem.W.findIn K (.ref C) "__getattribute__" = some (some (.builtin "BaseException.__getattribute__"))
  hgt : PySem.W.findIn K (.ref C) "__getattr__" = some none
  hsub : PySem.W.subIn K (.ref C) (.type "BaseException") = some true
  hd : PySem.W.hasDictIn K C = true
  ha : PySem.W.findIn K (.ref C) "__class__" = some (some (.builtin "object.__class__"))
  hn : PySem.W.specialIn K (.builtin "object.__class__") "__get__" = some (some (.builtin "getset_descriptor.__get__"))
  ht : PySem.W.takesIn K (.builtin "object.__class__") = some true
  hm : PySem.W.mroIn K C (.type "object") = some true
section
variable {X : Cx} {a C dd : Addr} {oe : Obj} {pn : List (Addr × Obj)}
theorem inst_at {pins : List (Addr × Obj)} {σ : L2.St} {H : Hp} {s : Shared} {fs : List (Str × V)} (I : Inv (X.suite a ((a, oe) :: pn)) pins σ H s) (hz : Zc (.ref C) (some dd) oe) (hf : ∃ vs, oe.data = .fields vs) (hd : H dd = some (.xd fs)) : ∃ od, PySem.W.InstAt s.heap a oe C (some od) := by
  obtain ⟨ha, _⟩ := I.pin (a, oe) (List.mem_append_left _ List.mem_cons_self)
  obtain ⟨vs, hv⟩ := hf
  obtain ⟨mA, hns, hr⟩ := (show ObjOk X.prog X.w H s.heap dd (.xd fs) from I.hok dd _ hd)
  obtain ⟨od, ho, hl⟩ := lookIn_ns hns
  exact ⟨od, ha, hz.1, by unfold PySem.W.notCls; rw [hv] <;> rfl, by rw [hz.2]; exact ho⟩
theorem kit_exc (E : ExcF X.K C) {od : Option Obj} : PySem.W.KitX X.K (.ref a) (.ref C) (fun h => PySem.W.InstAt h a oe C od) :=
  PySem.W.kitx_exc (by
    have h := E.hd
    unfold PySem.W.hasDictIn at h
    cases e : PySem.W.clsIn X.K C with
    | none =>
      rw [e] at h
      cases h
    | some cd => rfl) E.hga E.hgt E.hsub E.ha E.hn E.ht E.hm
def rIsN (K : PySem.W.Frag) (C a dd : Addr) : List V → Hp → VK → Prop := fun xs H Q => ∃ (c : V) (u : Value) (b : Bool) (fs : List (Str × V)), xs = [.ref a, c] ∧ ClsV c u ∧ PySem.W.kitOne K (.ref C) u = some b ∧ H dd = some (.xd fs) ∧ Q (.bl b) H
theorem call_isN (E : ExcF X.K C) (hz : Zc (.ref C) (some dd) oe) (hf : ∃ vs, oe.data = .fields vs) : CallR (X.suite a ((a, oe) :: pn)) (.builtin "isinstance") (rIsN X.K C a dd) := by
  intro pins s σ H xs us Q I r h
  obtain ⟨c, u, b, fs, rfl, hc, e, hd, q⟩ := h
  obtain ⟨u1, u2, rfl, r1, r2⟩ := vals2 r
  cases r1
  have e2 := hc.eq r2
  subst e2
  obtain ⟨od, J⟩ := inst_at I hz hf hd
  exact PySem.W.kia_one (kit_exc E) I.kIn J e (fun z => nomatch z) fun tk => ⟨.bl b, H, I.tok tk, rfl, q⟩
def rIsNT (K : PySem.W.Frag) (C a dd : Addr) : List V → Hp → VK → Prop := fun xs H Q => ∃ (tp : Addr) (cs : List V) (us : List Value) (b : Bool) (fs : List (Str × V)), xs = [.ref a, .ref tp] ∧ H tp = some (.tup cs) ∧ Paired ClsV cs us ∧ PySem.W.kitAny K (.ref C) us = some b ∧ H dd = some (.xd fs) ∧ Q (.bl b) H
theorem call_isNT (E : ExcF X.K C) (hz : Zc (.ref C) (some dd) oe) (hf : ∃ vs, oe.data = .fields vs) : CallR (X.suite a ((a, oe) :: pn)) (.builtin "isinstance") (rIsNT X.K C a dd) := by
  intro pins s σ H xs us Q I r h
  obtain ⟨tp, cs, ws, b, fs, rfl, hT, k, e, hd, q⟩ := h
  obtain ⟨u1, u2, rfl, r1, r2⟩ := vals2 r
  cases r1
  cases (show u2 = Value.ref tp from r2)
  obtain ⟨od, J⟩ := inst_at I hz hf hd
  obtain ⟨_, its, rv, o, h1, h2, n, h3⟩ := (show ObjOk X.prog X.w H s.heap tp (.tup cs) from I.hok tp _ hT)
  have e3 := ClsV.all k rv
  subst e3
  obtain ⟨oc, od2, dt, sl⟩ := o
  simp only at h2 h3
  subst h2 h3
  exact PySem.W.kia_tup (kit_exc E) I.kIn J h1 e (fun z => nomatch z) fun tk => ⟨.bl b, H, I.tok tk, rfl, q⟩
end
/-! ### _law_whole where an exception is handled -/
def spW : Sp := fun vs H Q _ => ∃ i : Int, vs = [.int i] ∧ Q (.bl true) H
theorem okH_whole {P : Program} {w : World} {K : PySem.W.Frag} {mg : Str → Option Value} {base : Heap} {f : Addr} {fd : FuncData} (F : FunD K "_law_whole" "_law_whole" (defArgs s_law_whole) (defBody s_law_whole) (defScope s_law_whole) [] [] f fd) (hb : ∀ x ∈ blt, mg x = none) :
    L2H.FnH P w K mg base CX0 1 f fd p_law_whole spW := by
  obtain ⟨oc, od, dV, kV, doc, pm, an, cdv, ct, osl, rfl, lk, hcd, _, _⟩ := F.ex
  refine L2H.fn_ofH lk hcd sc_law_whole (fun vs H Q E h => ?_) (fun A outer s H vs Q E p hot hr h => ⟨_, pss_one (ps_ret (pe_and (pe_callB call_isi rfl (hb "isinstance" (by decide)) (by decide +kernel) (pa_cons (pv 0) (pa_cons (pe_bltn (v := .ty "int") rfl (hb "int" (by decide)) (by decide +kernel) rfl) pa_nil)))
    (pe_one (pe_not (pe_callB call_isi rfl (hb "isinstance" (by decide)) (by decide +kernel) (pa_cons (pv 0) (pa_cons (pe_bltn (v := .ty "bool") rfl (hb "bool" (by decide)) (by decide +kernel) rfl) pa_nil)))))))
    , ?_⟩)
  · obtain ⟨i, rfl, _⟩ := h
    rfl
  · obtain ⟨i, rfl, q⟩ := h
    refine ⟨_, rfl, .int i, .ty "int", .type "int", .type "int", true, rfl, .ty _, .base (.int _), kit_ty (by decide +kernel), true, rfl, ?_⟩
    exact ⟨_, rfl, .int i, .ty "bool", .type "int", .type "bool", false, rfl, .ty _, .base (.int _), kit_ty (by decide +kernel), false, rfl, q⟩
/-! ### _law_parsed -/
/-- what its text names -/
structure PF (K : PySem.W.Frag) (mg : Str → Option Value) (C fI C1 C2 C3 C4 C5 CR : Addr) : Prop where
  N : PySem.NotX.NotTxt K mg C fI
  E : ExcF K C
  g1 : mg "BadName" = some (.ref C1)
  g2 : mg "BadParts" = some (.ref C2)
  g3 : mg "BadStretch" = some (.ref C3)
  g4 : mg "NotBlocked" = some (.ref C4)
  g5 : mg "UnknownRow" = some (.ref C5)
  gR : mg "RowError" = some (.ref CR)
  k5 : PySem.W.kitAny K (.ref C) [.ref C1, .ref C2, .ref C3, .ref C4, .ref C5] = some false
  kR : PySem.W.kitOne K (.ref C) (.ref CR) = some true
  kV : PySem.W.kitOne K (.ref C) (.type "ValueError") = some true
  gV : mg "ValueError" = none
def b_try : BC TT :=
  bCons (scIf (tcCmp lEq (ocVar 0) (ocE (ecInt 0))) (bCons (scRet (ecF (fcLst (acCons (ecCall Fn.f_parse_fraction (acCons (ecVar 1) acNil)) acNil)))) bNil) bNil) <|
  bCons (scIf (tcCmp lEq (ocVar 0) (ocE (ecInt 1))) (bCons (scRet (ecF (fcLst (acCons (ecCall Fn.f_parse_polynomial (acCons (ecVar 1) acNil)) acNil)))) bNil) bNil) <|
  bCons (scRet (ecF (fcLst (acCons (ecCall Fn.f_parse_sum (acCons (ecVar 1) acNil)) acNil)))) bNil
def tryBody : List Stmt := match defBody s_law_parsed with
  | [.Try b _ _ _ _] => b
  | _ => []
theorem mt_try : b_try.mt ⟨n_law_parsed, defScope s_law_parsed, fnLvl .f_law_parsed - 1, fun _ => true⟩ tryBody = true := by decide +kernel
/-- what the suite asks -/
def tSu (C C1 C2 C3 C4 C5 : Addr) (a : Addr) (cls : Value) (d : Option Addr) : TS := fun D σ H => ∃ (k x : Option V) (y : Option V) (dd : Addr), σ = [k, x, some (.ref a), y] ∧ cls = .ref C ∧ d = some dd ∧ H dd = some (.xd [(("line" : Str), .int 0)]) ∧
  ∀ tp p, H tp = none → upd H tp (.tup [.ref C1, .ref C2, .ref C3, .ref C4, .ref C5]) p = none → D.rt (.ref p) (upd (upd H tp (.tup [.ref C1, .ref C2, .ref C3, .ref C4, .ref C5])) p (.lst [.bl true, .int 0]))
theorem ok_parsed {P : Program} {w : World} {K : PySem.W.Frag} {mg : Str → Option Value} {base : Heap} {f fW C fI C1 C2 C3 C4 C5 CR : Addr} {fd fdW : FuncData} (F : FunD K "_law_parsed" "_law_parsed" (defArgs s_law_parsed) (defBody s_law_parsed) (defScope s_law_parsed) [] [] f fd)
    (FW : FunD K "_law_whole" "_law_whole" (defArgs s_law_whole) (defBody s_law_whole) (defScope s_law_whole) [] [] fW fdW) (gW : mg "_law_whole" = some (.ref fW)) (bW : Binds K fdW p_law_whole []) (T : PF K mg C fI C1 C2 C3 C4 C5 CR)
    (fns : ∀ h : Fn, fnLvl h ≤ fnLvl .f_law_parsed - 1 → Knows TT P w K mg base h) (hb : ∀ x ∈ blt, mg x = none) (ci : ∀ x i, (x, i) ∈ constI → ∃ t, mg x = some (.int i t)) (cs : ∀ x i, (x, i) ∈ constS → ∃ t, mg x = some (.str i t)) (cb : ∀ x i, (x, i) ∈ [(("gcd" : Str), "math.gcd")] → mg x = some (.builtin i)) (dig : base.NoDigits) (xk : xokT K mg) :
    FnOk P w K mg base (L2N.CX P w) (fnLvl .f_law_parsed) f fd p_law_parsed (spOf ⟨K, mg⟩ d_law_parsed) := by
  have shape : ∀ {ds : List D} {G H : Hp} {q : D → Hp → Hp → Prop} {E : XK}, KRe (⟨K, mg⟩ : Mw) G H q E (d_law_parsed ds) → ∃ k x, ds = [.int k, .str x] := fun {ds G H q E} k => by
    unfold d_law_parsed at k
    split at k
    · exact ⟨_, _, rfl⟩
    · exact k.elim
  refine F.ok (CX := L2N.CX P w) sc_law_parsed (fun vs H Q E h => ?_) (fun cdv A outer s H vs Q E hr h => ?_)
  · obtain ⟨ds, G, _, r, k⟩ := h
    obtain ⟨k, x, rfl⟩ := shape k
    exact r.length
  · obtain ⟨ds, G, sm, r, k⟩ := h
    obtain ⟨n, x, rfl⟩ := shape k
    refine ⟨_, pss_one (L2N.ps_try_as (i := 2) (tb := fun W => TSv ⟨K, mg⟩ G H W b_try.den) (ts := tSu C C1 C2 C3 C4 C5) (Wout := fun _ _ _ _ => False) rfl rfl sc_law_parsed.nd rfl rfl ⟨rfl, by decide, Or.inl T.N.gC⟩ takesN0
      (fun W pn xe tk pass => b_try.ok (T := TT) (c := ⟨n_law_parsed, defScope s_law_parsed, fnLvl .f_law_parsed - 1, fun _ => true⟩) ⟨rfl, rfl, rfl, sc_law_parsed.nd, rfl, tk, hr, fns, hb, ci, cs, cb, pass, dig, xk⟩ mt_try G H)
      (fun a oe cls d pn hz hf => ?_)), ?_⟩
    · by_cases hc : cls = .ref C ∧ ∃ dd, d = some dd
      · obtain ⟨rfl, dd, rfl⟩ := hc
        have hz1 := L2N.Zn.zc hz
        have gI : mg "isinstance" = none := hb _ (by decide)
        have hot : L2H.HotC (Cx.suite (cxOf (L2N.CX P w) P w K mg base n_law_parsed "_law_parsed" (defScope s_law_parsed) f cdv A outer s H E) a ((a, oe) :: pn)) := by
          obtain ⟨vs1, hv⟩ := hf
          exact ⟨(a, oe), ⟨rfl, vs1, hv, hz.2.2 vs1 hv⟩, List.mem_cons_self⟩
        have h0 := L2H.roomH_of (hr.mono (by decide : 1 ≤ fnLvl .f_law_parsed - 1))
        have hrH : L2H.RoomH 1 (Cx.suite (cxOf (L2N.CX P w) P w K mg base n_law_parsed "_law_parsed" (defScope s_law_parsed) f cdv A outer s H E) a ((a, oe) :: pn)).A := ⟨h0.dp, h0.un⟩
        refine L2.PSs.weak (pss_cons (ps_set (i := 3) sc_law_parsed.nd rfl (Or.inl rfl)
          (pe_not (pe_callB (call_isNT T.E hz1 hf) rfl gI (by decide +kernel) (pa_cons (pv 2) (pa_cons (pe_tup
            (pa_cons (pe_glob (v := .ref C1) rfl T.g1 rfl) (pa_cons (pe_glob (v := .ref C2) rfl T.g2 rfl) (pa_cons (pe_glob (v := .ref C3) rfl T.g3 rfl) (pa_cons (pe_glob (v := .ref C4) rfl T.g4 rfl) (pa_cons (pe_glob (v := .ref C5) rfl T.g5 rfl) pa_nil)))))) pa_nil)))))
          (pss_one (ps_ret (pe_lst (pa_cons (pe_and (pv 3) (pe_and (pe_callB (call_isN T.E hz1 hf) rfl gI (by decide +kernel) (pa_cons (pv 2) (pa_cons (pe_glob (v := .ref CR) rfl T.gR rfl) pa_nil)))
            (pe_and (pe_callB (call_isN T.E hz1 hf) rfl gI (by decide +kernel) (pa_cons (pv 2) (pa_cons (pe_bltn (v := .ty "ValueError") rfl T.gV (by decide +kernel) rfl) pa_nil)))
              (pe_one (L2H.pe_callH (E := fun _ _ _ _ => False) (okH_whole FW hb) hrH hot rfl gW FW.kp bW (fun σ pins H s e s' _ h => h.elim) (pa_cons (pe_byNot T.N hz1 hf (pv 2)) pa_nil))))))
            (pa_cons (pe_byNot T.N hz1 hf (pv 2)) pa_nil)))))) (fun D σ H h => ?_)
        obtain ⟨kk, xx, yy, dd', rfl, _, e2, hdd, hret⟩ := h
        cases e2
        refine ⟨.ref a, rfl, ?_⟩
        refine ⟨(by decide : (5 : Nat) ≤ sizeLine), fun tp htp => ?_⟩
        have hdd2 : ∀ u, upd H tp u dd = some (.xd [(("line" : Str), V.int 0)]) := fun u => by
          rw [upd_ne (ne_of_none hdd htp)]
          exact hdd
        refine ⟨tp, _, [.ref C1, .ref C2, .ref C3, .ref C4, .ref C5], false, _, rfl, upd_same, .cons (.own _) (.cons (.own _) (.cons (.own _) (.cons (.own _) (.cons (.own _) .nil)))), T.k5, hdd2 _, false, rfl, ?_⟩
        refine ⟨_, rfl, true, rfl, ?_⟩
        refine ⟨.ref a, rfl, .ref CR, .ref CR, true, _, rfl, .own _, T.kR, hdd2 _, true, rfl, ?_⟩
        refine ⟨.ref a, rfl, .ty "ValueError", .type "ValueError", true, _, rfl, .ty _, T.kV, hdd2 _, true, rfl, ?_⟩
        refine ⟨.ref a, rfl, rfl, rfl, dd, .int 0, rfl, hdd2 _, 0, rfl, ?_⟩
        refine ⟨.ref a, rfl, rfl, rfl, dd, .int 0, rfl, hdd2 _, (by decide : (2 : Nat) ≤ sizeLine), fun p hp => ?_⟩
        exact hret tp p htp hp
      · refine ⟨fun pins s2 σ2 H2 D2 I h2 => ?_⟩
        obtain ⟨_, _, _, dd, _, e1, e2, _⟩ := h2
        exact absurd ⟨e1, dd, e2⟩ hc
    · have key : ∀ (b : Re D), b_try.den [.sh (.int n), .sh (.str x), .no, .no] = (b.bind fun d => .ok (.lst [d])).st [.sh (.int n), .sh (.str x), .no, .no] .rt → d_law_parsed [.int n, .str x] = parsedOf b → TSv ⟨K, mg⟩ G H (wAs K (.ref C) 2 (tSu C C1 C2 C3 C4 C5) (fun _ _ _ _ => False) { nx := fun _ H' => Q .non H', rt := Q }) b_try.den { nx := fun _ H' => Q .non H', rt := Q } (L2.start n_law_parsed vs) H := fun b e1 e2 => by
        refine ⟨[.sh (.int n), .sh (.str x), .no, .no], G, rel_start (N := n_law_parsed) sm r, ?_⟩
        rw [e1]
        rw [e2] at k
        cases b with
        | ok d =>
          intro v G' H' s1 x1 r1
          exact k G' H' x1 v r1
        | no => exact k.elim
        | ex e =>
          intro cls dq σ G' H' s1 R1 rx
          unfold parsedOf at k
          split at k
          · rename_i h3
            cases h3
          · rename_i c' f' i' h3
            cases h3
            split at k
            · rename_i h4
              obtain ⟨rfl, rfl, rfl⟩ := h4
              obtain ⟨C', g1, rfl, g2⟩ := rx
              have eC : C' = C := by
                have z := g1.symm.trans T.N.gC
                cases z
                rfl
              subst eC
              rcases g2 with ⟨z, _⟩ | ⟨d2, fv, rfl, g3, g4⟩
              · cases z
              · cases g4 with
                | cons q1 q2 =>
                  cases q1
                  cases q2
                  refine ⟨true, T.N.te, fun _ a ha => ?_, fun q => (by cases q)⟩
                  have hl := R1.len
                  match σ, hl with
                  | [s0, s1', s2, s3], _ =>
                    refine ⟨s0, s1', s3, d2, rfl, rfl, rfl, R1.le _ _ g3, fun tp p htp hp => ?_⟩
                    have x1 := R1.out
                    have x2 := Ext.priv (o := .tup [.ref C1, .ref C2, .ref C3, .ref C4, .ref C5]) R1.le htp
                    have x3 := Ext.both (o := .lst [.bl true, .int 0]) x2.le hp
                    exact k _ _ (x1.trans (x2.trans x3)) _ (.lst upd_same (.cons (.bl _) (.cons (.int _) .nil)))
            · exact k.elim
          · exact k.elim
          · rename_i h3
            cases h3
      by_cases h0 : n = 0
      · refine key (d_parse_fraction [.str x]) ?_ ?_
        · simp [b_try, dVarO, dVar, h0, dAll]
          cases d_parse_fraction [.str x] <;> simp
        · simp [d_law_parsed, h0]
      · by_cases h1 : n = 1
        · refine key (d_parse_polynomial [.str x]) ?_ ?_
          · simp [b_try, dVarO, dVar, h0, h1, dAll]
            cases d_parse_polynomial [.str x] <;> simp
          · simp [d_law_parsed, h0, h1]
        · refine key (d_parse_sum [.str x]) ?_ ?_
          · simp [b_try, dVarO, dVar, h0, h1, dAll]
            cases d_parse_sum [.str x] <;> simp
          · simp [d_law_parsed, h0, h1]
end RJ

set_option Elab.async false
set_option linter.all false
set_option maxRecDepth 100000
set_option maxHeartbeats 4000000
set_option autoImplicit false
/-! printed by genkn.py: every def keeps its promise. -/
namespace RJ
open PySem PySem.Spec L2
section
variable {P : Program} {w : World} {K : PySem.W.Frag} {mg : Str → Option Value} {base : Heap}
theorem bltJ (X : K.In base) (G : base.Ns mainGlobals mg) (c : He.SaysD faJ fnJ K) : ∀ x ∈ blt, mg x = none := fun x hx => by
  simp only [blt, List.mem_cons, List.not_mem_nil, or_false] at hx
  rcases hx with rfl | rfl | rfl | rfl | rfl | rfl | rfl | rfl | rfl | rfl | rfl | rfl | rfl | rfl | rfl | rfl | rfl | rfl | rfl | rfl
  · exact He.free_ok X G (c.fact 50 (f := .free "len") rfl)
  · exact He.free_ok X G (c.fact 51 (f := .free "range") rfl)
  · exact He.free_ok X G (c.fact 52 (f := .free "sorted") rfl)
  · exact He.free_ok X G (c.fact 53 (f := .free "list") rfl)
  · exact He.free_ok X G (c.fact 54 (f := .free "tuple") rfl)
  · exact He.free_ok X G (c.fact 55 (f := .free "int") rfl)
  · exact He.free_ok X G (c.fact 56 (f := .free "str") rfl)
  · exact He.free_ok X G (c.fact 57 (f := .free "bool") rfl)
  · exact He.free_ok X G (c.fact 58 (f := .free "abs") rfl)
  · exact He.free_ok X G (c.fact 59 (f := .free "min") rfl)
  · exact He.free_ok X G (c.fact 60 (f := .free "max") rfl)
  · exact He.free_ok X G (c.fact 61 (f := .free "isinstance") rfl)
  · exact He.free_ok X G (c.fact 62 (f := .free "divmod") rfl)
  · exact He.free_ok X G (c.fact 63 (f := .free "zip") rfl)
  · exact He.free_ok X G (c.fact 64 (f := .free "sum") rfl)
  · exact He.free_ok X G (c.fact 65 (f := .free "reversed") rfl)
  · exact He.free_ok X G (c.fact 66 (f := .free "enumerate") rfl)
  · exact He.free_ok X G (c.fact 67 (f := .free "any") rfl)
  · exact He.free_ok X G (c.fact 68 (f := .free "all") rfl)
  · exact He.free_ok X G (c.fact 69 (f := .free "iter") rfl)
theorem ciJ (X : K.In base) (G : base.Ns mainGlobals mg) (c : He.SaysD faJ fnJ K) : ∀ x i, (x, i) ∈ constI → ∃ t, mg x = some (.int i t) := fun x i hx => by
  simp only [constI, List.mem_cons, List.not_mem_nil, or_false, Prod.mk.injEq] at hx
  rcases hx with ⟨rfl, rfl⟩ | ⟨rfl, rfl⟩ | ⟨rfl, rfl⟩
  · exact He.int_ok X G (c.fact 71 (f := .int "LONGEST" 10) rfl)
  · exact He.int_ok X G (c.fact 72 (f := .int "WIDTH" 64) rfl)
  · exact He.int_ok X G (c.fact 73 (f := .int "PIECE" 10000000000000000000000000000000000000000000000000000000000000000) rfl)
theorem csJ (X : K.In base) (G : base.Ns mainGlobals mg) (c : He.SaysD faJ fnJ K) : ∀ x i, (x, i) ∈ constS → ∃ t, mg x = some (.str i t) := fun x i hx => by
  simp only [constS, List.mem_cons, List.not_mem_nil, or_false, Prod.mk.injEq] at hx
  rcases hx with ⟨rfl, rfl⟩ | ⟨rfl, rfl⟩ | ⟨rfl, rfl⟩
  · exact He.str_ok X G (c.fact 74 (f := .str "LETTERS" "abcdefghijklmnopqrstuvwxyz") rfl)
  · exact He.str_ok X G (c.fact 75 (f := .str "SIGNS" "abcdefghijklmnopqrstuvwxyz0123456789") rfl)
  · exact He.str_ok X G (c.fact 76 (f := .str "DIGITS" "0123456789") rfl)
theorem cbJ (X : K.In base) (G : base.Ns mainGlobals mg) (ex : exJ K = true) : ∀ x i, (x, i) ∈ [(("gcd" : Str), "math.gcd")] → mg x = some (.builtin i) := fun x i hx => by
  simp only [List.mem_cons, List.not_mem_nil, or_false, Prod.mk.injEq] at hx
  obtain ⟨rfl, rfl⟩ := hx
  simp only [exJ, Bool.and_eq_true] at ex
  exact PySem.W.mg_of X G (He.eqO_ok ex.2.2.2.2)
theorem digJ (X : K.In base) (ex : exJ K = true) : base.NoDigits := by
  simp only [exJ, Bool.and_eq_true] at ex
  exact digB_ok X ex.1
theorem notJ (X : K.In base) (G : base.Ns mainGlobals mg) (c : He.SaysD faJ fnJ K) (ex : exJ K = true) : PySem.NotX.NotTxt K mg (He.ga K "BadNotation") (He.ma K (He.ga K "BadNotation") "__init__") := by
  simp only [exJ, notB, Bool.and_eq_true, decide_eq_true_eq] at ex
  obtain ⟨_, ⟨h1, h2, h3, h4, h5, h6, h7, h8, h9, h10, h11, h12⟩, _⟩ := ex
  obtain ⟨fd, F⟩ := c.def_ 50 (d := df_init) rfl
  obtain ⟨oc, od, dV, kV, doc, pm, an, cdv, ct, osl, e1, e2, e3, e4, _⟩ := F.ex
  have e5 : dV = .none := by
    rcases e4 with ⟨_, e⟩ | ⟨e, _⟩
    · exact e
    · exact absurd rfl e
  subst e5 e1
  exact { gC := He.glo_ok X G (c.fact (77 + 6) (f := .glo "BadNotation") rfl), cls := clsB_ok h1, sa := He.eqO_ok h2, ga := He.eqO_ok h3, gg := He.eqO_ok h4, noN := He.eqO_ok h5, iC := He.eqO_ok h6, tC := h7, kC := h8, exC := h9, tyC := h10, hdC := h11, te := h12, fn := ⟨_, _, _, _, _, _, _, _, _, _, _, _, _, _, _, e2, e3⟩ }
theorem xkJ (X : K.In base) (G : base.Ns mainGlobals mg) (c : He.SaysD faJ fnJ K) (ex : exJ K = true) : xokT K mg := ⟨_, _, notJ X G c ex⟩
theorem fd_polynomial (c : He.SaysD faJ fnJ K) : ∃ fd, FunD K "polynomial" "polynomial" (defArgs s_polynomial) (defBody s_polynomial) (defScope s_polynomial) [] [] (He.ga K "polynomial") fd := c.def_ 0 (d := df_polynomial) rfl
theorem bd_polynomial {a : Addr} {fd : FuncData} (F : FunD K "polynomial" "polynomial" (defArgs s_polynomial) (defBody s_polynomial) (defScope s_polynomial) [] [] a fd) : Binds K fd p_polynomial [] := F.bindsN fun _ _ _ _ _ _ us hl => match us, hl with | [_], _ => rfl
theorem kn_polynomial (X : K.In base) (G : base.Ns mainGlobals mg) (c : He.SaysD faJ fnJ K) (ex : exJ K = true) (fns : ∀ h : Fn, fnLvl h ≤ fnLvl .f_polynomial - 1 → Knows TT P w K mg base h) : Knows TT P w K mg base .f_polynomial := by
  obtain ⟨fd, F⟩ := fd_polynomial c
  exact ⟨_, fd, p_polynomial, He.glo_ok X G (c.fact 0 (f := .glo "polynomial") rfl), F.kp, rfl, bd_polynomial F, def_ok F sc_polynomial (b_polynomial dAll) mt_polynomial do_polynomial fns (bltJ X G c) (ciJ X G c) (csJ X G c) (cbJ X G ex) (digJ X ex) (xkJ X G c ex)⟩
theorem fd_poly_times (c : He.SaysD faJ fnJ K) : ∃ fd, FunD K "poly_times" "poly_times" (defArgs s_poly_times) (defBody s_poly_times) (defScope s_poly_times) [] [] (He.ga K "poly_times") fd := c.def_ 1 (d := df_poly_times) rfl
theorem bd_poly_times {a : Addr} {fd : FuncData} (F : FunD K "poly_times" "poly_times" (defArgs s_poly_times) (defBody s_poly_times) (defScope s_poly_times) [] [] a fd) : Binds K fd p_poly_times [] := F.bindsN fun _ _ _ _ _ _ us hl => match us, hl with | [_, _], _ => rfl
theorem kn_poly_times (X : K.In base) (G : base.Ns mainGlobals mg) (c : He.SaysD faJ fnJ K) (ex : exJ K = true) (fns : ∀ h : Fn, fnLvl h ≤ fnLvl .f_poly_times - 1 → Knows TT P w K mg base h) : Knows TT P w K mg base .f_poly_times := by
  obtain ⟨fd, F⟩ := fd_poly_times c
  exact ⟨_, fd, p_poly_times, He.glo_ok X G (c.fact 1 (f := .glo "poly_times") rfl), F.kp, rfl, bd_poly_times F, def_ok F sc_poly_times (b_poly_times dAll) mt_poly_times do_poly_times fns (bltJ X G c) (ciJ X G c) (csJ X G c) (cbJ X G ex) (digJ X ex) (xkJ X G c ex)⟩
theorem fd_ratio (c : He.SaysD faJ fnJ K) : ∃ fd, FunD K "ratio" "ratio" (defArgs s_ratio) (defBody s_ratio) (defScope s_ratio) [] [] (He.ga K "ratio") fd := c.def_ 2 (d := df_ratio) rfl
theorem bd_ratio {a : Addr} {fd : FuncData} (F : FunD K "ratio" "ratio" (defArgs s_ratio) (defBody s_ratio) (defScope s_ratio) [] [] a fd) : Binds K fd p_ratio [] := F.bindsN fun _ _ _ _ _ _ us hl => match us, hl with | [_, _], _ => rfl
theorem kn_ratio (X : K.In base) (G : base.Ns mainGlobals mg) (c : He.SaysD faJ fnJ K) (ex : exJ K = true) (fns : ∀ h : Fn, fnLvl h ≤ fnLvl .f_ratio - 1 → Knows TT P w K mg base h) : Knows TT P w K mg base .f_ratio := by
  obtain ⟨fd, F⟩ := fd_ratio c
  exact ⟨_, fd, p_ratio, He.glo_ok X G (c.fact 2 (f := .glo "ratio") rfl), F.kp, rfl, bd_ratio F, def_ok F sc_ratio (b_ratio dAll) mt_ratio do_ratio fns (bltJ X G c) (ciJ X G c) (csJ X G c) (cbJ X G ex) (digJ X ex) (xkJ X G c ex)⟩
theorem fd_parts_of (c : He.SaysD faJ fnJ K) : ∃ fd, FunD K "parts_of" "parts_of" (defArgs s_parts_of) (defBody s_parts_of) (defScope s_parts_of) [] [] (He.ga K "parts_of") fd := c.def_ 3 (d := df_parts_of) rfl
theorem bd_parts_of {a : Addr} {fd : FuncData} (F : FunD K "parts_of" "parts_of" (defArgs s_parts_of) (defBody s_parts_of) (defScope s_parts_of) [] [] a fd) : Binds K fd p_parts_of [] := F.bindsN fun _ _ _ _ _ _ us hl => match us, hl with | [_], _ => rfl
theorem kn_parts_of (X : K.In base) (G : base.Ns mainGlobals mg) (c : He.SaysD faJ fnJ K) (ex : exJ K = true) (fns : ∀ h : Fn, fnLvl h ≤ fnLvl .f_parts_of - 1 → Knows TT P w K mg base h) : Knows TT P w K mg base .f_parts_of := by
  obtain ⟨fd, F⟩ := fd_parts_of c
  exact ⟨_, fd, p_parts_of, He.glo_ok X G (c.fact 3 (f := .glo "parts_of") rfl), F.kp, rfl, bd_parts_of F, def_ok F sc_parts_of (b_parts_of dAll) mt_parts_of do_parts_of fns (bltJ X G c) (ciJ X G c) (csJ X G c) (cbJ X G ex) (digJ X ex) (xkJ X G c ex)⟩
theorem fd_fraction (c : He.SaysD faJ fnJ K) : ∃ fd, FunD K "fraction" "fraction" (defArgs s_fraction) (defBody s_fraction) (defScope s_fraction) [] [] (He.ga K "fraction") fd := c.def_ 4 (d := df_fraction) rfl
theorem bd_fraction {a : Addr} {fd : FuncData} (F : FunD K "fraction" "fraction" (defArgs s_fraction) (defBody s_fraction) (defScope s_fraction) [] [] a fd) : Binds K fd p_fraction [] := F.bindsN fun _ _ _ _ _ _ us hl => match us, hl with | [_], _ => rfl
theorem kn_fraction (X : K.In base) (G : base.Ns mainGlobals mg) (c : He.SaysD faJ fnJ K) (ex : exJ K = true) (fns : ∀ h : Fn, fnLvl h ≤ fnLvl .f_fraction - 1 → Knows TT P w K mg base h) : Knows TT P w K mg base .f_fraction := by
  obtain ⟨fd, F⟩ := fd_fraction c
  exact ⟨_, fd, p_fraction, He.glo_ok X G (c.fact 4 (f := .glo "fraction") rfl), F.kp, rfl, bd_fraction F, def_ok F sc_fraction (b_fraction dAll) mt_fraction do_fraction fns (bltJ X G c) (ciJ X G c) (csJ X G c) (cbJ X G ex) (digJ X ex) (xkJ X G c ex)⟩
theorem fd_times (c : He.SaysD faJ fnJ K) : ∃ fd, FunD K "times" "times" (defArgs s_times) (defBody s_times) (defScope s_times) [] [] (He.ga K "times") fd := c.def_ 5 (d := df_times) rfl
theorem bd_times {a : Addr} {fd : FuncData} (F : FunD K "times" "times" (defArgs s_times) (defBody s_times) (defScope s_times) [] [] a fd) : Binds K fd p_times [] := F.bindsN fun _ _ _ _ _ _ us hl => match us, hl with | [_, _], _ => rfl
theorem kn_times (X : K.In base) (G : base.Ns mainGlobals mg) (c : He.SaysD faJ fnJ K) (ex : exJ K = true) (fns : ∀ h : Fn, fnLvl h ≤ fnLvl .f_times - 1 → Knows TT P w K mg base h) : Knows TT P w K mg base .f_times := by
  obtain ⟨fd, F⟩ := fd_times c
  exact ⟨_, fd, p_times, He.glo_ok X G (c.fact 5 (f := .glo "times") rfl), F.kp, rfl, bd_times F, def_ok F sc_times (b_times dAll) mt_times do_times fns (bltJ X G c) (ciJ X G c) (csJ X G c) (cbJ X G ex) (digJ X ex) (xkJ X G c ex)⟩
theorem fd_is_row_name (c : He.SaysD faJ fnJ K) : ∃ fd, FunD K "is_row_name" "is_row_name" (defArgs s_is_row_name) (defBody s_is_row_name) (defScope s_is_row_name) [] [] (He.ga K "is_row_name") fd := c.def_ 6 (d := df_is_row_name) rfl
theorem bd_is_row_name {a : Addr} {fd : FuncData} (F : FunD K "is_row_name" "is_row_name" (defArgs s_is_row_name) (defBody s_is_row_name) (defScope s_is_row_name) [] [] a fd) : Binds K fd p_is_row_name [] := F.bindsN fun _ _ _ _ _ _ us hl => match us, hl with | [_], _ => rfl
theorem kn_is_row_name (X : K.In base) (G : base.Ns mainGlobals mg) (c : He.SaysD faJ fnJ K) (ex : exJ K = true) (fns : ∀ h : Fn, fnLvl h ≤ fnLvl .f_is_row_name - 1 → Knows TT P w K mg base h) : Knows TT P w K mg base .f_is_row_name := by
  obtain ⟨fd, F⟩ := fd_is_row_name c
  exact ⟨_, fd, p_is_row_name, He.glo_ok X G (c.fact 6 (f := .glo "is_row_name") rfl), F.kp, rfl, bd_is_row_name F, def_ok F sc_is_row_name (b_is_row_name dAll) mt_is_row_name do_is_row_name fns (bltJ X G c) (ciJ X G c) (csJ X G c) (cbJ X G ex) (digJ X ex) (xkJ X G c ex)⟩
theorem fd_terms_of (c : He.SaysD faJ fnJ K) : ∃ fd, FunD K "terms_of" "terms_of" (defArgs s_terms_of) (defBody s_terms_of) (defScope s_terms_of) [] [] (He.ga K "terms_of") fd := c.def_ 7 (d := df_terms_of) rfl
theorem bd_terms_of {a : Addr} {fd : FuncData} (F : FunD K "terms_of" "terms_of" (defArgs s_terms_of) (defBody s_terms_of) (defScope s_terms_of) [] [] a fd) : Binds K fd p_terms_of [] := F.bindsN fun _ _ _ _ _ _ us hl => match us, hl with | [_], _ => rfl
theorem kn_terms_of (X : K.In base) (G : base.Ns mainGlobals mg) (c : He.SaysD faJ fnJ K) (ex : exJ K = true) (fns : ∀ h : Fn, fnLvl h ≤ fnLvl .f_terms_of - 1 → Knows TT P w K mg base h) : Knows TT P w K mg base .f_terms_of := by
  obtain ⟨fd, F⟩ := fd_terms_of c
  exact ⟨_, fd, p_terms_of, He.glo_ok X G (c.fact 7 (f := .glo "terms_of") rfl), F.kp, rfl, bd_terms_of F, def_ok F sc_terms_of (b_terms_of dAll) mt_terms_of do_terms_of fns (bltJ X G c) (ciJ X G c) (csJ X G c) (cbJ X G ex) (digJ X ex) (xkJ X G c ex)⟩
theorem fd_ordered (c : He.SaysD faJ fnJ K) : ∃ fd, FunD K "ordered" "ordered" (defArgs s_ordered) (defBody s_ordered) (defScope s_ordered) [] [] (He.ga K "ordered") fd := c.def_ 8 (d := df_ordered) rfl
theorem bd_ordered {a : Addr} {fd : FuncData} (F : FunD K "ordered" "ordered" (defArgs s_ordered) (defBody s_ordered) (defScope s_ordered) [] [] a fd) : Binds K fd p_ordered [] := F.bindsN fun _ _ _ _ _ _ us hl => match us, hl with | [_], _ => rfl
theorem kn_ordered (X : K.In base) (G : base.Ns mainGlobals mg) (c : He.SaysD faJ fnJ K) (ex : exJ K = true) (fns : ∀ h : Fn, fnLvl h ≤ fnLvl .f_ordered - 1 → Knows TT P w K mg base h) : Knows TT P w K mg base .f_ordered := by
  obtain ⟨fd, F⟩ := fd_ordered c
  exact ⟨_, fd, p_ordered, He.glo_ok X G (c.fact 8 (f := .glo "ordered") rfl), F.kp, rfl, bd_ordered F, def_ok F sc_ordered (b_ordered dAll) mt_ordered do_ordered fns (bltJ X G c) (ciJ X G c) (csJ X G c) (cbJ X G ex) (digJ X ex) (xkJ X G c ex)⟩
theorem fd_sum_times (c : He.SaysD faJ fnJ K) : ∃ fd, FunD K "sum_times" "sum_times" (defArgs s_sum_times) (defBody s_sum_times) (defScope s_sum_times) [] [] (He.ga K "sum_times") fd := c.def_ 9 (d := df_sum_times) rfl
theorem bd_sum_times {a : Addr} {fd : FuncData} (F : FunD K "sum_times" "sum_times" (defArgs s_sum_times) (defBody s_sum_times) (defScope s_sum_times) [] [] a fd) : Binds K fd p_sum_times [] := F.bindsN fun _ _ _ _ _ _ us hl => match us, hl with | [_, _], _ => rfl
theorem kn_sum_times (X : K.In base) (G : base.Ns mainGlobals mg) (c : He.SaysD faJ fnJ K) (ex : exJ K = true) (fns : ∀ h : Fn, fnLvl h ≤ fnLvl .f_sum_times - 1 → Knows TT P w K mg base h) : Knows TT P w K mg base .f_sum_times := by
  obtain ⟨fd, F⟩ := fd_sum_times c
  exact ⟨_, fd, p_sum_times, He.glo_ok X G (c.fact 9 (f := .glo "sum_times") rfl), F.kp, rfl, bd_sum_times F, def_ok F sc_sum_times (b_sum_times dAll) mt_sum_times do_sum_times fns (bltJ X G c) (ciJ X G c) (csJ X G c) (cbJ X G ex) (digJ X ex) (xkJ X G c ex)⟩
theorem fd_written (c : He.SaysD faJ fnJ K) : ∃ fd, FunD K "written" "written" (defArgs s_written) (defBody s_written) (defScope s_written) [] [] (He.ga K "written") fd := c.def_ 10 (d := df_written) rfl
theorem bd_written {a : Addr} {fd : FuncData} (F : FunD K "written" "written" (defArgs s_written) (defBody s_written) (defScope s_written) [] [] a fd) : Binds K fd p_written [] := F.bindsN fun _ _ _ _ _ _ us hl => match us, hl with | [_], _ => rfl
theorem kn_written (X : K.In base) (G : base.Ns mainGlobals mg) (c : He.SaysD faJ fnJ K) (ex : exJ K = true) (fns : ∀ h : Fn, fnLvl h ≤ fnLvl .f_written - 1 → Knows TT P w K mg base h) : Knows TT P w K mg base .f_written := by
  obtain ⟨fd, F⟩ := fd_written c
  exact ⟨_, fd, p_written, He.glo_ok X G (c.fact 10 (f := .glo "written") rfl), F.kp, rfl, bd_written F, def_ok F sc_written (b_written dAll) mt_written do_written fns (bltJ X G c) (ciJ X G c) (csJ X G c) (cbJ X G ex) (digJ X ex) (xkJ X G c ex)⟩
theorem fd_format_fraction (c : He.SaysD faJ fnJ K) : ∃ fd, FunD K "format_fraction" "format_fraction" (defArgs s_format_fraction) (defBody s_format_fraction) (defScope s_format_fraction) [] [] (He.ga K "format_fraction") fd := c.def_ 11 (d := df_format_fraction) rfl
theorem bd_format_fraction {a : Addr} {fd : FuncData} (F : FunD K "format_fraction" "format_fraction" (defArgs s_format_fraction) (defBody s_format_fraction) (defScope s_format_fraction) [] [] a fd) : Binds K fd p_format_fraction [] := F.bindsN fun _ _ _ _ _ _ us hl => match us, hl with | [_], _ => rfl
theorem kn_format_fraction (X : K.In base) (G : base.Ns mainGlobals mg) (c : He.SaysD faJ fnJ K) (ex : exJ K = true) (fns : ∀ h : Fn, fnLvl h ≤ fnLvl .f_format_fraction - 1 → Knows TT P w K mg base h) : Knows TT P w K mg base .f_format_fraction := by
  obtain ⟨fd, F⟩ := fd_format_fraction c
  exact ⟨_, fd, p_format_fraction, He.glo_ok X G (c.fact 11 (f := .glo "format_fraction") rfl), F.kp, rfl, bd_format_fraction F, def_ok F sc_format_fraction (b_format_fraction dAll) mt_format_fraction do_format_fraction fns (bltJ X G c) (ciJ X G c) (csJ X G c) (cbJ X G ex) (digJ X ex) (xkJ X G c ex)⟩
theorem fd_format_polynomial (c : He.SaysD faJ fnJ K) : ∃ fd, FunD K "format_polynomial" "format_polynomial" (defArgs s_format_polynomial) (defBody s_format_polynomial) (defScope s_format_polynomial) [] [] (He.ga K "format_polynomial") fd := c.def_ 12 (d := df_format_polynomial) rfl
theorem bd_format_polynomial {a : Addr} {fd : FuncData} (F : FunD K "format_polynomial" "format_polynomial" (defArgs s_format_polynomial) (defBody s_format_polynomial) (defScope s_format_polynomial) [] [] a fd) : Binds K fd p_format_polynomial [] := F.bindsN fun _ _ _ _ _ _ us hl => match us, hl with | [_], _ => rfl
theorem kn_format_polynomial (X : K.In base) (G : base.Ns mainGlobals mg) (c : He.SaysD faJ fnJ K) (ex : exJ K = true) (fns : ∀ h : Fn, fnLvl h ≤ fnLvl .f_format_polynomial - 1 → Knows TT P w K mg base h) : Knows TT P w K mg base .f_format_polynomial := by
  obtain ⟨fd, F⟩ := fd_format_polynomial c
  exact ⟨_, fd, p_format_polynomial, He.glo_ok X G (c.fact 12 (f := .glo "format_polynomial") rfl), F.kp, rfl, bd_format_polynomial F, def_ok F sc_format_polynomial (b_format_polynomial dAll) mt_format_polynomial do_format_polynomial fns (bltJ X G c) (ciJ X G c) (csJ X G c) (cbJ X G ex) (digJ X ex) (xkJ X G c ex)⟩
theorem fd_format_sum (c : He.SaysD faJ fnJ K) : ∃ fd, FunD K "format_sum" "format_sum" (defArgs s_format_sum) (defBody s_format_sum) (defScope s_format_sum) [] [] (He.ga K "format_sum") fd := c.def_ 13 (d := df_format_sum) rfl
theorem bd_format_sum {a : Addr} {fd : FuncData} (F : FunD K "format_sum" "format_sum" (defArgs s_format_sum) (defBody s_format_sum) (defScope s_format_sum) [] [] a fd) : Binds K fd p_format_sum [] := F.bindsN fun _ _ _ _ _ _ us hl => match us, hl with | [_], _ => rfl
theorem kn_format_sum (X : K.In base) (G : base.Ns mainGlobals mg) (c : He.SaysD faJ fnJ K) (ex : exJ K = true) (fns : ∀ h : Fn, fnLvl h ≤ fnLvl .f_format_sum - 1 → Knows TT P w K mg base h) : Knows TT P w K mg base .f_format_sum := by
  obtain ⟨fd, F⟩ := fd_format_sum c
  exact ⟨_, fd, p_format_sum, He.glo_ok X G (c.fact 13 (f := .glo "format_sum") rfl), F.kp, rfl, bd_format_sum F, def_ok F sc_format_sum (b_format_sum dAll) mt_format_sum do_format_sum fns (bltJ X G c) (ciJ X G c) (csJ X G c) (cbJ X G ex) (digJ X ex) (xkJ X G c ex)⟩
theorem fd_whole_number (c : He.SaysD faJ fnJ K) : ∃ fd, FunD K "whole_number" "whole_number" (defArgs s_whole_number) (defBody s_whole_number) (defScope s_whole_number) [] [] (He.ga K "whole_number") fd := c.def_ 14 (d := df_whole_number) rfl
theorem bd_whole_number {a : Addr} {fd : FuncData} (F : FunD K "whole_number" "whole_number" (defArgs s_whole_number) (defBody s_whole_number) (defScope s_whole_number) [] [] a fd) : Binds K fd p_whole_number [] := F.bindsN fun _ _ _ _ _ _ us hl => match us, hl with | [_], _ => rfl
theorem kn_whole_number (X : K.In base) (G : base.Ns mainGlobals mg) (c : He.SaysD faJ fnJ K) (ex : exJ K = true) (fns : ∀ h : Fn, fnLvl h ≤ fnLvl .f_whole_number - 1 → Knows TT P w K mg base h) : Knows TT P w K mg base .f_whole_number := by
  obtain ⟨fd, F⟩ := fd_whole_number c
  exact ⟨_, fd, p_whole_number, He.glo_ok X G (c.fact 14 (f := .glo "whole_number") rfl), F.kp, rfl, bd_whole_number F, def_ok F sc_whole_number (b_whole_number dAll) mt_whole_number do_whole_number fns (bltJ X G c) (ciJ X G c) (csJ X G c) (cbJ X G ex) (digJ X ex) (xkJ X G c ex)⟩
theorem fd_read_fraction (c : He.SaysD faJ fnJ K) : ∃ fd, FunD K "read_fraction" "read_fraction" (defArgs s_read_fraction) (defBody s_read_fraction) (defScope s_read_fraction) [] [] (He.ga K "read_fraction") fd := c.def_ 15 (d := df_read_fraction) rfl
theorem bd_read_fraction {a : Addr} {fd : FuncData} (F : FunD K "read_fraction" "read_fraction" (defArgs s_read_fraction) (defBody s_read_fraction) (defScope s_read_fraction) [] [] a fd) : Binds K fd p_read_fraction [] := F.bindsN fun _ _ _ _ _ _ us hl => match us, hl with | [_], _ => rfl
theorem kn_read_fraction (X : K.In base) (G : base.Ns mainGlobals mg) (c : He.SaysD faJ fnJ K) (ex : exJ K = true) (fns : ∀ h : Fn, fnLvl h ≤ fnLvl .f_read_fraction - 1 → Knows TT P w K mg base h) : Knows TT P w K mg base .f_read_fraction := by
  obtain ⟨fd, F⟩ := fd_read_fraction c
  exact ⟨_, fd, p_read_fraction, He.glo_ok X G (c.fact 15 (f := .glo "read_fraction") rfl), F.kp, rfl, bd_read_fraction F, def_ok F sc_read_fraction (b_read_fraction dAll) mt_read_fraction do_read_fraction fns (bltJ X G c) (ciJ X G c) (csJ X G c) (cbJ X G ex) (digJ X ex) (xkJ X G c ex)⟩
theorem fd_read_polynomial (c : He.SaysD faJ fnJ K) : ∃ fd, FunD K "read_polynomial" "read_polynomial" (defArgs s_read_polynomial) (defBody s_read_polynomial) (defScope s_read_polynomial) [] [] (He.ga K "read_polynomial") fd := c.def_ 16 (d := df_read_polynomial) rfl
theorem bd_read_polynomial {a : Addr} {fd : FuncData} (F : FunD K "read_polynomial" "read_polynomial" (defArgs s_read_polynomial) (defBody s_read_polynomial) (defScope s_read_polynomial) [] [] a fd) : Binds K fd p_read_polynomial [] := F.bindsN fun _ _ _ _ _ _ us hl => match us, hl with | [_], _ => rfl
theorem kn_read_polynomial (X : K.In base) (G : base.Ns mainGlobals mg) (c : He.SaysD faJ fnJ K) (ex : exJ K = true) (fns : ∀ h : Fn, fnLvl h ≤ fnLvl .f_read_polynomial - 1 → Knows TT P w K mg base h) : Knows TT P w K mg base .f_read_polynomial := by
  obtain ⟨fd, F⟩ := fd_read_polynomial c
  exact ⟨_, fd, p_read_polynomial, He.glo_ok X G (c.fact 16 (f := .glo "read_polynomial") rfl), F.kp, rfl, bd_read_polynomial F, def_ok F sc_read_polynomial (b_read_polynomial dAll) mt_read_polynomial do_read_polynomial fns (bltJ X G c) (ciJ X G c) (csJ X G c) (cbJ X G ex) (digJ X ex) (xkJ X G c ex)⟩
theorem fd_read_sum (c : He.SaysD faJ fnJ K) : ∃ fd, FunD K "read_sum" "read_sum" (defArgs s_read_sum) (defBody s_read_sum) (defScope s_read_sum) [] [] (He.ga K "read_sum") fd := c.def_ 17 (d := df_read_sum) rfl
theorem bd_read_sum {a : Addr} {fd : FuncData} (F : FunD K "read_sum" "read_sum" (defArgs s_read_sum) (defBody s_read_sum) (defScope s_read_sum) [] [] a fd) : Binds K fd p_read_sum [] := F.bindsN fun _ _ _ _ _ _ us hl => match us, hl with | [_], _ => rfl
theorem kn_read_sum (X : K.In base) (G : base.Ns mainGlobals mg) (c : He.SaysD faJ fnJ K) (ex : exJ K = true) (fns : ∀ h : Fn, fnLvl h ≤ fnLvl .f_read_sum - 1 → Knows TT P w K mg base h) : Knows TT P w K mg base .f_read_sum := by
  obtain ⟨fd, F⟩ := fd_read_sum c
  exact ⟨_, fd, p_read_sum, He.glo_ok X G (c.fact 17 (f := .glo "read_sum") rfl), F.kp, rfl, bd_read_sum F, def_ok F sc_read_sum (b_read_sum dAll) mt_read_sum do_read_sum fns (bltJ X G c) (ciJ X G c) (csJ X G c) (cbJ X G ex) (digJ X ex) (xkJ X G c ex)⟩
theorem fd_parse_fraction (c : He.SaysD faJ fnJ K) : ∃ fd, FunD K "parse_fraction" "parse_fraction" (defArgs s_parse_fraction) (defBody s_parse_fraction) (defScope s_parse_fraction) [] [] (He.ga K "parse_fraction") fd := c.def_ 18 (d := df_parse_fraction) rfl
theorem bd_parse_fraction {a : Addr} {fd : FuncData} (F : FunD K "parse_fraction" "parse_fraction" (defArgs s_parse_fraction) (defBody s_parse_fraction) (defScope s_parse_fraction) [] [] a fd) : Binds K fd p_parse_fraction [] := F.bindsN fun _ _ _ _ _ _ us hl => match us, hl with | [_], _ => rfl
theorem kn_parse_fraction (X : K.In base) (G : base.Ns mainGlobals mg) (c : He.SaysD faJ fnJ K) (ex : exJ K = true) (fns : ∀ h : Fn, fnLvl h ≤ fnLvl .f_parse_fraction - 1 → Knows TT P w K mg base h) : Knows TT P w K mg base .f_parse_fraction := by
  obtain ⟨fd, F⟩ := fd_parse_fraction c
  exact ⟨_, fd, p_parse_fraction, He.glo_ok X G (c.fact 18 (f := .glo "parse_fraction") rfl), F.kp, rfl, bd_parse_fraction F, def_ok F sc_parse_fraction (b_parse_fraction dAll) mt_parse_fraction do_parse_fraction fns (bltJ X G c) (ciJ X G c) (csJ X G c) (cbJ X G ex) (digJ X ex) (xkJ X G c ex)⟩
theorem fd_parse_polynomial (c : He.SaysD faJ fnJ K) : ∃ fd, FunD K "parse_polynomial" "parse_polynomial" (defArgs s_parse_polynomial) (defBody s_parse_polynomial) (defScope s_parse_polynomial) [] [] (He.ga K "parse_polynomial") fd := c.def_ 19 (d := df_parse_polynomial) rfl
theorem bd_parse_polynomial {a : Addr} {fd : FuncData} (F : FunD K "parse_polynomial" "parse_polynomial" (defArgs s_parse_polynomial) (defBody s_parse_polynomial) (defScope s_parse_polynomial) [] [] a fd) : Binds K fd p_parse_polynomial [] := F.bindsN fun _ _ _ _ _ _ us hl => match us, hl with | [_], _ => rfl
theorem kn_parse_polynomial (X : K.In base) (G : base.Ns mainGlobals mg) (c : He.SaysD faJ fnJ K) (ex : exJ K = true) (fns : ∀ h : Fn, fnLvl h ≤ fnLvl .f_parse_polynomial - 1 → Knows TT P w K mg base h) : Knows TT P w K mg base .f_parse_polynomial := by
  obtain ⟨fd, F⟩ := fd_parse_polynomial c
  exact ⟨_, fd, p_parse_polynomial, He.glo_ok X G (c.fact 19 (f := .glo "parse_polynomial") rfl), F.kp, rfl, bd_parse_polynomial F, def_ok F sc_parse_polynomial (b_parse_polynomial dAll) mt_parse_polynomial do_parse_polynomial fns (bltJ X G c) (ciJ X G c) (csJ X G c) (cbJ X G ex) (digJ X ex) (xkJ X G c ex)⟩
theorem fd_parse_sum (c : He.SaysD faJ fnJ K) : ∃ fd, FunD K "parse_sum" "parse_sum" (defArgs s_parse_sum) (defBody s_parse_sum) (defScope s_parse_sum) [] [] (He.ga K "parse_sum") fd := c.def_ 20 (d := df_parse_sum) rfl
theorem bd_parse_sum {a : Addr} {fd : FuncData} (F : FunD K "parse_sum" "parse_sum" (defArgs s_parse_sum) (defBody s_parse_sum) (defScope s_parse_sum) [] [] a fd) : Binds K fd p_parse_sum [] := F.bindsN fun _ _ _ _ _ _ us hl => match us, hl with | [_], _ => rfl
theorem kn_parse_sum (X : K.In base) (G : base.Ns mainGlobals mg) (c : He.SaysD faJ fnJ K) (ex : exJ K = true) (fns : ∀ h : Fn, fnLvl h ≤ fnLvl .f_parse_sum - 1 → Knows TT P w K mg base h) : Knows TT P w K mg base .f_parse_sum := by
  obtain ⟨fd, F⟩ := fd_parse_sum c
  exact ⟨_, fd, p_parse_sum, He.glo_ok X G (c.fact 20 (f := .glo "parse_sum") rfl), F.kp, rfl, bd_parse_sum F, def_ok F sc_parse_sum (b_parse_sum dAll) mt_parse_sum do_parse_sum fns (bltJ X G c) (ciJ X G c) (csJ X G c) (cbJ X G ex) (digJ X ex) (xkJ X G c ex)⟩
theorem fd_law_whole (c : He.SaysD faJ fnJ K) : ∃ fd, FunD K "_law_whole" "_law_whole" (defArgs s_law_whole) (defBody s_law_whole) (defScope s_law_whole) [] [] (He.ga K "_law_whole") fd := c.def_ 21 (d := df_law_whole) rfl
theorem bd_law_whole {a : Addr} {fd : FuncData} (F : FunD K "_law_whole" "_law_whole" (defArgs s_law_whole) (defBody s_law_whole) (defScope s_law_whole) [] [] a fd) : Binds K fd p_law_whole [] := F.bindsN fun _ _ _ _ _ _ us hl => match us, hl with | [_], _ => rfl
theorem kn_law_whole (X : K.In base) (G : base.Ns mainGlobals mg) (c : He.SaysD faJ fnJ K) (ex : exJ K = true) (fns : ∀ h : Fn, fnLvl h ≤ fnLvl .f_law_whole - 1 → Knows TT P w K mg base h) : Knows TT P w K mg base .f_law_whole := by
  obtain ⟨fd, F⟩ := fd_law_whole c
  exact ⟨_, fd, p_law_whole, He.glo_ok X G (c.fact 21 (f := .glo "_law_whole") rfl), F.kp, rfl, bd_law_whole F, def_ok F sc_law_whole (b_law_whole dAll) mt_law_whole do_law_whole fns (bltJ X G c) (ciJ X G c) (csJ X G c) (cbJ X G ex) (digJ X ex) (xkJ X G c ex)⟩
theorem fd_law_cell (c : He.SaysD faJ fnJ K) : ∃ fd, FunD K "_law_cell" "_law_cell" (defArgs s_law_cell) (defBody s_law_cell) (defScope s_law_cell) [] [] (He.ga K "_law_cell") fd := c.def_ 22 (d := df_law_cell) rfl
theorem bd_law_cell {a : Addr} {fd : FuncData} (F : FunD K "_law_cell" "_law_cell" (defArgs s_law_cell) (defBody s_law_cell) (defScope s_law_cell) [] [] a fd) : Binds K fd p_law_cell [] := F.bindsN fun _ _ _ _ _ _ us hl => match us, hl with | [_, _], _ => rfl
theorem kn_law_cell (X : K.In base) (G : base.Ns mainGlobals mg) (c : He.SaysD faJ fnJ K) (ex : exJ K = true) (fns : ∀ h : Fn, fnLvl h ≤ fnLvl .f_law_cell - 1 → Knows TT P w K mg base h) : Knows TT P w K mg base .f_law_cell := by
  obtain ⟨fd, F⟩ := fd_law_cell c
  exact ⟨_, fd, p_law_cell, He.glo_ok X G (c.fact 22 (f := .glo "_law_cell") rfl), F.kp, rfl, bd_law_cell F, def_ok F sc_law_cell (b_law_cell dAll) mt_law_cell do_law_cell fns (bltJ X G c) (ciJ X G c) (csJ X G c) (cbJ X G ex) (digJ X ex) (xkJ X G c ex)⟩
theorem fd_law_digits (c : He.SaysD faJ fnJ K) : ∃ fd, FunD K "_law_digits" "_law_digits" (defArgs s_law_digits) (defBody s_law_digits) (defScope s_law_digits) [] [] (He.ga K "_law_digits") fd := c.def_ 23 (d := df_law_digits) rfl
theorem bd_law_digits {a : Addr} {fd : FuncData} (F : FunD K "_law_digits" "_law_digits" (defArgs s_law_digits) (defBody s_law_digits) (defScope s_law_digits) [] [] a fd) : Binds K fd p_law_digits [] := F.bindsN fun _ _ _ _ _ _ us hl => match us, hl with | [_, _], _ => rfl
theorem kn_law_digits (X : K.In base) (G : base.Ns mainGlobals mg) (c : He.SaysD faJ fnJ K) (ex : exJ K = true) (fns : ∀ h : Fn, fnLvl h ≤ fnLvl .f_law_digits - 1 → Knows TT P w K mg base h) : Knows TT P w K mg base .f_law_digits := by
  obtain ⟨fd, F⟩ := fd_law_digits c
  exact ⟨_, fd, p_law_digits, He.glo_ok X G (c.fact 23 (f := .glo "_law_digits") rfl), F.kp, rfl, bd_law_digits F, def_ok F sc_law_digits (b_law_digits dAll) mt_law_digits do_law_digits fns (bltJ X G c) (ciJ X G c) (csJ X G c) (cbJ X G ex) (digJ X ex) (xkJ X G c ex)⟩
theorem fd_law_gcd (c : He.SaysD faJ fnJ K) : ∃ fd, FunD K "_law_gcd" "_law_gcd" (defArgs s_law_gcd) (defBody s_law_gcd) (defScope s_law_gcd) [] [] (He.ga K "_law_gcd") fd := c.def_ 24 (d := df_law_gcd) rfl
theorem bd_law_gcd {a : Addr} {fd : FuncData} (F : FunD K "_law_gcd" "_law_gcd" (defArgs s_law_gcd) (defBody s_law_gcd) (defScope s_law_gcd) [] [] a fd) : Binds K fd p_law_gcd [] := F.bindsN fun _ _ _ _ _ _ us hl => match us, hl with | [_, _], _ => rfl
theorem kn_law_gcd (X : K.In base) (G : base.Ns mainGlobals mg) (c : He.SaysD faJ fnJ K) (ex : exJ K = true) (fns : ∀ h : Fn, fnLvl h ≤ fnLvl .f_law_gcd - 1 → Knows TT P w K mg base h) : Knows TT P w K mg base .f_law_gcd := by
  obtain ⟨fd, F⟩ := fd_law_gcd c
  exact ⟨_, fd, p_law_gcd, He.glo_ok X G (c.fact 24 (f := .glo "_law_gcd") rfl), F.kp, rfl, bd_law_gcd F, def_ok F sc_law_gcd (b_law_gcd dAll) mt_law_gcd do_law_gcd fns (bltJ X G c) (ciJ X G c) (csJ X G c) (cbJ X G ex) (digJ X ex) (xkJ X G c ex)⟩
theorem fd_law_frac (c : He.SaysD faJ fnJ K) : ∃ fd, FunD K "_law_frac" "_law_frac" (defArgs s_law_frac) (defBody s_law_frac) (defScope s_law_frac) [] [] (He.ga K "_law_frac") fd := c.def_ 25 (d := df_law_frac) rfl
theorem bd_law_frac {a : Addr} {fd : FuncData} (F : FunD K "_law_frac" "_law_frac" (defArgs s_law_frac) (defBody s_law_frac) (defScope s_law_frac) [] [] a fd) : Binds K fd p_law_frac [] := F.bindsN fun _ _ _ _ _ _ us hl => match us, hl with | [_, _], _ => rfl
theorem kn_law_frac (X : K.In base) (G : base.Ns mainGlobals mg) (c : He.SaysD faJ fnJ K) (ex : exJ K = true) (fns : ∀ h : Fn, fnLvl h ≤ fnLvl .f_law_frac - 1 → Knows TT P w K mg base h) : Knows TT P w K mg base .f_law_frac := by
  obtain ⟨fd, F⟩ := fd_law_frac c
  exact ⟨_, fd, p_law_frac, He.glo_ok X G (c.fact 25 (f := .glo "_law_frac") rfl), F.kp, rfl, bd_law_frac F, def_ok F sc_law_frac (b_law_frac dAll) mt_law_frac do_law_frac fns (bltJ X G c) (ciJ X G c) (csJ X G c) (cbJ X G ex) (digJ X ex) (xkJ X G c ex)⟩
theorem fd_law_is_fraction (c : He.SaysD faJ fnJ K) : ∃ fd, FunD K "_law_is_fraction" "_law_is_fraction" (defArgs s_law_is_fraction) (defBody s_law_is_fraction) (defScope s_law_is_fraction) [] [] (He.ga K "_law_is_fraction") fd := c.def_ 26 (d := df_law_is_fraction) rfl
theorem bd_law_is_fraction {a : Addr} {fd : FuncData} (F : FunD K "_law_is_fraction" "_law_is_fraction" (defArgs s_law_is_fraction) (defBody s_law_is_fraction) (defScope s_law_is_fraction) [] [] a fd) : Binds K fd p_law_is_fraction [] := F.bindsN fun _ _ _ _ _ _ us hl => match us, hl with | [_], _ => rfl
theorem kn_law_is_fraction (X : K.In base) (G : base.Ns mainGlobals mg) (c : He.SaysD faJ fnJ K) (ex : exJ K = true) (fns : ∀ h : Fn, fnLvl h ≤ fnLvl .f_law_is_fraction - 1 → Knows TT P w K mg base h) : Knows TT P w K mg base .f_law_is_fraction := by
  obtain ⟨fd, F⟩ := fd_law_is_fraction c
  exact ⟨_, fd, p_law_is_fraction, He.glo_ok X G (c.fact 26 (f := .glo "_law_is_fraction") rfl), F.kp, rfl, bd_law_is_fraction F, def_ok F sc_law_is_fraction (b_law_is_fraction dAll) mt_law_is_fraction do_law_is_fraction fns (bltJ X G c) (ciJ X G c) (csJ X G c) (cbJ X G ex) (digJ X ex) (xkJ X G c ex)⟩
theorem fd_law_poly (c : He.SaysD faJ fnJ K) : ∃ fd, FunD K "_law_poly" "_law_poly" (defArgs s_law_poly) (defBody s_law_poly) (defScope s_law_poly) [] [] (He.ga K "_law_poly") fd := c.def_ 27 (d := df_law_poly) rfl
theorem bd_law_poly {a : Addr} {fd : FuncData} (F : FunD K "_law_poly" "_law_poly" (defArgs s_law_poly) (defBody s_law_poly) (defScope s_law_poly) [] [] a fd) : Binds K fd p_law_poly [] := F.bindsN fun _ _ _ _ _ _ us hl => match us, hl with | [_], _ => rfl
theorem kn_law_poly (X : K.In base) (G : base.Ns mainGlobals mg) (c : He.SaysD faJ fnJ K) (ex : exJ K = true) (fns : ∀ h : Fn, fnLvl h ≤ fnLvl .f_law_poly - 1 → Knows TT P w K mg base h) : Knows TT P w K mg base .f_law_poly := by
  obtain ⟨fd, F⟩ := fd_law_poly c
  exact ⟨_, fd, p_law_poly, He.glo_ok X G (c.fact 27 (f := .glo "_law_poly") rfl), F.kp, rfl, bd_law_poly F, def_ok F sc_law_poly (b_law_poly dAll) mt_law_poly do_law_poly fns (bltJ X G c) (ciJ X G c) (csJ X G c) (cbJ X G ex) (digJ X ex) (xkJ X G c ex)⟩
theorem fd_law_pairs (c : He.SaysD faJ fnJ K) : ∃ fd, FunD K "_law_pairs" "_law_pairs" (defArgs s_law_pairs) (defBody s_law_pairs) (defScope s_law_pairs) [] [] (He.ga K "_law_pairs") fd := c.def_ 28 (d := df_law_pairs) rfl
theorem bd_law_pairs {a : Addr} {fd : FuncData} (F : FunD K "_law_pairs" "_law_pairs" (defArgs s_law_pairs) (defBody s_law_pairs) (defScope s_law_pairs) [] [] a fd) : Binds K fd p_law_pairs [] := F.bindsN fun _ _ _ _ _ _ us hl => match us, hl with | [_], _ => rfl
theorem kn_law_pairs (X : K.In base) (G : base.Ns mainGlobals mg) (c : He.SaysD faJ fnJ K) (ex : exJ K = true) (fns : ∀ h : Fn, fnLvl h ≤ fnLvl .f_law_pairs - 1 → Knows TT P w K mg base h) : Knows TT P w K mg base .f_law_pairs := by
  obtain ⟨fd, F⟩ := fd_law_pairs c
  exact ⟨_, fd, p_law_pairs, He.glo_ok X G (c.fact 28 (f := .glo "_law_pairs") rfl), F.kp, rfl, bd_law_pairs F, def_ok F sc_law_pairs (b_law_pairs dAll) mt_law_pairs do_law_pairs fns (bltJ X G c) (ciJ X G c) (csJ X G c) (cbJ X G ex) (digJ X ex) (xkJ X G c ex)⟩
theorem fd_law_sum (c : He.SaysD faJ fnJ K) : ∃ fd, FunD K "_law_sum" "_law_sum" (defArgs s_law_sum) (defBody s_law_sum) (defScope s_law_sum) [] [] (He.ga K "_law_sum") fd := c.def_ 29 (d := df_law_sum) rfl
theorem bd_law_sum {a : Addr} {fd : FuncData} (F : FunD K "_law_sum" "_law_sum" (defArgs s_law_sum) (defBody s_law_sum) (defScope s_law_sum) [] [] a fd) : Binds K fd p_law_sum [] := F.bindsN fun _ _ _ _ _ _ us hl => match us, hl with | [_], _ => rfl
theorem kn_law_sum (X : K.In base) (G : base.Ns mainGlobals mg) (c : He.SaysD faJ fnJ K) (ex : exJ K = true) (fns : ∀ h : Fn, fnLvl h ≤ fnLvl .f_law_sum - 1 → Knows TT P w K mg base h) : Knows TT P w K mg base .f_law_sum := by
  obtain ⟨fd, F⟩ := fd_law_sum c
  exact ⟨_, fd, p_law_sum, He.glo_ok X G (c.fact 29 (f := .glo "_law_sum") rfl), F.kp, rfl, bd_law_sum F, def_ok F sc_law_sum (b_law_sum dAll) mt_law_sum do_law_sum fns (bltJ X G c) (ciJ X G c) (csJ X G c) (cbJ X G ex) (digJ X ex) (xkJ X G c ex)⟩
theorem fd_law_terms (c : He.SaysD faJ fnJ K) : ∃ fd, FunD K "_law_terms" "_law_terms" (defArgs s_law_terms) (defBody s_law_terms) (defScope s_law_terms) [] [] (He.ga K "_law_terms") fd := c.def_ 30 (d := df_law_terms) rfl
theorem bd_law_terms {a : Addr} {fd : FuncData} (F : FunD K "_law_terms" "_law_terms" (defArgs s_law_terms) (defBody s_law_terms) (defScope s_law_terms) [] [] a fd) : Binds K fd p_law_terms [] := F.bindsN fun _ _ _ _ _ _ us hl => match us, hl with | [_], _ => rfl
theorem kn_law_terms (X : K.In base) (G : base.Ns mainGlobals mg) (c : He.SaysD faJ fnJ K) (ex : exJ K = true) (fns : ∀ h : Fn, fnLvl h ≤ fnLvl .f_law_terms - 1 → Knows TT P w K mg base h) : Knows TT P w K mg base .f_law_terms := by
  obtain ⟨fd, F⟩ := fd_law_terms c
  exact ⟨_, fd, p_law_terms, He.glo_ok X G (c.fact 30 (f := .glo "_law_terms") rfl), F.kp, rfl, bd_law_terms F, def_ok F sc_law_terms (b_law_terms dAll) mt_law_terms do_law_terms fns (bltJ X G c) (ciJ X G c) (csJ X G c) (cbJ X G ex) (digJ X ex) (xkJ X G c ex)⟩
theorem fd_law_is_sum (c : He.SaysD faJ fnJ K) : ∃ fd, FunD K "_law_is_sum" "_law_is_sum" (defArgs s_law_is_sum) (defBody s_law_is_sum) (defScope s_law_is_sum) [] [] (He.ga K "_law_is_sum") fd := c.def_ 31 (d := df_law_is_sum) rfl
theorem bd_law_is_sum {a : Addr} {fd : FuncData} (F : FunD K "_law_is_sum" "_law_is_sum" (defArgs s_law_is_sum) (defBody s_law_is_sum) (defScope s_law_is_sum) [] [] a fd) : Binds K fd p_law_is_sum [] := F.bindsN fun _ _ _ _ _ _ us hl => match us, hl with | [_], _ => rfl
theorem kn_law_is_sum (X : K.In base) (G : base.Ns mainGlobals mg) (c : He.SaysD faJ fnJ K) (ex : exJ K = true) (fns : ∀ h : Fn, fnLvl h ≤ fnLvl .f_law_is_sum - 1 → Knows TT P w K mg base h) : Knows TT P w K mg base .f_law_is_sum := by
  obtain ⟨fd, F⟩ := fd_law_is_sum c
  exact ⟨_, fd, p_law_is_sum, He.glo_ok X G (c.fact 31 (f := .glo "_law_is_sum") rfl), F.kp, rfl, bd_law_is_sum F, def_ok F sc_law_is_sum (b_law_is_sum dAll) mt_law_is_sum do_law_is_sum fns (bltJ X G c) (ciJ X G c) (csJ X G c) (cbJ X G ex) (digJ X ex) (xkJ X G c ex)⟩
theorem fd_law_is_poly (c : He.SaysD faJ fnJ K) : ∃ fd, FunD K "_law_is_poly" "_law_is_poly" (defArgs s_law_is_poly) (defBody s_law_is_poly) (defScope s_law_is_poly) [] [] (He.ga K "_law_is_poly") fd := c.def_ 32 (d := df_law_is_poly) rfl
theorem bd_law_is_poly {a : Addr} {fd : FuncData} (F : FunD K "_law_is_poly" "_law_is_poly" (defArgs s_law_is_poly) (defBody s_law_is_poly) (defScope s_law_is_poly) [] [] a fd) : Binds K fd p_law_is_poly [] := F.bindsN fun _ _ _ _ _ _ us hl => match us, hl with | [_], _ => rfl
theorem kn_law_is_poly (X : K.In base) (G : base.Ns mainGlobals mg) (c : He.SaysD faJ fnJ K) (ex : exJ K = true) (fns : ∀ h : Fn, fnLvl h ≤ fnLvl .f_law_is_poly - 1 → Knows TT P w K mg base h) : Knows TT P w K mg base .f_law_is_poly := by
  obtain ⟨fd, F⟩ := fd_law_is_poly c
  exact ⟨_, fd, p_law_is_poly, He.glo_ok X G (c.fact 32 (f := .glo "_law_is_poly") rfl), F.kp, rfl, bd_law_is_poly F, def_ok F sc_law_is_poly (b_law_is_poly dAll) mt_law_is_poly do_law_is_poly fns (bltJ X G c) (ciJ X G c) (csJ X G c) (cbJ X G ex) (digJ X ex) (xkJ X G c ex)⟩
theorem fd_law_is_name (c : He.SaysD faJ fnJ K) : ∃ fd, FunD K "_law_is_name" "_law_is_name" (defArgs s_law_is_name) (defBody s_law_is_name) (defScope s_law_is_name) [] [] (He.ga K "_law_is_name") fd := c.def_ 33 (d := df_law_is_name) rfl
theorem bd_law_is_name {a : Addr} {fd : FuncData} (F : FunD K "_law_is_name" "_law_is_name" (defArgs s_law_is_name) (defBody s_law_is_name) (defScope s_law_is_name) [] [] a fd) : Binds K fd p_law_is_name [] := F.bindsN fun _ _ _ _ _ _ us hl => match us, hl with | [_], _ => rfl
theorem kn_law_is_name (X : K.In base) (G : base.Ns mainGlobals mg) (c : He.SaysD faJ fnJ K) (ex : exJ K = true) (fns : ∀ h : Fn, fnLvl h ≤ fnLvl .f_law_is_name - 1 → Knows TT P w K mg base h) : Knows TT P w K mg base .f_law_is_name := by
  obtain ⟨fd, F⟩ := fd_law_is_name c
  exact ⟨_, fd, p_law_is_name, He.glo_ok X G (c.fact 33 (f := .glo "_law_is_name") rfl), F.kp, rfl, bd_law_is_name F, def_ok F sc_law_is_name (b_law_is_name dAll) mt_law_is_name do_law_is_name fns (bltJ X G c) (ciJ X G c) (csJ X G c) (cbJ X G ex) (digJ X ex) (xkJ X G c ex)⟩
theorem fd_law_number (c : He.SaysD faJ fnJ K) : ∃ fd, FunD K "_law_number" "_law_number" (defArgs s_law_number) (defBody s_law_number) (defScope s_law_number) [] [] (He.ga K "_law_number") fd := c.def_ 34 (d := df_law_number) rfl
theorem bd_law_number {a : Addr} {fd : FuncData} (F : FunD K "_law_number" "_law_number" (defArgs s_law_number) (defBody s_law_number) (defScope s_law_number) [] [] a fd) : Binds K fd p_law_number [] := F.bindsN fun _ _ _ _ _ _ us hl => match us, hl with | [_], _ => rfl
theorem kn_law_number (X : K.In base) (G : base.Ns mainGlobals mg) (c : He.SaysD faJ fnJ K) (ex : exJ K = true) (fns : ∀ h : Fn, fnLvl h ≤ fnLvl .f_law_number - 1 → Knows TT P w K mg base h) : Knows TT P w K mg base .f_law_number := by
  obtain ⟨fd, F⟩ := fd_law_number c
  exact ⟨_, fd, p_law_number, He.glo_ok X G (c.fact 34 (f := .glo "_law_number") rfl), F.kp, rfl, bd_law_number F, def_ok F sc_law_number (b_law_number dAll) mt_law_number do_law_number fns (bltJ X G c) (ciJ X G c) (csJ X G c) (cbJ X G ex) (digJ X ex) (xkJ X G c ex)⟩
theorem fd_law_write (c : He.SaysD faJ fnJ K) : ∃ fd, FunD K "_law_write" "_law_write" (defArgs s_law_write) (defBody s_law_write) (defScope s_law_write) [] [] (He.ga K "_law_write") fd := c.def_ 35 (d := df_law_write) rfl
theorem bd_law_write {a : Addr} {fd : FuncData} (F : FunD K "_law_write" "_law_write" (defArgs s_law_write) (defBody s_law_write) (defScope s_law_write) [] [] a fd) : Binds K fd p_law_write [] := F.bindsN fun _ _ _ _ _ _ us hl => match us, hl with | [_, _], _ => rfl
theorem kn_law_write (X : K.In base) (G : base.Ns mainGlobals mg) (c : He.SaysD faJ fnJ K) (ex : exJ K = true) (fns : ∀ h : Fn, fnLvl h ≤ fnLvl .f_law_write - 1 → Knows TT P w K mg base h) : Knows TT P w K mg base .f_law_write := by
  obtain ⟨fd, F⟩ := fd_law_write c
  exact ⟨_, fd, p_law_write, He.glo_ok X G (c.fact 35 (f := .glo "_law_write") rfl), F.kp, rfl, bd_law_write F, def_ok F sc_law_write (b_law_write dAll) mt_law_write do_law_write fns (bltJ X G c) (ciJ X G c) (csJ X G c) (cbJ X G ex) (digJ X ex) (xkJ X G c ex)⟩
theorem fd_law_written (c : He.SaysD faJ fnJ K) : ∃ fd, FunD K "_law_written" "_law_written" (defArgs s_law_written) (defBody s_law_written) (defScope s_law_written) [] [] (He.ga K "_law_written") fd := c.def_ 36 (d := df_law_written) rfl
theorem bd_law_written {a : Addr} {fd : FuncData} (F : FunD K "_law_written" "_law_written" (defArgs s_law_written) (defBody s_law_written) (defScope s_law_written) [] [] a fd) : Binds K fd p_law_written [] := F.bindsN fun _ _ _ _ _ _ us hl => match us, hl with | [_, _], _ => rfl
theorem kn_law_written (X : K.In base) (G : base.Ns mainGlobals mg) (c : He.SaysD faJ fnJ K) (ex : exJ K = true) (fns : ∀ h : Fn, fnLvl h ≤ fnLvl .f_law_written - 1 → Knows TT P w K mg base h) : Knows TT P w K mg base .f_law_written := by
  obtain ⟨fd, F⟩ := fd_law_written c
  exact ⟨_, fd, p_law_written, He.glo_ok X G (c.fact 36 (f := .glo "_law_written") rfl), F.kp, rfl, bd_law_written F, def_ok F sc_law_written (b_law_written dAll) mt_law_written do_law_written fns (bltJ X G c) (ciJ X G c) (csJ X G c) (cbJ X G ex) (digJ X ex) (xkJ X G c ex)⟩
theorem fd_law_drawn_number (c : He.SaysD faJ fnJ K) : ∃ fd, FunD K "_law_drawn_number" "_law_drawn_number" (defArgs s_law_drawn_number) (defBody s_law_drawn_number) (defScope s_law_drawn_number) [] [] (He.ga K "_law_drawn_number") fd := c.def_ 37 (d := df_law_drawn_number) rfl
theorem bd_law_drawn_number {a : Addr} {fd : FuncData} (F : FunD K "_law_drawn_number" "_law_drawn_number" (defArgs s_law_drawn_number) (defBody s_law_drawn_number) (defScope s_law_drawn_number) [] [] a fd) : Binds K fd p_law_drawn_number [] := F.bindsN fun _ _ _ _ _ _ us hl => match us, hl with | [_, _, _], _ => rfl
theorem kn_law_drawn_number (X : K.In base) (G : base.Ns mainGlobals mg) (c : He.SaysD faJ fnJ K) (ex : exJ K = true) (fns : ∀ h : Fn, fnLvl h ≤ fnLvl .f_law_drawn_number - 1 → Knows TT P w K mg base h) : Knows TT P w K mg base .f_law_drawn_number := by
  obtain ⟨fd, F⟩ := fd_law_drawn_number c
  exact ⟨_, fd, p_law_drawn_number, He.glo_ok X G (c.fact 37 (f := .glo "_law_drawn_number") rfl), F.kp, rfl, bd_law_drawn_number F, def_ok F sc_law_drawn_number (b_law_drawn_number dAll) mt_law_drawn_number do_law_drawn_number fns (bltJ X G c) (ciJ X G c) (csJ X G c) (cbJ X G ex) (digJ X ex) (xkJ X G c ex)⟩
theorem fd_law_drawn_items (c : He.SaysD faJ fnJ K) : ∃ fd, FunD K "_law_drawn_items" "_law_drawn_items" (defArgs s_law_drawn_items) (defBody s_law_drawn_items) (defScope s_law_drawn_items) [] [] (He.ga K "_law_drawn_items") fd := c.def_ 38 (d := df_law_drawn_items) rfl
theorem bd_law_drawn_items {a : Addr} {fd : FuncData} (F : FunD K "_law_drawn_items" "_law_drawn_items" (defArgs s_law_drawn_items) (defBody s_law_drawn_items) (defScope s_law_drawn_items) [] [] a fd) : Binds K fd p_law_drawn_items [] := F.bindsN fun _ _ _ _ _ _ us hl => match us, hl with | [_, _, _, _], _ => rfl
theorem kn_law_drawn_items (X : K.In base) (G : base.Ns mainGlobals mg) (c : He.SaysD faJ fnJ K) (ex : exJ K = true) (fns : ∀ h : Fn, fnLvl h ≤ fnLvl .f_law_drawn_items - 1 → Knows TT P w K mg base h) : Knows TT P w K mg base .f_law_drawn_items := by
  obtain ⟨fd, F⟩ := fd_law_drawn_items c
  exact ⟨_, fd, p_law_drawn_items, He.glo_ok X G (c.fact 38 (f := .glo "_law_drawn_items") rfl), F.kp, rfl, bd_law_drawn_items F, def_ok F sc_law_drawn_items (b_law_drawn_items dAll) mt_law_drawn_items do_law_drawn_items fns (bltJ X G c) (ciJ X G c) (csJ X G c) (cbJ X G ex) (digJ X ex) (xkJ X G c ex)⟩
theorem fd_law_spoilt (c : He.SaysD faJ fnJ K) : ∃ fd, FunD K "_law_spoilt" "_law_spoilt" (defArgs s_law_spoilt) (defBody s_law_spoilt) (defScope s_law_spoilt) [] [] (He.ga K "_law_spoilt") fd := c.def_ 39 (d := df_law_spoilt) rfl
theorem bd_law_spoilt {a : Addr} {fd : FuncData} (F : FunD K "_law_spoilt" "_law_spoilt" (defArgs s_law_spoilt) (defBody s_law_spoilt) (defScope s_law_spoilt) [] [] a fd) : Binds K fd p_law_spoilt [] := F.bindsN fun _ _ _ _ _ _ us hl => match us, hl with | [_, _, _], _ => rfl
theorem kn_law_spoilt (X : K.In base) (G : base.Ns mainGlobals mg) (c : He.SaysD faJ fnJ K) (ex : exJ K = true) (fns : ∀ h : Fn, fnLvl h ≤ fnLvl .f_law_spoilt - 1 → Knows TT P w K mg base h) : Knows TT P w K mg base .f_law_spoilt := by
  obtain ⟨fd, F⟩ := fd_law_spoilt c
  exact ⟨_, fd, p_law_spoilt, He.glo_ok X G (c.fact 39 (f := .glo "_law_spoilt") rfl), F.kp, rfl, bd_law_spoilt F, def_ok F sc_law_spoilt (b_law_spoilt dAll) mt_law_spoilt do_law_spoilt fns (bltJ X G c) (ciJ X G c) (csJ X G c) (cbJ X G ex) (digJ X ex) (xkJ X G c ex)⟩
theorem fd_law_free_text (c : He.SaysD faJ fnJ K) : ∃ fd, FunD K "_law_free_text" "_law_free_text" (defArgs s_law_free_text) (defBody s_law_free_text) (defScope s_law_free_text) [] [] (He.ga K "_law_free_text") fd := c.def_ 40 (d := df_law_free_text) rfl
theorem bd_law_free_text {a : Addr} {fd : FuncData} (F : FunD K "_law_free_text" "_law_free_text" (defArgs s_law_free_text) (defBody s_law_free_text) (defScope s_law_free_text) [] [] a fd) : Binds K fd p_law_free_text [] := F.bindsN fun _ _ _ _ _ _ us hl => match us, hl with | [_], _ => rfl
theorem kn_law_free_text (X : K.In base) (G : base.Ns mainGlobals mg) (c : He.SaysD faJ fnJ K) (ex : exJ K = true) (fns : ∀ h : Fn, fnLvl h ≤ fnLvl .f_law_free_text - 1 → Knows TT P w K mg base h) : Knows TT P w K mg base .f_law_free_text := by
  obtain ⟨fd, F⟩ := fd_law_free_text c
  exact ⟨_, fd, p_law_free_text, He.glo_ok X G (c.fact 40 (f := .glo "_law_free_text") rfl), F.kp, rfl, bd_law_free_text F, def_ok F sc_law_free_text (b_law_free_text dAll) mt_law_free_text do_law_free_text fns (bltJ X G c) (ciJ X G c) (csJ X G c) (cbJ X G ex) (digJ X ex) (xkJ X G c ex)⟩
theorem fd_law_parsed (c : He.SaysD faJ fnJ K) : ∃ fd, FunD K "_law_parsed" "_law_parsed" (defArgs s_law_parsed) (defBody s_law_parsed) (defScope s_law_parsed) [] [] (He.ga K "_law_parsed") fd := c.def_ 41 (d := df_law_parsed) rfl
theorem bd_law_parsed {a : Addr} {fd : FuncData} (F : FunD K "_law_parsed" "_law_parsed" (defArgs s_law_parsed) (defBody s_law_parsed) (defScope s_law_parsed) [] [] a fd) : Binds K fd p_law_parsed [] := F.bindsN fun _ _ _ _ _ _ us hl => match us, hl with | [_, _], _ => rfl
theorem kn_law_parsed (X : K.In base) (G : base.Ns mainGlobals mg) (c : He.SaysD faJ fnJ K) (ex : exJ K = true) (fns : ∀ h : Fn, fnLvl h ≤ fnLvl .f_law_parsed - 1 → Knows TT P w K mg base h) : Knows TT P w K mg base .f_law_parsed := by
  obtain ⟨fd, F⟩ := fd_law_parsed c
  obtain ⟨fdW, FW⟩ := fd_law_whole c
  have N := notJ X G c ex
  have ex' := ex
  simp only [exJ, excB2, kitAll, kitB2, Bool.and_eq_true, decide_eq_true_eq] at ex'
  obtain ⟨_, _, ⟨e1, e2, e3, e4⟩, ⟨k1, k2, k3, k4, k5, k6, k7⟩, _⟩ := ex'
  have T : PF K mg (He.ga K "BadNotation") (He.ma K (He.ga K "BadNotation") "__init__") (He.ga K "BadName") (He.ga K "BadParts") (He.ga K "BadStretch") (He.ga K "NotBlocked") (He.ga K "UnknownRow") (He.ga K "RowError") :=
    { N := N, E := ⟨N.ga, N.gg, N.exC, N.hdC, He.eqO_ok e1, He.eqO_ok e2, e3, e4⟩,
      g1 := He.glo_ok X G (c.fact (77 + 1) (f := .glo "BadName") rfl), g2 := He.glo_ok X G (c.fact (77 + 4) (f := .glo "BadParts") rfl), g3 := He.glo_ok X G (c.fact (77 + 3) (f := .glo "BadStretch") rfl),
      g4 := He.glo_ok X G (c.fact (77 + 5) (f := .glo "NotBlocked") rfl), g5 := He.glo_ok X G (c.fact (77 + 2) (f := .glo "UnknownRow") rfl), gR := He.glo_ok X G (c.fact (77 + 0) (f := .glo "RowError") rfl),
      k5 := kitAny_cons k1 (fun _ => kitAny_cons k2 (fun _ => kitAny_cons k3 (fun _ => kitAny_cons k4 (fun _ => kitAny_cons k5 (fun _ => kitAny_nil) (fun z => nomatch z)) (fun z => nomatch z)) (fun z => nomatch z)) (fun z => nomatch z)) (fun z => nomatch z),
      kR := k6, kV := k7, gV := He.free_ok X G (c.fact (50 + 20) (f := .free "ValueError") rfl) }
  exact ⟨_, fd, p_law_parsed, He.glo_ok X G (c.fact 41 (f := .glo "_law_parsed") rfl), F.kp, rfl, bd_law_parsed F, ok_parsed F FW (He.glo_ok X G (c.fact 21 (f := .glo "_law_whole") rfl)) (bd_law_whole FW) T fns (bltJ X G c) (ciJ X G c) (csJ X G c) (cbJ X G ex) (digJ X ex) (xkJ X G c ex)⟩
theorem fd_law_has_form (c : He.SaysD faJ fnJ K) : ∃ fd, FunD K "_law_has_form" "_law_has_form" (defArgs s_law_has_form) (defBody s_law_has_form) (defScope s_law_has_form) [] [] (He.ga K "_law_has_form") fd := c.def_ 42 (d := df_law_has_form) rfl
theorem bd_law_has_form {a : Addr} {fd : FuncData} (F : FunD K "_law_has_form" "_law_has_form" (defArgs s_law_has_form) (defBody s_law_has_form) (defScope s_law_has_form) [] [] a fd) : Binds K fd p_law_has_form [] := F.bindsN fun _ _ _ _ _ _ us hl => match us, hl with | [_, _], _ => rfl
theorem kn_law_has_form (X : K.In base) (G : base.Ns mainGlobals mg) (c : He.SaysD faJ fnJ K) (ex : exJ K = true) (fns : ∀ h : Fn, fnLvl h ≤ fnLvl .f_law_has_form - 1 → Knows TT P w K mg base h) : Knows TT P w K mg base .f_law_has_form := by
  obtain ⟨fd, F⟩ := fd_law_has_form c
  exact ⟨_, fd, p_law_has_form, He.glo_ok X G (c.fact 42 (f := .glo "_law_has_form") rfl), F.kp, rfl, bd_law_has_form F, def_ok F sc_law_has_form (b_law_has_form dAll) mt_law_has_form do_law_has_form fns (bltJ X G c) (ciJ X G c) (csJ X G c) (cbJ X G ex) (digJ X ex) (xkJ X G c ex)⟩
theorem fd_law_formatted (c : He.SaysD faJ fnJ K) : ∃ fd, FunD K "_law_formatted" "_law_formatted" (defArgs s_law_formatted) (defBody s_law_formatted) (defScope s_law_formatted) [] [] (He.ga K "_law_formatted") fd := c.def_ 43 (d := df_law_formatted) rfl
theorem bd_law_formatted {a : Addr} {fd : FuncData} (F : FunD K "_law_formatted" "_law_formatted" (defArgs s_law_formatted) (defBody s_law_formatted) (defScope s_law_formatted) [] [] a fd) : Binds K fd p_law_formatted [] := F.bindsN fun _ _ _ _ _ _ us hl => match us, hl with | [_, _], _ => rfl
theorem kn_law_formatted (X : K.In base) (G : base.Ns mainGlobals mg) (c : He.SaysD faJ fnJ K) (ex : exJ K = true) (fns : ∀ h : Fn, fnLvl h ≤ fnLvl .f_law_formatted - 1 → Knows TT P w K mg base h) : Knows TT P w K mg base .f_law_formatted := by
  obtain ⟨fd, F⟩ := fd_law_formatted c
  exact ⟨_, fd, p_law_formatted, He.glo_ok X G (c.fact 43 (f := .glo "_law_formatted") rfl), F.kp, rfl, bd_law_formatted F, def_ok F sc_law_formatted (b_law_formatted dAll) mt_law_formatted do_law_formatted fns (bltJ X G c) (ciJ X G c) (csJ X G c) (cbJ X G ex) (digJ X ex) (xkJ X G c ex)⟩
theorem fd_law_reaches_far (c : He.SaysD faJ fnJ K) : ∃ fd, FunD K "_law_reaches_far" "_law_reaches_far" (defArgs s_law_reaches_far) (defBody s_law_reaches_far) (defScope s_law_reaches_far) [] [] (He.ga K "_law_reaches_far") fd := c.def_ 44 (d := df_law_reaches_far) rfl
theorem bd_law_reaches_far {a : Addr} {fd : FuncData} (F : FunD K "_law_reaches_far" "_law_reaches_far" (defArgs s_law_reaches_far) (defBody s_law_reaches_far) (defScope s_law_reaches_far) [] [] a fd) : Binds K fd p_law_reaches_far [] := F.bindsN fun _ _ _ _ _ _ us hl => match us, hl with | [_, _], _ => rfl
theorem kn_law_reaches_far (X : K.In base) (G : base.Ns mainGlobals mg) (c : He.SaysD faJ fnJ K) (ex : exJ K = true) (fns : ∀ h : Fn, fnLvl h ≤ fnLvl .f_law_reaches_far - 1 → Knows TT P w K mg base h) : Knows TT P w K mg base .f_law_reaches_far := by
  obtain ⟨fd, F⟩ := fd_law_reaches_far c
  exact ⟨_, fd, p_law_reaches_far, He.glo_ok X G (c.fact 44 (f := .glo "_law_reaches_far") rfl), F.kp, rfl, bd_law_reaches_far F, def_ok F sc_law_reaches_far (b_law_reaches_far dAll) mt_law_reaches_far do_law_reaches_far fns (bltJ X G c) (ciJ X G c) (csJ X G c) (cbJ X G ex) (digJ X ex) (xkJ X G c ex)⟩
theorem fd_law_text_agrees (c : He.SaysD faJ fnJ K) : ∃ fd, FunD K "_law_text_agrees" "_law_text_agrees" (defArgs s_law_text_agrees) (defBody s_law_text_agrees) (defScope s_law_text_agrees) [] [] (He.ga K "_law_text_agrees") fd := c.def_ 45 (d := df_law_text_agrees) rfl
theorem bd_law_text_agrees {a : Addr} {fd : FuncData} (F : FunD K "_law_text_agrees" "_law_text_agrees" (defArgs s_law_text_agrees) (defBody s_law_text_agrees) (defScope s_law_text_agrees) [] [] a fd) : Binds K fd p_law_text_agrees [] := F.bindsN fun _ _ _ _ _ _ us hl => match us, hl with | [_, _], _ => rfl
theorem kn_law_text_agrees (X : K.In base) (G : base.Ns mainGlobals mg) (c : He.SaysD faJ fnJ K) (ex : exJ K = true) (fns : ∀ h : Fn, fnLvl h ≤ fnLvl .f_law_text_agrees - 1 → Knows TT P w K mg base h) : Knows TT P w K mg base .f_law_text_agrees := by
  obtain ⟨fd, F⟩ := fd_law_text_agrees c
  exact ⟨_, fd, p_law_text_agrees, He.glo_ok X G (c.fact 45 (f := .glo "_law_text_agrees") rfl), F.kp, rfl, bd_law_text_agrees F, def_ok F sc_law_text_agrees (b_law_text_agrees dAll) mt_law_text_agrees do_law_text_agrees fns (bltJ X G c) (ciJ X G c) (csJ X G c) (cbJ X G ex) (digJ X ex) (xkJ X G c ex)⟩
theorem fd_law_far_agrees (c : He.SaysD faJ fnJ K) : ∃ fd, FunD K "_law_far_agrees" "_law_far_agrees" (defArgs s_law_far_agrees) (defBody s_law_far_agrees) (defScope s_law_far_agrees) [] [] (He.ga K "_law_far_agrees") fd := c.def_ 46 (d := df_law_far_agrees) rfl
theorem bd_law_far_agrees {a : Addr} {fd : FuncData} (F : FunD K "_law_far_agrees" "_law_far_agrees" (defArgs s_law_far_agrees) (defBody s_law_far_agrees) (defScope s_law_far_agrees) [] [] a fd) : Binds K fd p_law_far_agrees [] := F.bindsN fun _ _ _ _ _ _ us hl => match us, hl with | [_, _, _, _], _ => rfl
theorem kn_law_far_agrees (X : K.In base) (G : base.Ns mainGlobals mg) (c : He.SaysD faJ fnJ K) (ex : exJ K = true) (fns : ∀ h : Fn, fnLvl h ≤ fnLvl .f_law_far_agrees - 1 → Knows TT P w K mg base h) : Knows TT P w K mg base .f_law_far_agrees := by
  obtain ⟨fd, F⟩ := fd_law_far_agrees c
  exact ⟨_, fd, p_law_far_agrees, He.glo_ok X G (c.fact 46 (f := .glo "_law_far_agrees") rfl), F.kp, rfl, bd_law_far_agrees F, def_ok F sc_law_far_agrees (b_law_far_agrees dAll) mt_law_far_agrees do_law_far_agrees fns (bltJ X G c) (ciJ X G c) (csJ X G c) (cbJ X G ex) (digJ X ex) (xkJ X G c ex)⟩
theorem fd_law_drawn_worth (c : He.SaysD faJ fnJ K) : ∃ fd, FunD K "_law_drawn_worth" "_law_drawn_worth" (defArgs s_law_drawn_worth) (defBody s_law_drawn_worth) (defScope s_law_drawn_worth) [] [] (He.ga K "_law_drawn_worth") fd := c.def_ 47 (d := df_law_drawn_worth) rfl
theorem bd_law_drawn_worth {a : Addr} {fd : FuncData} (F : FunD K "_law_drawn_worth" "_law_drawn_worth" (defArgs s_law_drawn_worth) (defBody s_law_drawn_worth) (defScope s_law_drawn_worth) [] [] a fd) : Binds K fd p_law_drawn_worth [] := F.bindsN fun _ _ _ _ _ _ us hl => match us, hl with | [_, _, _, _], _ => rfl
theorem kn_law_drawn_worth (X : K.In base) (G : base.Ns mainGlobals mg) (c : He.SaysD faJ fnJ K) (ex : exJ K = true) (fns : ∀ h : Fn, fnLvl h ≤ fnLvl .f_law_drawn_worth - 1 → Knows TT P w K mg base h) : Knows TT P w K mg base .f_law_drawn_worth := by
  obtain ⟨fd, F⟩ := fd_law_drawn_worth c
  exact ⟨_, fd, p_law_drawn_worth, He.glo_ok X G (c.fact 47 (f := .glo "_law_drawn_worth") rfl), F.kp, rfl, bd_law_drawn_worth F, def_ok F sc_law_drawn_worth (b_law_drawn_worth dAll) mt_law_drawn_worth do_law_drawn_worth fns (bltJ X G c) (ciJ X G c) (csJ X G c) (cbJ X G ex) (digJ X ex) (xkJ X G c ex)⟩
theorem fd_law_handed (c : He.SaysD faJ fnJ K) : ∃ fd, FunD K "_law_handed" "_law_handed" (defArgs s_law_handed) (defBody s_law_handed) (defScope s_law_handed) [] [] (He.ga K "_law_handed") fd := c.def_ 48 (d := df_law_handed) rfl
theorem bd_law_handed {a : Addr} {fd : FuncData} (F : FunD K "_law_handed" "_law_handed" (defArgs s_law_handed) (defBody s_law_handed) (defScope s_law_handed) [] [] a fd) : Binds K fd p_law_handed [] := F.bindsN fun _ _ _ _ _ _ us hl => match us, hl with | [_, _, _], _ => rfl
theorem kn_law_handed (X : K.In base) (G : base.Ns mainGlobals mg) (c : He.SaysD faJ fnJ K) (ex : exJ K = true) (fns : ∀ h : Fn, fnLvl h ≤ fnLvl .f_law_handed - 1 → Knows TT P w K mg base h) : Knows TT P w K mg base .f_law_handed := by
  obtain ⟨fd, F⟩ := fd_law_handed c
  exact ⟨_, fd, p_law_handed, He.glo_ok X G (c.fact 48 (f := .glo "_law_handed") rfl), F.kp, rfl, bd_law_handed F, def_ok F sc_law_handed (b_law_handed dAll) mt_law_handed do_law_handed fns (bltJ X G c) (ciJ X G c) (csJ X G c) (cbJ X G ex) (digJ X ex) (xkJ X G c ex)⟩
theorem fd_law (c : He.SaysD faJ fnJ K) : ∃ fd, FunD K "law" "law" (defArgs s_law) (defBody s_law) (defScope s_law) [] [] (He.ga K "law") fd := c.def_ 49 (d := df_law) rfl
theorem bd_law {a : Addr} {fd : FuncData} (F : FunD K "law" "law" (defArgs s_law) (defBody s_law) (defScope s_law) [] [] a fd) : Binds K fd p_law [] := F.bindsN fun _ _ _ _ _ _ us hl => match us, hl with | [_], _ => rfl
theorem kn_law (X : K.In base) (G : base.Ns mainGlobals mg) (c : He.SaysD faJ fnJ K) (ex : exJ K = true) (fns : ∀ h : Fn, fnLvl h ≤ fnLvl .f_law - 1 → Knows TT P w K mg base h) : Knows TT P w K mg base .f_law := by
  obtain ⟨fd, F⟩ := fd_law c
  exact ⟨_, fd, p_law, He.glo_ok X G (c.fact 49 (f := .glo "law") rfl), F.kp, rfl, bd_law F, def_ok F sc_law (b_law dAll) mt_law do_law fns (bltJ X G c) (ciJ X G c) (csJ X G c) (cbJ X G ex) (digJ X ex) (xkJ X G c ex)⟩
theorem knows (X : K.In base) (G : base.Ns mainGlobals mg) (c : He.SaysD faJ fnJ K) (ex : exJ K = true) : ∀ (n : Nat) (f : Fn), fnLvl f ≤ n → Knows TT P w K mg base f
  | 0, f, h => by cases f <;> exact absurd h (by decide)
  | n + 1, f, h => by
    have ih : ∀ g : Fn, fnLvl g ≤ fnLvl f - 1 → Knows TT P w K mg base g := fun g hg => knows X G c ex n g (by omega)
    cases f
    · exact kn_polynomial X G c ex ih
    · exact kn_poly_times X G c ex ih
    · exact kn_ratio X G c ex ih
    · exact kn_parts_of X G c ex ih
    · exact kn_fraction X G c ex ih
    · exact kn_times X G c ex ih
    · exact kn_is_row_name X G c ex ih
    · exact kn_terms_of X G c ex ih
    · exact kn_ordered X G c ex ih
    · exact kn_sum_times X G c ex ih
    · exact kn_written X G c ex ih
    · exact kn_format_fraction X G c ex ih
    · exact kn_format_polynomial X G c ex ih
    · exact kn_format_sum X G c ex ih
    · exact kn_whole_number X G c ex ih
    · exact kn_read_fraction X G c ex ih
    · exact kn_read_polynomial X G c ex ih
    · exact kn_read_sum X G c ex ih
    · exact kn_parse_fraction X G c ex ih
    · exact kn_parse_polynomial X G c ex ih
    · exact kn_parse_sum X G c ex ih
    · exact kn_law_whole X G c ex ih
    · exact kn_law_cell X G c ex ih
    · exact kn_law_digits X G c ex ih
    · exact kn_law_gcd X G c ex ih
    · exact kn_law_frac X G c ex ih
    · exact kn_law_is_fraction X G c ex ih
    · exact kn_law_poly X G c ex ih
    · exact kn_law_pairs X G c ex ih
    · exact kn_law_sum X G c ex ih
    · exact kn_law_terms X G c ex ih
    · exact kn_law_is_sum X G c ex ih
    · exact kn_law_is_poly X G c ex ih
    · exact kn_law_is_name X G c ex ih
    · exact kn_law_number X G c ex ih
    · exact kn_law_write X G c ex ih
    · exact kn_law_written X G c ex ih
    · exact kn_law_drawn_number X G c ex ih
    · exact kn_law_drawn_items X G c ex ih
    · exact kn_law_spoilt X G c ex ih
    · exact kn_law_free_text X G c ex ih
    · exact kn_law_parsed X G c ex ih
    · exact kn_law_has_form X G c ex ih
    · exact kn_law_formatted X G c ex ih
    · exact kn_law_reaches_far X G c ex ih
    · exact kn_law_text_agrees X G c ex ih
    · exact kn_law_far_agrees X G c ex ih
    · exact kn_law_drawn_worth X G c ex ih
    · exact kn_law_handed X G c ex ih
    · exact kn_law X G c ex ih
end
end RJ

set_option Elab.async false
set_option linter.all false
set_option maxRecDepth 100000
set_option maxHeartbeats 1000000
set_option autoImplicit false
/-! RjV: whole numbers as texts. -/
namespace RJ
open PySem PySem.Spec L2
open SX (S)

/-- the codes of a whole number's text -/
def numI (n : Int) : List Nat := if n < 0 then 45 :: TL.numL n.natAbs else TL.numL n.natAbs
theorem str_num (n : Int) : Str.ofString (toString n) = S (numI n) := by
  unfold numI
  by_cases h : n < 0
  · obtain ⟨m, rfl⟩ : ∃ m : Nat, n = Int.negSucc m := ⟨(-n - 1).toNat, by omega⟩
    rw [if_pos h]
    refine TL.ext_tl ?_
    have e : toString (Int.negSucc m) = "-" ++ toString ((m + 1 : Nat) : Int) := rfl
    have e1 : TL.tl (Str.ofString (toString ((m + 1 : Nat) : Int))) = TL.numL (m + 1) := TL.tl_num (m + 1)
    rw [TL.tl_ofString] at e1
    rw [TL.tl_ofString, e]
    show List.map Char.toNat (("-" ++ toString ((m + 1 : Nat) : Int)).toList) = 45 :: TL.numL (Int.negSucc m).natAbs
    rw [String.toList_append, List.map_append, e1]
    rfl
  · obtain ⟨m, rfl⟩ : ∃ m : Nat, n = (m : Int) := ⟨n.toNat, by omega⟩
    rw [if_neg h]
    exact SX.num_S m
def isDg (c : Nat) : Bool := decide (48 ≤ c) && decide (c ≤ 57)
/-- the whole number that is written there -/
def wn (l : List Nat) : Option Int := match l with
  | 45 :: ds => if ds.isEmpty || ds.head? == some 48 then none else if ds.all isDg then some (-(NumText.digitsVal ds : Int)) else none
  | ds => if ds.isEmpty || (ds.head? == some 48 && ds != [48]) then none else if ds.all isDg then some (NumText.digitsVal ds : Int) else none
theorem dg_all {l : List Nat} : l.all isDg = true ↔ NumText.AllDigits l := by
  unfold NumText.AllDigits isDg
  simp only [List.all_eq_true, Bool.and_eq_true, decide_eq_true_eq]
theorem numL_head {n : Nat} (h : 0 < n) : (TL.numL n).head? ≠ some 48 := by
  induction n using Nat.strongRecOn with
  | ind n ih =>
    by_cases h10 : n < 10
    · rw [TL.numL_lt h10]
      simp only [List.head?_cons, ne_eq, Option.some.injEq]
      omega
    · rw [TL.numL_step (by omega)]
      have := ih (n / 10) (by omega) (by omega)
      cases e : TL.numL (n / 10) with
      | nil => exact absurd e (TL.numL_ne _)
      | cons c r =>
        rw [e] at this
        simpa using this
theorem numL_of {ds : List Nat} (h : NumText.AllDigits ds) (hne : ds ≠ []) (hz : ds.head? ≠ some 48 ∨ ds = [48]) : TL.numL (NumText.digitsVal ds) = ds := by
  unfold TL.numL
  rw [NumText.toDigits_all ds h]
  rcases hz with hz | rfl
  · cases ds with
    | nil => exact absurd rfl hne
    | cons c r =>
      have hc : (c == 48) = false := by
        simp only [List.head?_cons, ne_eq, Option.some.injEq] at hz
        simp [hz]
      rw [List.dropWhile_cons, if_neg (by rw [hc]; exact Bool.false_ne_true)]
      show ((c :: r).map Char.ofNat).map Char.toNat = c :: r
      rw [List.map_map]
      conv => rhs; rw [← List.map_id (c :: r)]
      refine List.map_congr_left fun x hx => ?_
      have := h x hx
      show (Char.ofNat x).toNat = x
      obtain ⟨h1, h2⟩ := this
      have : ∀ y : Nat, 48 ≤ y → y ≤ 57 → (Char.ofNat y).toNat = y := by
        intro y a b
        have : y = 48 ∨ y = 49 ∨ y = 50 ∨ y = 51 ∨ y = 52 ∨ y = 53 ∨ y = 54 ∨ y = 55 ∨ y = 56 ∨ y = 57 := by omega
        rcases this with rfl | rfl | rfl | rfl | rfl | rfl | rfl | rfl | rfl | rfl <;> rfl
      exact this x h1 h2
  · rfl
theorem wn_num (n : Int) : wn (numI n) = some n := by
  unfold numI
  have hd := fun m => dg_all.mpr (TL.numL_digits m)
  by_cases h : n < 0
  · rw [if_pos h]
    have hz := numL_head (n := n.natAbs) (by omega)
    have hne := TL.numL_ne n.natAbs
    have h1 : ((TL.numL n.natAbs).isEmpty || (TL.numL n.natAbs).head? == some 48) = false := by
      simp [hz, hne]
    simp only [wn]
    rw [h1, if_neg Bool.false_ne_true, if_pos (hd _), TL.numL_val]
    congr 1
    omega
  · rw [if_neg h]
    have hne := TL.numL_ne n.natAbs
    have h45 : ∀ r, TL.numL n.natAbs ≠ 45 :: r := fun r e => by
      have := TL.numL_digits n.natAbs 45 (by rw [e]; exact List.mem_cons_self)
      omega
    have h1 : ((TL.numL n.natAbs).isEmpty || ((TL.numL n.natAbs).head? == some 48 && TL.numL n.natAbs != [48])) = false := by
      by_cases h0 : n.natAbs = 0
      · rw [h0]
        decide +kernel
      · have hz := numL_head (n := n.natAbs) (by omega)
        simp [hz, hne]
    unfold wn
    split
    · rename_i ds e
      exact absurd e (h45 ds)
    · rw [h1, if_neg Bool.false_ne_true, if_pos (hd _), TL.numL_val]
      congr 1
      omega
theorem num_wn {l : List Nat} {n : Int} (h : wn l = some n) : l = numI n := by
  unfold wn at h
  split at h
  · rename_i ds
    split at h
    · cases h
    · rename_i h1
      simp only [Bool.or_eq_true, not_or, Bool.not_eq_true, List.isEmpty_eq_false_iff, beq_eq_false_iff_ne] at h1
      obtain ⟨hne, hz⟩ := h1
      split at h
      · rename_i hd
        cases h
        have hd := dg_all.mp hd
        have hp : 0 < NumText.digitsVal ds := by
          cases ds with
          | nil => exact absurd rfl hne
          | cons c r =>
            refine NumText.digitsVal_pos ?_
            have := hd.head
            have : c ≠ 48 := fun e => hz (by rw [e]; rfl)
            omega
        unfold numI
        rw [if_pos (by omega)]
        have e : (-(NumText.digitsVal ds : Int)).natAbs = NumText.digitsVal ds := by omega
        rw [e, numL_of hd hne (.inl hz)]
      · cases h
  · split at h
    · cases h
    · rename_i h1
      simp only [Bool.or_eq_true, not_or, Bool.not_eq_true, List.isEmpty_eq_false_iff] at h1
      obtain ⟨hne, hz⟩ := h1
      split at h
      · rename_i hd
        cases h
        have hd := dg_all.mp hd
        unfold numI
        rw [if_neg (by omega)]
        have e : ((NumText.digitsVal l : Nat) : Int).natAbs = NumText.digitsVal l := by omega
        rw [e, numL_of hd hne]
        by_cases h48 : l.head? = some 48
        · right
          simpa [h48] using hz
        · exact .inl h48
      · cases h
theorem numI_inj {a b : Int} (h : numI a = numI b) : a = b := by
  have := wn_num a
  rw [h, wn_num] at this
  exact (Option.some.inj this).symm
end RJ

set_option Elab.async false
set_option linter.all false
set_option maxRecDepth 100000
set_option maxHeartbeats 1000000
set_option autoImplicit false
/-! RjW: whole_number, _law_number. -/
namespace RJ
open PySem PySem.Spec L2
open SX (S)

@[simp] theorem s_len (a : List Nat) : (S a).length = a.length := SX.S_len a
@[simp] theorem s_minus : ("-" : Str) = S [45] := TL.ext_tl (by rw [TL.tl_ofString]; rfl)
@[simp] theorem s_zero : ("0" : Str) = S [48] := TL.ext_tl (by rw [TL.tl_ofString]; rfl)
@[simp] theorem s_one : ("1" : Str) = S [49] := TL.ext_tl (by rw [TL.tl_ofString]; rfl)
@[simp] theorem s_empty : ("" : Str) = S [] := TL.ext_tl (by rw [TL.tl_ofString]; rfl)
@[simp] theorem s_slash : ("/" : Str) = S [47] := TL.ext_tl (by rw [TL.tl_ofString]; rfl)
@[simp] theorem s_blank : (" " : Str) = S [32] := TL.ext_tl (by rw [TL.tl_ofString]; rfl)
@[simp] theorem s_comma : (", " : Str) = S [44, 32] := TL.ext_tl (by rw [TL.tl_ofString]; rfl)
@[simp] theorem s_digits : ("0123456789" : Str) = S [48, 49, 50, 51, 52, 53, 54, 55, 56, 57] := TL.ext_tl (by rw [TL.tl_ofString]; rfl)
theorem dg_cases {c : Nat} (h : isDg c = true) : c = 48 ∨ c = 49 ∨ c = 50 ∨ c = 51 ∨ c = 52 ∨ c = 53 ∨ c = 54 ∨ c = 55 ∨ c = 56 ∨ c = 57 := by
  unfold isDg at h
  simp only [Bool.and_eq_true, decide_eq_true_eq] at h
  omega
theorem dg_mem (c : Nat) : decide (c ∈ [48, 49, 50, 51, 52, 53, 54, 55, 56, 57]) = isDg c := by
  rw [Bool.eq_iff_iff]
  constructor
  · intro h
    have := of_decide_eq_true h
    simp only [List.mem_cons, List.not_mem_nil, or_false] at this
    unfold isDg
    simp only [Bool.and_eq_true, decide_eq_true_eq]
    omega
  · intro h
    refine decide_eq_true ?_
    rcases dg_cases h with rfl | rfl | rfl | rfl | rfl | rfl | rfl | rfl | rfl | rfl <;> simp
theorem find_dg {c : Nat} (h : isDg c = true) : Txt.find (S [48, 49, 50, 51, 52, 53, 54, 55, 56, 57]) (S [c]) = (c : Int) - 48 := by
  rcases dg_cases h with rfl | rfl | rfl | rfl | rfl | rfl | rfl | rfl | rfl | rfl <;> decide +kernel
theorem index_dg {c : Nat} (h : isDg c = true) : Txt.index0 (S [48, 49, 50, 51, 52, 53, 54, 55, 56, 57]) (S [c]) = some (c - 48) := by
  rcases dg_cases h with rfl | rfl | rfl | rfl | rfl | rfl | rfl | rfl | rfl | rfl <;> decide +kernel
def val (ds : List Nat) (n : Int) : Int := ds.foldl (fun (t : Int) (c : Nat) => 10 * t + ((c : Int) - 48)) n
theorem val_dg {ds : List Nat} (h : ds.all isDg = true) : val ds 0 = (NumText.digitsVal ds : Int) := by
  have e := TL.fold_digits ds 0 (dg_all.mp h)
  unfold val NumText.digitsVal
  rw [← Int.natCast_zero] at *
  rw [← e]
  congr 1
  funext t c
  omega
/-- numbers of few digits have few bits -/
theorem bits10 {n : Int} {k : Nat} (h : n.natAbs < 10 ^ k) : Builtin.Int.intBits n ≤ 4 * k := by
  refine PySem.intBits_le_iff.mpr (Nat.lt_of_lt_of_le h ?_)
  rw [Nat.pow_mul]
  exact Nat.pow_le_pow_left (by decide) k
@[irreducible] def cap : Nat := 8000000
theorem cap_val : cap = 8000000 := by
  unfold cap
  rfl
theorem num_loop {a b : Sl} {body : En → SR} (hb : ∀ (n : Int) (c : Nat), n.natAbs < 10 ^ cap → body [a, b, .sh (.int n), .sh (.str (S [c]))] = if isDg c = true then .nx [a, b, .sh (.int (10 * n + ((c : Int) - 48))), .sh (.str (S [c]))] else .rt .non) :
    ∀ (ds : List Nat) (n : Int) (s : Sl) (k : Nat), n.natAbs < 10 ^ k → k + ds.length ≤ cap →
      (ds.all isDg = true → forD (fun d Γ => .ok (Γ.set 3 (.sh d))) body (ds.map fun c => .str ⟨#[c]⟩) [a, b, .sh (.int n), s] = .nx [a, b, .sh (.int (val ds n)), ds.foldl (fun _ c => .sh (.str (S [c]))) s]) ∧
      (ds.all isDg = false → forD (fun d Γ => .ok (Γ.set 3 (.sh d))) body (ds.map fun c => .str ⟨#[c]⟩) [a, b, .sh (.int n), s] = .rt .non)
  | [], n, s, k, _, _ => ⟨fun _ => rfl, fun h => by cases h⟩
  | c :: ds, n, s, k, hn, hk => by
    have hn' : n.natAbs < 10 ^ cap := Nat.lt_of_lt_of_le hn (Nat.pow_le_pow_right (by decide) (by simp at hk; omega))
    have step : forD (fun d Γ => .ok (Γ.set 3 (.sh d))) body ((c :: ds).map fun c => .str ⟨#[c]⟩) [a, b, .sh (.int n), s] = (if isDg c = true then SR.nx [a, b, .sh (.int (10 * n + ((c : Int) - 48))), .sh (.str (S [c]))] else .rt .non).turn (forD (fun d Γ => .ok (Γ.set 3 (.sh d))) body (ds.map fun c => .str ⟨#[c]⟩)) := by
      rw [List.map_cons, forD_cons, ← hb n c hn']
      rfl
    rw [step]
    cases hc : isDg c with
    | true =>
      have hl : (10 * n + ((c : Int) - 48)).natAbs < 10 ^ (k + 1) := by
        unfold isDg at hc
        simp only [Bool.and_eq_true, decide_eq_true_eq] at hc
        rw [Nat.pow_succ]
        omega
      obtain ⟨h1, h2⟩ := num_loop hb ds (10 * n + ((c : Int) - 48)) (.sh (.str (S [c]))) (k + 1) hl (by simp at hk; omega)
      rw [if_pos rfl, SR.turn_nx]
      constructor
      · intro h
        rw [List.all_cons, hc, Bool.true_and] at h
        exact h1 h
      · intro h
        rw [List.all_cons, hc, Bool.true_and] at h
        exact h2 h
    | false =>
      rw [if_neg Bool.false_ne_true, SR.turn_rt]
      constructor
      · intro h
        rw [List.all_cons, hc] at h
        cases h
      · intro _
        rfl
def encO : Option Int → D
  | none => .non
  | some n => .int n
theorem bits_ok {n : Int} (h : n.natAbs < 10 ^ cap) : (Builtin.Int.intBits 10 : Int) + (Builtin.Int.intBits n : Int) ≤ 134217728 := by
  have h1 := bits10 h
  have h2 : Builtin.Int.intBits 10 = 4 := by decide +kernel
  rw [h2]
  have := cap_val
  omega
/-- the digits of a text -/
def dgs : List Nat → List Nat
  | 45 :: r => r
  | l => l
theorem wn_eq (l : List Nat) : wn l = if dgs l = [] ∨ ((dgs l).head? = some 48 ∧ l ≠ [48]) then none else if (dgs l).all isDg = true then some (if dgs l = l then (NumText.digitsVal (dgs l) : Int) else -(NumText.digitsVal (dgs l) : Int)) else none := by
  unfold wn dgs
  split
  · rename_i ds
    have h1 : ds ≠ 45 :: ds := fun e => by
      have := congrArg List.length e
      simp at this
    simp [h1]
  · simp
theorem dgs_if (l : List Nat) : (if List.take 1 l = [45] then Re.ok (D.str (S l.tail)) else Re.ok (D.str (S l))) = .ok (.str (S (dgs l))) := by
  cases l with
  | nil => rfl
  | cons c r =>
    by_cases h : c = 45
    · subst h
      rfl
    · have e : dgs (c :: r) = c :: r := by
        unfold dgs
        split
        · rename_i r' e
          exact absurd (List.cons.inj e).1 h
        · rfl
      rw [e, if_neg]
      simpa using h
theorem dgs_len (l : List Nat) : (dgs l).length ≤ l.length := by
  unfold dgs
  split
  · simp
  · exact Nat.le_refl _
theorem atI_head {α : Type} {l : List α} {c : α} (h : l.head? = some c) : atI l 0 = some c := by
  cases l with
  | nil => cases h
  | cons d r =>
    cases h
    unfold atI ixN
    simp
theorem wn_body {T : Tbl} {a b : Sl} (n : Int) (c : Nat) (hn : n.natAbs < 10 ^ cap) :
    (bCons (scIf (tcCmp lNinS (ocVar 3) (ocE (ecGs ("DIGITS" : Str) (S [48, 49, 50, 51, 52, 53, 54, 55, 56, 57])))) (bCons (scRet ecNon) bNil) bNil)
      (bCons (scSet 2 (ecBin lAdd (ocE (ecBin lMul (ocE (ecInt 10)) (ocVar 2))) (ocE (ecFind (ocE (ecGs ("DIGITS" : Str) (S [48, 49, 50, 51, 52, 53, 54, 55, 56, 57]))) (ocVar 3))))) bNil) : BC T).den [a, b, .sh (.int n), .sh (.str (S [c]))] =
    if isDg c = true then .nx [a, b, .sh (.int (10 * n + ((c : Int) - 48))), .sh (.str (S [c]))] else .rt .non := by
  have hb := bits_ok hn
  by_cases hg : isDg c = true
  · have hm := dg_mem c
    rw [hg] at hm
    have hm := of_decide_eq_true hm
    simp only [List.mem_cons, List.not_mem_nil, or_false] at hm
    simp [dVarO, dVar, denM1, strR, findG, find_dg hg, hg, hb, hm]
  · have hm : ¬ c ∈ [48, 49, 50, 51, 52, 53, 54, 55, 56, 57] := fun h => hg (by rw [← dg_mem]; exact decide_eq_true h)
    simp only [List.mem_cons, List.not_mem_nil, or_false] at hm
    simp [dVarO, dVar, hg, hm]
theorem whole_number_ok (l : List Nat) (hl : l.length ≤ 4000000) : d_whole_number [.str (S l)] = .ok (encO (wn l)) := by
  have hz : l.length ≤ sizeLine := by rw [sizeLine_eq]; omega
  have hz2 := dgs_len l
  simp [d_whole_number, fnDen, n_whole_number, b_whole_number, startE, dVarO, dVar, slG_to _ _ _ hz, slG_from _ _ _ hz, dgs_if]
  rw [wn_eq]
  by_cases h0 : dgs l = []
  · simp [h0, encO]
  · obtain ⟨c, hc⟩ : ∃ c, (dgs l).head? = some c := by
      cases e : dgs l with
      | nil => exact absurd e h0
      | cons c r => exact ⟨c, rfl⟩
    have hz3 : (dgs l).length ≤ sizeLine := Nat.le_trans hz2 hz
    have e : (if c = 48 then Re.ok !decide (l = [48]) else Re.ok false) = .ok (decide (c = 48 ∧ l ≠ [48])) := by
      by_cases h1 : c = 48 <;> simp [h1]
    simp [dVarO, dVar, ixG_str _ _ _ hz3 (atI_head hc), e, h0]
    by_cases h1 : c = 48 ∧ ¬ l = [48]
    · simp [h1, hc, encO]
    · have key := num_loop (a := .sh (.str (S l))) (b := .sh (.str (S (dgs l)))) (fun n c hn => wn_body (T := mkT t_whole_number) n c hn) (dgs l) 0 .no 0 (by decide) (by have := cap_val; omega)
      simp [dVarO, dVar, h1, hc]
      by_cases hall : (dgs l).all isDg = true
      · have hall' : ∀ x ∈ dgs l, isDg x = true := List.all_eq_true.mp hall
        rw [key.1 hall, if_pos hall', val_dg hall]
        by_cases hs : dgs l = l
        · simp [dVarO, dVar, hs, encO]
        · simp [dVarO, dVar, hs, encO]
      · have hf : (dgs l).all isDg = false := by simpa using hall
        have hall' : ¬ ∀ x ∈ dgs l, isDg x = true := fun h => hall (List.all_eq_true.mpr h)
        rw [key.2 hf, if_neg hall']
        simp [encO]
theorem ln_body {T : Tbl} {a b : Sl} (n : Int) (c : Nat) (hn : n.natAbs < 10 ^ cap) :
    (bCons (scIf (tcCmp lNinS (ocVar 3) (ocE (ecStr (S [48, 49, 50, 51, 52, 53, 54, 55, 56, 57])))) (bCons (scRet ecNon) bNil) bNil)
      (bCons (scSet 2 (ecBin lAdd (ocE (ecBin lMul (ocE (ecInt 10)) (ocVar 2))) (ocE (ecIndex (ocE (ecStr (S [48, 49, 50, 51, 52, 53, 54, 55, 56, 57]))) (ocVar 3))))) bNil) : BC T).den [a, b, .sh (.int n), .sh (.str (S [c]))] =
    if isDg c = true then .nx [a, b, .sh (.int (10 * n + ((c : Int) - 48))), .sh (.str (S [c]))] else .rt .non := by
  have hb := bits_ok hn
  by_cases hg : isDg c = true
  · have hm := dg_mem c
    rw [hg] at hm
    have hm := of_decide_eq_true hm
    simp only [List.mem_cons, List.not_mem_nil, or_false] at hm
    have hc : ((c - 48 : Nat) : Int) = (c : Int) - 48 := by
      unfold isDg at hg
      simp only [Bool.and_eq_true, decide_eq_true_eq] at hg
      omega
    simp [dVarO, dVar, denM1, strR, indexG, index_dg hg, hg, hb, hm, hc]
  · have hm : ¬ c ∈ [48, 49, 50, 51, 52, 53, 54, 55, 56, 57] := fun h => hg (by rw [← dg_mem]; exact decide_eq_true h)
    simp only [List.mem_cons, List.not_mem_nil, or_false] at hm
    simp [dVarO, dVar, hg, hm]
theorem dgs_if2 {α : Type} (l : List Nat) (x y : α) : (if List.take 1 l = [45] then x else y) = if dgs l = l then y else x := by
  cases l with
  | nil => rfl
  | cons c r =>
    by_cases h : c = 45
    · subst h
      have : dgs (45 :: r) ≠ 45 :: r := fun e => by
        have := congrArg List.length e
        simp [dgs] at this
      rw [if_neg this]
      rfl
    · have e : dgs (c :: r) = c :: r := by
        unfold dgs
        split
        · rename_i r' e
          exact absurd (List.cons.inj e).1 h
        · rfl
      rw [if_pos e, if_neg]
      simpa using h
theorem dgs_tail {l : List Nat} (h : ¬ dgs l = l) : l.tail = dgs l := by
  cases l with
  | nil => exact absurd rfl h
  | cons c r =>
    by_cases hc : c = 45
    · subst hc
      rfl
    · refine absurd ?_ h
      unfold dgs
      split
      · rename_i r' e
        exact absurd (List.cons.inj e).1 hc
      · rfl
theorem law_number_ok (l : List Nat) (hl : l.length ≤ 4000000) : d_law_number [.str (S l)] = .ok (encO (wn l)) := by
  have hz : l.length ≤ sizeLine := by rw [sizeLine_eq]; omega
  have hz2 := dgs_len l
  have hlen : (dgs l).length ≤ 16777216 := by omega
  have main : ∀ X : SR, X = .nx [.sh (.str (S l)), .sh (.str (S (dgs l))), .no, .no] → outS (X.seq
      (bCons (scIf (tcOr [(tcCmp lEq (ocE (ecB "len" lLen (aoCons (ocVar 1) aoNil))) (ocE (ecInt 0))), (tcAnd [(tcCmp lEq (ocE (ecIx (ocVar 1) (ocE (ecInt 0)))) (ocE (ecStr (S [48])))), (tcCmp lNe (ocVar 0) (ocE (ecStr (S [48]))))])]) (bCons (scRet ecNon) bNil) (bNil)) <|
        bCons (scSet 2 (ecInt 0)) <|
        bCons (scFor (gcName 3) (icStr (ecVar 1)) (bCons (scIf (tcCmp lNinS (ocVar 3) (ocE (ecStr (S [48, 49, 50, 51, 52, 53, 54, 55, 56, 57])))) (bCons (scRet ecNon) bNil) (bNil)) <|
          bCons (scSet 2 (ecBin lAdd (ocE (ecBin lMul (ocE (ecInt 10)) (ocVar 2))) (ocE (ecIndex (ocE (ecStr (S [48, 49, 50, 51, 52, 53, 54, 55, 56, 57]))) (ocVar 3))))) bNil)) <|
        bCons (scIf (tcCmp lNe (ocVar 0) (ocVar 1)) (bCons (scRet (ecNeg (ocVar 2))) bNil) (bNil)) <|
        bCons (scRet (ecVar 2)) bNil : BC (mkT t_law_number)).den) = .ok (encO (wn l)) := by
    rintro _ rfl
    rw [wn_eq]
    by_cases h0 : dgs l = []
    · simp [h0, encO, dVarO, dVar]
    · obtain ⟨c, hc⟩ : ∃ c, (dgs l).head? = some c := by
        cases e : dgs l with
        | nil => exact absurd e h0
        | cons c r => exact ⟨c, rfl⟩
      have hz3 : (dgs l).length ≤ sizeLine := Nat.le_trans hz2 hz
      have e : (if c = 48 then Re.ok !decide (l = [48]) else Re.ok false) = .ok (decide (c = 48 ∧ l ≠ [48])) := by
        by_cases h1 : c = 48 <;> simp [h1]
      simp [dVarO, dVar, hlen, ixG_str _ _ _ hz3 (atI_head hc), e, h0]
      by_cases h1 : c = 48 ∧ ¬ l = [48]
      · simp [h1, hc, encO]
      · have key := num_loop (a := .sh (.str (S l))) (b := .sh (.str (S (dgs l)))) (fun n c hn => ln_body (T := mkT t_law_number) n c hn) (dgs l) 0 .no 0 (by decide) (by have := cap_val; omega)
        simp [dVarO, dVar, h1, hc]
        by_cases hall : (dgs l).all isDg = true
        · have hall' : ∀ x ∈ dgs l, isDg x = true := List.all_eq_true.mp hall
          rw [key.1 hall, if_pos hall', val_dg hall]
          by_cases hs : dgs l = l
          · simp [dVarO, dVar, hs, encO]
          · have hs' : ¬ l = dgs l := fun e => hs e.symm
            simp [dVarO, dVar, hs, hs', encO]
        · have hf : (dgs l).all isDg = false := by simpa using hall
          have hall' : ¬ ∀ x ∈ dgs l, isDg x = true := fun h => hall (List.all_eq_true.mpr h)
          rw [key.2 hf, if_neg hall']
          simp [encO]
  simp only [d_law_number, fnDen, n_law_number, b_law_number, startE]
  simp [dVarO, dVar, slG_to _ _ _ hz, slG_from _ _ _ hz]
  refine main _ ?_
  rw [dgs_if2]
  by_cases hs : dgs l = l
  · simp [hs]
  · rw [if_neg hs, dgs_tail hs]
end RJ

set_option Elab.async false
set_option linter.all false
set_option maxRecDepth 100000
set_option maxHeartbeats 1000000
set_option autoImplicit false
/-! RjX: cutting texts, comprehensions, fractions. -/
namespace RJ
open PySem PySem.Spec L2
open SX (S)

/-! ### cutting -/
theorem pre_split {sep : List Nat} {l : List Nat} (h : TL.pre sep l = true) : l = sep ++ l.drop sep.length := by
  unfold TL.pre at h
  have := beq_iff_eq.mp h
  conv => lhs; rw [← List.take_append_drop sep.length l, this]
theorem joinL_cons2 (sep : List Nat) (p q : List Nat) (r : List (List Nat)) : TL.joinL sep (p :: q :: r) = p ++ sep ++ TL.joinL sep (q :: r) := by
  first
    | rfl
    | (show p ++ (sep ++ TL.joinL sep (q :: r)) = _; rw [List.append_assoc])
theorem spl_ne (sep : List Nat) : ∀ (k : Nat) (acc l : List Nat), TL.spl sep k acc l ≠ []
  | k, acc, [] => by rw [TL.spl_nil]; simp
  | 0, acc, c :: r => by
    cases h : TL.pre sep (c :: r) with
    | true => rw [TL.spl_hit h]; simp
    | false => rw [TL.spl_miss h]; exact spl_ne sep 0 _ r
  | k + 1, acc, c :: r => spl_ne sep k acc r
theorem join_spl {sep : List Nat} (hs : sep ≠ []) : ∀ (n : Nat) (acc l : List Nat), l.length ≤ n → TL.joinL sep (TL.spl sep 0 acc l) = acc ++ l
  | n, acc, [], _ => by rw [TL.spl_nil, List.append_nil]; rfl
  | 0, acc, c :: r, h => by simp at h
  | n + 1, acc, c :: r, h => by
    cases hp : TL.pre sep (c :: r) with
    | false =>
      rw [TL.spl_miss hp, join_spl hs n (acc ++ [c]) r (by simpa using h)]
      simp
    | true =>
      rw [TL.spl_hit hp, TL.spl_pass]
      have hl : 0 < sep.length := List.length_pos_iff.mpr hs
      have e : (c :: r).drop sep.length = r.drop (sep.length - 1) := by
        obtain ⟨m, hm⟩ : ∃ m, sep.length = m + 1 := ⟨sep.length - 1, by omega⟩
        rw [hm]
        rfl
      have ih := join_spl hs n [] (r.drop (sep.length - 1)) (by simp at h; rw [List.length_drop]; omega)
      cases e2 : TL.spl sep 0 [] (r.drop (sep.length - 1)) with
      | nil => exact absurd e2 (spl_ne _ _ _ _)
      | cons q qs =>
        rw [e2] at ih
        rw [joinL_cons2, ih, List.nil_append, List.append_assoc]
        conv => rhs; rw [pre_split hp, e]
theorem joinL_len (sep : List Nat) : ∀ (ps : List (List Nat)), ps.length * sep.length ≤ (TL.joinL sep ps).length + sep.length ∧ ∀ p ∈ ps, p.length ≤ (TL.joinL sep ps).length
  | [] => ⟨by simp, fun p h => by cases h⟩
  | [p] => ⟨by simp, fun q h => by
      rw [List.mem_singleton] at h
      subst h
      exact Nat.le_refl _⟩
  | p :: q :: r => by
    obtain ⟨h1, h2⟩ := joinL_len sep (q :: r)
    rw [joinL_cons2]
    refine ⟨?_, fun x hx => ?_⟩
    · rw [List.length_append, List.length_append, List.length_cons, Nat.add_mul]
      omega
    · rw [List.length_append, List.length_append]
      rcases List.mem_cons.mp hx with rfl | hx
      · omega
      · have := h2 x hx
        omega
theorem spl_lens {sep : List Nat} (hs : sep ≠ []) (l : List Nat) : (TL.spl sep 0 [] l).length ≤ l.length + 1 ∧ ∀ p ∈ TL.spl sep 0 [] l, p.length ≤ l.length := by
  have e := join_spl hs l.length [] l (Nat.le_refl _)
  obtain ⟨h1, h2⟩ := joinL_len sep (TL.spl sep 0 [] l)
  rw [e, List.nil_append] at h1 h2
  have hl : 0 < sep.length := List.length_pos_iff.mpr hs
  refine ⟨?_, h2⟩
  have h3 : (TL.spl sep 0 [] l).length * sep.length ≤ (l.length + 1) * sep.length := by
    refine Nat.le_trans h1 ?_
    rw [Nat.add_mul, Nat.one_mul]
    exact Nat.add_le_add_right (Nat.le_mul_of_pos_right _ hl) _
  exact Nat.le_of_mul_le_mul_right h3 hl
def strsOf (ps : List (List Nat)) : List D := ps.map fun p => .str (S p)
theorem split_ok {l b : List Nat} (hb : b ≠ []) (hk : b.all (· < 256) = true) (hl : l.length + 2 ≤ 16777216) : splitG (S l) (.str (S b)) = .ok (.lst (strsOf (TL.spl b 0 [] l))) := by
  have hbl : ((S b).length == 0) = false := by
    rw [SX.S_len]
    cases b with
    | nil => exact absurd rfl hb
    | cons c r => rfl
  show (if ((S b).length == 0) = false ∧ (S l).length + 2 ≤ sizeLine then Re.ok (D.lst ((Txt.split (S l) (S b)).map .str)) else .no) = _
  rw [if_pos ⟨hbl, by rw [SX.S_len, sizeLine_eq]; exact hl⟩, SX.split_S hb hk]
  unfold strsOf
  rw [List.map_map]
  rfl
/-! ### comprehensions -/
theorem lcGo_map {α : Type} {tg : D → En → Re En} {ct : En → Re Bool} {el : En → Re D} {vs : List Nat} {Γ : En} {enc out : α → D} {Γx : α → En} : ∀ {xs : List α}, (∀ x ∈ xs, tg (enc x) (wipeE Γ vs) = .ok (Γx x) ∧ ct (Γx x) = .ok true ∧ el (Γx x) = .ok (out x)) → lcGo tg ct el vs (xs.map enc) Γ = some (xs.map out)
  | [], _ => rfl
  | x :: xs, h => by
    obtain ⟨h1, h2, h3⟩ := h x List.mem_cons_self
    rw [List.map_cons, List.map_cons]
    unfold lcGo
    rw [h1, lcGo_map fun y hy => h y (List.mem_cons_of_mem _ hy)]
    simp [okO, h2, h3]
theorem lcGo_filter {α : Type} {tg : D → En → Re En} {ct : En → Re Bool} {el : En → Re D} {vs : List Nat} {Γ : En} {enc out : α → D} {Γx : α → En} {p : α → Bool} : ∀ {xs : List α}, (∀ x ∈ xs, tg (enc x) (wipeE Γ vs) = .ok (Γx x) ∧ ct (Γx x) = .ok (p x) ∧ (p x = true → el (Γx x) = .ok (out x))) → lcGo tg ct el vs (xs.map enc) Γ = some ((xs.filter p).map out)
  | [], _ => rfl
  | x :: xs, h => by
    obtain ⟨h1, h2, h3⟩ := h x List.mem_cons_self
    rw [List.map_cons]
    unfold lcGo
    rw [h1, lcGo_filter fun y hy => h y (List.mem_cons_of_mem _ hy)]
    cases hp : p x with
    | true => simp [okO, h2, h3 hp, hp]
    | false => simp [okO, h2, hp]
theorem denLc_ok {T : Tbl} {it : IC T} {tg : GC T} {ct : Option (TC T)} {el : EC T} {vs : List Nat} {Γ : En} {ds ys : List D} (h1 : it.den Γ = .ok ds) (hl : ds.length ≤ 16777216) (h2 : lcGo tg.den (denC ct) el.den vs ds Γ = some ys) : denLc it tg ct el vs Γ = .ok (.lst ys) := by
  unfold denLc
  rw [h1]
  simp [hl, h2]
theorem in_none (os : List (Option Int)) : inG false .non (.lst (os.map encO)) = .ok (.bl (os.any (·.isNone))) := by
  have hf : (os.map encO).all flatD = true := by
    rw [List.all_map, List.all_eq_true]
    intro o _
    cases o <;> rfl
  show (if (flatD .non && (os.map encO).all flatD) = true then Re.ok (D.bl (if false = true then !inV (vOf .non) ((os.map encO).map vOf) else inV (vOf .non) ((os.map encO).map vOf))) else .no) = _
  rw [hf, if_pos (show (flatD D.non && true) = true from rfl), if_neg Bool.false_ne_true]
  congr 2
  unfold inV
  rw [List.map_map, List.any_map]
  congr 1
  funext o
  cases o <;> rfl
/-! ### fractions -/
def gq (a b : Int) : Int := if b < 0 then -(Int.gcd a b : Int) else Int.gcd a b
def ratM (a b : Int) : Int × Int := (a.fdiv (gq a b), b.fdiv (gq a b))
theorem gq_ne {a b : Int} (hb : b ≠ 0) : gq a b ≠ 0 := by
  have hg : (Int.gcd a b : Int) ≠ 0 := by simp [Int.gcd_eq_zero_iff, hb]
  unfold gq
  split <;> omega
theorem gq_dvd (a b : Int) : gq a b ∣ a ∧ gq a b ∣ b := by
  unfold gq
  have h1 := Int.gcd_dvd_left (a := a) (b := b)
  have h2 := Int.gcd_dvd_right (a := a) (b := b)
  split
  · exact ⟨Int.neg_dvd.mpr h1, Int.neg_dvd.mpr h2⟩
  · exact ⟨h1, h2⟩
theorem ratM_spec {a b : Int} (hb : b ≠ 0) : a = (ratM a b).1 * gq a b ∧ b = (ratM a b).2 * gq a b ∧ 0 < (ratM a b).2 ∧ Int.gcd (ratM a b).1 (ratM a b).2 = 1 := by
  obtain ⟨⟨x, hx⟩, ⟨y, hy⟩⟩ := gq_dvd a b
  have hg := gq_ne (a := a) hb
  have e1 : (ratM a b).1 = x := by
    show a.fdiv (gq a b) = x
    conv => lhs; arg 1; rw [hx]
    exact Int.mul_fdiv_cancel_left _ hg
  have e2 : (ratM a b).2 = y := by
    show b.fdiv (gq a b) = y
    conv => lhs; arg 1; rw [hy]
    exact Int.mul_fdiv_cancel_left _ hg
  rw [e1, e2]
  refine ⟨by rw [Int.mul_comm]; exact hx, by rw [Int.mul_comm]; exact hy, ?_, ?_⟩
  · have hgp : (0 : Int) ≤ Int.gcd a b := Int.natCast_nonneg _
    unfold gq at hy hg
    split at hy
    · rename_i h
      rw [if_pos h] at hg
      have hgp' : 0 < (Int.gcd a b : Int) := by omega
      have : 0 < (Int.gcd a b : Int) * y := by
        have := hy
        rw [Int.neg_mul] at this
        omega
      rcases Int.lt_trichotomy y 0 with h0 | h0 | h0
      · have := Int.mul_neg_of_pos_of_neg hgp' h0
        omega
      · rw [h0, Int.mul_zero] at this
        omega
      · exact h0
    · rename_i h
      rw [if_neg h] at hg
      have hgp' : 0 < (Int.gcd a b : Int) := by omega
      have hbp : 0 < b := by omega
      rcases Int.lt_trichotomy y 0 with h0 | h0 | h0
      · have := Int.mul_neg_of_pos_of_neg hgp' h0
        omega
      · rw [h0, Int.mul_zero] at hy
        omega
      · exact h0
  · have e : Int.gcd a b = (gq a b).natAbs * Int.gcd x y := by
      have e0 : Int.gcd a b = Int.gcd (gq a b * x) (gq a b * y) := congr (congrArg Int.gcd hx) hy
      rw [e0]
      exact Int.gcd_mul_left _ _ _
    have e3 : (gq a b).natAbs = Int.gcd a b := by
      unfold gq
      split <;> omega
    rw [e3] at e
    have hgp : 0 < Int.gcd a b := by
      have : (gq a b).natAbs ≠ 0 := by omega
      omega
    exact Nat.eq_of_mul_eq_mul_left hgp (by omega)
theorem ratM_unique {a b x y : Int} (hb : b ≠ 0) (hy : 0 < y) (hc : Int.gcd x y = 1) (h : x * b = a * y) : ratM a b = (x, y) := by
  obtain ⟨h1, h2, h3, h4⟩ := ratM_spec (a := a) hb
  have hg := gq_ne (a := a) hb
  generalize gq a b = g at *
  generalize hx' : (ratM a b).1 = x' at *
  generalize hy' : (ratM a b).2 = y' at *
  have e : x * y' = x' * y := by
    have : (x * y') * g = (x' * y) * g := by
      rw [h1, h2] at h
      calc (x * y') * g = x * (y' * g) := by rw [Int.mul_assoc]
        _ = (x' * g) * y := h
        _ = (x' * y) * g := by rw [Int.mul_assoc, Int.mul_comm g y, ← Int.mul_assoc]
    exact Int.eq_of_mul_eq_mul_right hg this
  have d1 : y.natAbs ∣ y'.natAbs := by
    have : y.natAbs ∣ x.natAbs * y'.natAbs := by
      rw [← Int.natAbs_mul, e, Int.natAbs_mul]
      exact Nat.dvd_mul_left _ _
    exact Nat.Coprime.dvd_of_dvd_mul_left (show Nat.Coprime y.natAbs x.natAbs from (Nat.gcd_comm _ _).trans hc) this
  have d2 : y'.natAbs ∣ y.natAbs := by
    have : y'.natAbs ∣ x'.natAbs * y.natAbs := by
      rw [← Int.natAbs_mul, ← e, Int.natAbs_mul]
      exact Nat.dvd_mul_left _ _
    exact Nat.Coprime.dvd_of_dvd_mul_left (show Nat.Coprime y'.natAbs x'.natAbs from (Nat.gcd_comm _ _).trans h4) this
  have ey : y = y' := by
    have := Nat.dvd_antisymm d1 d2
    omega
  subst ey
  have ex : x = x' := Int.eq_of_mul_eq_mul_right (by omega) e
  subst ex
  rw [← hx', ← hy']
end RJ

set_option Elab.async false
set_option linter.all false
set_option maxRecDepth 100000
set_option maxHeartbeats 1000000
set_option autoImplicit false
/-! RjY: ratio, fraction, times, _law_gcd, _law_frac. -/
namespace RJ
open PySem PySem.Spec L2
open SX (S)

theorem gq_abs (a b : Int) : (gq a b).natAbs = Int.gcd a b := by
  unfold gq
  split <;> omega
def pyD (n : Int) : Nat := if n == 0 then 0 else n.natAbs.log2 / 30 + 1
theorem py_eq (x y : Int) : Builtin.divisionGoesByPylong x y = (decide (pyD y > 300) && decide (pyD x > pyD y + 150)) := rfl
theorem pyD_big {n : Int} {k : Nat} (h : k + 1 < pyD n) : 2 ^ (30 * (k + 1)) ≤ n.natAbs := by
  unfold pyD at h
  split at h
  · omega
  · rename_i h0
    have hn : n.natAbs ≠ 0 := by
      intro e
      exact h0 (by simp; omega)
    have h1 : 30 * (k + 1) ≤ n.natAbs.log2 := by omega
    exact Nat.le_trans (Nat.pow_le_pow_right (by decide) h1) (Nat.log2_self_le hn)
theorem noPy1 {a b : Int} {m n : Nat} (ha : a.natAbs < 2 ^ m) (hb : b.natAbs < 2 ^ n) (hb0 : b ≠ 0) (h : m + n ≤ 20000) : Builtin.divisionGoesByPylong a (gq a b) = false := by
  rw [py_eq]
  by_cases c : pyD (gq a b) > 300 ∧ pyD a > pyD (gq a b) + 150
  · exfalso
    obtain ⟨c1, c2⟩ := c
    have h1 := pyD_big (n := gq a b) (k := 299) (by omega)
    have h2 := pyD_big (n := a) (k := 449) (by omega)
    rw [gq_abs] at h1
    have h3 : Int.gcd a b ≤ b.natAbs := Nat.le_of_dvd (by omega) (Nat.gcd_dvd_right _ _)
    have h4 : 30 * (299 + 1) < n := (Nat.pow_lt_pow_iff_right (by decide)).mp (Nat.lt_of_le_of_lt (Nat.le_trans h1 h3) hb)
    have h5 : 30 * (449 + 1) < m := (Nat.pow_lt_pow_iff_right (by decide)).mp (Nat.lt_of_le_of_lt h2 ha)
    omega
  · rw [Bool.and_eq_false_iff, decide_eq_false_iff_not, decide_eq_false_iff_not]
    omega
theorem noPy2 {a b : Int} {m n : Nat} (ha : a.natAbs < 2 ^ m) (hb : b.natAbs < 2 ^ n) (h : m + n ≤ 20000) : Builtin.divisionGoesByPylong b (gq a b) = false := by
  rw [py_eq]
  by_cases c : pyD (gq a b) > 300 ∧ pyD b > pyD (gq a b) + 150
  · exfalso
    obtain ⟨c1, c2⟩ := c
    have h1 := pyD_big (n := gq a b) (k := 299) (by omega)
    have h2 := pyD_big (n := b) (k := 449) (by omega)
    by_cases a0 : a = 0
    · subst a0
      have e : (gq 0 b).natAbs = b.natAbs := by rw [gq_abs]; simp
      have e2 : pyD (gq 0 b) = pyD b := by
        unfold pyD
        rw [e]
        have : (gq 0 b == 0) = (b == 0) := by
          rw [Bool.eq_iff_iff]
          simp only [beq_iff_eq]
          omega
        rw [this]
      omega
    · rw [gq_abs] at h1
      have h3 : Int.gcd a b ≤ a.natAbs := Nat.le_of_dvd (by omega) (Nat.gcd_dvd_left _ _)
      have h4 : 30 * (299 + 1) < m := (Nat.pow_lt_pow_iff_right (by decide)).mp (Nat.lt_of_le_of_lt (Nat.le_trans h1 h3) ha)
      have h5 : 30 * (449 + 1) < n := (Nat.pow_lt_pow_iff_right (by decide)).mp (Nat.lt_of_le_of_lt h2 hb)
      omega
  · rw [Bool.and_eq_false_iff, decide_eq_false_iff_not, decide_eq_false_iff_not]
    omega
def encF (p : Int × Int) : D := .tup [.int p.1, .int p.2]
theorem ratio_ok {a b : Int} {m n : Nat} (ha : a.natAbs < 2 ^ m) (hb : b.natAbs < 2 ^ n) (hb0 : b ≠ 0) (h : m + n ≤ 20000) : d_ratio [.int a, .int b] = .ok (encF (ratM a b)) := by
  have h1 := noPy1 ha hb hb0 h
  have h2 := noPy2 ha hb h
  have hg := gq_ne (a := a) hb0
  unfold encF ratM
  unfold gq at *
  by_cases hn : b < 0
  · simp only [hn, if_true] at h1 h2 hg ⊢
    simp [d_ratio, fnDen, n_ratio, b_ratio, startE, dVarO, dVar, hn, h1, h2, hb0]
  · simp only [hn, if_false] at h1 h2 hg ⊢
    simp [d_ratio, fnDen, n_ratio, b_ratio, startE, dVarO, dVar, hn, h1, h2, hb0]
/-- what is passed as a fraction -/
def fracOf : D → Option (Int × Int)
  | .int a => some (a, 1)
  | .tup [.int a, .int b] => some (a, b)
  | .lst [.int a, .int b] => some (a, b)
  | _ => none
@[simp] theorem atI_0 {α : Type} (c : α) (r : List α) : atI (c :: r) 0 = some c := by
  unfold atI ixN
  simp
@[simp] theorem atI_1 {α : Type} (c d : α) (r : List α) : atI (c :: d :: r) 1 = some d := by
  unfold atI ixN
  rw [if_pos (by decide), if_pos (by simp; omega)]
  rfl
@[simp] theorem atI_2 {α : Type} (c d e : α) (r : List α) : atI (c :: d :: e :: r) 2 = some e := by
  unfold atI ixN
  rw [if_pos (by decide), if_pos (by simp; omega)]
  rfl
theorem parts_of_ok {d : D} {a b : Int} (h : fracOf d = some (a, b)) : d_parts_of [d] = .ok (encF (a, b)) := by
  unfold fracOf at h
  split at h <;> cases h
  · simp [d_parts_of, fnDen, n_parts_of, b_parts_of, startE, dVarO, dVar, encF]
  · simp [d_parts_of, fnDen, n_parts_of, b_parts_of, startE, dVarO, dVar, encF, ixG]
  · simp [d_parts_of, fnDen, n_parts_of, b_parts_of, startE, dVarO, dVar, encF, ixG]
theorem fraction_ok {d : D} {a b : Int} {m n : Nat} (hd : fracOf d = some (a, b)) (ha : a.natAbs < 2 ^ m) (hb : b.natAbs < 2 ^ n) (hb0 : b ≠ 0) (h : m + n ≤ 20000) : d_fraction [d] = .ok (encF (ratM a b)) := by
  have h1 := parts_of_ok hd
  have h2 := ratio_ok ha hb hb0 h
  simp [d_fraction, fnDen, n_fraction, b_fraction, startE, dVarO, dVar, t_fraction, h1, encF]
  rw [h2]
  rfl
theorem times_ok {d e : D} {a b a' b' : Int} {m n : Nat} (hd : fracOf d = some (a, b)) (he : fracOf e = some (a', b')) (ha : (a * a').natAbs < 2 ^ m) (hb : (b * b').natAbs < 2 ^ n) (hb0 : b * b' ≠ 0) (h : m + n ≤ 20000)
    (b1 : (Builtin.Int.intBits a : Int) + (Builtin.Int.intBits a' : Int) ≤ 134217728) (b2 : (Builtin.Int.intBits b : Int) + (Builtin.Int.intBits b' : Int) ≤ 134217728) : d_times [d, e] = .ok (encF (ratM (a * a') (b * b'))) := by
  have h1 := parts_of_ok hd
  have h1' := parts_of_ok he
  have h2 := ratio_ok ha hb hb0 h
  simp [d_times, fnDen, n_times, b_times, startE, dVarO, dVar, t_times, h1, h1', encF, b1, b2]
  rw [h2]
  rfl
end RJ

set_option Elab.async false
set_option linter.all false
set_option maxRecDepth 100000
set_option maxHeartbeats 1000000
set_option autoImplicit false
/-! RjY2: the law's own gcd and fractions. -/
namespace RJ
open PySem PySem.Spec L2
open SX (S)

theorem law_whole_ok (i : Int) : d_law_whole [.int i] = .ok (.bl true) := by
  simp [d_law_whole, fnDen, n_law_whole, b_law_whole, startE, dVarO, dVar]
theorem euclid {T : Tbl} : ∀ (k : Nat) (a b : Nat) (ds : List D) (s2 s3 : Sl), b < 2 ^ k → 2 * k + 1 ≤ ds.length →
    forD (fun d Γ => .ok (Γ.set 2 (.sh d))) (bCons (scIf (tcCmp lEq (ocVar 1) (ocE (ecInt 0))) (bCons (scRet (ecVar 0)) bNil) (bNil)) <|
      bCons (scSet 3 (ecBin lMod (ocE (ecB "int" lInt (aoCons (ocVar 0) aoNil))) (ocVar 1))) <|
      bCons (scSet 0 (ecVar 1)) <|
      bCons (scSet 1 (ecVar 3)) bNil : BC T).den ds [.sh (.int a), .sh (.int b), s2, s3] = .rt (.int (Nat.gcd a b)) := by
  have stop : ∀ (a : Nat) (ds : List D) (s2 s3 : Sl), 1 ≤ ds.length → forD (fun d Γ => .ok (Γ.set 2 (.sh d))) (bCons (scIf (tcCmp lEq (ocVar 1) (ocE (ecInt 0))) (bCons (scRet (ecVar 0)) bNil) (bNil)) <|
      bCons (scSet 3 (ecBin lMod (ocE (ecB "int" lInt (aoCons (ocVar 0) aoNil))) (ocVar 1))) <|
      bCons (scSet 0 (ecVar 1)) <|
      bCons (scSet 1 (ecVar 3)) bNil : BC T).den ds [.sh (.int a), .sh (.int 0), s2, s3] = .rt (.int (Nat.gcd a 0)) := by
    intro a ds s2 s3 h
    cases ds with
    | nil => cases h
    | cons d r =>
      rw [forD_cons]
      simp [dVarO, dVar]
  have step : ∀ (a b : Nat) (d : D) (r : List D) (s2 s3 : Sl), b ≠ 0 → forD (fun d Γ => .ok (Γ.set 2 (.sh d))) (bCons (scIf (tcCmp lEq (ocVar 1) (ocE (ecInt 0))) (bCons (scRet (ecVar 0)) bNil) (bNil)) <|
      bCons (scSet 3 (ecBin lMod (ocE (ecB "int" lInt (aoCons (ocVar 0) aoNil))) (ocVar 1))) <|
      bCons (scSet 0 (ecVar 1)) <|
      bCons (scSet 1 (ecVar 3)) bNil : BC T).den (d :: r) [.sh (.int a), .sh (.int b), s2, s3] = forD (fun d Γ => .ok (Γ.set 2 (.sh d))) (bCons (scIf (tcCmp lEq (ocVar 1) (ocE (ecInt 0))) (bCons (scRet (ecVar 0)) bNil) (bNil)) <|
      bCons (scSet 3 (ecBin lMod (ocE (ecB "int" lInt (aoCons (ocVar 0) aoNil))) (ocVar 1))) <|
      bCons (scSet 0 (ecVar 1)) <|
      bCons (scSet 1 (ecVar 3)) bNil : BC T).den r [.sh (.int b), .sh (.int (a % b : Nat)), .sh d, .sh (.int (a % b : Nat))] := by
    intro a b d r s2 s3 h
    rw [forD_cons]
    have e : Int.fmod (a : Int) (b : Int) = ((a % b : Nat) : Int) := by
      rw [Int.fmod_eq_emod_of_nonneg _ (Int.natCast_nonneg b)]
      rfl
    have h' : ¬ (b : Int) = 0 := by omega
    simp [dVarO, dVar, h, h', e]
  intro k
  induction k with
  | zero =>
    intro a b ds s2 s3 hb hl
    have : b = 0 := by simpa using hb
    subst this
    exact stop a ds s2 s3 (by omega)
  | succ k ih =>
    intro a b ds s2 s3 hb hl
    by_cases h0 : b = 0
    · subst h0
      exact stop a ds s2 s3 (by omega)
    · match ds, hl with
      | d :: e :: r, hl =>
        rw [step a b d (e :: r) s2 s3 h0]
        have g1 : Nat.gcd a b = Nat.gcd b (a % b) := by
          rw [Nat.gcd_comm a b, Nat.gcd_rec b a, Nat.gcd_comm]
        by_cases h1 : a % b = 0
        · rw [g1, h1]
          exact stop b (e :: r) _ _ (by simp)
        · rw [step b (a % b) e r _ _ h1]
          have g2 : Nat.gcd b (a % b) = Nat.gcd (a % b) (b % (a % b)) := by
            rw [Nat.gcd_comm b, Nat.gcd_rec (a % b) b, Nat.gcd_comm]
          rw [g1, g2]
          refine ih _ _ r _ _ ?_ (by simp at hl; omega)
          have m1 : a % b < b := Nat.mod_lt _ (by omega)
          have m2 : b % (a % b) < a % b := Nat.mod_lt _ (by omega)
          have m3 : b % (a % b) + (a % b) ≤ b := by
            have := Nat.div_add_mod b (a % b)
            have hd : 1 ≤ b / (a % b) := (Nat.one_le_div_iff (by omega)).mpr (by omega)
            have := Nat.mul_le_mul_left (a % b) hd
            omega
          have : 2 ^ (k + 1) = 2 ^ k * 2 := Nat.pow_succ _ _
          omega
theorem h62 : (2 : Int) ^ 62 = 4611686018427387904 := by decide +kernel
theorem rng1_ok {j : Int} (h0 : 0 ≤ j) (h : j < 4611686018427387904) : rng1 (.int j) = .ok (rangeD 0 j.toNat) := by
  have hb : blk (decide (-(2 ^ 62) ≤ j ∧ j < 2 ^ 62)) = true := blk_to (by rw [h62]; omega)
  show (if blk (decide (-(2 ^ 62) ≤ j ∧ j < 2 ^ 62)) = true then Re.ok (rangeD 0 j.toNat) else .no) = _
  rw [if_pos hb]
theorem rng2_ok {i j : Int} (h0 : 0 ≤ i) (h1 : i < 4611686018427387904) (h2 : 0 ≤ j) (h : j < 4611686018427387904) : rng2 (.int i) (.int j) = .ok (rangeD i (j - i).toNat) := by
  have hb : blk (decide (-(2 ^ 62) ≤ i ∧ i < 2 ^ 62 ∧ -(2 ^ 62) ≤ j ∧ j < 2 ^ 62)) = true := blk_to (by rw [h62]; omega)
  show (if blk (decide (-(2 ^ 62) ≤ i ∧ i < 2 ^ 62 ∧ -(2 ^ 62) ≤ j ∧ j < 2 ^ 62)) = true then Re.ok (rangeD i (j - i).toNat) else .no) = _
  rw [if_pos hb]
theorem law_gcd_ok {a b : Int} {n : Nat} (hb : b.natAbs < 2 ^ n) (hn : n ≤ 1000000) : d_law_gcd [.int a, .int b] = .ok (.int (Int.gcd a b)) := by
  have hbits : Builtin.Int.intBits b ≤ n := intBits_le_iff.mpr hb
  have hab : ∀ x : Int, (if x < 0 then -x else x) = (x.natAbs : Int) := fun x => by split <;> omega
  have e1 : Builtin.Int.intBits (b.natAbs : Int) = Builtin.Int.intBits b := by
    unfold Builtin.Int.intBits
    by_cases h : b = 0
    · subst h; rfl
    · have h1 : (b == 0) = false := by simpa using h
      have h2 : (((b.natAbs : Nat) : Int) == 0) = false := by
        simp
        exact h
      rw [h1, h2]
      rfl
  obtain ⟨k, hk⟩ : ∃ k, Builtin.Int.intBits b = k := ⟨_, rfl⟩
  rw [hk] at hbits e1
  have hbk : b.natAbs < 2 ^ k := intBits_le_iff.mp (by omega)
  have m1 : (Builtin.Int.intBits 2 : Int) + (Builtin.Int.intBits (k : Int) : Int) ≤ 134217728 := by
    have h2 : Builtin.Int.intBits 2 = 2 := by decide +kernel
    have h3 : Builtin.Int.intBits (k : Int) ≤ 64 := intBits_cast_le (by rw [sizeLine_eq]; omega)
    rw [h2]
    omega
  have r1 : rng1 (.int (2 * (k : Int) + 2)) = .ok (rangeD 0 (2 * k + 2)) := by
    have e : (2 * (k : Int) + 2).toNat = 2 * k + 2 := by omega
    rw [rng1_ok (by omega) (by omega), e]
  have hl : (rangeD 0 (2 * k + 2)).length = 2 * k + 2 := by simp [rangeD]
  show d_law_gcd [.int a, .int b] = .ok (.int (Nat.gcd a.natAbs b.natAbs : Nat))
  have key := euclid (T := mkT t_law_gcd) k a.natAbs b.natAbs (rangeD 0 (2 * k + 2)) .no .no hbk (by omega)
  have f1 : ∀ x : Int, absG [.int x] = .ok (.int x.natAbs) := fun x => by rw [absG_int, hab]
  have f2 : bitsR (.int (b.natAbs : Int)) = .ok (.int (k : Int)) := by
    show Re.ok (D.int ((Builtin.Int.intBits (b.natAbs : Int) : Nat) : Int)) = _
    rw [e1]
  have f3 : mulG (.int 2) (.int (k : Int)) = .ok (.int (2 * (k : Int))) := by
    rw [mulG_int, if_pos m1]
  have f4 : addG (.int (2 * (k : Int))) (.int 2) = .ok (.int (2 * (k : Int) + 2)) := rfl
  clear m1 hab e1 hbits hl hbk
  generalize rangeD 0 (2 * k + 2) = ds at *
  simp [-mulG_int, -absG_int, -addG_int, d_law_gcd, fnDen, n_law_gcd, b_law_gcd, startE, dVarO, dVar, f1]
  clear f1
  generalize rng1 = g at r1 ⊢
  rw [f2, Re.bind_ok, f3, Re.bind_ok, f4, Re.bind_ok, r1, Re.st_ok, key]
  rfl
theorem law_frac_ok {a b : Int} {m n : Nat} (ha : a.natAbs < 2 ^ m) (hb : b.natAbs < 2 ^ n) (hb0 : b ≠ 0) (h : m + n ≤ 20000) : d_law_frac [.int a, .int b] = .ok (encF (ratM a b)) := by
  have h0 := law_gcd_ok (a := a) hb (by omega)
  have h1 := noPy1 ha hb hb0 h
  have h2 := noPy2 ha hb h
  have hg := gq_ne (a := a) hb0
  unfold encF ratM
  unfold gq at *
  by_cases hn : b < 0
  · simp only [hn, if_true] at h1 h2 hg ⊢
    simp [d_law_frac, fnDen, n_law_frac, b_law_frac, startE, dVarO, dVar, t_law_frac, h0, hn, h1, h2, hb0]
  · simp only [hn, if_false] at h1 h2 hg ⊢
    simp [d_law_frac, fnDen, n_law_frac, b_law_frac, startE, dVarO, dVar, t_law_frac, h0, hn, h1, h2, hb0]
theorem is_fraction_ok {a b : Int} {n : Nat} (hb : b.natAbs < 2 ^ n) (hn : n ≤ 1000000) (hp : 0 < b) (hg : Int.gcd a b = 1) : d_law_is_fraction [encF (a, b)] = .ok (.bl true) := by
  have h0 := law_gcd_ok (a := a) hb hn
  have h1 : ¬ b < 1 := by omega
  simp [d_law_is_fraction, fnDen, n_law_is_fraction, b_law_is_fraction, startE, dVarO, dVar, t_law_is_fraction, encF, law_whole_ok, h0, hg, h1, ixG]
end RJ

set_option Elab.async false
set_option linter.all false
set_option maxRecDepth 100000
set_option maxHeartbeats 16000000
set_option autoImplicit false
/-! RkA: loops; written. -/
namespace RJ
open PySem PySem.Spec L2
open SX (S)

/-! ### loops -/
theorem forD_fold {α σ : Type} {tg : D → En → Re En} {body : En → SR} {enc : α → D} {st : σ → En} {f : σ → α → σ} (I : Nat → σ → Prop) : ∀ (xs : List α) (s : σ) (n : Nat), I n s →
    (∀ m s x, x ∈ xs → m < n + xs.length → I m s → I (m + 1) (f s x) ∧ ∃ Γ1, tg (enc x) (st s) = .ok Γ1 ∧ (body Γ1 = .nx (st (f s x)) ∨ body Γ1 = .ct (st (f s x)))) → forD tg body (xs.map enc) (st s) = .nx (st (xs.foldl f s)) ∧ I (n + xs.length) (xs.foldl f s)
  | [], s, n, i, _ => ⟨rfl, i⟩
  | x :: xs, s, n, i, h => by
    obtain ⟨i', Γ1, h1, h2⟩ := h n s x List.mem_cons_self (by simp) i
    have ih := forD_fold I xs (f s x) (n + 1) i' fun m s y hy hm => h m s y (List.mem_cons_of_mem _ hy) (by simp; omega)
    rw [List.map_cons, forD_cons, h1]
    rw [show n + (x :: xs).length = n + 1 + xs.length by simp; omega]
    refine ⟨?_, ih.2⟩
    show (body Γ1).turn _ = _
    rcases h2 with h2 | h2 <;> rw [h2] <;> exact ih.1
def mapO {α β : Type} (p : α → Option β) : List α → Option (List β)
  | [] => some []
  | x :: r => match p x, mapO p r with
    | some y, some ys => some (y :: ys)
    | _, _ => none
theorem forD_opt {α β J : Type} {tg : D → En → Re En} {body : En → SR} {enc : α → D} {st : List β → J → En} {p : α → Option β} {r : D} : ∀ (xs : List α) (acc : List β) (j : J),
    (∀ x ∈ xs, ∀ acc j, ∃ Γ1, tg (enc x) (st acc j) = .ok Γ1 ∧ (match p x with
      | none => body Γ1 = .rt r
      | some y => ∃ j', body Γ1 = .nx (st (acc ++ [y]) j'))) →
    (match mapO p xs with
      | none => forD tg body (xs.map enc) (st acc j) = .rt r
      | some ys => ∃ j', forD tg body (xs.map enc) (st acc j) = .nx (st (acc ++ ys) j'))
  | [], acc, j, _ => ⟨j, by rw [List.append_nil]; rfl⟩
  | x :: xs, acc, j, h => by
    obtain ⟨Γ1, h1, h2⟩ := h x List.mem_cons_self acc j
    have st1 : forD tg body ((x :: xs).map enc) (st acc j) = (body Γ1).turn (forD tg body (xs.map enc)) := by
      rw [List.map_cons, forD_cons, h1]
      rfl
    rw [st1]
    unfold mapO
    cases hp : p x with
    | none =>
      rw [hp] at h2
      have h2 : body Γ1 = .rt r := h2
      rw [h2]
      rfl
    | some y =>
      rw [hp] at h2
      obtain ⟨j', h2⟩ := h2
      have ih := forD_opt (p := p) (r := r) xs (acc ++ [y]) j' fun z m => h z (List.mem_cons_of_mem _ m)
      rw [h2, SR.turn_nx]
      cases hm : mapO p xs with
      | none =>
        rw [hm] at ih
        exact ih
      | some ys =>
        rw [hm] at ih
        obtain ⟨j2, ih⟩ := ih
        exact ⟨j2, by rw [ih, List.append_assoc]; rfl⟩
/-- a loop that ends early or goes through -/
theorem forD_all {α J : Type} {tg : D → En → Re En} {body : En → SR} {enc : α → D} {st : J → En} {p : α → Bool} {r : D} : ∀ (xs : List α) (j : J),
    (∀ x ∈ xs, ∀ j, ∃ Γ1, tg (enc x) (st j) = .ok Γ1 ∧ (if p x = true then ∃ j', body Γ1 = .nx (st j') else body Γ1 = .rt r)) →
    (if xs.all p = true then ∃ j', forD tg body (xs.map enc) (st j) = .nx (st j') else forD tg body (xs.map enc) (st j) = .rt r)
  | [], j, _ => ⟨j, rfl⟩
  | x :: xs, j, h => by
    obtain ⟨Γ1, h1, h2⟩ := h x List.mem_cons_self j
    have st1 : forD tg body ((x :: xs).map enc) (st j) = (body Γ1).turn (forD tg body (xs.map enc)) := by
      rw [List.map_cons, forD_cons, h1]
      rfl
    rw [st1, List.all_cons]
    cases hp : p x with
    | false =>
      rw [hp] at h2
      have h2 : body Γ1 = .rt r := h2
      rw [h2]
      rfl
    | true =>
      rw [hp, if_pos rfl] at h2
      obtain ⟨j', h2⟩ := h2
      rw [h2, SR.turn_nx, Bool.true_and]
      exact forD_all xs j' fun z m => h z (List.mem_cons_of_mem _ m)
/-! ### written -/
def zk : Nat → Nat → List Nat
  | 0, _ => []
  | k + 1, n => zk k (n / 10) ++ [48 + n % 10]
theorem numL_pad {q : Nat} (hq : 0 < q) : ∀ (k low : Nat), low < 10 ^ k → TL.numL (q * 10 ^ k + low) = TL.numL q ++ zk k low
  | 0, low, h => by
    have : low = 0 := by simpa using h
    subst this
    simp [zk]
  | k + 1, low, h => by
    have e0 : q * 10 ^ (k + 1) = 10 * (q * 10 ^ k) := by
      rw [Nat.pow_succ, ← Nat.mul_assoc, Nat.mul_comm]
    have hp : 0 < q * 10 ^ k := Nat.mul_pos hq (Nat.pow_pos (by decide))
    rw [Nat.pow_succ] at h
    have e : (q * 10 ^ (k + 1) + low) / 10 = q * 10 ^ k + low / 10 := by
      rw [e0]
      omega
    have m : (q * 10 ^ (k + 1) + low) % 10 = low % 10 := by
      rw [e0]
      omega
    rw [TL.numL_step (by omega), e, m, numL_pad hq k (low / 10) (by omega)]
    simp [zk]
theorem zk_zero : ∀ k, zk k 0 = List.replicate k 48
  | 0 => rfl
  | k + 1 => by
    show zk k (0 / 10) ++ [48 + 0 % 10] = _
    rw [Nat.zero_div, zk_zero k, List.replicate_succ']
theorem zk_num : ∀ (k low : Nat), low < 10 ^ (k + 1) → (TL.numL low).length ≤ k + 1 ∧ zk (k + 1) low = List.replicate (k + 1 - (TL.numL low).length) 48 ++ TL.numL low
  | 0, low, h => by
    have : low < 10 := by simpa using h
    rw [TL.numL_lt this]
    have e : low % 10 = low := Nat.mod_eq_of_lt this
    simp [zk, e]
  | k + 1, low, h => by
    by_cases h10 : low < 10
    · rw [TL.numL_lt h10]
      have e : low % 10 = low := Nat.mod_eq_of_lt h10
      have e2 : low / 10 = 0 := Nat.div_eq_of_lt h10
      refine ⟨by simp, ?_⟩
      show zk (k + 1) (low / 10) ++ [48 + low % 10] = _
      rw [e, e2, zk_zero]
      simp
    · rw [Nat.pow_succ] at h
      obtain ⟨h1, h2⟩ := zk_num k (low / 10) (by omega)
      rw [TL.numL_step (by omega)]
      refine ⟨by simp; exact h1, ?_⟩
      show zk (k + 1) (low / 10) ++ [48 + low % 10] = _
      rw [h2]
      simp
theorem zfill_num (low : Nat) (h : low < 10 ^ 64) : Txt.zfill (S (TL.numL low)) 64 = S (zk 64 low) := by
  obtain ⟨h1, h2⟩ := zk_num 63 low h
  unfold Txt.zfill
  split
  · rename_i hl
    have hl : (64 : Int) ≤ ((S (TL.numL low)).length : Int) := hl
    rw [SX.S_len] at hl
    have e : (TL.numL low).length = 64 := by omega
    rw [h2, e]
    rfl
  · have e : zfilled (S (TL.numL low)) ((64 : Int).toNat - (S (TL.numL low)).length) = Builtin.Str.padded (S (TL.numL low)) ((64 : Int).toNat - (S (TL.numL low)).length) 0 48 := by
      unfold zfilled
      split
      · rename_i h43
        exfalso
        have : (43 : Nat) ∈ TL.numL low := by
          have h43 : (TL.numL low).toArray[0]? = some 43 := h43
          rw [List.getElem?_toArray] at h43
          exact List.mem_of_getElem? h43
        exact TL.numL_free (Or.inl (by decide)) this
      · rename_i h43
        exfalso
        have : (45 : Nat) ∈ TL.numL low := by
          have h43 : (TL.numL low).toArray[0]? = some 45 := h43
          rw [List.getElem?_toArray] at h43
          exact List.mem_of_getElem? h43
        exact TL.numL_free (Or.inl (by decide)) this
      · rfl
    refine TL.ext_tl ?_
    show (zfilled _ _).cps.toList = _
    rw [e, PyProof.Rows.padded_list, SX.S_len, h2]
    simp [S, TL.tl]
theorem str_nat (n : Nat) : (toString ((n : Nat) : Int) : String) = toString (n : Int) := rfl
theorem written_loop {T : Tbl} {s0 : Sl} : ∀ (fuel r : Nat) (ps : List (List Nat)) (s3 s4 : Sl), r < fuel → ps.length + (TL.numL r).length ≤ 16000000 →
    ∃ (q : Nat) (qs : List (List Nat)) (s4' : Sl), q < 10 ^ 64 ∧ TL.numL r = TL.numL q ++ qs.reverse.flatten ∧
    whileD (tcCmp lGe (ocVar 1) (ocE (ecGi ("PIECE" : Str) 10000000000000000000000000000000000000000000000000000000000000000)) : TC T).den
      (bCons (scTgt (gcTup 2 (gsCons (gcName 1) (gsCons (gcName 4) gsNil))) (ecB "divmod" lDivm (aoCons (ocVar 1) (aoCons (ocE (ecGi ("PIECE" : Str) 10000000000000000000000000000000000000000000000000000000000000000)) aoNil)))) <|
        bCons (scApp 2 (ecZfill (ocE (ecB "str" lStr (aoCons (ocVar 4) aoNil))) (ocE (ecGi ("WIDTH" : Str) 64)))) bNil : BC T).den fuel
      [s0, .sh (.int r), .own (.lst (strsOf ps)), s3, s4] = .nx [s0, .sh (.int q), .own (.lst (strsOf (ps ++ qs))), s3, s4']
  | 0, r, ps, s3, s4, h, _ => by omega
  | fuel + 1, r, ps, s3, s4, h, hbd => by
    have hP : (10000000000000000000000000000000000000000000000000000000000000000 : Nat) = 10 ^ 64 := by decide
    by_cases hr : r < 10 ^ 64
    · refine ⟨r, [], s4, hr, by simp, ?_⟩
      have h' : ¬ (10000000000000000000000000000000000000000000000000000000000000000 : Int) ≤ (r : Int) := by
        rw [← hP] at hr
        omega
      unfold whileD
      simp [dVarO, dVar, h']
    · have h' : (10000000000000000000000000000000000000000000000000000000000000000 : Int) ≤ (r : Int) := by
        rw [← hP] at hr
        omega
      have hq : r / 10 ^ 64 < fuel := by
        have : r / 10 ^ 64 < r := Nat.div_lt_self (by omega) (by decide)
        omega
      have hlow : r % 10 ^ 64 < 10 ^ 64 := Nat.mod_lt _ (by decide)
      have e := numL_pad (q := r / 10 ^ 64) (Nat.div_pos (by omega) (by decide)) 64 (r % 10 ^ 64) hlow
      have e2 : r / 10 ^ 64 * 10 ^ 64 + r % 10 ^ 64 = r := by
        rw [Nat.mul_comm]
        exact Nat.div_add_mod _ _
      rw [e2] at e
      have hz1 : 1 ≤ (zk 64 (r % 10 ^ 64)).length := by
        show 1 ≤ (zk 63 (r % 10 ^ 64 / 10) ++ [48 + r % 10 ^ 64 % 10]).length
        rw [List.length_append, List.length_singleton]
        omega
      have hbd2 := hbd
      rw [e, List.length_append] at hbd
      obtain ⟨q, qs, s4', h1, h2, h3⟩ := written_loop (T := T) (s0 := s0) fuel (r / 10 ^ 64) (ps ++ [zk 64 (r % 10 ^ 64)]) s3 (.sh (.int (r % 10 ^ 64 : Nat))) hq (by rw [List.length_append, List.length_singleton]; omega)
      refine ⟨q, zk 64 (r % 10 ^ 64) :: qs, s4', h1, ?_, ?_⟩
      · rw [e, h2]
        simp
      · rw [List.append_assoc] at h3
        have hpy : Builtin.divisionGoesByPylong (r : Int) 10000000000000000000000000000000000000000000000000000000000000000 = false := by
          rw [py_eq]
          have : pyD 10000000000000000000000000000000000000000000000000000000000000000 = 8 := by decide +kernel
          rw [this]
          rfl
        have ed : (r : Int) / 10000000000000000000000000000000000000000000000000000000000000000 = ((r / 10 ^ 64 : Nat) : Int) := by
          rw [← hP]
          omega
        have em : (r : Int) % 10000000000000000000000000000000000000000000000000000000000000000 = ((r % 10 ^ 64 : Nat) : Int) := by
          rw [← hP]
          omega
        have es : Str.ofString (toString ((r % 10 ^ 64 : Nat) : Int)) = S (TL.numL (r % 10 ^ 64)) := SX.num_S _
        have hb : r % 10 ^ 64 < 10 ^ 4300 := Nat.lt_of_lt_of_le hlow (Nat.pow_le_pow_right (by decide) (by decide))
        have hpad : PadOk 64 = true := by decide +kernel
        have hstr : strG [.int ((r % 10 ^ 64 : Nat) : Int)] = .ok (.str (S (TL.numL (r % 10 ^ 64)))) := by
          show (if ((r % 10 ^ 64 : Nat) : Int).natAbs < 10 ^ 4300 then Re.ok (D.str (Str.ofString (toString ((r % 10 ^ 64 : Nat) : Int)))) else .no) = _
          rw [if_pos (by rw [Int.natAbs_natCast]; exact hb), es]
        have hdm : divmG [.int (r : Int), .int 10000000000000000000000000000000000000000000000000000000000000000] = .ok (.tup [.int ((r / 10 ^ 64 : Nat) : Int), .int ((r % 10 ^ 64 : Nat) : Int)]) := by
          show (if (0 : Int) < 10000000000000000000000000000000000000000000000000000000000000000 ∧ Builtin.divisionGoesByPylong (r : Int) 10000000000000000000000000000000000000000000000000000000000000000 = false then Re.ok (D.tup [.int ((r : Int) / 10000000000000000000000000000000000000000000000000000000000000000), .int ((r : Int) % 10000000000000000000000000000000000000000000000000000000000000000)]) else .no) = _
          rw [if_pos ⟨by decide, hpy⟩, ed, em]
        have hz : zfillG (S (TL.numL (r % 10 ^ 64))) (.int 64) = .ok (.str (S (zk 64 (r % 10 ^ 64)))) := by
          show (if PadOk 64 = true then Re.ok (D.str (Txt.zfill (S (TL.numL (r % 10 ^ 64))) 64)) else .no) = _
          rw [if_pos hpad, zfill_num _ hlow]
        rw [show ps ++ zk 64 (r % 10 ^ 64) :: qs = ps ++ ([zk 64 (r % 10 ^ 64)] ++ qs) from rfl, ← h3]
        have hsl : (strsOf ps).length < 16777216 := by
          unfold strsOf
          rw [List.length_map]
          omega
        have hap : strsOf ps ++ [D.str (S (zk 64 (r % 10 ^ 64)))] = strsOf (ps ++ [zk 64 (r % 10 ^ 64)]) := by simp [strsOf]
        generalize hA : r / 10 ^ 64 = A at *
        generalize hB : r % 10 ^ 64 = B at *
        conv => lhs; unfold whileD
        simp [dVarO, dVar, h', hdm, denM1, strR, hstr, hz, dApp, hap, hsl]
theorem addS {a b : List Nat} (h : a.length + b.length ≤ 16777216) : addG (.str (S a)) (.str (S b)) = .ok (.str (S (a ++ b))) := by
  show (if (S a).length + (S b).length ≤ sizeLine then Re.ok (D.str (S a ++ S b)) else .no) = _
  rw [if_pos (by rw [SX.S_len, SX.S_len, sizeLine_eq]; exact h), SX.S_cat]
theorem strsD_of (ps : List (List Nat)) : strsD (strsOf ps) = some (ps.map S) := by
  induction ps with
  | nil => rfl
  | cons p r ih =>
    show (strsD (strsOf r)).map (S p :: ·) = _
    rw [ih]
    rfl
theorem join_ok {sep : List Nat} {ps : List (List Nat)} (h : (ps.map List.length).sum + ps.length * sep.length ≤ 16777216) : joinG (S sep) (.lst (strsOf ps)) = .ok (.str (S (TL.joinL sep ps))) := by
  show (match strsD (strsOf ps) with
    | some ys => if (ys.map (fun (x : Str) => x.length)).sum + ys.length * (S sep).length ≤ 16777216 then Re.ok (D.str (Txt.join (S sep) ys)) else .no
    | none => .no) = _
  rw [strsD_of]
  show (if ((ps.map S).map (fun (x : Str) => x.length)).sum + (ps.map S).length * (S sep).length ≤ 16777216 then Re.ok (D.str (Txt.join (S sep) (ps.map S))) else .no) = _
  rw [SX.lens, List.length_map, SX.S_len, if_pos h, SX.join_S]
theorem joinL_nil (ps : List (List Nat)) : TL.joinL [] ps = ps.flatten := by
  induction ps with
  | nil => rfl
  | cons p r ih =>
    cases r with
    | nil =>
      show p = [p].flatten
      simp
    | cons q r =>
      rw [joinL_cons2, ih]
      simp
theorem strS {n : Int} (h : n.natAbs < 10 ^ 4300) : strG [.int n] = .ok (.str (S (numI n))) := by
  show (if n.natAbs < 10 ^ 4300 then Re.ok (D.str (Str.ofString (toString n))) else .no) = _
  rw [if_pos h, str_num]
theorem numI_len {n : Int} {k : Nat} (hk : 0 < k) (h : n.natAbs < 10 ^ k) : (numI n).length ≤ k + 1 := by
  have := TL.numL_len hk h
  unfold numI
  split
  · simp
    omega
  · omega
theorem written_ok {n : Int} (hl : (TL.numL n.natAbs).length ≤ 16000000) : d_written [.int n] = .ok (.str (S (numI n))) := by
  have hab : (if n < 0 then -n else n) = (n.natAbs : Int) := by split <;> omega
  obtain ⟨q, qs, s4', h1, h2, h3⟩ := written_loop (T := mkT t_written) (s0 := .sh (.int n)) (n.natAbs + 1) n.natAbs [] .no .no (by omega) (by simpa using hl)
  have hlen : (TL.numL q).length + (qs.reverse.map List.length).sum = (TL.numL n.natAbs).length := by
    rw [h2, List.length_append, List.length_flatten]
  have hstr : strG [.int (q : Int)] = .ok (.str (S (TL.numL q))) := by
    have e : numI (q : Int) = TL.numL q := by
      unfold numI
      rw [if_neg (by omega)]
      rfl
    rw [← e]
    refine strS ?_
    rw [Int.natAbs_natCast]
    exact Nat.lt_of_lt_of_le h1 (Nat.pow_le_pow_right (by decide) (by decide))
  have hrev : (strsOf qs).reverse = strsOf qs.reverse := by simp [strsOf]
  have hj := join_ok (sep := []) (ps := qs.reverse) (by simp only [List.length_nil, Nat.mul_zero]; omega)
  rw [joinL_nil] at hj
  have ha := addS (a := TL.numL q) (b := qs.reverse.flatten) (by rw [List.length_flatten]; omega)
  rw [← h2] at ha
  have ha2 := addS (a := [45]) (b := TL.numL n.natAbs) (by simp; omega)
  have e0 : (strsOf ([] : List (List Nat))) = [] := rfl
  rw [e0, List.nil_append] at h3
  simp [d_written, fnDen, n_written, b_written, startE, dVarO, dVar, hab]
  rw [h3]
  simp [-strG_int, -addG_str, dVarO, dVar, hstr, denM1, strR, revR, hrev, hj, ha, ha2]
  unfold numI
  by_cases hn : n < 0
  · simp [hn, -addG_str, ha2]
  · simp [hn]
end RJ

set_option Elab.async false
set_option linter.all false
set_option maxRecDepth 100000
set_option maxHeartbeats 1000000
set_option autoImplicit false
/-! RkB: dicts that gather, in plain. -/
namespace RJ
open PySem PySem.Spec L2
open SX (S)

section
variable {κ : Type} [DecidableEq κ]
def getI (ds : List (κ × Int)) (k : κ) : Int := ((ds.find? fun p => decide (p.1 = k)).map (·.2)).getD 0
def putI (ds : List (κ × Int)) (k : κ) (v : Int) : List (κ × Int) :=
  if (ds.any fun p => decide (p.1 = k)) = true then ds.map (fun p => if p.1 = k then (p.1, v) else p) else ds ++ [(k, v)]
def ins (ds : List (κ × Int)) (p : κ × Int) : List (κ × Int) := putI ds p.1 (getI ds p.1 + p.2)
def gat (ps : List (κ × Int)) : List (κ × Int) := ps.foldl ins []
def kys (ds : List (κ × Int)) : List κ := ds.map (·.1)
theorem put_kys (ds : List (κ × Int)) (k : κ) (v : Int) : kys (putI ds k v) = if k ∈ kys ds then kys ds else kys ds ++ [k] := by
  unfold putI kys
  by_cases h : (ds.any fun p => decide (p.1 = k)) = true
  · have h2 : k ∈ ds.map (·.1) := by
      obtain ⟨p, hp, e⟩ := List.any_eq_true.mp h
      exact List.mem_map.mpr ⟨p, hp, of_decide_eq_true e⟩
    rw [if_pos h, if_pos h2, List.map_map]
    refine List.map_congr_left fun p _ => ?_
    show (if p.1 = k then (p.1, v) else p).1 = p.1
    split <;> rfl
  · have h2 : ¬ k ∈ ds.map (·.1) := fun hm => by
      obtain ⟨p, hp, e⟩ := List.mem_map.mp hm
      exact h (List.any_eq_true.mpr ⟨p, hp, decide_eq_true e⟩)
    rw [if_neg h, if_neg h2, List.map_append]
    rfl
theorem put_nodup {ds : List (κ × Int)} (h : (kys ds).Nodup) (k : κ) (v : Int) : (kys (putI ds k v)).Nodup := by
  rw [put_kys]
  split
  · exact h
  · rename_i hk
    rw [List.nodup_append]
    refine ⟨h, by simp, fun a ha b hb => ?_⟩
    rw [List.mem_singleton] at hb
    subst hb
    exact fun e => hk (e ▸ ha)
theorem put_new {ds : List (κ × Int)} {k : κ} (h : k ∉ kys ds) (v : Int) : putI ds k v = ds ++ [(k, v)] := by
  unfold putI
  rw [if_neg]
  intro h2
  obtain ⟨p, hp, e⟩ := List.any_eq_true.mp h2
  exact h (List.mem_map.mpr ⟨p, hp, of_decide_eq_true e⟩)
theorem get_new {ds : List (κ × Int)} {k : κ} (h : k ∉ kys ds) : getI ds k = 0 := by
  unfold getI
  have : ds.find? (fun p => decide (p.1 = k)) = none := by
    rw [List.find?_eq_none]
    intro p hp e
    exact h (List.mem_map.mpr ⟨p, hp, of_decide_eq_true e⟩)
  rw [this]
  rfl
theorem get_mem {ds : List (κ × Int)} (h : (kys ds).Nodup) {p : κ × Int} (hp : p ∈ ds) : getI ds p.1 = p.2 := by
  induction ds with
  | nil => cases hp
  | cons q r ih =>
    have hn : (q.1 :: kys r).Nodup := h
    rw [List.nodup_cons] at hn
    unfold getI
    rw [List.find?_cons]
    rcases List.mem_cons.mp hp with e | e
    · subst e
      simp
    · have : q.1 ≠ p.1 := fun e2 => hn.1 (e2 ▸ List.mem_map.mpr ⟨p, e, rfl⟩)
      rw [decide_eq_false this]
      exact ih hn.2 e
theorem get_in {ds : List (κ × Int)} {k : κ} (h : k ∈ kys ds) : (k, getI ds k) ∈ ds := by
  induction ds with
  | nil => cases h
  | cons q r ih =>
    unfold getI
    rw [List.find?_cons]
    by_cases e : q.1 = k
    · rw [decide_eq_true e]
      subst e
      exact List.mem_cons_self
    · rw [decide_eq_false e]
      refine List.mem_cons_of_mem _ (ih ?_)
      rcases List.mem_cons.mp h with e2 | e2
      · exact absurd e2.symm e
      · exact e2
theorem fold_nodup : ∀ (ps acc : List (κ × Int)), (kys acc).Nodup → (kys (ps.foldl ins acc)).Nodup
  | [], _, h => h
  | p :: ps, acc, h => fold_nodup ps (ins acc p) (put_nodup h _ _)
theorem gat_nodup (ps : List (κ × Int)) : (kys (gat ps)).Nodup := fold_nodup ps [] (by simp [kys])
theorem fold_kys : ∀ (ps acc : List (κ × Int)) (k : κ), k ∈ kys (ps.foldl ins acc) → k ∈ kys acc ∨ k ∈ kys ps
  | [], _, _, h => .inl h
  | p :: ps, acc, k, h => by
    rcases fold_kys ps (ins acc p) k h with h | h
    · have e : kys (ins acc p) = if p.1 ∈ kys acc then kys acc else kys acc ++ [p.1] := put_kys _ _ _
      rw [e] at h
      split at h
      · exact .inl h
      · rcases List.mem_append.mp h with h | h
        · exact .inl h
        · rw [List.mem_singleton] at h
          subst h
          exact .inr List.mem_cons_self
    · exact .inr (List.mem_cons_of_mem _ h)
theorem gat_kys {ps : List (κ × Int)} {k : κ} (h : k ∈ kys (gat ps)) : k ∈ kys ps := by
  rcases fold_kys ps [] k h with h | h
  · cases h
  · exact h
theorem ins_len (acc : List (κ × Int)) (p : κ × Int) : (ins acc p).length ≤ acc.length + 1 := by
  unfold ins putI
  split
  · rw [List.length_map]
    omega
  · simp
theorem fold_len : ∀ (ps acc : List (κ × Int)), (ps.foldl ins acc).length ≤ acc.length + ps.length
  | [], _ => Nat.le_refl _
  | p :: ps, acc => by
    have h := fold_len ps (ins acc p)
    have h2 : (ins acc p).length ≤ acc.length + 1 := by
      unfold ins putI
      split
      · rw [List.length_map]
        omega
      · simp
    simp only [List.foldl_cons, List.length_cons]
    omega
theorem gat_len (ps : List (κ × Int)) : (gat ps).length ≤ ps.length := by
  have := fold_len ps []
  rw [List.length_nil, Nat.zero_add] at this
  exact this
theorem get_bd {ds : List (κ × Int)} {M : Nat} (h : ∀ p ∈ ds, p.2.natAbs ≤ M) (k : κ) : (getI ds k).natAbs ≤ M := by
  by_cases hk : k ∈ kys ds
  · exact h _ (get_in hk)
  · rw [get_new hk]
    exact Nat.zero_le _
theorem fold_bd {M : Nat} : ∀ (ps acc : List (κ × Int)) (n : Nat), (∀ p ∈ ps, p.2.natAbs ≤ M) → (∀ p ∈ acc, p.2.natAbs ≤ n * M) → ∀ p ∈ ps.foldl ins acc, p.2.natAbs ≤ (n + ps.length) * M
  | [], acc, n, _, h => h
  | p :: ps, acc, n, hp, h => by
    have h1 : ∀ q ∈ ins acc p, q.2.natAbs ≤ (n + 1) * M := by
      have hb := get_bd h p.1
      have hm := hp p List.mem_cons_self
      have hv : (getI acc p.1 + p.2).natAbs ≤ (n + 1) * M := by
        rw [Nat.add_mul, Nat.one_mul]
        have := Int.natAbs_add_le (getI acc p.1) p.2
        omega
      have hle : n * M ≤ (n + 1) * M := Nat.mul_le_mul_right _ (by omega)
      intro q hq
      unfold ins putI at hq
      split at hq
      · obtain ⟨q', hq', e⟩ := List.mem_map.mp hq
        split at e
        · subst e
          exact hv
        · subst e
          exact Nat.le_trans (h _ hq') hle
      · rcases List.mem_append.mp hq with hq | hq
        · exact Nat.le_trans (h _ hq) hle
        · rw [List.mem_singleton] at hq
          subst hq
          exact hv
    have := fold_bd ps (ins acc p) (n + 1) (fun q hq => hp q (List.mem_cons_of_mem _ hq)) h1
    rw [List.foldl_cons, List.length_cons]
    rw [show n + (ps.length + 1) = n + 1 + ps.length by omega]
    exact this
theorem gat_bd {M : Nat} {ps : List (κ × Int)} (h : ∀ p ∈ ps, p.2.natAbs ≤ M) : ∀ p ∈ gat ps, p.2.natAbs ≤ ps.length * M := by
  have := fold_bd ps [] 0 h (fun p hp => by cases hp)
  rw [Nat.zero_add] at this
  exact this
theorem fold_fresh : ∀ (ps acc : List (κ × Int)), (kys (acc ++ ps)).Nodup → ps.foldl ins acc = acc ++ ps
  | [], acc, _ => (List.append_nil _).symm
  | p :: ps, acc, h => by
    have hn : p.1 ∉ kys acc := fun hm => by
      unfold kys at h
      rw [List.map_append, List.nodup_append] at h
      exact h.2.2 _ hm p.1 (by simp) rfl
    have e : ins acc p = acc ++ [p] := by
      unfold ins
      rw [get_new hn, Int.zero_add, put_new hn]
    rw [List.foldl_cons, e, fold_fresh ps (acc ++ [p]) (by rw [List.append_assoc]; exact h), List.append_assoc]
    rfl
theorem gat_fresh {ps : List (κ × Int)} (h : (kys ps).Nodup) : gat ps = ps := fold_fresh ps [] h
/-- a way of sorting, and the order it makes -/
structure Srt (srt : List κ → List κ) (lt : κ → κ → Prop) : Prop where
  perm : ∀ l, (srt l).Perm l
  up : ∀ l, l.Nodup → (srt l).Pairwise lt
  fix : ∀ l, l.Pairwise lt → srt l = l
  ne : ∀ a b, lt a b → a ≠ b
def nrm (srt : List κ → List κ) (ds : List (κ × Int)) : List (κ × Int) := ((srt (kys ds)).filter fun k => !decide (getI ds k = 0)).map fun k => (k, getI ds k)
def Nml (lt : κ → κ → Prop) (ps : List (κ × Int)) : Prop := (kys ps).Pairwise lt ∧ ∀ p ∈ ps, p.2 ≠ 0
variable {srt : List κ → List κ} {lt : κ → κ → Prop}
theorem Nml.nodup (s : Srt srt lt) {ps : List (κ × Int)} (h : Nml lt ps) : (kys ps).Nodup := h.1.imp fun {a b} q => s.ne a b q
theorem nrm_kys (ds : List (κ × Int)) : kys (nrm srt ds) = (srt (kys ds)).filter fun k => !decide (getI ds k = 0) := by
  unfold kys nrm
  rw [List.map_map]
  exact List.map_id _
theorem nrm_nml (s : Srt srt lt) {ds : List (κ × Int)} (h : (kys ds).Nodup) : Nml lt (nrm srt ds) := by
  refine ⟨?_, fun p hp => ?_⟩
  · rw [nrm_kys]
    exact (s.up _ h).filter _
  · obtain ⟨k, hk, e⟩ := List.mem_map.mp hp
    subst e
    have := (List.mem_filter.mp hk).2
    simpa using this
theorem map_get {ds : List (κ × Int)} (h : (kys ds).Nodup) : (kys ds).map (fun k => (k, getI ds k)) = ds := by
  unfold kys
  rw [List.map_map]
  conv => rhs; rw [← List.map_id ds]
  refine List.map_congr_left fun p hp => ?_
  show (p.1, getI ds p.1) = p
  rw [get_mem h hp]
theorem nrm_fix (s : Srt srt lt) {ps : List (κ × Int)} (h : Nml lt ps) : nrm srt ps = ps := by
  have hd := h.nodup s
  unfold nrm
  rw [s.fix _ h.1]
  have : (kys ps).filter (fun k => !decide (getI ps k = 0)) = kys ps := by
    rw [List.filter_eq_self]
    intro k hk
    obtain ⟨p, hp, e⟩ := List.mem_map.mp hk
    subst e
    rw [get_mem hd hp]
    have := h.2 p hp
    simp [this]
  rw [this, map_get hd]
def nf (srt : List κ → List κ) (ps : List (κ × Int)) : List (κ × Int) := nrm srt (gat ps)
theorem nf_nml (s : Srt srt lt) (ps : List (κ × Int)) : Nml lt (nf srt ps) := nrm_nml s (gat_nodup ps)
theorem nf_fix (s : Srt srt lt) {ps : List (κ × Int)} (h : Nml lt ps) : nf srt ps = ps := by
  unfold nf
  rw [gat_fresh (h.nodup s), nrm_fix s h]
theorem nf_mem (s : Srt srt lt) {ps : List (κ × Int)} {p : κ × Int} (h : p ∈ nf srt ps) : p.1 ∈ kys ps ∧ p ∈ gat ps := by
  obtain ⟨k, hk, e⟩ := List.mem_map.mp h
  subst e
  have h1 : k ∈ kys (gat ps) := (s.perm _).mem_iff.mp (List.mem_filter.mp hk).1
  exact ⟨gat_kys h1, get_in h1⟩
theorem nf_len (s : Srt srt lt) (ps : List (κ × Int)) : (nf srt ps).length ≤ ps.length := by
  unfold nf nrm
  rw [List.length_map]
  refine Nat.le_trans (List.length_filter_le _ _) ?_
  rw [(s.perm _).length_eq]
  unfold kys
  rw [List.length_map]
  exact gat_len ps
theorem nf_bd (s : Srt srt lt) {M : Nat} {ps : List (κ × Int)} (h : ∀ p ∈ ps, p.2.natAbs ≤ M) : ∀ p ∈ nf srt ps, p.2.natAbs ≤ ps.length * M := fun p hp => gat_bd h p (nf_mem s hp).2
/-- a dict that is built of sorted keys -/
theorem fold_told {ds : List (κ × Int)} : ∀ (ks : List κ) (t : List (κ × Int)), (kys t ++ ks).Nodup → ks.foldl (fun t k => if getI ds k = 0 then t else putI t k (getI ds k)) t = t ++ (ks.filter fun k => !decide (getI ds k = 0)).map fun k => (k, getI ds k)
  | [], t, _ => (List.append_nil _).symm
  | k :: ks, t, h => by
    have hn : k ∉ kys t := fun hm => by
      rw [List.nodup_append] at h
      exact h.2.2 _ hm k (by simp) rfl
    rw [List.foldl_cons]
    by_cases h0 : getI ds k = 0
    · rw [if_pos h0, fold_told ks t]
      · simp [h0]
      · rw [List.nodup_append] at h ⊢
        exact ⟨h.1, (List.nodup_cons.mp h.2.1).2, fun a ha b hb => h.2.2 a ha b (List.mem_cons_of_mem _ hb)⟩
    · rw [if_neg h0, put_new hn, fold_told ks]
      · simp [h0]
      · unfold kys
        rw [List.map_append, List.append_assoc]
        exact h
/-! ### dicts of data -/
variable {μ : Type} [DecidableEq μ] (e : κ → μ)
def encI (ds : List (κ × Int)) : List (μ × D) := ds.map fun p => (e p.1, .int p.2)
variable {e}
theorem put_enc (he : ∀ a b, e a = e b → a = b) (ds : List (κ × Int)) (k : κ) (v : Int) : putD (encI e ds) (e k) (.int v) = encI e (putI ds k v) := by
  have ea : ∀ p : κ × Int, decide (e p.1 = e k) = decide (p.1 = k) := fun p => by
    rw [decide_eq_decide]
    exact ⟨fun h => he _ _ h, fun h => by rw [h]⟩
  have h1 : ((encI e ds).any fun kv => decide (kv.1 = e k)) = ds.any fun p => decide (p.1 = k) := by
    unfold encI
    rw [List.any_map]
    congr 1
    funext p
    exact ea p
  unfold putD putI
  rw [h1]
  split
  · unfold encI
    rw [List.map_map, List.map_map]
    refine List.map_congr_left fun p _ => ?_
    show (if e p.1 = e k then (e p.1, D.int v) else (e p.1, .int p.2)) = (e (if p.1 = k then (p.1, v) else p).1, D.int (if p.1 = k then (p.1, v) else p).2)
    by_cases h : p.1 = k
    · rw [if_pos h, if_pos (by rw [h])]
    · rw [if_neg h, if_neg fun h2 => h (he _ _ h2)]
  · unfold encI
    rw [List.map_append]
    rfl
theorem val_enc (he : ∀ a b, e a = e b → a = b) (ds : List (κ × Int)) (k : κ) : valD (encI e ds) (e k) = (ds.find? fun p => decide (p.1 = k)).map fun p => .int p.2 := by
  unfold valD encI
  rw [List.find?_map, Option.map_map]
  have : ((fun kv : μ × D => decide (kv.1 = e k)) ∘ fun p : κ × Int => (e p.1, D.int p.2)) = fun p => decide (p.1 = k) := by
    funext p
    show decide (e p.1 = e k) = _
    rw [decide_eq_decide]
    exact ⟨fun h => he _ _ h, fun h => by rw [h]⟩
  rw [this]
  rfl
theorem val_getD (he : ∀ a b, e a = e b → a = b) (ds : List (κ × Int)) (k : κ) : (valD (encI e ds) (e k)).getD (.int 0) = .int (getI ds k) := by
  rw [val_enc he]
  unfold getI
  cases ds.find? fun p => decide (p.1 = k) <;> rfl
theorem val_in (he : ∀ a b, e a = e b → a = b) {ds : List (κ × Int)} {k : κ} (h : k ∈ kys ds) : valD (encI e ds) (e k) = some (.int (getI ds k)) := by
  rw [val_enc he]
  unfold getI
  cases h2 : ds.find? fun p => decide (p.1 = k) with
  | some p => rfl
  | none =>
    rw [List.find?_eq_none] at h2
    obtain ⟨p, hp, e⟩ := List.mem_map.mp h
    exact absurd (decide_eq_true e) (h2 p hp)
theorem enc_fst (ds : List (κ × Int)) : (encI e ds).map (·.1) = (kys ds).map e := by
  unfold encI kys
  rw [List.map_map, List.map_map]
  rfl
end
end RJ

set_option Elab.async false
set_option linter.all false
set_option maxRecDepth 100000
set_option maxHeartbeats 1000000
set_option autoImplicit false
/-! RkC: polynomials. -/
namespace RJ
open PySem PySem.Spec L2
open SX (S)

theorem ixG_seq {d : D} {ds : List D} {i : Int} {x : D} (h : seqOf d = some ds) (h2 : atI ds i = some x) : ixG d (.int i) = .ok x := by
  cases d with
  | lst l =>
    cases h
    exact ixG_lst h2
  | tup l =>
    cases h
    exact ixG_tup h2
  | _ => cases h
theorem itemsQ_seq {d : D} {ds : List D} (h : seqOf d = some ds) : itemsQ d = .ok ds := by
  unfold itemsQ
  rw [h]
theorem tup_seq {T : Tbl} {n : Nat} {a : GCs T} {d : D} {ds : List D} (Γ : En) (h : seqOf d = some ds) (hl : ds.length = n) : (gcTup n a).den d Γ = a.den ds Γ := by
  rw [den_gcTup, h]
  exact if_pos hl
/-- ways to pass a pair -/
def IsPair (enc : Int × Int → D) : Prop := ∀ p, seqOf (enc p) = some [.int p.1, .int p.2]
def ltI (a b : Int) : Prop := a < b
theorem srtI : Srt sortI ltI where
  perm := sortI_perm
  up l h := by
    have h1 := sortI_srt l
    have h2 : (sortI l).Nodup := (sortI_perm l).nodup_iff.mpr h
    have h2 : (sortI l).Pairwise (· ≠ ·) := h2
    exact (h1.and h2).imp fun {a b} ⟨x, y⟩ => by
      show a < b
      omega
  fix l h := (sortI_of (List.Perm.refl l) (h.imp fun {a b} x => by
    have : a < b := x
    omega)).symm
  ne a b h := by
    have : a < b := h
    omega
def eI : Int → Key := Sum.inl
theorem eI_inj : ∀ a b, eI a = eI b → a = b := fun a b h => Sum.inl.inj h
theorem intsK_map : ∀ l : List Int, intsK (l.map eI) = some l
  | [] => rfl
  | i :: l => by
    show (intsK (l.map eI)).map (i :: ·) = _
    rw [intsK_map l]
    rfl
theorem sor_dK (ds : List (Int × Int)) : sorG shRow [.dK (encI eI ds)] = .ok (.lst ((sortI (kys ds)).map .int)) := by
  show (match intsK ((encI eI ds).map (·.1)) with
    | some ns => Re.ok (D.lst ((sortI ns).map .int))
    | none => .no) = _
  rw [enc_fst, intsK_map]
theorem intsD_map : ∀ l : List Int, intsD (l.map .int) = some l
  | [] => rfl
  | i :: l => by
    show (intsD (l.map .int)).map (i :: ·) = _
    rw [intsD_map l]
    rfl
theorem sor_lst (l : List Int) : sorG shRow [.lst (l.map .int)] = .ok (.lst ((sortI l).map .int)) := by
  show (match intsD (l.map .int) with
    | some ns => Re.ok (D.lst ((sortI ns).map .int))
    | none => match keysTs (l.map .int) with
      | some ks => if ks.all (kOk shRow) = true then .ok (.lst ((sortK ks).map dTup)) else .no
      | none => .no) = _
  rw [intsD_map]
theorem list_dK (ds : List (Int × Int)) : listG [.dK (encI eI ds)] = .ok (.lst ((kys ds).map .int)) := by
  show Re.ok (D.lst (((encI eI ds).map (·.1)).map dKey)) = _
  rw [enc_fst, List.map_map]
  rfl
theorem put_dK {ds : List (Int × Int)} (hl : ds.length < 16777216) (k v : Int) : putG (.dK (encI eI ds)) (.int k) (.int v) = some (.dK (encI eI (putI ds k v))) := by
  rw [← put_enc eI_inj]
  have h : (encI eI ds).length < sizeLine := by
    unfold encI
    rw [List.length_map, sizeLine_eq]
    exact hl
  show (if (encI eI ds).length < sizeLine then some (D.dK (putD (encI eI ds) (.inl k) (.int v))) else none) = _
  rw [if_pos h]
  rfl
theorem get_dK (ds : List (Int × Int)) (k : Int) : dget2G (.dK (encI eI ds)) (.int k) (.int 0) = .ok (.int (getI ds k)) := by
  rw [← val_getD eI_inj]
  rfl
theorem dg_dK {ds : List (Int × Int)} {k : Int} (h : k ∈ kys ds) : dgG (.dK (encI eI ds)) (.int k) = .ok (.int (getI ds k)) := by
  have := val_in (e := eI) eI_inj h
  show (match (some (valD (encI eI ds) (.inl k)) : Option (Option D)) with
    | some (some z) => Re.ok z
    | _ => .no) = _
  rw [show valD (encI eI ds) (.inl k) = some (.int (getI ds k)) from this]
@[simp] theorem isDR_dK (k : List (Key × D)) : isDR (.dK k) = .ok (.dK k) := rfl
@[simp] theorem isDR_dT (k : List (List Key × D)) : isDR (.dT k) = .ok (.dT k) := rfl
def encP : Int × Int → D := fun p => .tup [.int p.1, .int p.2]
theorem encP_pair : IsPair encP := fun _ => rfl
/-- the tuple that is told of a dict -/
theorem told_lc {T : Tbl} {Γ : En} {i v : Nat} (ds : List (Int × Int)) (hl : ds.length ≤ 16777216) (hi : Γ[i]? = some (.own (.dK (encI eI ds)))) (hv : v < Γ.length) (hiv : i ≠ v) :
    lcGo (gcName v : GC T).den (denC (some (tcCmp lNe (ocE (ecDg (ocVar i) (ocVar v))) (ocE (ecInt 0)) : TC T))) (ecTup (acCons (ecVar v) (acCons (ecDg (ocVar i) (ocVar v)) acNil)) : EC T).den [v] ((sortI (kys ds)).map .int) Γ = some ((nrm sortI ds).map encP) := by
  have key := lcGo_filter (tg := (gcName v : GC T).den) (ct := denC (some (tcCmp lNe (ocE (ecDg (ocVar i) (ocVar v))) (ocE (ecInt 0)) : TC T))) (el := (ecTup (acCons (ecVar v) (acCons (ecDg (ocVar i) (ocVar v)) acNil)) : EC T).den) (vs := [v]) (Γ := Γ) (enc := D.int) (out := fun k => encP (k, getI ds k)) (Γx := fun k => (wipeE Γ [v]).set v (.sh (.int k))) (p := fun k => !decide (getI ds k = 0)) (xs := sortI (kys ds)) (fun k hk => by
    have hk : k ∈ kys ds := (sortI_perm _).mem_iff.mp hk
    have hg := dg_dK hk
    have hw : wipeE Γ [v] = Γ.set v .no := rfl
    have e1 : (Γ.set v (Sl.sh (.int k)))[v]? = some (.sh (.int k)) := List.getElem?_set_self hv
    have e2 : (Γ.set v (Sl.sh (.int k)))[i]? = some (.own (.dK (encI eI ds))) := by
      rw [List.getElem?_set_ne (Ne.symm hiv), hi]
    rw [hw]
    refine ⟨rfl, ?_, fun _ => ?_⟩
    · simp [denC, dVarO, e1, e2, hg]
    · simp [dVarO, dVar, e1, e2, hg, encP])
  rw [key]
  unfold nrm
  rw [List.map_map]
  rfl
theorem gat_loop {T : Tbl} {enc : Int × Int → D} (he : IsPair enc) {s0 : Sl} (ps : List (Int × Int)) (hl : ps.length ≤ 16777216) (s2 s3 s4 : Sl) : ∃ s2' s3', forD (gcTup 2 (gsCons (gcName 2) (gsCons (gcName 3) gsNil)) : GC T).den (bCons (scPutD 1 (ecVar 2) (ecBin lAdd (ocE (ecGet (ocVar 1) (ocVar 2) (ecInt 0))) (ocVar 3))) bNil : BC T).den (ps.map enc) [s0, .own (.dK []), s2, s3, s4] = .nx [s0, .own (.dK (encI eI (gat ps))), s2', s3', s4] := by
  have key := forD_fold (tg := (gcTup 2 (gsCons (gcName 2) (gsCons (gcName 3) gsNil)) : GC T).den) (body := (bCons (scPutD 1 (ecVar 2) (ecBin lAdd (ocE (ecGet (ocVar 1) (ocVar 2) (ecInt 0))) (ocVar 3))) bNil : BC T).den) (enc := enc)
    (st := fun (z : List (Int × Int) × Sl × Sl) => [s0, .own (.dK (encI eI z.1)), z.2.1, z.2.2, s4]) (f := fun z p => (ins z.1 p, .sh (.int p.1), .sh (.int p.2))) (fun n z => z.1.length ≤ n) ps ([], s2, s3) 0 (Nat.le_refl _) (fun m z p _ hm hz => ⟨Nat.le_trans (ins_len _ _) (by omega), [s0, .own (.dK (encI eI z.1)), .sh (.int p.1), .sh (.int p.2), s4], by
      rw [tup_seq (n := 2) _ (he p) rfl]
      rfl, .inl (by
      have hz2 : z.1.length < 16777216 := by omega
      simp [dPutD, dVarO, dVar, get_dK, put_dK hz2, ins])⟩)
  have e : ∀ (ps : List (Int × Int)) (z : List (Int × Int) × Sl × Sl), (ps.foldl (fun z p => (ins z.1 p, Sl.sh (.int p.1), Sl.sh (.int p.2))) z).1 = ps.foldl ins z.1 := by
    intro ps
    induction ps with
    | nil => intro z; rfl
    | cons p ps ih => intro z; exact ih _
  have key := key.1
  have e2 := e ps ([], s2, s3)
  generalize ps.foldl (fun z p => (ins z.1 p, Sl.sh (.int p.1), Sl.sh (.int p.2))) (([], s2, s3) : List (Int × Int) × Sl × Sl) = Z at key e2
  obtain ⟨z1, z2, z3⟩ := Z
  have e2 : z1 = gat ps := e2
  subst e2
  exact ⟨z2, z3, key⟩
theorem polynomial_ok {d : D} {enc : Int × Int → D} {ps : List (Int × Int)} (he : IsPair enc) (hd : seqOf d = some (ps.map enc)) (hl : ps.length ≤ 16777216) : d_polynomial [d] = .ok (.tup ((nf sortI ps).map encP)) := by
  obtain ⟨s2, s3, h⟩ := gat_loop (T := mkT t_polynomial) he (s0 := .sh d) ps hl .no .no .no
  have hl2 : (gat ps).length ≤ 16777216 := Nat.le_trans (gat_len ps) hl
  have h2 := told_lc (T := mkT t_polynomial) (Γ := [.sh d, .own (.dK (encI eI (gat ps))), s2, s3, .no]) (i := 1) (v := 4) (gat ps) hl2 rfl (by simp) (by decide)
  have hl3 : (sortI (kys (gat ps))).length ≤ 16777216 := by
    rw [(sortI_perm _).length_eq]
    simpa [kys] using hl2
  have h3 := denLc_ok (T := mkT t_polynomial) (it := icSeq (ecB "sorted" (lSorted shRow) (aoCons (ocVar 1) aoNil))) (tg := gcName 4) (ct := some (tcCmp lNe (ocE (ecDg (ocVar 1) (ocVar 4))) (ocE (ecInt 0)))) (el := ecTup (acCons (ecVar 4) (acCons (ecDg (ocVar 1) (ocVar 4)) acNil))) (vs := [4]) (Γ := [.sh d, .own (.dK (encI eI (gat ps))), s2, s3, .no]) (ds := (sortI (kys (gat ps))).map .int) (by simp [dVarO, sor_dK]) (by simpa using hl3) h2
  simp [d_polynomial, fnDen, n_polynomial, b_polynomial, startE, dVarO, dVar, itemsQ_seq hd]
  rw [h]
  simp [h3, nf]
end RJ

set_option Elab.async false
set_option linter.all false
set_option maxRecDepth 100000
set_option maxHeartbeats 1000000
set_option autoImplicit false
/-! RkD: the law's polynomials; products; forms; written forms. -/
namespace RJ
open PySem PySem.Spec L2
open SX (S)

theorem law_poly_ok {d : D} {enc : Int × Int → D} {ps : List (Int × Int)} (he : IsPair enc) (hd : seqOf d = some (ps.map enc)) (hl : ps.length ≤ 16777216) : d_law_poly [d] = .ok (.dK (encI eI (nf sortI ps))) := by
  have l1 := forD_fold (tg := fun d Γ => .ok (Γ.set 2 (.sh d))) (body := (bCons (scPutD 1 (ecIx (ocVar 2) (ocE (ecInt 0))) (ecBin lAdd (ocE (ecGet (ocVar 1) (ocE (ecIx (ocVar 2) (ocE (ecInt 0)))) (ecInt 0))) (ocE (ecIx (ocVar 2) (ocE (ecInt 1)))))) bNil : BC (mkT t_law_poly)).den) (enc := enc)
    (st := fun (z : List (Int × Int) × Sl) => [.sh d, .own (.dK (encI eI z.1)), z.2, .no, .no]) (f := fun z p => (ins z.1 p, .sh (enc p))) (fun n z => z.1.length ≤ n) ps ([], .no) 0 (Nat.le_refl _) (fun m z p _ hm hz => ⟨Nat.le_trans (ins_len _ _) (by omega), _, rfl, .inl (by
      have hz2 : z.1.length < 16777216 := by omega
      have e0 := ixG_seq (i := 0) (he p) rfl
      have e1 := ixG_seq (i := 1) (he p) rfl
      simp [dPutD, dVarO, dVar, get_dK, put_dK hz2, ins, e0, e1])⟩)
  have e : ∀ (ps : List (Int × Int)) (z : List (Int × Int) × Sl), (ps.foldl (fun z p => (ins z.1 p, Sl.sh (enc p))) z).1 = ps.foldl ins z.1 := by
    intro ps
    induction ps with
    | nil => intro z; rfl
    | cons p ps ih => intro z; exact ih _
  have l1 := l1.1
  have e2 := e ps ([], .no)
  generalize ps.foldl (fun z p => (ins z.1 p, Sl.sh (enc p))) (([], .no) : List (Int × Int) × Sl) = Z at l1 e2
  obtain ⟨z1, z2⟩ := Z
  have e2 : z1 = gat ps := e2
  subst e2
  have hgl : (gat ps).length ≤ 16777216 := Nat.le_trans (gat_len ps) hl
  have hsl : (sortI (kys (gat ps))).length ≤ 16777216 := by
    rw [(sortI_perm _).length_eq]
    simpa [kys] using hgl
  have l2 := forD_fold (tg := fun d Γ => .ok (Γ.set 4 (.sh d))) (body := (bCons (scIf (tcCmp lNe (ocE (ecDg (ocVar 1) (ocVar 4))) (ocE (ecInt 0))) (bCons (scPutD 3 (ecVar 4) (ecDg (ocVar 1) (ocVar 4))) bNil) (bNil)) bNil : BC (mkT t_law_poly)).den) (enc := D.int)
    (st := fun (z : List (Int × Int) × Sl) => [.sh d, .own (.dK (encI eI (gat ps))), z2, .own (.dK (encI eI z.1)), z.2]) (f := fun z k => (if getI (gat ps) k = 0 then z.1 else putI z.1 k (getI (gat ps) k), .sh (.int k))) (fun n z => z.1.length ≤ n) (sortI (kys (gat ps))) ([], .no) 0 (Nat.le_refl _) (fun m z k hk hm hz => by
      have hk : k ∈ kys (gat ps) := (sortI_perm _).mem_iff.mp hk
      have hg := dg_dK hk
      have hz2 : z.1.length < 16777216 := by omega
      refine ⟨?_, _, rfl, .inl ?_⟩
      · show (if getI (gat ps) k = 0 then z.1 else putI z.1 k (getI (gat ps) k)).length ≤ m + 1
        split
        · omega
        · unfold putI
          split
          · rw [List.length_map]
            omega
          · simp
            omega
      · by_cases h0 : getI (gat ps) k = 0
        · simp [dVarO, dVar, hg, h0]
        · simp [dVarO, dVar, hg, h0, dPutD, put_dK hz2])
  have e3 : ∀ (ks : List Int) (z : List (Int × Int) × Sl), (ks.foldl (fun z k => (if getI (gat ps) k = 0 then z.1 else putI z.1 k (getI (gat ps) k), Sl.sh (.int k))) z).1 = ks.foldl (fun t k => if getI (gat ps) k = 0 then t else putI t k (getI (gat ps) k)) z.1 := by
    intro ks
    induction ks with
    | nil => intro z; rfl
    | cons p ps ih => intro z; exact ih _
  have l2 := l2.1
  have e4 := e3 (sortI (kys (gat ps))) ([], .no)
  rw [fold_told (ds := gat ps) (sortI (kys (gat ps))) [] (by
    show (sortI (kys (gat ps))).Nodup
    exact (sortI_perm _).nodup_iff.mpr (gat_nodup ps))] at e4
  generalize (sortI (kys (gat ps))).foldl (fun z k => (if getI (gat ps) k = 0 then z.1 else putI z.1 k (getI (gat ps) k), Sl.sh (.int k))) (([], .no) : List (Int × Int) × Sl) = Z at l2 e4
  obtain ⟨z3, z4⟩ := Z
  have e4 : z3 = nf sortI ps := e4
  subst e4
  have l1' : forD (fun d Γ => .ok (Γ.set 2 (.sh d))) (bCons (scPutD 1 (ecIx (ocVar 2) (ocE (ecInt 0))) (ecBin lAdd (ocE (ecGet (ocVar 1) (ocE (ecIx (ocVar 2) (ocE (ecInt 0)))) (ecInt 0))) (ocE (ecIx (ocVar 2) (ocE (ecInt 1)))))) bNil : BC (mkT t_law_poly)).den (ps.map enc) [.sh d, .own (.dK []), .no, .no, .no] = .nx [.sh d, .own (.dK (encI eI (gat ps))), z2, .no, .no] := l1
  have l2' : forD (fun d Γ => .ok (Γ.set 4 (.sh d))) (bCons (scIf (tcCmp lNe (ocE (ecDg (ocVar 1) (ocVar 4))) (ocE (ecInt 0))) (bCons (scPutD 3 (ecVar 4) (ecDg (ocVar 1) (ocVar 4))) bNil) (bNil)) bNil : BC (mkT t_law_poly)).den ((sortI (kys (gat ps))).map .int) [.sh d, .own (.dK (encI eI (gat ps))), z2, .own (.dK []), .no] = .nx [.sh d, .own (.dK (encI eI (gat ps))), z2, .own (.dK (encI eI (nf sortI ps))), z4] := l2
  simp [d_law_poly, fnDen, n_law_poly, b_law_poly, startE, dVarO, dVar, itemsQ_seq hd, l1', list_dK, sor_lst, l2', dFrz]
theorem law_pairs_ok {p : List (Int × Int)} (h : Nml ltI p) (hl : p.length ≤ 16777216) : d_law_pairs [.dK (encI eI p)] = .ok (.tup (p.map encP)) := by
  have hn := h.nodup srtI
  have hs : sortI (kys p) = kys p := srtI.fix _ h.1
  have hk : (kys p).length ≤ 16777216 := by simpa [kys] using hl
  have l := lcGo_map (tg := (gcName 1 : GC (mkT t_law_pairs)).den) (ct := denC (none : Option (TC (mkT t_law_pairs)))) (el := (ecTup (acCons (ecVar 1) (acCons (ecDg (ocVar 0) (ocVar 1)) acNil)) : EC (mkT t_law_pairs)).den) (vs := [1]) (Γ := [.sh (.dK (encI eI p)), .no]) (enc := D.int) (out := fun k => encP (k, getI p k)) (Γx := fun k => [.sh (.dK (encI eI p)), .sh (.int k)]) (xs := kys p) (fun k hk => by
    have hg := dg_dK hk
    refine ⟨rfl, rfl, ?_⟩
    simp [dVarO, dVar, hg, encP])
  have e : (kys p).map (fun k => encP (k, getI p k)) = p.map encP := by
    conv => rhs; rw [← map_get hn]
    rw [List.map_map]
    rfl
  rw [e] at l
  have h3 := denLc_ok (T := mkT t_law_pairs) (it := icSeq (ecB "sorted" (lSorted shRow) (aoCons (ocE (ecB "list" lList (aoCons (ocVar 0) aoNil))) aoNil))) (tg := gcName 1) (ct := none) (el := ecTup (acCons (ecVar 1) (acCons (ecDg (ocVar 0) (ocVar 1)) acNil))) (vs := [1]) (Γ := [.sh (.dK (encI eI p)), .no]) (ds := (kys p).map .int) (by simp [dVarO, list_dK, sor_lst, hs]) (by simpa using hk) l
  simp [d_law_pairs, fnDen, n_law_pairs, b_law_pairs, startE, dVarO, dVar, h3]
theorem poly_times_ok {d f q : D} {enc : Int × Int → D} {ps : List (Int × Int)} {by' c : Int} (he : IsPair enc) (hd : seqOf d = some (ps.map enc)) (hf : seqOf f = some [q]) (hq : seqOf q = some [.int by', .int c]) (hl : ps.length ≤ 16777216)
    (hb : ∀ p ∈ ps, (Builtin.Int.intBits p.2 : Int) + (Builtin.Int.intBits c : Int) ≤ 134217728) : d_poly_times [d, f] = .ok (.tup ((nf sortI (ps.map fun p => (p.1 + by', p.2 * c))).map encP)) := by
  have l1 := forD_fold (tg := fun d Γ => .ok (Γ.set 3 (.sh d))) (body := (bCons (scFor (gcName 4) (icSeq (ecVar 1)) (bCons (scSet 5 (ecBin lAdd (ocE (ecIx (ocVar 3) (ocE (ecInt 0)))) (ocE (ecIx (ocVar 4) (ocE (ecInt 0)))))) <|
      bCons (scPutD 2 (ecVar 5) (ecBin lAdd (ocE (ecGet (ocVar 2) (ocVar 5) (ecInt 0))) (ocE (ecBin lMul (ocE (ecIx (ocVar 3) (ocE (ecInt 1)))) (ocE (ecIx (ocVar 4) (ocE (ecInt 1)))))))) bNil)) bNil : BC (mkT t_poly_times)).den) (enc := enc)
    (st := fun (z : List (Int × Int) × Sl × Sl × Sl) => [.sh d, .sh f, .own (.dK (encI eI z.1)), z.2.1, z.2.2.1, z.2.2.2, .no]) (f := fun z p => (ins z.1 (p.1 + by', p.2 * c), .sh (enc p), .sh q, .sh (.int (p.1 + by')))) (fun n z => z.1.length ≤ n) ps ([], .no, .no, .no) 0 (Nat.le_refl _) (fun m z p hp hm hz => ⟨Nat.le_trans (ins_len _ _) (by omega), _, rfl, .inl (by
      have hz2 : z.1.length < 16777216 := by omega
      have e0 := ixG_seq (i := 0) (he p) rfl
      have e1 := ixG_seq (i := 1) (he p) rfl
      have f0 := ixG_seq (i := 0) hq rfl
      have f1 := ixG_seq (i := 1) hq rfl
      have hb := hb p hp
      simp [dPutD, dVarO, dVar, get_dK, put_dK hz2, ins, e0, e1, f0, f1, itemsQ_seq hf, forD_cons, forD_nil, hb])⟩)
  have e : ∀ (ps : List (Int × Int)) (z : List (Int × Int) × Sl × Sl × Sl), (ps.foldl (fun z p => (ins z.1 (p.1 + by', p.2 * c), Sl.sh (enc p), Sl.sh q, Sl.sh (.int (p.1 + by')))) z).1 = (ps.map fun p => (p.1 + by', p.2 * c)).foldl ins z.1 := by
    intro ps
    induction ps with
    | nil => intro z; rfl
    | cons p ps ih => intro z; exact ih _
  have l1 := l1.1
  have e2 := e ps ([], .no, .no, .no)
  generalize ps.foldl (fun z p => (ins z.1 (p.1 + by', p.2 * c), Sl.sh (enc p), Sl.sh q, Sl.sh (.int (p.1 + by')))) (([], .no, .no, .no) : List (Int × Int) × Sl × Sl × Sl) = Z at l1 e2
  obtain ⟨z1, z2, z3, z4⟩ := Z
  have e2 : z1 = gat (ps.map fun p => (p.1 + by', p.2 * c)) := e2
  subst e2
  generalize hR : (ps.map fun p => (p.1 + by', p.2 * c)) = R at *
  have hRl : R.length ≤ 16777216 := by
    rw [← hR, List.length_map]
    exact hl
  have hl2 : (gat R).length ≤ 16777216 := Nat.le_trans (gat_len _) hRl
  have h2 := told_lc (T := mkT t_poly_times) (Γ := [.sh d, .sh f, .own (.dK (encI eI (gat R))), z2, z3, z4, .no]) (i := 2) (v := 6) (gat R) hl2 rfl (by simp) (by decide)
  have hl3 : (sortI (kys (gat R))).length ≤ 16777216 := by
    rw [(sortI_perm _).length_eq]
    simpa [kys] using hl2
  have h3 := denLc_ok (T := mkT t_poly_times) (it := icSeq (ecB "sorted" (lSorted shRow) (aoCons (ocVar 2) aoNil))) (tg := gcName 6) (ct := some (tcCmp lNe (ocE (ecDg (ocVar 2) (ocVar 6))) (ocE (ecInt 0)))) (el := ecTup (acCons (ecVar 6) (acCons (ecDg (ocVar 2) (ocVar 6)) acNil))) (vs := [6]) (Γ := [.sh d, .sh f, .own (.dK (encI eI (gat R))), z2, z3, z4, .no]) (ds := (sortI (kys (gat R))).map .int) (by simp [dVarO, sor_dK]) (by simpa using hl3) h2
  have l1' : forD (fun d Γ => .ok (Γ.set 3 (.sh d))) (bCons (scFor (gcName 4) (icSeq (ecVar 1)) (bCons (scSet 5 (ecBin lAdd (ocE (ecIx (ocVar 3) (ocE (ecInt 0)))) (ocE (ecIx (ocVar 4) (ocE (ecInt 0)))))) <|
      bCons (scPutD 2 (ecVar 5) (ecBin lAdd (ocE (ecGet (ocVar 2) (ocVar 5) (ecInt 0))) (ocE (ecBin lMul (ocE (ecIx (ocVar 3) (ocE (ecInt 1)))) (ocE (ecIx (ocVar 4) (ocE (ecInt 1)))))))) bNil)) bNil : BC (mkT t_poly_times)).den (ps.map enc) [.sh d, .sh f, .own (.dK []), .no, .no, .no, .no] = .nx [.sh d, .sh f, .own (.dK (encI eI (gat R))), z2, z3, z4, .no] := l1
  simp [d_poly_times, fnDen, n_poly_times, b_poly_times, startE, dVarO, dVar, itemsQ_seq hd, l1', h3, nf]
/-! ### forms -/
theorem atI_nat {α : Type} (l : List α) (i : Nat) (h : i < l.length) : atI l (i : Int) = some l[i] := by
  unfold atI ixN
  rw [if_pos (by omega), if_pos (by omega)]
  simp [h]
theorem forD_true {α J : Type} {tg : D → En → Re En} {body : En → SR} {enc : α → D} {st : J → En} (xs : List α) (j : J) (h : ∀ x ∈ xs, ∀ j, ∃ Γ1 j', tg (enc x) (st j) = .ok Γ1 ∧ body Γ1 = .nx (st j')) : ∃ j', forD tg body (xs.map enc) (st j) = .nx (st j') := by
  have := forD_all (tg := tg) (body := body) (enc := enc) (st := st) (p := fun _ => true) (r := .non) xs j fun x hx j => by
    obtain ⟨Γ1, j', h1, h2⟩ := h x hx j
    exact ⟨Γ1, h1, j', h2⟩
  rw [if_pos (by simp)] at this
  exact this
theorem icRng1_ok {T : Tbl} {a : OC T} {Γ : En} {j : Int} (ha : a.den Γ = .ok (.int j)) (h0 : 0 ≤ j) (h : j < 4611686018427387904) : (icRng1 a).den Γ = .ok (rangeD 0 j.toNat) := by
  rw [den_icRng1, ha, Re.bind_ok, rng1_ok h0 h]
theorem icRng2_ok {T : Tbl} {a b : OC T} {Γ : En} {i j : Int} (ha : a.den Γ = .ok (.int i)) (hb : b.den Γ = .ok (.int j)) (h0 : 0 ≤ i) (h1 : i < 4611686018427387904) (h2 : 0 ≤ j) (h : j < 4611686018427387904) : (icRng2 a b).den Γ = .ok (rangeD i (j - i).toNat) := by
  rw [den_icRng2, ha, Re.bind_ok, hb, Re.bind_ok, rng2_ok h0 h1 h2 h]
theorem range_map (n : Nat) : rangeD 1 n = (List.range n).map fun (i : Nat) => D.int (1 + (i : Int)) := rfl
theorem is_poly_ok {ps : List (Int × Int)} (h : Nml ltI ps) (hl : ps.length ≤ 16777216) : d_law_is_poly [.tup (ps.map encP)] = .ok (.bl true) := by
  obtain ⟨s1, l1⟩ := forD_true (tg := fun d Γ => .ok (Γ.set 1 (.sh d))) (body := (bCons (scIf (tcOr [(tcNot (tcTru (ocE (ecIsi "tuple" (ocVar 1))))), (tcCmp lNe (ocE (ecB "len" lLen (aoCons (ocVar 1) aoNil))) (ocE (ecInt 2)))]) (bCons (scRet (ecBl false)) bNil) (bNil)) <|
    bCons (scIf (tcOr [(tcNot (tcTru (ocE (ecCall .f_law_whole (acCons (ecIx (ocVar 1) (ocE (ecInt 0))) acNil))))), (tcNot (tcTru (ocE (ecCall .f_law_whole (acCons (ecIx (ocVar 1) (ocE (ecInt 1))) acNil))))), (tcCmp lEq (ocE (ecIx (ocVar 1) (ocE (ecInt 1)))) (ocE (ecInt 0)))]) (bCons (scRet (ecBl false)) bNil) (bNil)) bNil : BC (mkT t_law_is_poly)).den) (enc := encP) (st := fun (s : Sl) => [.sh (.tup (ps.map encP)), s, .no]) ps .no (fun p hp s => by
    have h0 := h.2 p hp
    refine ⟨_, .sh (encP p), rfl, ?_⟩
    simp [dVarO, dVar, encP, ixG, t_law_is_poly, law_whole_ok, h0])
  obtain ⟨s2, l2⟩ := forD_true (tg := fun d Γ => .ok (Γ.set 2 (.sh d))) (body := (bCons (scIf (tcCmp lGe (ocE (ecIx (ocE (ecIx (ocVar 0) (ocE (ecBin lSub (ocVar 2) (ocE (ecInt 1)))))) (ocE (ecInt 0)))) (ocE (ecIx (ocE (ecIx (ocVar 0) (ocVar 2))) (ocE (ecInt 0))))) (bCons (scRet (ecBl false)) bNil) (bNil)) bNil : BC (mkT t_law_is_poly)).den) (enc := fun (i : Nat) => D.int (1 + (i : Int))) (st := fun (s : Sl) => [.sh (.tup (ps.map encP)), s1, s]) (List.range (ps.length - 1)) .no (fun i hi s => by
    have hi : i + 1 < ps.length := by
      have := List.mem_range.mp hi
      omega
    have a1 : atI (ps.map encP) (1 + (i : Int) - 1) = some (encP ps[i]) := by
      rw [show 1 + (i : Int) - 1 = (i : Int) by omega, atI_nat _ _ (by simp; omega)]
      simp
    have a2 : atI (ps.map encP) (1 + (i : Int)) = some (encP ps[i + 1]) := by
      rw [show 1 + (i : Int) = ((i + 1 : Nat) : Int) by omega, atI_nat _ _ (by simp; omega)]
      simp
    have hlt : ps[i].1 < ps[i + 1].1 := by
      have hp := h.1
      unfold kys at hp
      rw [List.pairwise_iff_getElem] at hp
      have := hp i (i + 1) (by simp; omega) (by simpa using hi) (by omega)
      simpa [ltI] using this
    have hnl : ¬ ps[i + 1].1 ≤ ps[i].1 := by omega
    refine ⟨_, .sh (.int (1 + (i : Int))), rfl, ?_⟩
    have b1 := ixG_tup a1
    have b2 := ixG_tup a2
    have c1 : ixG (encP ps[i]) (.int 0) = .ok (.int ps[i].1) := ixG_tup rfl
    have c2 : ixG (encP ps[i + 1]) (.int 0) = .ok (.int ps[i + 1].1) := ixG_tup rfl
    simp [dVarO, dVar, b1, b2, c1, c2, hnl])
  have hI : (icRng2 (ocE (ecInt 1)) (ocE (ecB "len" lLen (aoCons (ocVar 0) aoNil))) : IC (mkT t_law_is_poly)).den [.sh (.tup (ps.map encP)), s1, .no] = .ok ((List.range (ps.length - 1)).map fun (i : Nat) => D.int (1 + (i : Int))) := by
    rw [icRng2_ok (i := 1) (j := (ps.length : Nat)) rfl (by simp [dVarO]) (by decide) (by decide) (by omega) (by omega), show ((ps.length : Nat) - 1 : Int).toNat = ps.length - 1 by omega, range_map]
  simp [-den_icRng2, d_law_is_poly, fnDen, n_law_is_poly, b_law_is_poly, startE, dVarO, dVar, l1, hI, l2]
end RJ

set_option Elab.async false
set_option linter.all false
set_option maxRecDepth 100000
set_option maxHeartbeats 16000000
set_option autoImplicit false
/-! RkE: written forms of polynomials. -/
namespace RJ
open PySem PySem.Spec L2
open SX (S)

def piP (p : Int × Int) : List Nat := numI p.2 ++ [32] ++ numI p.1
def wrJ (ps : List (List Nat)) : List Nat := if ps = [] then [48] else TL.joinL [44, 32] ps
def wrP (ps : List (Int × Int)) : List Nat := wrJ (ps.map piP)
theorem join_len (sep : List Nat) : ∀ (ps : List (List Nat)), ps ≠ [] → (ps.map List.length).sum + ps.length * sep.length = (TL.joinL sep ps).length + sep.length
  | [], h => absurd rfl h
  | [p], _ => by
    show (([p] : List (List Nat)).map List.length).sum + 1 * sep.length = p.length + sep.length
    simp
  | p :: q :: r, _ => by
    have := join_len sep (q :: r) (by simp)
    rw [joinL_cons2, List.length_append, List.length_append, List.map_cons, List.sum_cons, List.length_cons (a := p), Nat.add_mul]
    omega
theorem wrJ_len {ps : List (List Nat)} (hne : ps ≠ []) : (ps.map List.length).sum + ps.length * 2 = (wrJ ps).length + 2 := by
  unfold wrJ
  rw [if_neg hne]
  exact join_len [44, 32] ps hne
theorem wrJ_mem {ps : List (List Nat)} {p : List Nat} (h : p ∈ ps) : p.length ≤ (wrJ ps).length := by
  have hne : ps ≠ [] := List.ne_nil_of_mem h
  unfold wrJ
  rw [if_neg hne]
  exact (joinL_len [44, 32] ps).2 p h
theorem numL_numI (n : Int) : (TL.numL n.natAbs).length ≤ (numI n).length := by
  unfold numI
  split
  · simp
  · exact Nat.le_refl _
theorem join_wr {ps : List (List Nat)} (hne : ps ≠ []) (hl : (wrJ ps).length ≤ 16000000) : joinG (S [44, 32]) (.lst (strsOf ps)) = .ok (.str (S (wrJ ps))) := by
  have h := wrJ_len hne
  rw [join_ok (by
    show (ps.map List.length).sum + ps.length * 2 ≤ 16777216
    omega)]
  unfold wrJ
  rw [if_neg hne]
theorem catP {a b : List Nat} (h : a.length + b.length ≤ 16000000) : (addG (.str (S a)) (.str (S [32])) = .ok (.str (S (a ++ [32])))) ∧ addG (.str (S (a ++ [32]))) (.str (S b)) = .ok (.str (S (a ++ [32] ++ b))) :=
  ⟨addS (by simp; omega), addS (by simp; omega)⟩
theorem format_polynomial_ok {d : D} {enc : Int × Int → D} {ps : List (Int × Int)} (he : IsPair enc) (hd : seqOf d = some (ps.map enc)) (hl : ps.length ≤ 16777216) (hw : (wrP (nf sortI ps)).length ≤ 16000000) : d_format_polynomial [d] = .ok (.str (S (wrP (nf sortI ps)))) := by
  have h1 := polynomial_ok he hd hl
  have hl2 : (nf sortI ps).length ≤ 16777216 := Nat.le_trans (nf_len srtI ps) hl
  generalize nf sortI ps = q at *
  by_cases hq : q = []
  · subst hq
    simp [d_format_polynomial, fnDen, n_format_polynomial, b_format_polynomial, startE, dVarO, dVar, t_format_polynomial, h1]
    rfl
  · have l := lcGo_map (tg := (gcTup 2 (gsCons (gcName 2) (gsCons (gcName 3) gsNil)) : GC (mkT t_format_polynomial)).den) (ct := denC (none : Option (TC (mkT t_format_polynomial)))) (el := (ecBin lAdd (ocE (ecBin lAdd (ocE (ecCall .f_written (acCons (ecVar 3) acNil))) (ocE (ecStr (" " : Str))))) (ocE (ecCall .f_written (acCons (ecVar 2) acNil))) : EC (mkT t_format_polynomial)).den) (vs := [2, 3]) (Γ := [.sh d, .sh (.tup (q.map encP)), .no, .no]) (enc := encP) (out := fun p => .str (S (piP p))) (Γx := fun p => [.sh d, .sh (.tup (q.map encP)), .sh (.int p.1), .sh (.int p.2)]) (xs := q) (fun p hp => by
      have hb : (piP p).length ≤ 16000000 := Nat.le_trans (wrJ_mem (List.mem_map.mpr ⟨p, hp, rfl⟩)) hw
      unfold piP at hb
      simp only [List.length_append, List.length_singleton] at hb
      have w1 := written_ok (n := p.1) (Nat.le_trans (numL_numI _) (by omega))
      have w2 := written_ok (n := p.2) (Nat.le_trans (numL_numI _) (by omega))
      obtain ⟨c1, c2⟩ := catP (a := numI p.2) (b := numI p.1) (by omega)
      refine ⟨rfl, rfl, ?_⟩
      simp [-addG_str, dVarO, dVar, t_format_polynomial, w1, w2, c1, c2, piP])
    have h3 := denLc_ok (T := mkT t_format_polynomial) (it := icSeq (ecVar 1)) (tg := gcTup 2 (gsCons (gcName 2) (gsCons (gcName 3) gsNil))) (ct := none) (el := ecBin lAdd (ocE (ecBin lAdd (ocE (ecCall .f_written (acCons (ecVar 3) acNil))) (ocE (ecStr (" " : Str))))) (ocE (ecCall .f_written (acCons (ecVar 2) acNil)))) (vs := [2, 3]) (Γ := [.sh d, .sh (.tup (q.map encP)), .no, .no]) (ds := q.map encP) (by simp [dVar]) (by simpa using hl2) l
    have hj := join_wr (ps := q.map piP) (by simpa using hq) hw
    have e : q.map (fun p => D.str (S (piP p))) = strsOf (q.map piP) := by
      unfold strsOf
      rw [List.map_map]
      rfl
    rw [e] at h3
    simp only [s_blank] at h3
    simp [d_format_polynomial, fnDen, n_format_polynomial, b_format_polynomial, startE, dVarO, dVar, t_format_polynomial, h1, hq]
    rw [show denM1 _ _ joinG _ = (Re.ok (D.str (S (wrJ (q.map piP)))) : Re D) from ?_]
    · rfl
    · simp [denM1, strR]
      rw [h3]
      exact hj
theorem law_write1_ok {ps : List (Int × Int)} (hl : ps.length ≤ 16777216) (hw : (wrP ps).length ≤ 16000000) (hb : ∀ p ∈ ps, p.1.natAbs < 10 ^ 4300 ∧ p.2.natAbs < 10 ^ 4300) : d_law_write [.int 1, .tup (ps.map encP)] = .ok (.str (S (wrP ps))) := by
  by_cases hq : ps = []
  · subst hq
    simp [d_law_write, fnDen, n_law_write, b_law_write, startE, dVarO, dVar]
    rfl
  · have l := lcGo_map (tg := (gcName 3 : GC (mkT t_law_write)).den) (ct := denC (none : Option (TC (mkT t_law_write)))) (el := (ecBin lAdd (ocE (ecBin lAdd (ocE (ecB "str" lStr (aoCons (ocE (ecIx (ocVar 3) (ocE (ecInt 1)))) aoNil))) (ocE (ecStr (" " : Str))))) (ocE (ecB "str" lStr (aoCons (ocE (ecIx (ocVar 3) (ocE (ecInt 0)))) aoNil))) : EC (mkT t_law_write)).den) (vs := [3]) (Γ := [.sh (.int 1), .sh (.tup (ps.map encP)), .no, .no]) (enc := encP) (out := fun p => .str (S (piP p))) (Γx := fun p => [.sh (.int 1), .sh (.tup (ps.map encP)), .no, .sh (encP p)]) (xs := ps) (fun p hp => by
      have hb2 : (piP p).length ≤ 16000000 := Nat.le_trans (wrJ_mem (List.mem_map.mpr ⟨p, hp, rfl⟩)) hw
      unfold piP at hb2
      simp only [List.length_append, List.length_singleton] at hb2
      have w1 := strS (hb p hp).1
      have w2 := strS (hb p hp).2
      obtain ⟨c1, c2⟩ := catP (a := numI p.2) (b := numI p.1) (by omega)
      have i0 : ixG (encP p) (.int 0) = .ok (.int p.1) := ixG_tup rfl
      have i1 : ixG (encP p) (.int 1) = .ok (.int p.2) := ixG_tup rfl
      refine ⟨rfl, rfl, ?_⟩
      simp [-addG_str, -strG_int, dVarO, dVar, i0, i1, w1, w2, c1, c2, piP])
    have h3 := denLc_ok (T := mkT t_law_write) (it := icSeq (ecVar 1)) (tg := gcName 3) (ct := none) (el := ecBin lAdd (ocE (ecBin lAdd (ocE (ecB "str" lStr (aoCons (ocE (ecIx (ocVar 3) (ocE (ecInt 1)))) aoNil))) (ocE (ecStr (" " : Str))))) (ocE (ecB "str" lStr (aoCons (ocE (ecIx (ocVar 3) (ocE (ecInt 0)))) aoNil)))) (vs := [3]) (Γ := [.sh (.int 1), .sh (.tup (ps.map encP)), .no, .no]) (ds := ps.map encP) (by simp [dVar]) (by simpa using hl) l
    have hj := join_wr (ps := ps.map piP) (by simpa using hq) hw
    have e : ps.map (fun p => D.str (S (piP p))) = strsOf (ps.map piP) := by
      unfold strsOf
      rw [List.map_map]
      rfl
    rw [e] at h3
    simp only [s_blank] at h3
    simp [d_law_write, fnDen, n_law_write, b_law_write, startE, dVarO, dVar, hq]
    rw [show denM1 _ _ joinG _ = (Re.ok (D.str (S (wrJ (ps.map piP)))) : Re D) from ?_]
    · rfl
    · simp [denM1, strR]
      rw [h3]
      exact hj
end RJ

set_option Elab.async false
set_option linter.all false
set_option maxRecDepth 100000
set_option maxHeartbeats 1000000
set_option autoImplicit false
/-! RkF: sums. -/
namespace RJ
open PySem PySem.Spec L2
open SX (S)

abbrev Spt := List Nat × Int
def kk (k : Spt) : List Key := [.inr (S k.1), .inl k.2]
theorem kk_inj : ∀ a b, kk a = kk b → a = b := fun a b h => by
  obtain ⟨a1, a2⟩ := a
  obtain ⟨b1, b2⟩ := b
  unfold kk at h
  obtain ⟨h1, h2⟩ := List.cons.inj h
  have h1 := SX.S_inj (Sum.inr.inj h1)
  have h2 := Sum.inl.inj (List.cons.inj h2).1
  exact Prod.ext h1 h2
def leT (a b : Spt) : Bool := !lxLt (toK (kk b)) (toK (kk a))
def srtS (l : List Spt) : List Spt := l.mergeSort leT
def ltS (a b : Spt) : Prop := lxLt (toK (kk a)) (toK (kk b)) = true
theorem srtS_perm (l : List Spt) : (srtS l).Perm l := List.mergeSort_perm _ _
theorem srtS_srt (l : List Spt) : (srtS l).Pairwise fun a b => lxLt (toK (kk b)) (toK (kk a)) = false := by
  have h := List.pairwise_mergeSort (le := leT) (fun a b c h1 h2 => by
    simp only [leT, Bool.not_eq_true'] at *
    exact lxt_tr _ _ _ h1 h2) (fun a b => by
    simp only [leT, Bool.or_eq_true, Bool.not_eq_true']
    cases e : lxLt (toK (kk b)) (toK (kk a)) with
    | false => exact .inl rfl
    | true => exact .inr (lxt_asym _ _ e)) l
  exact h.imp fun h => by simpa [leT] using h
theorem tot_kk {a b : Spt} (h1 : lxLt (toK (kk a)) (toK (kk b)) = false) (h2 : lxLt (toK (kk b)) (toK (kk a)) = false) : a = b :=
  kk_inj _ _ (toK_inj (PyProof.Rows.lex_total (O := PyProof.Rows.itemOrd) _ _ h1 h2))
theorem srtSS : Srt srtS ltS where
  perm := srtS_perm
  up l h := by
    have h1 := srtS_srt l
    have h2 : (srtS l).Nodup := (srtS_perm l).nodup_iff.mpr h
    have h2 : (srtS l).Pairwise (· ≠ ·) := h2
    refine (h1.and h2).imp fun {a b} ⟨x, y⟩ => ?_
    show lxLt (toK (kk a)) (toK (kk b)) = true
    cases e : lxLt (toK (kk a)) (toK (kk b)) with
    | true => rfl
    | false => exact absurd (tot_kk e x) y
  fix l h := List.Perm.eq_of_pairwise (le := fun a b => lxLt (toK (kk b)) (toK (kk a)) = false) (fun a b _ _ h1 h2 => (tot_kk h1 h2).symm) (srtS_srt l) (h.imp fun {a b} x => lxt_asym _ _ x) (srtS_perm l)
  ne a b h e := by
    subst e
    have h : lxLt (toK (kk a)) (toK (kk a)) = true := h
    rw [lxt_asym _ _ h] at h
    cases h
theorem sortK_map (l : List Spt) : sortK (l.map kk) = (srtS l).map kk :=
  (sortK_of ((srtS_perm l).map kk) (by
    rw [List.pairwise_map]
    exact srtS_srt l)).symm
theorem kOk_kk (k : Spt) : kOk shRow (kk k) = true := rfl
def dS (k : Spt) : D := .tup [.str (S k.1), .int k.2]
theorem kk_all (l : List Spt) : (l.map kk).all (kOk shRow) = true := by
  rw [List.all_map, List.all_eq_true]
  intro k _
  rfl
theorem dTup_map (l : List Spt) : (l.map kk).map dTup = l.map dS := by
  rw [List.map_map]
  rfl
theorem sor_dT (ds : List (Spt × Int)) : sorG shRow [.dT (encI kk ds)] = .ok (.lst ((srtS (kys ds)).map dS)) := by
  show (if ((encI kk ds).map (·.1)).all (kOk shRow) = true then Re.ok (D.lst ((sortK ((encI kk ds).map (·.1))).map dTup)) else .no) = _
  rw [enc_fst, if_pos (kk_all _), sortK_map, dTup_map]
theorem keysTs_map : ∀ l : List Spt, keysTs (l.map dS) = some (l.map kk)
  | [] => rfl
  | k :: l => by
    show (match keyT (dS k), keysTs (l.map dS) with
      | some k, some ks => some (k :: ks)
      | _, _ => none) = _
    rw [keysTs_map l]
    rfl
theorem sor_lstS (l : List Spt) : sorG shRow [.lst (l.map dS)] = .ok (.lst ((srtS l).map dS)) := by
  cases l with
  | nil =>
    have : srtS [] = [] := List.length_eq_zero_iff.mp (srtS_perm []).length_eq
    rw [this]
    have h := sor_lst []
    rw [show sortI [] = [] from List.length_eq_zero_iff.mp (sortI_perm []).length_eq] at h
    exact h
  | cons k l =>
    show (match keysTs ((k :: l).map dS) with
      | some ks => if ks.all (kOk shRow) = true then Re.ok (D.lst ((sortK ks).map dTup)) else .no
      | none => .no) = _
    rw [keysTs_map]
    show (if ((k :: l).map kk).all (kOk shRow) = true then Re.ok (D.lst ((sortK ((k :: l).map kk)).map dTup)) else .no) = _
    rw [if_pos (kk_all _), sortK_map, dTup_map]
theorem list_dT (ds : List (Spt × Int)) : listG [.dT (encI kk ds)] = .ok (.lst ((kys ds).map dS)) := by
  show Re.ok (D.lst (((encI kk ds).map (·.1)).map dTup)) = _
  rw [enc_fst, dTup_map]
theorem put_dT {ds : List (Spt × Int)} (hl : ds.length < 16777216) (k : Spt) (v : Int) : putG (.dT (encI kk ds)) (dS k) (.int v) = some (.dT (encI kk (putI ds k v))) := by
  rw [← put_enc kk_inj]
  have h : (encI kk ds).length < sizeLine := by
    unfold encI
    rw [List.length_map, sizeLine_eq]
    exact hl
  show (if (encI kk ds).length < sizeLine then some (D.dT (putD (encI kk ds) (kk k) (.int v))) else none) = _
  rw [if_pos h]
theorem get_dT (ds : List (Spt × Int)) (k : Spt) : dget2G (.dT (encI kk ds)) (dS k) (.int 0) = .ok (.int (getI ds k)) := by
  rw [← val_getD kk_inj]
  rfl
theorem dg_dT {ds : List (Spt × Int)} {k : Spt} (h : k ∈ kys ds) : dgG (.dT (encI kk ds)) (dS k) = .ok (.int (getI ds k)) := by
  have := val_in (e := kk) kk_inj h
  show (match (some (valD (encI kk ds) (kk k)) : Option (Option D)) with
    | some (some z) => Re.ok z
    | _ => .no) = _
  rw [this]
/-- terms -/
def IsTerm (enc : Spt × Int → D) : Prop := ∀ p, seqOf (enc p) = some [.str (S p.1.1), .int p.1.2, .int p.2]
def encS : Spt × Int → D := fun p => .tup [.str (S p.1.1), .int p.1.2, .int p.2]
theorem encS_term : IsTerm encS := fun _ => rfl
theorem dS_0 (k : Spt) : ixG (dS k) (.int 0) = .ok (.str (S k.1)) := ixG_tup rfl
theorem dS_1 (k : Spt) : ixG (dS k) (.int 1) = .ok (.int k.2) := ixG_tup rfl
theorem dS_mk (r : List Nat) (s : Int) : D.tup [.str (S r), .int s] = dS (r, s) := rfl
theorem terms_of_ok {ds : List (Spt × Int)} (hl : ds.length ≤ 16777216) : d_terms_of [.dT (encI kk ds)] = .ok (.tup ((nrm srtS ds).map encS)) := by
  have hls : (srtS (kys ds)).length ≤ 16777216 := by
    rw [(srtS_perm _).length_eq]
    simpa [kys] using hl
  have l := lcGo_filter (tg := (gcName 1 : GC (mkT t_terms_of)).den) (ct := denC (some (tcCmp lNe (ocE (ecDg (ocVar 0) (ocVar 1))) (ocE (ecInt 0)) : TC (mkT t_terms_of)))) (el := (ecTup (acCons (ecIx (ocVar 1) (ocE (ecInt 0))) (acCons (ecIx (ocVar 1) (ocE (ecInt 1))) (acCons (ecDg (ocVar 0) (ocVar 1)) acNil))) : EC (mkT t_terms_of)).den) (vs := [1]) (Γ := [.sh (.dT (encI kk ds)), .no]) (enc := dS) (out := fun k => encS (k, getI ds k)) (Γx := fun k => [.sh (.dT (encI kk ds)), .sh (dS k)]) (p := fun k => !decide (getI ds k = 0)) (xs := srtS (kys ds)) (fun k hk => by
    have hk : k ∈ kys ds := (srtS_perm _).mem_iff.mp hk
    have hg := dg_dT hk
    refine ⟨rfl, ?_, fun _ => ?_⟩
    · simp [denC, dVarO, hg]
    · simp [dVarO, dVar, dS_0, dS_1, hg, encS])
  have e : ((srtS (kys ds)).filter fun k => !decide (getI ds k = 0)).map (fun k => encS (k, getI ds k)) = (nrm srtS ds).map encS := by
    unfold nrm
    rw [List.map_map]
    rfl
  rw [e] at l
  have h3 := denLc_ok (T := mkT t_terms_of) (it := icSeq (ecB "sorted" (lSorted shRow) (aoCons (ocVar 0) aoNil))) (tg := gcName 1) (ct := some (tcCmp lNe (ocE (ecDg (ocVar 0) (ocVar 1))) (ocE (ecInt 0)))) (el := ecTup (acCons (ecIx (ocVar 1) (ocE (ecInt 0))) (acCons (ecIx (ocVar 1) (ocE (ecInt 1))) (acCons (ecDg (ocVar 0) (ocVar 1)) acNil)))) (vs := [1]) (Γ := [.sh (.dT (encI kk ds)), .no]) (ds := (srtS (kys ds)).map dS) (by simp [dVarO, sor_dT]) (by simpa using hls) l
  simp [d_terms_of, fnDen, n_terms_of, b_terms_of, startE, dVarO, dVar, h3]
theorem ordered_ok {d : D} {enc : Spt × Int → D} {ps : List (Spt × Int)} (he : IsTerm enc) (hd : seqOf d = some (ps.map enc)) (hl : ps.length ≤ 16777216) : d_ordered [d] = .ok (.tup ((nf srtS ps).map encS)) := by
  have l1 := forD_fold (tg := (gcTup 3 (gsCons (gcName 2) (gsCons (gcName 3) (gsCons (gcName 4) gsNil))) : GC (mkT t_ordered)).den) (body := (bCons (scPutD 1 (ecTup (acCons (ecVar 2) (acCons (ecVar 3) acNil))) (ecBin lAdd (ocE (ecGet (ocVar 1) (ocE (ecTup (acCons (ecVar 2) (acCons (ecVar 3) acNil)))) (ecInt 0))) (ocVar 4))) bNil : BC (mkT t_ordered)).den) (enc := enc)
    (st := fun (z : List (Spt × Int) × Sl × Sl × Sl) => [.sh d, .own (.dT (encI kk z.1)), z.2.1, z.2.2.1, z.2.2.2]) (f := fun z p => (ins z.1 p, .sh (.str (S p.1.1)), .sh (.int p.1.2), .sh (.int p.2))) (fun n z => z.1.length ≤ n) ps ([], .no, .no, .no) 0 (Nat.le_refl _) (fun m z p _ hm hz => ⟨Nat.le_trans (ins_len _ _) (by omega), [.sh d, .own (.dT (encI kk z.1)), .sh (.str (S p.1.1)), .sh (.int p.1.2), .sh (.int p.2)], by
      rw [tup_seq (n := 3) _ (he p) rfl]
      rfl, .inl (by
      have hz2 : z.1.length < 16777216 := by omega
      simp [dPutD, dVarO, dVar, dS_mk, get_dT, put_dT hz2, ins])⟩)
  have e : ∀ (ps : List (Spt × Int)) (z : List (Spt × Int) × Sl × Sl × Sl), (ps.foldl (fun z p => (ins z.1 p, Sl.sh (.str (S p.1.1)), Sl.sh (.int p.1.2), Sl.sh (.int p.2))) z).1 = ps.foldl ins z.1 := by
    intro ps
    induction ps with
    | nil => intro z; rfl
    | cons p ps ih => intro z; exact ih _
  have l1 := l1.1
  have e2 := e ps ([], .no, .no, .no)
  generalize ps.foldl (fun z p => (ins z.1 p, Sl.sh (.str (S p.1.1)), Sl.sh (.int p.1.2), Sl.sh (.int p.2))) (([], .no, .no, .no) : List (Spt × Int) × Sl × Sl × Sl) = Z at l1 e2
  obtain ⟨z1, z2, z3, z4⟩ := Z
  have e2 : z1 = gat ps := e2
  subst e2
  have hgl : (gat ps).length ≤ 16777216 := Nat.le_trans (gat_len ps) hl
  have l1' : forD (gcTup 3 (gsCons (gcName 2) (gsCons (gcName 3) (gsCons (gcName 4) gsNil))) : GC (mkT t_ordered)).den (bCons (scPutD 1 (ecTup (acCons (ecVar 2) (acCons (ecVar 3) acNil))) (ecBin lAdd (ocE (ecGet (ocVar 1) (ocE (ecTup (acCons (ecVar 2) (acCons (ecVar 3) acNil)))) (ecInt 0))) (ocVar 4))) bNil : BC (mkT t_ordered)).den (ps.map enc) [.sh d, .own (.dT []), .no, .no, .no] = .nx [.sh d, .own (.dT (encI kk (gat ps))), z2, z3, z4] := l1
  have h3 := terms_of_ok hgl
  simp [d_ordered, fnDen, n_ordered, b_ordered, startE, dVarO, dVar, itemsQ_seq hd, l1', dFrz, t_ordered, h3, nf]
theorem sum_times_ok {d f q : D} {enc : Spt × Int → D} {ps : List (Spt × Int)} {by' c : Int} (he : IsTerm enc) (hd : seqOf d = some (ps.map enc)) (hf : seqOf f = some [q]) (hq : seqOf q = some [.int by', .int c]) (hl : ps.length ≤ 16777216)
    (hb : ∀ p ∈ ps, (Builtin.Int.intBits c : Int) + (Builtin.Int.intBits p.2 : Int) ≤ 134217728) : d_sum_times [f, d] = .ok (.tup ((nf srtS (ps.map fun p => ((p.1.1, p.1.2 + by'), c * p.2))).map encS)) := by
  have l1 := forD_fold (tg := (gcTup 3 (gsCons (gcName 5) (gsCons (gcName 6) (gsCons (gcName 7) gsNil))) : GC (mkT t_sum_times)).den) (body := (bCons (scPutD 2 (ecTup (acCons (ecVar 5) (acCons (ecBin lAdd (ocVar 6) (ocVar 3)) acNil))) (ecBin lAdd (ocE (ecGet (ocVar 2) (ocE (ecTup (acCons (ecVar 5) (acCons (ecBin lAdd (ocVar 6) (ocVar 3)) acNil)))) (ecInt 0))) (ocE (ecBin lMul (ocVar 4) (ocVar 7))))) bNil : BC (mkT t_sum_times)).den) (enc := enc)
    (st := fun (z : List (Spt × Int) × Sl × Sl × Sl) => [.sh f, .sh d, .own (.dT (encI kk z.1)), .sh (.int by'), .sh (.int c), z.2.1, z.2.2.1, z.2.2.2]) (f := fun z p => (ins z.1 ((p.1.1, p.1.2 + by'), c * p.2), .sh (.str (S p.1.1)), .sh (.int p.1.2), .sh (.int p.2))) (fun n z => z.1.length ≤ n) ps ([], .no, .no, .no) 0 (Nat.le_refl _) (fun m z p hp hm hz => ⟨Nat.le_trans (ins_len _ _) (by omega), [.sh f, .sh d, .own (.dT (encI kk z.1)), .sh (.int by'), .sh (.int c), .sh (.str (S p.1.1)), .sh (.int p.1.2), .sh (.int p.2)], by
      rw [tup_seq (n := 3) _ (he p) rfl]
      rfl, .inl (by
      have hz2 : z.1.length < 16777216 := by omega
      have hb := hb p hp
      simp [dPutD, dVarO, dVar, dS_mk, get_dT, put_dT hz2, ins, hb])⟩)
  have e : ∀ (ps : List (Spt × Int)) (z : List (Spt × Int) × Sl × Sl × Sl), (ps.foldl (fun z p => (ins z.1 ((p.1.1, p.1.2 + by'), c * p.2), Sl.sh (.str (S p.1.1)), Sl.sh (.int p.1.2), Sl.sh (.int p.2))) z).1 = (ps.map fun p => ((p.1.1, p.1.2 + by'), c * p.2)).foldl ins z.1 := by
    intro ps
    induction ps with
    | nil => intro z; rfl
    | cons p ps ih => intro z; exact ih _
  have l1 := l1.1
  have e2 := e ps ([], .no, .no, .no)
  generalize ps.foldl (fun z p => (ins z.1 ((p.1.1, p.1.2 + by'), c * p.2), Sl.sh (.str (S p.1.1)), Sl.sh (.int p.1.2), Sl.sh (.int p.2))) (([], .no, .no, .no) : List (Spt × Int) × Sl × Sl × Sl) = Z at l1 e2
  obtain ⟨z1, z2, z3, z4⟩ := Z
  have e2 : z1 = gat (ps.map fun p => ((p.1.1, p.1.2 + by'), c * p.2)) := e2
  subst e2
  have hgl : (gat (ps.map fun p => ((p.1.1, p.1.2 + by'), c * p.2))).length ≤ 16777216 := Nat.le_trans (gat_len _) (by rw [List.length_map]; exact hl)
  have l1' : forD (gcTup 3 (gsCons (gcName 5) (gsCons (gcName 6) (gsCons (gcName 7) gsNil))) : GC (mkT t_sum_times)).den (bCons (scPutD 2 (ecTup (acCons (ecVar 5) (acCons (ecBin lAdd (ocVar 6) (ocVar 3)) acNil))) (ecBin lAdd (ocE (ecGet (ocVar 2) (ocE (ecTup (acCons (ecVar 5) (acCons (ecBin lAdd (ocVar 6) (ocVar 3)) acNil)))) (ecInt 0))) (ocE (ecBin lMul (ocVar 4) (ocVar 7))))) bNil : BC (mkT t_sum_times)).den (ps.map enc) [.sh f, .sh d, .own (.dT []), .sh (.int by'), .sh (.int c), .no, .no, .no] = .nx [.sh f, .sh d, .own (.dT (encI kk (gat (ps.map fun p => ((p.1.1, p.1.2 + by'), c * p.2))))), .sh (.int by'), .sh (.int c), z2, z3, z4] := l1
  have h3 := terms_of_ok hgl
  have ht : ∀ Γ : En, (gcTup 2 (gsCons (gcName 3) (gsCons (gcName 4) gsNil)) : GC (mkT t_sum_times)).den q Γ = .ok ((Γ.set 3 (.sh (.int by'))).set 4 (.sh (.int c))) := fun Γ => by
    rw [tup_seq (n := 2) _ hq rfl]
    rfl
  simp [d_sum_times, fnDen, n_sum_times, b_sum_times, startE, dVarO, dVar, itemsQ_seq hf, itemsQ_seq hd, forD_cons, forD_nil, ht, l1', dFrz, t_sum_times, h3, nf]
theorem law_sum_ok {d : D} {enc : Spt × Int → D} {ps : List (Spt × Int)} (he : IsTerm enc) (hd : seqOf d = some (ps.map enc)) (hl : ps.length ≤ 16777216) : d_law_sum [d] = .ok (.dT (encI kk (nf srtS ps))) := by
  have l1 := forD_fold (tg := fun d Γ => .ok (Γ.set 2 (.sh d))) (body := (bCons (scPutD 1 (ecTup (acCons (ecIx (ocVar 2) (ocE (ecInt 0))) (acCons (ecIx (ocVar 2) (ocE (ecInt 1))) acNil))) (ecBin lAdd (ocE (ecGet (ocVar 1) (ocE (ecTup (acCons (ecIx (ocVar 2) (ocE (ecInt 0))) (acCons (ecIx (ocVar 2) (ocE (ecInt 1))) acNil)))) (ecInt 0))) (ocE (ecIx (ocVar 2) (ocE (ecInt 2)))))) bNil : BC (mkT t_law_sum)).den) (enc := enc)
    (st := fun (z : List (Spt × Int) × Sl) => [.sh d, .own (.dT (encI kk z.1)), z.2, .no, .no]) (f := fun z p => (ins z.1 p, .sh (enc p))) (fun n z => z.1.length ≤ n) ps ([], .no) 0 (Nat.le_refl _) (fun m z p _ hm hz => ⟨Nat.le_trans (ins_len _ _) (by omega), _, rfl, .inl (by
      have hz2 : z.1.length < 16777216 := by omega
      have e0 := ixG_seq (i := 0) (he p) rfl
      have e1 := ixG_seq (i := 1) (he p) rfl
      have e2 := ixG_seq (i := 2) (he p) rfl
      simp [dPutD, dVarO, dVar, dS_mk, get_dT, put_dT hz2, ins, e0, e1, e2])⟩)
  have e : ∀ (ps : List (Spt × Int)) (z : List (Spt × Int) × Sl), (ps.foldl (fun z p => (ins z.1 p, Sl.sh (enc p))) z).1 = ps.foldl ins z.1 := by
    intro ps
    induction ps with
    | nil => intro z; rfl
    | cons p ps ih => intro z; exact ih _
  have l1 := l1.1
  have e2 := e ps ([], .no)
  generalize ps.foldl (fun z p => (ins z.1 p, Sl.sh (enc p))) (([], .no) : List (Spt × Int) × Sl) = Z at l1 e2
  obtain ⟨z1, z2⟩ := Z
  have e2 : z1 = gat ps := e2
  subst e2
  have hgl : (gat ps).length ≤ 16777216 := Nat.le_trans (gat_len ps) hl
  have hsl : (srtS (kys (gat ps))).length ≤ 16777216 := by
    rw [(srtS_perm _).length_eq]
    simpa [kys] using hgl
  have l2 := forD_fold (tg := fun d Γ => .ok (Γ.set 4 (.sh d))) (body := (bCons (scIf (tcCmp lNe (ocE (ecDg (ocVar 1) (ocVar 4))) (ocE (ecInt 0))) (bCons (scPutD 3 (ecVar 4) (ecDg (ocVar 1) (ocVar 4))) bNil) (bNil)) bNil : BC (mkT t_law_sum)).den) (enc := dS)
    (st := fun (z : List (Spt × Int) × Sl) => [.sh d, .own (.dT (encI kk (gat ps))), z2, .own (.dT (encI kk z.1)), z.2]) (f := fun z k => (if getI (gat ps) k = 0 then z.1 else putI z.1 k (getI (gat ps) k), .sh (dS k))) (fun n z => z.1.length ≤ n) (srtS (kys (gat ps))) ([], .no) 0 (Nat.le_refl _) (fun m z k hk hm hz => by
      have hk : k ∈ kys (gat ps) := (srtS_perm _).mem_iff.mp hk
      have hg := dg_dT hk
      have hz2 : z.1.length < 16777216 := by omega
      refine ⟨?_, _, rfl, .inl ?_⟩
      · show (if getI (gat ps) k = 0 then z.1 else putI z.1 k (getI (gat ps) k)).length ≤ m + 1
        split
        · omega
        · unfold putI
          split
          · rw [List.length_map]
            omega
          · simp
            omega
      · by_cases h0 : getI (gat ps) k = 0
        · simp [dVarO, dVar, hg, h0]
        · simp [dVarO, dVar, hg, h0, dPutD, put_dT hz2])
  have e3 : ∀ (ks : List Spt) (z : List (Spt × Int) × Sl), (ks.foldl (fun z k => (if getI (gat ps) k = 0 then z.1 else putI z.1 k (getI (gat ps) k), Sl.sh (dS k))) z).1 = ks.foldl (fun t k => if getI (gat ps) k = 0 then t else putI t k (getI (gat ps) k)) z.1 := by
    intro ks
    induction ks with
    | nil => intro z; rfl
    | cons p ps ih => intro z; exact ih _
  have l2 := l2.1
  have e4 := e3 (srtS (kys (gat ps))) ([], .no)
  rw [fold_told (ds := gat ps) (srtS (kys (gat ps))) [] (by
    show (srtS (kys (gat ps))).Nodup
    exact (srtS_perm _).nodup_iff.mpr (gat_nodup ps))] at e4
  generalize (srtS (kys (gat ps))).foldl (fun z k => (if getI (gat ps) k = 0 then z.1 else putI z.1 k (getI (gat ps) k), Sl.sh (dS k))) (([], .no) : List (Spt × Int) × Sl) = Z at l2 e4
  obtain ⟨z3, z4⟩ := Z
  have e4 : z3 = nf srtS ps := e4
  subst e4
  have l1' : forD (fun d Γ => .ok (Γ.set 2 (.sh d))) (bCons (scPutD 1 (ecTup (acCons (ecIx (ocVar 2) (ocE (ecInt 0))) (acCons (ecIx (ocVar 2) (ocE (ecInt 1))) acNil))) (ecBin lAdd (ocE (ecGet (ocVar 1) (ocE (ecTup (acCons (ecIx (ocVar 2) (ocE (ecInt 0))) (acCons (ecIx (ocVar 2) (ocE (ecInt 1))) acNil)))) (ecInt 0))) (ocE (ecIx (ocVar 2) (ocE (ecInt 2)))))) bNil : BC (mkT t_law_sum)).den (ps.map enc) [.sh d, .own (.dT []), .no, .no, .no] = .nx [.sh d, .own (.dT (encI kk (gat ps))), z2, .no, .no] := l1
  have l2' : forD (fun d Γ => .ok (Γ.set 4 (.sh d))) (bCons (scIf (tcCmp lNe (ocE (ecDg (ocVar 1) (ocVar 4))) (ocE (ecInt 0))) (bCons (scPutD 3 (ecVar 4) (ecDg (ocVar 1) (ocVar 4))) bNil) (bNil)) bNil : BC (mkT t_law_sum)).den ((srtS (kys (gat ps))).map dS) [.sh d, .own (.dT (encI kk (gat ps))), z2, .own (.dT []), .no] = .nx [.sh d, .own (.dT (encI kk (gat ps))), z2, .own (.dT (encI kk (nf srtS ps))), z4] := l2
  simp [d_law_sum, fnDen, n_law_sum, b_law_sum, startE, dVarO, dVar, itemsQ_seq hd, l1', list_dT, sor_lstS, l2', dFrz]
theorem law_terms_ok {p : List (Spt × Int)} (h : Nml ltS p) (hl : p.length ≤ 16777216) : d_law_terms [.dT (encI kk p)] = .ok (.tup (p.map encS)) := by
  have hn := h.nodup srtSS
  have hs : srtS (kys p) = kys p := srtSS.fix _ h.1
  have hk : (kys p).length ≤ 16777216 := by simpa [kys] using hl
  have l := lcGo_map (tg := (gcName 1 : GC (mkT t_law_terms)).den) (ct := denC (none : Option (TC (mkT t_law_terms)))) (el := (ecTup (acCons (ecIx (ocVar 1) (ocE (ecInt 0))) (acCons (ecIx (ocVar 1) (ocE (ecInt 1))) (acCons (ecDg (ocVar 0) (ocVar 1)) acNil))) : EC (mkT t_law_terms)).den) (vs := [1]) (Γ := [.sh (.dT (encI kk p)), .no]) (enc := dS) (out := fun k => encS (k, getI p k)) (Γx := fun k => [.sh (.dT (encI kk p)), .sh (dS k)]) (xs := kys p) (fun k hk => by
    have hg := dg_dT hk
    refine ⟨rfl, rfl, ?_⟩
    simp [dVarO, dVar, hg, dS_0, dS_1, encS])
  have e : (kys p).map (fun k => encS (k, getI p k)) = p.map encS := by
    conv => rhs; rw [← map_get hn]
    rw [List.map_map]
    rfl
  rw [e] at l
  have h3 := denLc_ok (T := mkT t_law_terms) (it := icSeq (ecB "sorted" (lSorted shRow) (aoCons (ocE (ecB "list" lList (aoCons (ocVar 0) aoNil))) aoNil))) (tg := gcName 1) (ct := none) (el := ecTup (acCons (ecIx (ocVar 1) (ocE (ecInt 0))) (acCons (ecIx (ocVar 1) (ocE (ecInt 1))) (acCons (ecDg (ocVar 0) (ocVar 1)) acNil)))) (vs := [1]) (Γ := [.sh (.dT (encI kk p)), .no]) (ds := (kys p).map dS) (by simp [dVarO, list_dT, sor_lstS, hs]) (by simpa using hk) l
  simp [d_law_terms, fnDen, n_law_terms, b_law_terms, startE, dVarO, dVar, h3]
end RJ

set_option Elab.async false
set_option linter.all false
set_option maxRecDepth 100000
set_option maxHeartbeats 1000000
set_option autoImplicit false
/-! RkG: sums: forms, written forms; names. -/
namespace RJ
open PySem PySem.Spec L2
open SX (S)

theorem ltS_data {a b : Spt} (h : ltS a b) : PySem.W.dataLt (.tuple [.str (S a.1), .int a.2]) (.tuple [.str (S b.1), .int b.2]) = true := by
  have h : PyProof.Rows.lexLt PyProof.Rows.itemOrd [Sum.inr a.1, Sum.inl a.2] [Sum.inr b.1, Sum.inl b.2] = true := h
  show PyProof.Rows.lexLt PyProof.Rows.itemOrd [Sum.inl 1, Sum.inr a.1, Sum.inl 1, Sum.inl a.2, Sum.inl 0] [Sum.inl 1, Sum.inr b.1, Sum.inl 1, Sum.inl b.2, Sum.inl 0] = true
  rw [PyProof.Rows.lex_self (O := PyProof.Rows.itemOrd)]
  by_cases h1 : a.1 = b.1
  · rw [h1] at h ⊢
    rw [PyProof.Rows.lex_self (O := PyProof.Rows.itemOrd)] at h ⊢
    rw [PyProof.Rows.lex_self (O := PyProof.Rows.itemOrd)]
    by_cases h2 : a.2 = b.2
    · rw [h2, PyProof.Rows.lex_irrefl] at h
      cases h
    · have hne : (Sum.inl a.2 : Int ⊕ List Nat) ≠ Sum.inl b.2 := fun e => h2 (Sum.inl.inj e)
      rw [PyProof.Rows.lex_diff (O := PyProof.Rows.itemOrd) hne] at h ⊢
      exact h
  · have hne : (Sum.inr a.1 : Int ⊕ List Nat) ≠ Sum.inr b.1 := fun e => h1 (Sum.inr.inj e)
    rw [PyProof.Rows.lex_diff (O := PyProof.Rows.itemOrd) hne] at h ⊢
    exact h
theorem ge_data_ok {a b : Spt} (h : ltS a b) : dcG (fun p q => !PySem.W.dataLt p q) (dS a) (dS b) = .ok (.bl false) := by
  have e : dcG (fun p q => !PySem.W.dataLt p q) (dS a) (dS b) = .ok (.bl (!PySem.W.dataLt (.tuple [.str (S a.1), .int a.2]) (.tuple [.str (S b.1), .int b.2]))) := rfl
  rw [e, ltS_data h]
  rfl
theorem cut_encS (p : Spt × Int) : slG (encS p) none (some 2) = .ok (dS p.1) := rfl
theorem is_sum_ok {ps : List (Spt × Int)} (h : Nml ltS ps) (hl : ps.length ≤ 16777216) : d_law_is_sum [.tup (ps.map encS)] = .ok (.bl true) := by
  obtain ⟨s1, l1⟩ := forD_true (tg := fun d Γ => .ok (Γ.set 1 (.sh d))) (body := (bCons (scIf (tcOr [(tcNot (tcTru (ocE (ecIsi "tuple" (ocVar 1))))), (tcCmp lNe (ocE (ecB "len" lLen (aoCons (ocVar 1) aoNil))) (ocE (ecInt 3))), (tcNot (tcTru (ocE (ecIsi "str" (ocE (ecIx (ocVar 1) (ocE (ecInt 0))))))))]) (bCons (scRet (ecBl false)) bNil) (bNil)) <|
    bCons (scIf (tcOr [(tcNot (tcTru (ocE (ecCall .f_law_whole (acCons (ecIx (ocVar 1) (ocE (ecInt 1))) acNil))))), (tcNot (tcTru (ocE (ecCall .f_law_whole (acCons (ecIx (ocVar 1) (ocE (ecInt 2))) acNil))))), (tcCmp lEq (ocE (ecIx (ocVar 1) (ocE (ecInt 2)))) (ocE (ecInt 0)))]) (bCons (scRet (ecBl false)) bNil) (bNil)) bNil : BC (mkT t_law_is_sum)).den) (enc := encS) (st := fun (s : Sl) => [.sh (.tup (ps.map encS)), s, .no]) ps .no (fun p hp s => by
    have h0 := h.2 p hp
    refine ⟨_, .sh (encS p), rfl, ?_⟩
    simp [dVarO, dVar, encS, ixG, t_law_is_sum, law_whole_ok, h0])
  obtain ⟨s2, l2⟩ := forD_true (tg := fun d Γ => .ok (Γ.set 2 (.sh d))) (body := (bCons (scIf (tcCmp lGeD (ocE (ecSl (ocE (ecIx (ocVar 0) (ocE (ecBin lSub (ocVar 2) (ocE (ecInt 1)))))) none (some (ocE (ecInt 2))))) (ocE (ecSl (ocE (ecIx (ocVar 0) (ocVar 2))) none (some (ocE (ecInt 2)))))) (bCons (scRet (ecBl false)) bNil) (bNil)) bNil : BC (mkT t_law_is_sum)).den) (enc := fun (i : Nat) => D.int (1 + (i : Int))) (st := fun (s : Sl) => [.sh (.tup (ps.map encS)), s1, s]) (List.range (ps.length - 1)) .no (fun i hi s => by
    have hi : i + 1 < ps.length := by
      have := List.mem_range.mp hi
      omega
    have a1 : atI (ps.map encS) (1 + (i : Int) - 1) = some (encS ps[i]) := by
      rw [show 1 + (i : Int) - 1 = (i : Int) by omega, atI_nat _ _ (by simp; omega)]
      simp
    have a2 : atI (ps.map encS) (1 + (i : Int)) = some (encS ps[i + 1]) := by
      rw [show 1 + (i : Int) = ((i + 1 : Nat) : Int) by omega, atI_nat _ _ (by simp; omega)]
      simp
    have hlt : ltS ps[i].1 ps[i + 1].1 := by
      have hp := h.1
      unfold kys at hp
      rw [List.pairwise_iff_getElem] at hp
      have := hp i (i + 1) (by simp; omega) (by simpa using hi) (by omega)
      simpa using this
    have hge := ge_data_ok hlt
    refine ⟨_, .sh (.int (1 + (i : Int))), rfl, ?_⟩
    have b1 := ixG_tup a1
    have b2 := ixG_tup a2
    simp [dVarO, dVar, b1, b2, cut_encS, hge])
  have hI : (icRng2 (ocE (ecInt 1)) (ocE (ecB "len" lLen (aoCons (ocVar 0) aoNil))) : IC (mkT t_law_is_sum)).den [.sh (.tup (ps.map encS)), s1, .no] = .ok ((List.range (ps.length - 1)).map fun (i : Nat) => D.int (1 + (i : Int))) := by
    rw [icRng2_ok (i := 1) (j := (ps.length : Nat)) rfl (by simp [dVarO]) (by decide) (by decide) (by omega) (by omega), show ((ps.length : Nat) - 1 : Int).toNat = ps.length - 1 by omega, range_map]
  simp [-den_icRng2, d_law_is_sum, fnDen, n_law_is_sum, b_law_is_sum, startE, dVarO, dVar, l1, hI, l2]
/-! ### names -/
def isLo (c : Nat) : Bool := decide (97 ≤ c) && decide (c ≤ 122)
def isSg (c : Nat) : Bool := isLo c || isDg c
def okN (l : List Nat) : Bool := match l with
  | [] => false
  | c :: r => decide (r.length < 10) && isLo c && (c :: r).all isSg
def lowers : List Nat := [97, 98, 99, 100, 101, 102, 103, 104, 105, 106, 107, 108, 109, 110, 111, 112, 113, 114, 115, 116, 117, 118, 119, 120, 121, 122]
def signs : List Nat := lowers ++ [48, 49, 50, 51, 52, 53, 54, 55, 56, 57]
theorem s_lower : ("abcdefghijklmnopqrstuvwxyz" : Str) = S lowers := TL.ext_tl (by rw [TL.tl_ofString]; rfl)
theorem s_signs : ("abcdefghijklmnopqrstuvwxyz0123456789" : Str) = S signs := TL.ext_tl (by rw [TL.tl_ofString]; rfl)
theorem lo_mem (c : Nat) : decide (c ∈ lowers) = isLo c := by
  rw [Bool.eq_iff_iff, decide_eq_true_eq]
  unfold lowers isLo
  simp only [List.mem_cons, List.not_mem_nil, or_false, Bool.and_eq_true, decide_eq_true_eq]
  omega
theorem sg_mem (c : Nat) : decide (c ∈ signs) = isSg c := by
  unfold signs isSg
  rw [← lo_mem, ← dg_mem, Bool.eq_iff_iff]
  simp only [Bool.or_eq_true, decide_eq_true_eq, List.mem_append]
theorem nin_lo (c : Nat) : sgnG true (.str ⟨#[c]⟩) (.str (S lowers)) = .ok (.bl (!isLo c)) := by
  rw [sgnG_one, lo_mem]
  rfl
theorem nin_sg (c : Nat) : sgnG true (.str ⟨#[c]⟩) (.str (S signs)) = .ok (.bl (!isSg c)) := by
  rw [sgnG_one, sg_mem]
  rfl
theorem is_row_name_ok {l : List Nat} (hl : l.length ≤ 1000000) : d_is_row_name [.str (S l)] = .ok (.bl (okN l)) := by
  cases l with
  | nil => simp [d_is_row_name, fnDen, n_is_row_name, b_is_row_name, startE, dVarO, dVar, den3, okN]
  | cons c r =>
    have h0 : ixG (.str (S (c :: r))) (.int 0) = .ok (.str ⟨#[c]⟩) := ixG_str _ _ _ (by rw [sizeLine_eq]; omega) (by simp)
    have hln : lenG [.str (S (c :: r))] = .ok (.int ((r.length : Int) + 1)) := by
      rw [lenG_str, if_pos (by rw [s_len, sizeLine_eq]; omega), s_len]
      rfl
    have l1 := forD_all (tg := fun d Γ => .ok (Γ.set 1 (.sh d))) (body := (bCons (scIf (tcCmp lNinS (ocVar 1) (ocE (ecGs ("SIGNS" : Str) ("abcdefghijklmnopqrstuvwxyz0123456789" : Str)))) (bCons (scRet (ecBl false)) bNil) (bNil)) bNil : BC (mkT t_is_row_name)).den) (enc := fun c => D.str ⟨#[c]⟩) (st := fun (s : Sl) => [.sh (.str (S (c :: r))), s]) (p := isSg) (r := .bl false) (c :: r) .no (fun x _ s => by
      refine ⟨_, rfl, ?_⟩
      cases hx : isSg x with
      | true => exact ⟨.sh (.str ⟨#[x]⟩), by simp [-sgnG_one, dVarO, dVar, s_signs, nin_sg, hx]⟩
      | false => simp [-sgnG_one, dVarO, dVar, s_signs, nin_sg, hx])
    have h1 : (1 : Int) ≤ (r.length : Int) + 1 := by omega
    have hit : itemsS (.str (S (c :: r))) = .ok ((c :: r).map fun c => .str ⟨#[c]⟩) := rfl
    by_cases h10 : r.length < 10
    · have h2 : ((r.length : Int) + 1) ≤ 10 := by omega
      cases hc : isLo c with
      | false => simp [-sgnG_one, -lenG_str, d_is_row_name, fnDen, n_is_row_name, b_is_row_name, startE, dVarO, dVar, den3, okN, hln, h0, h1, h2, s_lower, nin_lo, hc]
      | true =>
        by_cases ha : (c :: r).all isSg = true
        · rw [if_pos ha] at l1
          obtain ⟨s', l1⟩ := l1
          simp only [List.map_cons] at l1
          simp [-sgnG_one, -lenG_str, d_is_row_name, fnDen, n_is_row_name, b_is_row_name, startE, dVarO, dVar, den3, okN, hln, h0, h1, h2, s_lower, nin_lo, hc, l1]
          simpa [h10] using ha
        · rw [if_neg ha] at l1
          simp only [List.map_cons] at l1
          simp [-sgnG_one, -lenG_str, d_is_row_name, fnDen, n_is_row_name, b_is_row_name, startE, dVarO, dVar, den3, okN, hln, h0, h1, h2, s_lower, nin_lo, hc, l1]
          simpa [h10] using ha
    · have h2 : ¬ ((r.length : Int) + 1) ≤ 10 := by omega
      simp [-sgnG_one, -lenG_str, d_is_row_name, fnDen, n_is_row_name, b_is_row_name, startE, dVarO, dVar, den3, okN, hln, h0, h1, h2, h10]
theorem add_signs : addG (.str (S lowers)) (.str (S [48, 49, 50, 51, 52, 53, 54, 55, 56, 57])) = .ok (.str (S signs)) := addS (by decide)
theorem law_is_name_ok {l : List Nat} (hl : l.length ≤ 1000000) : d_law_is_name [.str (S l)] = .ok (.bl (okN l)) := by
  cases l with
  | nil => simp [d_law_is_name, fnDen, n_law_is_name, b_law_is_name, startE, dVarO, dVar, okN]
  | cons c r =>
    have h0 : ixG (.str (S (c :: r))) (.int 0) = .ok (.str ⟨#[c]⟩) := ixG_str _ _ _ (by rw [sizeLine_eq]; omega) (by simp)
    have hln : lenG [.str (S (c :: r))] = .ok (.int ((r.length : Int) + 1)) := by
      rw [lenG_str, if_pos (by rw [s_len, sizeLine_eq]; omega), s_len]
      rfl
    have l1 := forD_all (tg := fun d Γ => .ok (Γ.set 2 (.sh d))) (body := (bCons (scIf (tcCmp lNinS (ocVar 2) (ocE (ecBin lAdd (ocVar 1) (ocE (ecStr ("0123456789" : Str)))))) (bCons (scRet (ecBl false)) bNil) (bNil)) bNil : BC (mkT t_law_is_name)).den) (enc := fun c => D.str ⟨#[c]⟩) (st := fun (s : Sl) => [.sh (.str (S (c :: r))), .sh (.str (S lowers)), s]) (p := isSg) (r := .bl false) (c :: r) .no (fun x _ s => by
      refine ⟨_, rfl, ?_⟩
      cases hx : isSg x with
      | true => exact ⟨.sh (.str ⟨#[x]⟩), by simp [-sgnG_one, -addG_str, dVarO, dVar, add_signs, nin_sg, hx]⟩
      | false => simp [-sgnG_one, -addG_str, dVarO, dVar, add_signs, nin_sg, hx])
    simp only [s_digits] at l1
    have h1 : ¬ ((r.length : Int) + 1) < 1 := by omega
    by_cases h10 : r.length < 10
    · have h2 : ¬ 10 < ((r.length : Int) + 1) := by omega
      cases hc : isLo c with
      | false => simp [-sgnG_one, -lenG_str, d_law_is_name, fnDen, n_law_is_name, b_law_is_name, startE, dVarO, dVar, okN, hln, h0, h1, h2, s_lower, nin_lo, hc]
      | true =>
        by_cases ha : (c :: r).all isSg = true
        · rw [if_pos ha] at l1
          obtain ⟨s', l1⟩ := l1
          simp only [List.map_cons] at l1
          simp [-sgnG_one, -lenG_str, d_law_is_name, fnDen, n_law_is_name, b_law_is_name, startE, dVarO, dVar, okN, hln, h0, h1, h2, s_lower, nin_lo, hc, l1]
          simpa [h10] using ha
        · rw [if_neg ha] at l1
          simp only [List.map_cons] at l1
          simp [-sgnG_one, -lenG_str, d_law_is_name, fnDen, n_law_is_name, b_law_is_name, startE, dVarO, dVar, okN, hln, h0, h1, h2, s_lower, nin_lo, hc, l1]
          simpa [h10] using ha
    · have h2 : 10 < ((r.length : Int) + 1) := by omega
      simp [-sgnG_one, -lenG_str, d_law_is_name, fnDen, n_law_is_name, b_law_is_name, startE, dVarO, dVar, okN, hln, h0, h1, h2, h10]
end RJ

set_option Elab.async false
set_option linter.all false
set_option maxRecDepth 100000
set_option maxHeartbeats 16000000
set_option autoImplicit false
/-! RkH: written forms of sums and fractions. -/
namespace RJ
open PySem PySem.Spec L2
open SX (S)

def piS (p : Spt × Int) : List Nat := numI p.2 ++ [32] ++ p.1.1 ++ [32] ++ numI p.1.2
def wrS (ps : List (Spt × Int)) : List Nat := wrJ (ps.map piS)
theorem catS {a b c : List Nat} (h : a.length + b.length + c.length ≤ 16000000) : (addG (.str (S a)) (.str (S [32])) = .ok (.str (S (a ++ [32])))) ∧ addG (.str (S (a ++ [32]))) (.str (S b)) = .ok (.str (S (a ++ [32] ++ b))) ∧ addG (.str (S (a ++ [32] ++ b))) (.str (S [32])) = .ok (.str (S (a ++ [32] ++ b ++ [32]))) ∧ addG (.str (S (a ++ [32] ++ b ++ [32]))) (.str (S c)) = .ok (.str (S (a ++ [32] ++ b ++ [32] ++ c))) :=
  ⟨addS (by simp; omega), addS (by simp; omega), addS (by simp; omega), addS (by simp; omega)⟩
theorem format_sum_ok {d : D} {enc : Spt × Int → D} {ps : List (Spt × Int)} (he : IsTerm enc) (hd : seqOf d = some (ps.map enc)) (hl : ps.length ≤ 16777216) (hw : (wrS (nf srtS ps)).length ≤ 16000000) : d_format_sum [d] = .ok (.str (S (wrS (nf srtS ps)))) := by
  have h1 := ordered_ok he hd hl
  have hl2 : (nf srtS ps).length ≤ 16777216 := Nat.le_trans (nf_len srtSS ps) hl
  generalize nf srtS ps = q at *
  by_cases hq : q = []
  · subst hq
    simp [d_format_sum, fnDen, n_format_sum, b_format_sum, startE, dVarO, dVar, t_format_sum, h1]
    rfl
  · have l := lcGo_map (tg := (gcTup 3 (gsCons (gcName 2) (gsCons (gcName 3) (gsCons (gcName 4) gsNil))) : GC (mkT t_format_sum)).den) (ct := denC (none : Option (TC (mkT t_format_sum)))) (el := (ecBin lAdd (ocE (ecBin lAdd (ocE (ecBin lAdd (ocE (ecBin lAdd (ocE (ecCall .f_written (acCons (ecVar 4) acNil))) (ocE (ecStr (" " : Str))))) (ocVar 2))) (ocE (ecStr (" " : Str))))) (ocE (ecCall .f_written (acCons (ecVar 3) acNil))) : EC (mkT t_format_sum)).den) (vs := [2, 3, 4]) (Γ := [.sh d, .sh (.tup (q.map encS)), .no, .no, .no]) (enc := encS) (out := fun p => .str (S (piS p))) (Γx := fun p => [.sh d, .sh (.tup (q.map encS)), .sh (.str (S p.1.1)), .sh (.int p.1.2), .sh (.int p.2)]) (xs := q) (fun p hp => by
      have hb : (piS p).length ≤ 16000000 := Nat.le_trans (wrJ_mem (List.mem_map.mpr ⟨p, hp, rfl⟩)) hw
      unfold piS at hb
      simp only [List.length_append, List.length_singleton] at hb
      have w1 := written_ok (n := p.1.2) (Nat.le_trans (numL_numI _) (by omega))
      have w2 := written_ok (n := p.2) (Nat.le_trans (numL_numI _) (by omega))
      obtain ⟨c1, c2, c3, c4⟩ := catS (a := numI p.2) (b := p.1.1) (c := numI p.1.2) (by omega)
      refine ⟨rfl, rfl, ?_⟩
      simp only [den_ecBin, den_ocE, den_ecCall, den_acCons, den_acNil, den_ecVar, den_ocVar, dVar, dVarO, List.getElem?_cons_succ, List.getElem?_cons_zero, Re.bind_ok, t_format_sum, w1, w2, g_lAdd, den_ecStr, s_blank, c1, c2, c3, c4, piS])
    have h3 := denLc_ok (T := mkT t_format_sum) (it := icSeq (ecVar 1)) (tg := gcTup 3 (gsCons (gcName 2) (gsCons (gcName 3) (gsCons (gcName 4) gsNil)))) (ct := none) (el := ecBin lAdd (ocE (ecBin lAdd (ocE (ecBin lAdd (ocE (ecBin lAdd (ocE (ecCall .f_written (acCons (ecVar 4) acNil))) (ocE (ecStr (" " : Str))))) (ocVar 2))) (ocE (ecStr (" " : Str))))) (ocE (ecCall .f_written (acCons (ecVar 3) acNil)))) (vs := [2, 3, 4]) (Γ := [.sh d, .sh (.tup (q.map encS)), .no, .no, .no]) (ds := q.map encS) (by simp [dVar]) (by simpa using hl2) l
    have hj := join_wr (ps := q.map piS) (by simpa using hq) hw
    have e : q.map (fun p => D.str (S (piS p))) = strsOf (q.map piS) := by
      unfold strsOf
      rw [List.map_map]
      rfl
    rw [e] at h3
    simp only [s_blank] at h3
    simp [d_format_sum, fnDen, n_format_sum, b_format_sum, startE, dVarO, dVar, t_format_sum, h1, hq]
    rw [show denM1 _ _ joinG _ = (Re.ok (D.str (S (wrJ (q.map piS)))) : Re D) from ?_]
    · rfl
    · simp [denM1, strR]
      rw [h3]
      exact hj
theorem law_write2_ok {ps : List (Spt × Int)} (hl : ps.length ≤ 16777216) (hw : (wrS ps).length ≤ 16000000) (hb : ∀ p ∈ ps, p.1.2.natAbs < 10 ^ 4300 ∧ p.2.natAbs < 10 ^ 4300) : d_law_write [.int 2, .tup (ps.map encS)] = .ok (.str (S (wrS ps))) := by
  by_cases hq : ps = []
  · subst hq
    simp [d_law_write, fnDen, n_law_write, b_law_write, startE, dVarO, dVar]
    rfl
  · have l := lcGo_map (tg := (gcName 2 : GC (mkT t_law_write)).den) (ct := denC (none : Option (TC (mkT t_law_write)))) (el := (ecBin lAdd (ocE (ecBin lAdd (ocE (ecBin lAdd (ocE (ecBin lAdd (ocE (ecB "str" lStr (aoCons (ocE (ecIx (ocVar 2) (ocE (ecInt 2)))) aoNil))) (ocE (ecStr (" " : Str))))) (ocE (ecIx (ocVar 2) (ocE (ecInt 0)))))) (ocE (ecStr (" " : Str))))) (ocE (ecB "str" lStr (aoCons (ocE (ecIx (ocVar 2) (ocE (ecInt 1)))) aoNil))) : EC (mkT t_law_write)).den) (vs := [2]) (Γ := [.sh (.int 2), .sh (.tup (ps.map encS)), .no, .no]) (enc := encS) (out := fun p => .str (S (piS p))) (Γx := fun p => [.sh (.int 2), .sh (.tup (ps.map encS)), .sh (encS p), .no]) (xs := ps) (fun p hp => by
      have hb2 : (piS p).length ≤ 16000000 := Nat.le_trans (wrJ_mem (List.mem_map.mpr ⟨p, hp, rfl⟩)) hw
      unfold piS at hb2
      simp only [List.length_append, List.length_singleton] at hb2
      have w1 := strS (hb p hp).1
      have w2 := strS (hb p hp).2
      obtain ⟨c1, c2, c3, c4⟩ := catS (a := numI p.2) (b := p.1.1) (c := numI p.1.2) (by omega)
      have i0 : ixG (encS p) (.int 0) = .ok (.str (S p.1.1)) := ixG_tup rfl
      have i1 : ixG (encS p) (.int 1) = .ok (.int p.1.2) := ixG_tup rfl
      have i2 : ixG (encS p) (.int 2) = .ok (.int p.2) := ixG_tup rfl
      refine ⟨rfl, rfl, ?_⟩
      simp only [den_ecBin, den_ocE, den_ecB, den_aoCons, den_aoNil, den_ecIx, den_ecInt, den_ecVar, den_ocVar, dVar, dVarO, List.getElem?_cons_succ, List.getElem?_cons_zero, Re.bind_ok, g_lStr, w1, w2, i0, i1, i2, g_lAdd, den_ecStr, s_blank, c1, c2, c3, c4, piS])
    have h3 := denLc_ok (T := mkT t_law_write) (it := icSeq (ecVar 1)) (tg := gcName 2) (ct := none) (el := ecBin lAdd (ocE (ecBin lAdd (ocE (ecBin lAdd (ocE (ecBin lAdd (ocE (ecB "str" lStr (aoCons (ocE (ecIx (ocVar 2) (ocE (ecInt 2)))) aoNil))) (ocE (ecStr (" " : Str))))) (ocE (ecIx (ocVar 2) (ocE (ecInt 0)))))) (ocE (ecStr (" " : Str))))) (ocE (ecB "str" lStr (aoCons (ocE (ecIx (ocVar 2) (ocE (ecInt 1)))) aoNil)))) (vs := [2]) (Γ := [.sh (.int 2), .sh (.tup (ps.map encS)), .no, .no]) (ds := ps.map encS) (by simp [dVar]) (by simpa using hl) l
    have hj := join_wr (ps := ps.map piS) (by simpa using hq) hw
    have e : ps.map (fun p => D.str (S (piS p))) = strsOf (ps.map piS) := by
      unfold strsOf
      rw [List.map_map]
      rfl
    rw [e] at h3
    simp only [s_blank] at h3
    simp [d_law_write, fnDen, n_law_write, b_law_write, startE, dVarO, dVar, hq]
    rw [show denM1 _ _ joinG _ = (Re.ok (D.str (S (wrJ (ps.map piS)))) : Re D) from ?_]
    · rfl
    · simp [denM1, strR]
      rw [h3]
      exact hj
/-! ### fractions -/
def wrF (f : Int × Int) : List Nat := if f.2 = 1 then numI f.1 else numI f.1 ++ [47] ++ numI f.2
theorem catF {a b : List Nat} (h : a.length + b.length ≤ 16000000) : (addG (.str (S a)) (.str (S [47])) = .ok (.str (S (a ++ [47])))) ∧ addG (.str (S (a ++ [47]))) (.str (S b)) = .ok (.str (S (a ++ [47] ++ b))) :=
  ⟨addS (by simp; omega), addS (by simp; omega)⟩
theorem wrF_le (f : Int × Int) : (numI f.1).length ≤ (wrF f).length ∧ (f.2 ≠ 1 → (numI f.1).length + (numI f.2).length ≤ (wrF f).length) := by
  unfold wrF
  split
  · rename_i h
    exact ⟨Nat.le_refl _, fun h2 => absurd h h2⟩
  · simp only [List.length_append, List.length_singleton]
    exact ⟨by omega, fun _ => by omega⟩
theorem law_write0_ok {f : Int × Int} (hw : (wrF f).length ≤ 16000000) (hb : f.1.natAbs < 10 ^ 4300 ∧ f.2.natAbs < 10 ^ 4300) : d_law_write [.int 0, encF f] = .ok (.str (S (wrF f))) := by
  have i0 : ixG (encF f) (.int 0) = .ok (.int f.1) := ixG_tup rfl
  have i1 : ixG (encF f) (.int 1) = .ok (.int f.2) := ixG_tup rfl
  have w1 := strS hb.1
  have w2 := strS hb.2
  by_cases h : f.2 = 1
  · have e : wrF f = numI f.1 := if_pos h
    rw [e]
    simp [-strG_int, d_law_write, fnDen, n_law_write, b_law_write, startE, dVarO, dVar, i0, i1, w1, h]
  · obtain ⟨c1, c2⟩ := catF (a := numI f.1) (b := numI f.2) (Nat.le_trans ((wrF_le f).2 h) hw)
    have e : wrF f = numI f.1 ++ [47] ++ numI f.2 := if_neg h
    rw [e]
    simp only [List.append_assoc] at c1 c2
    simp [-strG_int, -addG_str, d_law_write, fnDen, n_law_write, b_law_write, startE, dVarO, dVar, i0, i1, w1, w2, h, c1, c2]
theorem format_fraction_ok {d : D} {a b : Int} {m n : Nat} (hd : fracOf d = some (a, b)) (ha : a.natAbs < 2 ^ m) (hb : b.natAbs < 2 ^ n) (hb0 : b ≠ 0) (h : m + n ≤ 20000) (hw : (wrF (ratM a b)).length ≤ 16000000) : d_format_fraction [d] = .ok (.str (S (wrF (ratM a b)))) := by
  have h1 := fraction_ok hd ha hb hb0 h
  generalize ratM a b = f at *
  obtain ⟨x, y⟩ := f
  have hx := (wrF_le (x, y)).1
  have w1 := written_ok (n := x) (Nat.le_trans (numL_numI _) (by simp at hx; omega))
  by_cases h : y = 1
  · subst h
    have e : wrF (x, 1) = numI x := if_pos rfl
    rw [e]
    simp [d_format_fraction, fnDen, n_format_fraction, b_format_fraction, startE, dVarO, dVar, t_format_fraction, h1, encF, w1]
  · have hy := (wrF_le (x, y)).2 h
    have hy : (numI x).length + (numI y).length ≤ (wrF (x, y)).length := hy
    have w2 := written_ok (n := y) (Nat.le_trans (numL_numI _) (by omega))
    obtain ⟨c1, c2⟩ := catF (a := numI x) (b := numI y) (Nat.le_trans hy hw)
    have e : wrF (x, y) = numI x ++ [47] ++ numI y := if_neg h
    rw [e]
    simp only [List.append_assoc] at c1 c2
    simp [-addG_str, d_format_fraction, fnDen, n_format_fraction, b_format_fraction, startE, dVarO, dVar, t_format_fraction, h1, encF, w1, w2, h, c1, c2]
end RJ

set_option Elab.async false
set_option linter.all false
set_option maxRecDepth 100000
set_option maxHeartbeats 1000000
set_option autoImplicit false
/-! RkI: equality of data; reading and writing in plain. -/
namespace RJ
open PySem PySem.Spec L2
open SX (S)

/-- a way to lay items as data that == tells apart -/
structure Lay {α : Type} (enc : α → D) (ok : α → Prop) : Prop where
  lay : ∀ x, ok x → ∃ p, RJ.toP (enc x) = some p ∧ p.canLay0 = true ∧ p.depth ≤ 10
  eqv : ∀ x y p q, ok x → ok y → RJ.toP (enc x) = some p → RJ.toP (enc y) = some q → (PyData.eqv p q = true ↔ x = y)
theorem Lay.list {α : Type} {enc : α → D} {ok : α → Prop} (L : Lay enc ok) : ∀ (xs : List α), (∀ x ∈ xs, ok x) → ∃ ps, toPs (xs.map enc) = some ps ∧ PyData.canLayAll0 ps = true ∧ PyData.depthAll ps ≤ 10
  | [], _ => ⟨[], rfl, rfl, Nat.zero_le _⟩
  | x :: xs, h => by
    obtain ⟨p, h1, h2, h3⟩ := L.lay x (h x List.mem_cons_self)
    obtain ⟨ps, g1, g2, g3⟩ := Lay.list L xs fun y m => h y (List.mem_cons_of_mem _ m)
    refine ⟨p :: ps, ?_, ?_, ?_⟩
    · show (match toP (enc x), toPs (xs.map enc) with
        | some p, some ps => some (p :: ps)
        | _, _ => none) = _
      rw [h1, g1]
    · rw [PyData.canLayAll0, h2, g2]
      rfl
    · rw [PyData.depthAll]
      omega
theorem Lay.eqs {α : Type} {enc : α → D} {ok : α → Prop} (L : Lay enc ok) : ∀ (xs ys : List α) (ps qs : List PyData), (∀ x ∈ xs, ok x) → (∀ x ∈ ys, ok x) → toPs (xs.map enc) = some ps → toPs (ys.map enc) = some qs → (PyData.eqvAll ps qs = true ↔ xs = ys)
  | [], [], ps, qs, _, _, e1, e2 => by
    cases e1
    cases e2
    simp [PyData.eqvAll]
  | [], y :: ys, ps, qs, h1, h2, e1, e2 => by
    cases e1
    obtain ⟨q, b1, b2, b3⟩ := L.lay y (h2 y List.mem_cons_self)
    obtain ⟨qs', c1, c2, c3⟩ := Lay.list L ys fun z m => h2 z (List.mem_cons_of_mem _ m)
    have e2 : (match toP (enc y), toPs (ys.map enc) with
        | some p, some ps => some (p :: ps)
        | _, _ => none) = some qs := e2
    rw [b1, c1] at e2
    cases e2
    simp [PyData.eqvAll]
  | x :: xs, [], ps, qs, h1, h2, e1, e2 => by
    cases e2
    obtain ⟨q, b1, b2, b3⟩ := L.lay x (h1 x List.mem_cons_self)
    obtain ⟨qs', c1, c2, c3⟩ := Lay.list L xs fun z m => h1 z (List.mem_cons_of_mem _ m)
    have e1 : (match toP (enc x), toPs (xs.map enc) with
        | some p, some ps => some (p :: ps)
        | _, _ => none) = some ps := e1
    rw [b1, c1] at e1
    cases e1
    simp [PyData.eqvAll]
  | x :: xs, y :: ys, ps, qs, h1, h2, e1, e2 => by
    obtain ⟨p, b1, b2, b3⟩ := L.lay x (h1 x List.mem_cons_self)
    obtain ⟨ps', c1, c2, c3⟩ := Lay.list L xs fun z m => h1 z (List.mem_cons_of_mem _ m)
    obtain ⟨q, b1', b2', b3'⟩ := L.lay y (h2 y List.mem_cons_self)
    obtain ⟨qs', c1', c2', c3'⟩ := Lay.list L ys fun z m => h2 z (List.mem_cons_of_mem _ m)
    have e1 : (match toP (enc x), toPs (xs.map enc) with
        | some p, some ps => some (p :: ps)
        | _, _ => none) = some ps := e1
    have e2 : (match toP (enc y), toPs (ys.map enc) with
        | some p, some ps => some (p :: ps)
        | _, _ => none) = some qs := e2
    rw [b1, c1] at e1
    cases e1
    rw [b1', c1'] at e2
    cases e2
    rw [PyData.eqvAll, Bool.and_eq_true, L.eqv x y p q (h1 x List.mem_cons_self) (h2 y List.mem_cons_self) b1 b1', Lay.eqs L xs ys ps' qs' (fun z m => h1 z (List.mem_cons_of_mem _ m)) (fun z m => h2 z (List.mem_cons_of_mem _ m)) c1 c1', List.cons.injEq]
theorem bool_dec {b : Bool} {p : Prop} [Decidable p] (h : b = true ↔ p) : b = decide p := by
  rw [Bool.eq_iff_iff, decide_eq_true_eq]
  exact h
theorem eq_lst {α : Type} [DecidableEq α] {enc : α → D} {ok : α → Prop} (L : Lay enc ok) {xs ys : List α} (hx : ∀ x ∈ xs, ok x) (hy : ∀ x ∈ ys, ok x) (n : Bool) : eqG n (.lst (xs.map enc)) (.lst (ys.map enc)) = .ok (.bl (if n then !decide (xs = ys) else decide (xs = ys))) := by
  obtain ⟨ps, a1, a2, a3⟩ := L.list xs hx
  obtain ⟨qs, b1, b2, b3⟩ := L.list ys hy
  have e1 : toP (.lst (xs.map enc)) = some (.list ps) := by rw [toP, a1]; rfl
  have e2 : toP (.lst (ys.map enc)) = some (.list qs) := by rw [toP, b1]; rfl
  have s1 : SeqAt.shaped (.list ps) = true := by
    unfold SeqAt.shaped
    rw [PyData.canLay0, a2, PyData.depth]
    exact decide_eq_true (by omega)
  have s2 : SeqAt.shaped (.list qs) = true := by
    unfold SeqAt.shaped
    rw [PyData.canLay0, b2, PyData.depth]
    exact decide_eq_true (by omega)
  have e3 : PyData.eqv (.list ps) (.list qs) = decide (xs = ys) := bool_dec (by rw [PyData.eqv]; exact L.eqs xs ys ps qs hx hy a1 b1)
  show eqDG n _ _ = _
  unfold eqDG
  rw [e1, e2]
  show (if (SeqAt.shaped (.list ps) && SeqAt.shaped (.list qs)) = true then _ else _) = _
  rw [s1, s2, Bool.and_self, if_pos rfl, e3]
theorem eq_tup {α : Type} [DecidableEq α] {enc : α → D} {ok : α → Prop} (L : Lay enc ok) {xs ys : List α} (hx : ∀ x ∈ xs, ok x) (hy : ∀ x ∈ ys, ok x) (n : Bool) : eqG n (.tup (xs.map enc)) (.tup (ys.map enc)) = .ok (.bl (if n then !decide (xs = ys) else decide (xs = ys))) := by
  obtain ⟨ps, a1, a2, a3⟩ := L.list xs hx
  obtain ⟨qs, b1, b2, b3⟩ := L.list ys hy
  have e1 : toP (.tup (xs.map enc)) = some (.tuple ps) := by rw [toP, a1]; rfl
  have e2 : toP (.tup (ys.map enc)) = some (.tuple qs) := by rw [toP, b1]; rfl
  have s1 : SeqAt.shaped (.tuple ps) = true := by
    unfold SeqAt.shaped
    rw [PyData.canLay0, a2, PyData.depth]
    exact decide_eq_true (by omega)
  have s2 : SeqAt.shaped (.tuple qs) = true := by
    unfold SeqAt.shaped
    rw [PyData.canLay0, b2, PyData.depth]
    exact decide_eq_true (by omega)
  have e3 : PyData.eqv (.tuple ps) (.tuple qs) = decide (xs = ys) := bool_dec (by rw [PyData.eqv]; exact L.eqs xs ys ps qs hx hy a1 b1)
  show eqDG n _ _ = _
  unfold eqDG
  rw [e1, e2]
  show (if (SeqAt.shaped (.tuple ps) && SeqAt.shaped (.tuple qs)) = true then _ else _) = _
  rw [s1, s2, Bool.and_self, if_pos rfl, e3]
/-- items that == tells apart, themselves -/
theorem eq_one {α : Type} [DecidableEq α] {enc : α → D} {ok : α → Prop} (L : Lay enc ok) (hs : ∀ x, ∀ s, enc x ≠ .str s) {x y : α} (hx : ok x) (hy : ok y) (n : Bool) : eqG n (enc x) (enc y) = .ok (.bl (if n then !decide (x = y) else decide (x = y))) := by
  obtain ⟨p, a1, a2, a3⟩ := L.lay x hx
  obtain ⟨q, b1, b2, b3⟩ := L.lay y hy
  have s1 : SeqAt.shaped p = true := by
    unfold SeqAt.shaped
    rw [a2]
    exact decide_eq_true (by omega)
  have s2 : SeqAt.shaped q = true := by
    unfold SeqAt.shaped
    rw [b2]
    exact decide_eq_true (by omega)
  have e3 : PyData.eqv p q = decide (x = y) := bool_dec (L.eqv x y p q hx hy a1 b1)
  have e : eqG n (enc x) (enc y) = eqDG n (enc x) (enc y) := by
    unfold eqG
    split
    · rename_i h1 h2
      exact absurd h1 (hs x _)
    · rfl
  rw [e]
  unfold eqDG
  rw [a1, b1]
  show (if (SeqAt.shaped p && SeqAt.shaped q) = true then _ else _) = _
  rw [s1, s2, Bool.and_self, if_pos rfl, e3]
theorem layP : Lay encP fun _ => True where
  lay x _ := ⟨.tuple [.int x.1, .int x.2], rfl, rfl, by simp [PyData.depth, PyData.depthAll]⟩
  eqv x y p q _ _ h1 h2 := by
    cases h1
    cases h2
    simp [PyData.eqv, PyData.eqvAll, Prod.ext_iff]
theorem layL {enc : Int × Int → D} (h : ∀ x, enc x = .lst [.int x.1, .int x.2]) : Lay enc fun _ => True where
  lay x _ := ⟨.list [.int x.1, .int x.2], by rw [h]; rfl, rfl, by simp [PyData.depth, PyData.depthAll]⟩
  eqv x y p q _ _ h1 h2 := by
    rw [h] at h1 h2
    cases h1
    cases h2
    simp [PyData.eqv, PyData.eqvAll, Prod.ext_iff]
def rowOk (x : Spt × Int) : Prop := okN x.1.1 = true
theorem okN_codes {l : List Nat} (h : okN l = true) : PyData.strOk (S l) = true := by
  unfold okN at h
  split at h
  · cases h
  · rename_i c r
    simp only [Bool.and_eq_true, List.all_eq_true] at h
    obtain ⟨_, h⟩ := h
    unfold PyData.strOk
    have : ((S (c :: r)).cps.all fun x => decide (x < 0x110000)) = true := by
      show ((c :: r).toArray.all fun x => decide (x < 0x110000)) = true
      rw [List.all_toArray, List.all_eq_true]
      intro x hx
      have := h x hx
      unfold isSg isLo isDg at this
      simp only [Bool.or_eq_true, Bool.and_eq_true, decide_eq_true_eq] at this
      exact decide_eq_true (by omega)
    exact this
theorem layS : Lay encS rowOk where
  lay x h := ⟨.tuple [.str (S x.1.1), .int x.1.2, .int x.2], rfl, by
    have h : PyData.strOk (S x.1.1) = true := okN_codes h
    simp [PyData.canLay0, PyData.canLayAll0, h], by simp [PyData.depth, PyData.depthAll]⟩
  eqv x y p q _ _ h1 h2 := by
    cases h1
    cases h2
    simp only [PyData.eqv, PyData.eqvAll, Bool.and_true, Bool.and_eq_true, beq_iff_eq]
    constructor
    · rintro ⟨a, b, c⟩
      exact Prod.ext (Prod.ext (SX.S_inj a) b) c
    · rintro rfl
      exact ⟨rfl, rfl, rfl⟩
theorem layF : Lay encF fun _ => True := layP
/-! ### reading and writing -/
structure Pc {α : Type} (pi : α → List Nat) (pc : List Nat → Option α) (ok : α → Prop) : Prop where
  back : ∀ p x, pc p = some x → pi x = p
  read : ∀ x, ok x → pc (pi x) = some x
  good : ∀ p x, pc p = some x → ok x
  free : ∀ x, ok x → 44 ∉ pi x
theorem mapO_all {α β : Type} {p : α → Option β} : ∀ {xs : List α} {ys : List β}, mapO p xs = some ys → ys.length = xs.length ∧ ∀ (q : β → Prop), (∀ x ∈ xs, ∀ y, p x = some y → q y) → ∀ y ∈ ys, q y
  | [], ys, h => by
    cases h
    exact ⟨rfl, fun q _ y hy => by cases hy⟩
  | x :: xs, ys, h => by
    unfold mapO at h
    split at h
    · rename_i y ys' h1 h2
      cases h
      obtain ⟨a, b⟩ := mapO_all h2
      refine ⟨by simp [a], fun q hq z hz => ?_⟩
      rcases List.mem_cons.mp hz with e | e
      · subst e
        exact hq x List.mem_cons_self _ h1
      · exact b q (fun w hw => hq w (List.mem_cons_of_mem _ hw)) z e
    · cases h
section
variable {α : Type} {pi : α → List Nat} {pc : List Nat → Option α} {ok : α → Prop}
theorem Pc.pieces (P : Pc pi pc ok) : ∀ {xs : List (List Nat)} {ys : List α}, mapO pc xs = some ys → ys.map pi = xs
  | [], ys, h => by
    cases h
    rfl
  | x :: xs, ys, h => by
    unfold mapO at h
    split at h
    · rename_i y ys' h1 h2
      cases h
      rw [List.map_cons, P.back _ _ h1, Pc.pieces P h2]
    · cases h
theorem Pc.again (P : Pc pi pc ok) : ∀ {ys : List α}, (∀ y ∈ ys, ok y) → mapO pc (ys.map pi) = some ys
  | [], _ => rfl
  | y :: ys, h => by
    show (match pc (pi y), mapO pc (ys.map pi) with
      | some y, some ys => some (y :: ys)
      | _, _ => none) = _
    rw [P.read y (h y List.mem_cons_self), Pc.again P fun z m => h z (List.mem_cons_of_mem _ m)]
theorem Pc.split (P : Pc pi pc ok) {ys : List α} (hne : ys ≠ []) (h : ∀ y ∈ ys, ok y) : TL.spl [44, 32] 0 [] (wrJ (ys.map pi)) = ys.map pi := by
  have hm : ys.map pi ≠ [] := by simpa using hne
  unfold wrJ
  rw [if_neg hm]
  exact SX.spl_join hm fun p hp => by
    obtain ⟨y, hy, e⟩ := List.mem_map.mp hp
    subst e
    exact P.free y (h y hy)
theorem wr_pieces (P : Pc pi pc ok) {l : List Nat} {ps : List α} (h : mapO pc (TL.spl [44, 32] 0 [] l) = some ps) : ps ≠ [] ∧ wrJ (ps.map pi) = l := by
  have h1 := P.pieces h
  have hne : TL.spl [44, 32] 0 [] l ≠ [] := spl_ne _ _ _ _
  have hps : ps ≠ [] := fun e => by
    subst e
    exact hne h1.symm
  refine ⟨hps, ?_⟩
  unfold wrJ
  rw [h1, if_neg hne, join_spl (by simp) l.length [] l (Nat.le_refl _), List.nil_append]
/-- a normal form, and what is read -/
theorem read_iff (P : Pc pi pc ok) {nfm : List α → List α} (hn : ∀ ps, (∀ p ∈ ps, ok p) → ∀ p ∈ nfm ps, ok p) {l : List Nat} {ps : List α} (h : mapO pc (TL.spl [44, 32] 0 [] l) = some ps) (h0 : l ≠ [48]) : nfm ps = ps ↔ wrJ ((nfm ps).map pi) = l := by
  obtain ⟨h1, h2⟩ := wr_pieces P h
  constructor
  · intro e
    rw [e]
    exact h2
  · intro e
    by_cases hq : nfm ps = []
    · rw [hq] at e
      exact absurd e.symm h0
    · have g := (mapO_all h).2 ok (fun x _ y hy => P.good x y hy)
      have s := P.split hq (hn ps g)
      rw [e] at s
      have a := P.again (hn ps g)
      rw [← s, h] at a
      exact (Option.some.inj a).symm
end
def pr2 (os : List (Option Int)) : Option (Int × Int) := match os with
  | [some c, some s] => some (s, c)
  | _ => none
def pc1 (p : List Nat) : Option (Int × Int) := pr2 ((TL.spl [32] 0 [] p).map wn)
theorem numI_codes (n : Int) : ∀ c ∈ numI n, c = 45 ∨ (48 ≤ c ∧ c ≤ 57) := by
  intro c hc
  unfold numI at hc
  split at hc
  · rcases List.mem_cons.mp hc with e | e
    · exact .inl e
    · exact .inr (TL.numL_digits _ c e)
  · exact .inr (TL.numL_digits _ c hc)
theorem numI_free (n : Int) {c : Nat} (h : c ≠ 45 ∧ (c < 48 ∨ 57 < c)) : c ∉ numI n := fun hc => by
  have := numI_codes n c hc
  omega
theorem numI_ne (n : Int) : numI n ≠ [] := by
  unfold numI
  split
  · simp
  · exact TL.numL_ne _
theorem pcP : Pc piP pc1 fun _ => True where
  back p x h := by
    unfold pc1 pr2 at h
    split at h
    · rename_i c s e
      cases h
      have hj := join_spl (sep := [32]) (by simp) p.length [] p (Nat.le_refl _)
      rw [List.nil_append] at hj
      generalize TL.spl [32] 0 [] p = ws at e hj
      rcases ws with _ | ⟨w0, _ | ⟨w1, _ | ⟨w2, ws⟩⟩⟩
      · simp at e
      · simp at e
      · simp only [List.map_cons, List.map_nil, List.cons.injEq, and_true] at e
        have e0 := num_wn e.1
        have e1 := num_wn e.2
        subst e0
        subst e1
        rw [joinL_cons2] at hj
        exact hj
      · simp at e
    · cases h
  read x _ := by
    unfold pc1 pr2 piP
    have e : numI x.2 ++ [32] ++ numI x.1 = TL.joinL [32] [numI x.2, numI x.1] := by rw [joinL_cons2]; rfl
    rw [e, SX.spl_join (by simp) (by
      intro p hp
      simp only [List.mem_cons, List.not_mem_nil, or_false] at hp
      rcases hp with e | e <;> subst e <;> exact numI_free _ (by decide))]
    simp [wn_num]
  good p x _ := trivial
  free x _ := by
    unfold piP
    simp only [List.mem_append, List.mem_singleton, not_or]
    exact ⟨⟨numI_free _ (by decide), by decide⟩, numI_free _ (by decide)⟩
def pc2 (p : List Nat) : Option (Spt × Int) := match TL.spl [32] 0 [] p with
  | [a, r, b] => if okN r = true then (match wn a, wn b with
    | some c, some s => some ((r, s), c)
    | _, _ => none) else none
  | _ => none
theorem okN_free {r : List Nat} (h : okN r = true) {c : Nat} (hc : isSg c = false) : c ∉ r := by
  unfold okN at h
  split at h
  · cases h
  · simp only [Bool.and_eq_true, List.all_eq_true] at h
    intro hm
    have := h.2 c hm
    rw [hc] at this
    cases this
theorem pcS : Pc piS pc2 rowOk where
  back p x h := by
    unfold pc2 at h
    split at h
    · rename_i a r b e
      split at h
      · split at h
        · rename_i c s e0 e1
          cases h
          have hj := join_spl (sep := [32]) (by simp) p.length [] p (Nat.le_refl _)
          rw [List.nil_append, e, joinL_cons2, joinL_cons2] at hj
          have e0 := num_wn e0
          have e1 := num_wn e1
          subst e0
          subst e1
          rw [← hj]
          show numI c ++ [32] ++ r ++ [32] ++ numI s = numI c ++ [32] ++ (r ++ [32] ++ numI s)
          simp
        · cases h
      · cases h
    · cases h
  read x hx := by
    have hx : okN x.1.1 = true := hx
    unfold pc2 piS
    have e : numI x.2 ++ [32] ++ x.1.1 ++ [32] ++ numI x.1.2 = TL.joinL [32] [numI x.2, x.1.1, numI x.1.2] := by
      rw [joinL_cons2, joinL_cons2]
      show _ = numI x.2 ++ [32] ++ (x.1.1 ++ [32] ++ numI x.1.2)
      simp
    rw [e, SX.spl_join (by simp) (by
      intro p hp
      simp only [List.mem_cons, List.not_mem_nil, or_false] at hp
      rcases hp with e | e | e <;> subst e
      · exact numI_free _ (by decide)
      · exact okN_free hx (by decide)
      · exact numI_free _ (by decide))]
    simp [wn_num, hx]
  good p x h := by
    unfold pc2 at h
    split at h
    · split at h
      · rename_i hr
        split at h
        · cases h
          exact hr
        · cases h
      · cases h
    · cases h
  free x hx := by
    have hx : okN x.1.1 = true := hx
    unfold piS
    simp only [List.mem_append, List.mem_singleton, not_or]
    exact ⟨⟨⟨⟨numI_free _ (by decide), by decide⟩, okN_free hx (by decide)⟩, by decide⟩, numI_free _ (by decide)⟩
theorem nfS_ok (ps : List (Spt × Int)) (h : ∀ p ∈ ps, rowOk p) : ∀ p ∈ nf srtS ps, rowOk p := fun p hp => by
  have h1 := (nf_mem srtSS hp).1
  obtain ⟨q, hq, e⟩ := List.mem_map.mp h1
  have := h q hq
  unfold rowOk at *
  rw [← e]
  exact this
end RJ

set_option Elab.async false
set_option linter.all false
set_option maxRecDepth 100000
set_option maxHeartbeats 1000000
set_option autoImplicit false
/-! RkJ: reading polynomials and sums. -/
namespace RJ
open PySem PySem.Spec L2
open SX (S)

theorem forD_optN {α β J : Type} {tg : D → En → Re En} {body : En → SR} {enc : α → D} {st : List β → J → En} {p : α → Option β} {r : D} {N : Nat} : ∀ (xs : List α) (acc : List β) (j : J), acc.length + xs.length ≤ N →
    (∀ x ∈ xs, ∀ acc j, acc.length < N → ∃ Γ1, tg (enc x) (st acc j) = .ok Γ1 ∧ (match p x with
      | none => body Γ1 = .rt r
      | some y => ∃ j', body Γ1 = .nx (st (acc ++ [y]) j'))) →
    (match mapO p xs with
      | none => forD tg body (xs.map enc) (st acc j) = .rt r
      | some ys => ∃ j', forD tg body (xs.map enc) (st acc j) = .nx (st (acc ++ ys) j'))
  | [], acc, j, _, _ => ⟨j, by rw [List.append_nil]; rfl⟩
  | x :: xs, acc, j, hN, h => by
    obtain ⟨Γ1, h1, h2⟩ := h x List.mem_cons_self acc j (by simp at hN; omega)
    have st1 : forD tg body ((x :: xs).map enc) (st acc j) = (body Γ1).turn (forD tg body (xs.map enc)) := by
      rw [List.map_cons, forD_cons, h1]
      rfl
    rw [st1]
    unfold mapO
    cases hp : p x with
    | none =>
      rw [hp] at h2
      have h2 : body Γ1 = .rt r := h2
      rw [h2]
      rfl
    | some y =>
      rw [hp] at h2
      obtain ⟨j', h2⟩ := h2
      have ih := forD_optN (p := p) (r := r) (N := N) xs (acc ++ [y]) j' (by simp at hN ⊢; omega) fun z m => h z (List.mem_cons_of_mem _ m)
      rw [h2, SR.turn_nx]
      cases hm : mapO p xs with
      | none =>
        rw [hm] at ih
        exact ih
      | some ys =>
        rw [hm] at ih
        obtain ⟨j2, ih⟩ := ih
        exact ⟨j2, by rw [ih, List.append_assoc]; rfl⟩
section
variable {α : Type} [DecidableEq α]
def rdG (pc : List Nat → Option α) (nfm : List α → List α) (l : List Nat) : Option (List α) := if l = [48] then some [] else match mapO pc (TL.spl [44, 32] 0 [] l) with
  | some ps => if nfm ps = ps then some ps else none
  | none => none
def wrG (pi : α → List Nat) (pc : List Nat → Option α) (nfm : List α → List α) (l : List Nat) : Option (List α) := if l = [48] then some [] else match mapO pc (TL.spl [44, 32] 0 [] l) with
  | some ps => if wrJ ((nfm ps).map pi) = l then some (nfm ps) else none
  | none => none
theorem rd_wr {pi : α → List Nat} {pc : List Nat → Option α} {ok : α → Prop} (P : Pc pi pc ok) {nfm : List α → List α} (hn : ∀ ps, (∀ p ∈ ps, ok p) → ∀ p ∈ nfm ps, ok p) (l : List Nat) : rdG pc nfm l = wrG pi pc nfm l := by
  unfold rdG wrG
  split
  · rfl
  · rename_i h0
    cases h : mapO pc (TL.spl [44, 32] 0 [] l) with
    | none => rfl
    | some ps =>
      have := read_iff P hn h h0
      show (if nfm ps = ps then some ps else none) = if wrJ ((nfm ps).map pi) = l then some (nfm ps) else none
      by_cases h1 : nfm ps = ps
      · rw [if_pos h1, if_pos (this.mp h1), h1]
      · rw [if_neg h1, if_neg fun h2 => h1 (this.mpr h2)]
end
def encO' {α : Type} (enc : α → D) : Option (List α) → D
  | none => .non
  | some ps => .tup (ps.map enc)
theorem split_blank {x : List Nat} (hl : x.length ≤ 1000000) : splitG (S x) (.str (S [32])) = .ok (.lst (strsOf (TL.spl [32] 0 [] x))) := split_ok (by simp) (by decide) (by omega)
theorem split_comma {x : List Nat} (hl : x.length ≤ 1000000) : splitG (S x) (.str (S [44, 32])) = .ok (.lst (strsOf (TL.spl [44, 32] 0 [] x))) := split_ok (by simp) (by decide) (by omega)
theorem split_slash {x : List Nat} (hl : x.length ≤ 1000000) : splitG (S x) (.str (S [47])) = .ok (.lst (strsOf (TL.spl [47] 0 [] x))) := split_ok (by simp) (by decide) (by omega)
theorem os_cases (os : List (Option Int)) : (os.any (·.isNone) = true ∨ os.length ≠ 2) ∧ pr2 os = none ∨ ∃ c s, os = [some c, some s] := by
  rcases os with _ | ⟨a, _ | ⟨b, _ | ⟨c, r⟩⟩⟩
  · exact .inl ⟨.inr (by simp), rfl⟩
  · exact .inl ⟨.inr (by simp), by cases a <;> rfl⟩
  · cases a with
    | none => exact .inl ⟨.inl (by simp), rfl⟩
    | some a =>
      cases b with
      | none => exact .inl ⟨.inl (by simp), rfl⟩
      | some b => exact .inr ⟨a, b, rfl⟩
  · exact .inl ⟨.inr (by simp), by cases a <;> cases b <;> rfl⟩
theorem read_polynomial_ok {l : List Nat} (hl : l.length ≤ 1000000) : d_read_polynomial [.str (S l)] = .ok (encO' encP (rdG pc1 (nf sortI) l)) := by
  unfold rdG
  by_cases h0 : l = [48]
  · rw [if_pos h0]
    subst h0
    simp [d_read_polynomial, fnDen, n_read_polynomial, b_read_polynomial, startE, dVarO, dVar]
    rfl
  · rw [if_neg h0]
    obtain ⟨hs1, hs2⟩ := spl_lens (sep := [44, 32]) (by simp) l
    have loop := forD_optN (tg := fun d Γ => .ok (Γ.set 2 (.sh d))) (body := (bCons (scSetLc 4 [(("word" : Str), 5)] (icSeq (ecF (fcSplit (ocVar 2) (ocE (ecStr (S [32])))))) (gcName 5) none (ecCall .f_whole_number (acCons (ecVar 5) acNil))) <|
      bCons (scIf (tcOr [(tcCmp lIn (ocE ecNon) (ocVar 4)), (tcCmp lNe (ocE (ecB "len" lLen (aoCons (ocVar 4) aoNil))) (ocE (ecInt 2)))]) (bCons (scRet ecNon) bNil) (bNil)) <|
      bCons (scApp 1 (ecTup (acCons (ecIx (ocVar 4) (ocE (ecInt 1))) (acCons (ecIx (ocVar 4) (ocE (ecInt 0))) acNil)))) bNil : BC (mkT t_read_polynomial)).den) (enc := fun p => D.str (S p)) (st := fun (acc : List (Int × Int)) (j : Sl × Sl) => [.sh (.str (S l)), .own (.lst (acc.map encP)), j.1, .no, j.2, .no]) (p := pc1) (r := .non) (N := 1000001) (TL.spl [44, 32] 0 [] l) [] (.no, .no) (by simp; omega) (fun x hx acc j hacc => by
        have hxl : x.length ≤ 1000000 := Nat.le_trans (hs2 x hx) hl
        obtain ⟨hw1, hw2⟩ := spl_lens (sep := [32]) (by simp) x
        refine ⟨[.sh (.str (S l)), .own (.lst (acc.map encP)), .sh (.str (S x)), .no, j.2, .no], rfl, ?_⟩
        have lc := lcGo_map (tg := (gcName 5 : GC (mkT t_read_polynomial)).den) (ct := denC (none : Option (TC (mkT t_read_polynomial)))) (el := (ecCall .f_whole_number (acCons (ecVar 5) acNil) : EC (mkT t_read_polynomial)).den) (vs := [5]) (Γ := [.sh (.str (S l)), .own (.lst (acc.map encP)), .sh (.str (S x)), .no, j.2, .no]) (enc := fun p => D.str (S p)) (out := fun w => encO (wn w)) (Γx := fun w => [.sh (.str (S l)), .own (.lst (acc.map encP)), .sh (.str (S x)), .no, j.2, .sh (.str (S w))]) (xs := TL.spl [32] 0 [] x) (fun w hw => by
          have h := whole_number_ok w (by have := hw2 w hw; omega)
          refine ⟨rfl, rfl, ?_⟩
          simp [dVar, t_read_polynomial, h])
        have hlc := denLc_ok (T := mkT t_read_polynomial) (it := icSeq (ecF (fcSplit (ocVar 2) (ocE (ecStr (S [32])))))) (tg := gcName 5) (ct := none) (el := ecCall .f_whole_number (acCons (ecVar 5) acNil)) (vs := [5]) (Γ := [.sh (.str (S l)), .own (.lst (acc.map encP)), .sh (.str (S x)), .no, j.2, .no]) (ds := strsOf (TL.spl [32] 0 [] x)) (by simp [dVarO, denM1, strR, split_blank hxl]) (by simp [strsOf]; omega) lc
        have e : (TL.spl [32] 0 [] x).map (fun w => encO (wn w)) = ((TL.spl [32] 0 [] x).map wn).map encO := by simp
        rw [e] at hlc
        unfold pc1
        generalize (TL.spl [32] 0 [] x).map wn = os at *
        have hacc2 : (acc.map encP).length < 16777216 := by rw [List.length_map]; omega
        rcases os_cases os with ⟨h1, h2⟩ | ⟨c, s, rfl⟩
        · rw [h2]
          show _ = SR.rt .non
          have hin := in_none os
          by_cases ha : os.any (·.isNone) = true
          · rw [ha] at hin
            simp [hlc, dVarO, dVar, hin]
          · have ha2 : os.any (·.isNone) = false := Bool.eq_false_iff.mpr ha
            rw [ha2] at hin
            have h1 : os.length ≠ 2 := by
              rcases h1 with h1 | h1
              · exact absurd h1 ha
              · exact h1
            have h1' : ¬ ((os.length : Nat) : Int) = 2 := by omega
            simp [hlc, dVarO, dVar, hin, h1']
        · have hin := in_none [some c, some s]
          have hacc3 : acc.length < 16777216 := by omega
          refine ⟨(.sh (.str (S x)), .own (.lst [.int c, .int s])), ?_⟩
          simp only [List.map_cons, List.map_nil, encO] at hin hlc
          simp [hlc, dVarO, dVar, hin, ixG, dApp, encP, hacc3])
    have e0 : (TL.spl [44, 32] 0 [] l).map (fun p => D.str (S p)) = strsOf (TL.spl [44, 32] 0 [] l) := rfl
    rw [e0] at loop
    cases hm : mapO pc1 (TL.spl [44, 32] 0 [] l) with
    | none =>
      rw [hm] at loop
      have loop : forD _ _ _ _ = SR.rt .non := loop
      simp only [List.map_nil] at loop
      simp [d_read_polynomial, fnDen, n_read_polynomial, b_read_polynomial, startE, dVarO, dVar, h0, denM1, strR, split_comma hl, loop]
      rfl
    | some ps =>
      rw [hm] at loop
      obtain ⟨j', loop⟩ := loop
      simp only [List.map_nil, List.nil_append] at loop
      have hpl : ps.length ≤ 16777216 := by
        rw [(mapO_all hm).1]
        omega
      have hp := polynomial_ok (d := .lst (ps.map encP)) encP_pair rfl hpl
      have he := eq_lst layP (xs := nf sortI ps) (ys := ps) (fun _ _ => trivial) (fun _ _ => trivial) false
      by_cases hn : nf sortI ps = ps
      · simp only [hn, if_pos]
        rw [hn] at hp he
        simp [d_read_polynomial, fnDen, n_read_polynomial, b_read_polynomial, startE, dVarO, dVar, h0, denM1, strR, split_comma hl, loop, dFrz, t_read_polynomial, hp, he, encO']
      · simp only [hn, if_neg, not_false_eq_true]
        simp [d_read_polynomial, fnDen, n_read_polynomial, b_read_polynomial, startE, dVarO, dVar, h0, denM1, strR, split_comma hl, loop, dFrz, t_read_polynomial, hp, he, hn, encO']
theorem read_sum_ok {l : List Nat} (hl : l.length ≤ 1000000) : d_read_sum [.str (S l)] = .ok (encO' encS (rdG pc2 (nf srtS) l)) := by
  unfold rdG
  by_cases h0 : l = [48]
  · rw [if_pos h0]
    subst h0
    simp [d_read_sum, fnDen, n_read_sum, b_read_sum, startE, dVarO, dVar]
    rfl
  · rw [if_neg h0]
    obtain ⟨hs1, hs2⟩ := spl_lens (sep := [44, 32]) (by simp) l
    have loop := forD_optN (tg := fun d Γ => .ok (Γ.set 2 (.sh d))) (body := (bCons (scSet 4 (ecF (fcSplit (ocVar 2) (ocE (ecStr (S [32])))))) <|
    bCons (scIf (tcOr [(tcCmp lNe (ocE (ecB "len" lLen (aoCons (ocVar 4) aoNil))) (ocE (ecInt 3))), (tcNot (tcTru (ocE (ecCall .f_is_row_name (acCons (ecIx (ocVar 4) (ocE (ecInt 1))) acNil)))))]) (bCons (scRet ecNon) bNil) (bNil)) <|
    bCons (scSet 5 (ecCall .f_whole_number (acCons (ecIx (ocVar 4) (ocE (ecInt 0))) acNil))) <|
    bCons (scSet 6 (ecCall .f_whole_number (acCons (ecIx (ocVar 4) (ocE (ecInt 2))) acNil))) <|
    bCons (scIf (tcOr [(tcCmp lIs (ocVar 5) (ocE ecNon)), (tcCmp lIs (ocVar 6) (ocE ecNon))]) (bCons (scRet ecNon) bNil) (bNil)) <|
    bCons (scApp 1 (ecTup (acCons (ecIx (ocVar 4) (ocE (ecInt 1))) (acCons (ecVar 6) (acCons (ecVar 5) acNil))))) bNil : BC (mkT t_read_sum)).den) (enc := fun p => D.str (S p)) (st := fun (acc : List (Spt × Int)) (j : Sl × Sl × Sl × Sl) => [.sh (.str (S l)), .own (.lst (acc.map encS)), j.1, .no, j.2.1, j.2.2.1, j.2.2.2]) (p := pc2) (r := .non) (N := 1000001) (TL.spl [44, 32] 0 [] l) [] (.no, .no, .no, .no) (by simp; omega) (fun x hx acc j hacc => by
        have hxl : x.length ≤ 1000000 := Nat.le_trans (hs2 x hx) hl
        obtain ⟨hw1, hw2⟩ := spl_lens (sep := [32]) (by simp) x
        refine ⟨[.sh (.str (S l)), .own (.lst (acc.map encS)), .sh (.str (S x)), .no, j.2.1, j.2.2.1, j.2.2.2], rfl, ?_⟩
        have hsp := split_blank hxl
        unfold pc2
        generalize TL.spl [32] 0 [] x = ws at *
        have hacc3 : acc.length < 16777216 := by omega
        rcases ws with _ | ⟨w0, _ | ⟨w1, _ | ⟨w2, _ | ⟨w3, r⟩⟩⟩⟩
        · simp [dVarO, dVar, denM1, strR, hsp, strsOf]
        · simp [dVarO, dVar, denM1, strR, hsp, strsOf]
        · simp [dVarO, dVar, denM1, strR, hsp, strsOf]
        · have hr := is_row_name_ok (l := w1) (Nat.le_trans (hw2 w1 (by simp)) hxl)
          have n0 := whole_number_ok w0 (by have := hw2 w0 (by simp); omega)
          have n2 := whole_number_ok w2 (by have := hw2 w2 (by simp); omega)
          cases hk : okN w1 with
          | false =>
            rw [hk] at hr
            simp [dVarO, dVar, denM1, strR, hsp, strsOf, ixG, t_read_sum, hr, hk]
          | true =>
            rw [hk] at hr
            cases h1 : wn w0 with
            | none =>
              rw [h1] at n0
              simp only [encO] at n0
              simp [dVarO, dVar, denM1, strR, hsp, strsOf, ixG, t_read_sum, hr, n0, n2, hk, h1]
            | some c =>
              cases h2 : wn w2 with
              | none =>
                rw [h1] at n0
                rw [h2] at n2
                simp only [encO] at n0 n2
                simp [dVarO, dVar, denM1, strR, hsp, strsOf, ixG, t_read_sum, hr, n0, n2, hk, h1, h2]
              | some s =>
                rw [h1] at n0
                rw [h2] at n2
                simp only [encO] at n0 n2
                simp only [hk, if_true, h1, h2]
                refine ⟨(.sh (.str (S x)), .sh (.lst (strsOf [w0, w1, w2])), .sh (.int c), .sh (.int s)), ?_⟩
                simp [dVarO, dVar, denM1, strR, hsp, strsOf, ixG, t_read_sum, hr, n0, n2, dApp, hacc3, encS]
        · have h3 : ¬ ((r.length : Int) + 1 + 1 + 1 + 1 = 3) := by omega
          simp [dVarO, dVar, denM1, strR, hsp, strsOf, h3])
    have e0 : (TL.spl [44, 32] 0 [] l).map (fun p => D.str (S p)) = strsOf (TL.spl [44, 32] 0 [] l) := rfl
    rw [e0] at loop
    cases hm : mapO pc2 (TL.spl [44, 32] 0 [] l) with
    | none =>
      rw [hm] at loop
      have loop : forD _ _ _ _ = SR.rt .non := loop
      simp only [List.map_nil] at loop
      simp [d_read_sum, fnDen, n_read_sum, b_read_sum, startE, dVarO, dVar, h0, denM1, strR, split_comma hl, loop]
      rfl
    | some ps =>
      rw [hm] at loop
      obtain ⟨j', loop⟩ := loop
      simp only [List.map_nil, List.nil_append] at loop
      have hpl : ps.length ≤ 16777216 := by
        rw [(mapO_all hm).1]
        omega
      have hok : ∀ p ∈ ps, rowOk p := (mapO_all hm).2 rowOk fun x _ y hy => pcS.good x y hy
      have hp := ordered_ok (d := .lst (ps.map encS)) encS_term rfl hpl
      have he := eq_lst layS (xs := nf srtS ps) (ys := ps) (nfS_ok ps hok) hok false
      by_cases hn : nf srtS ps = ps
      · simp only [hn, if_pos]
        rw [hn] at hp he
        simp [d_read_sum, fnDen, n_read_sum, b_read_sum, startE, dVarO, dVar, h0, denM1, strR, split_comma hl, loop, dFrz, t_read_sum, hp, he, encO']
      · simp only [hn, if_neg, not_false_eq_true]
        simp [d_read_sum, fnDen, n_read_sum, b_read_sum, startE, dVarO, dVar, h0, denM1, strR, split_comma hl, loop, dFrz, t_read_sum, hp, he, hn, encO']
end RJ

set_option Elab.async false
set_option linter.all false
set_option maxRecDepth 100000
set_option maxHeartbeats 1000000
set_option autoImplicit false
/-! RkK: what the law reads: polynomials and sums; far shifts. -/
namespace RJ
open PySem PySem.Spec L2
open SX (S)

theorem num_lt : ∀ (k n : Nat), (TL.numL n).length ≤ k → n < 10 ^ k
  | 0, n, h => by
    have := TL.numL_ne n
    have : (TL.numL n).length ≠ 0 := by simpa using this
    omega
  | k + 1, n, h => by
    by_cases h10 : n < 10
    · exact Nat.lt_of_lt_of_le h10 (by
        rw [Nat.pow_succ]
        have : 0 < 10 ^ k := Nat.pow_pos (by decide)
        omega)
    · rw [TL.numL_step (by omega), List.length_append, List.length_singleton] at h
      have := num_lt k (n / 10) (by omega)
      rw [Nat.pow_succ]
      omega
theorem numI_lt {n : Int} {k : Nat} (h : (numI n).length ≤ k) : n.natAbs < 10 ^ k := num_lt _ _ (Nat.le_trans (numL_numI n) h)
theorem wrJ_le {B : Nat} {ps : List (List Nat)} (h : ∀ p ∈ ps, p.length ≤ B) : (wrJ ps).length ≤ ps.length * (B + 2) + 1 := by
  by_cases hne : ps = []
  · subst hne
    simp [wrJ]
  · have h1 := wrJ_len hne
    have h2 : (ps.map List.length).sum ≤ ps.length * B := by
      clear h1 hne
      induction ps with
      | nil => simp
      | cons p r ih =>
        have h3 := h p List.mem_cons_self
        have h4 := ih fun q hq => h q (List.mem_cons_of_mem _ hq)
        rw [List.map_cons, List.sum_cons, List.length_cons, Nat.add_mul]
        omega
    rw [Nat.mul_add]
    omega
theorem big_le {n : Nat} {M : Nat} (hn : n < 10 ^ 4) (h : M ≤ n * 10 ^ 4200) : M < 10 ^ 4204 := by
  refine Nat.lt_of_le_of_lt h ?_
  rw [show (4204 : Nat) = 4 + 4200 from rfl, Nat.pow_add]
  exact Nat.mul_lt_mul_of_pos_right hn (Nat.pow_pos (by decide))
theorem pow_4300 {M k : Nat} (hk : k ≤ 4300) (h : M < 10 ^ k) : M < 10 ^ 4300 := Nat.lt_of_lt_of_le h (Nat.pow_le_pow_right (by decide) hk)
theorem few_pieces {α : Type} {pi : α → List Nat} {pc : List Nat → Option α} {ok : α → Prop} (P : Pc pi pc ok) (h3 : ∀ x, 3 ≤ (pi x).length) {l : List Nat} (hl : l.length ≤ 4200) {ps : List α} (h : mapO pc (TL.spl [44, 32] 0 [] l) = some ps) : ps.length ≤ 841 ∧ ∀ p ∈ ps, (pi p).length ≤ 4200 := by
  obtain ⟨h1, h2⟩ := wr_pieces P h
  have hne : ps.map pi ≠ [] := by simpa using h1
  have e := wrJ_len hne
  rw [h2, List.length_map] at e
  refine ⟨?_, fun p hp => ?_⟩
  · have : 3 * ps.length ≤ ((ps.map pi).map List.length).sum := by
      clear e hne h2 h1 h
      induction ps with
      | nil => simp
      | cons p r ih =>
        have := h3 p
        simp only [List.map_cons, List.sum_cons, List.length_cons]
        omega
    omega
  · have := wrJ_mem (List.mem_map.mpr ⟨p, hp, rfl⟩ : pi p ∈ ps.map pi)
    rw [h2] at this
    omega
theorem piP_3 (x : Int × Int) : 3 ≤ (piP x).length := by
  have h1 : (numI x.1).length ≠ 0 := by simpa using numI_ne x.1
  have h2 : (numI x.2).length ≠ 0 := by simpa using numI_ne x.2
  unfold piP
  simp only [List.length_append, List.length_singleton]
  omega
theorem piS_3 (x : Spt × Int) : 3 ≤ (piS x).length := by
  have h1 : (numI x.1.2).length ≠ 0 := by simpa using numI_ne x.1.2
  have h2 : (numI x.2).length ≠ 0 := by simpa using numI_ne x.2
  unfold piS
  simp only [List.length_append, List.length_singleton]
  omega
theorem nfP_bds {l : List Nat} (hl : l.length ≤ 4200) {ps : List (Int × Int)} (h : mapO pc1 (TL.spl [44, 32] 0 [] l) = some ps) : (nf sortI ps).length ≤ 841 ∧ (wrP (nf sortI ps)).length ≤ 16000000 ∧ ∀ p ∈ nf sortI ps, p.1.natAbs < 10 ^ 4300 ∧ p.2.natAbs < 10 ^ 4300 := by
  obtain ⟨h1, h2⟩ := few_pieces pcP piP_3 hl h
  have h3 : ∀ p ∈ ps, (numI p.1).length ≤ 4200 ∧ (numI p.2).length ≤ 4200 := fun p hp => by
    have := h2 p hp
    unfold piP at this
    simp only [List.length_append, List.length_singleton] at this
    omega
  have hb := nf_bd srtI (M := 10 ^ 4200) (ps := ps) fun p hp => Nat.le_of_lt (numI_lt (h3 p hp).2)
  have hlen := nf_len srtI ps
  have h4 : ∀ p ∈ nf sortI ps, (numI p.1).length ≤ 4200 ∧ p.1.natAbs < 10 ^ 4200 ∧ p.2.natAbs < 10 ^ 4204 := fun p hp => by
    obtain ⟨q, hq, e⟩ := List.mem_map.mp (nf_mem srtI hp).1
    have := (h3 q hq).1
    rw [e] at this
    exact ⟨this, numI_lt this, big_le (n := ps.length) (by omega) (hb p hp)⟩
  refine ⟨by omega, ?_, fun p hp => ⟨pow_4300 (by decide) (h4 p hp).2.1, pow_4300 (by decide) (h4 p hp).2.2⟩⟩
  have := wrJ_le (B := 8406) (ps := (nf sortI ps).map piP) (by
    intro q hq
    obtain ⟨p, hp, e⟩ := List.mem_map.mp hq
    subst e
    have h5 := (h4 p hp).1
    have h6 := numI_len (by decide) (h4 p hp).2.2
    unfold piP
    simp only [List.length_append, List.length_singleton]
    omega)
  rw [List.length_map] at this
  show (wrJ ((nf sortI ps).map piP)).length ≤ _
  have h7 : (nf sortI ps).length * (8406 + 2) ≤ 841 * (8406 + 2) := Nat.mul_le_mul_right _ (by omega)
  omega
theorem nfS_bds {l : List Nat} (hl : l.length ≤ 4200) {ps : List (Spt × Int)} (h : mapO pc2 (TL.spl [44, 32] 0 [] l) = some ps) : (nf srtS ps).length ≤ 841 ∧ (wrS (nf srtS ps)).length ≤ 16000000 ∧ ∀ p ∈ nf srtS ps, p.1.2.natAbs < 10 ^ 4300 ∧ p.2.natAbs < 10 ^ 4300 := by
  obtain ⟨h1, h2⟩ := few_pieces pcS piS_3 hl h
  have h3 : ∀ p ∈ ps, (numI p.1.2).length + p.1.1.length ≤ 4200 ∧ (numI p.2).length ≤ 4200 := fun p hp => by
    have := h2 p hp
    unfold piS at this
    simp only [List.length_append, List.length_singleton] at this
    omega
  have hb := nf_bd srtSS (M := 10 ^ 4200) (ps := ps) fun p hp => Nat.le_of_lt (numI_lt (h3 p hp).2)
  have hlen := nf_len srtSS ps
  have h4 : ∀ p ∈ nf srtS ps, (numI p.1.2).length + p.1.1.length ≤ 4200 ∧ p.1.2.natAbs < 10 ^ 4200 ∧ p.2.natAbs < 10 ^ 4204 := fun p hp => by
    obtain ⟨q, hq, e⟩ := List.mem_map.mp (nf_mem srtSS hp).1
    have := (h3 q hq).1
    rw [e] at this
    exact ⟨this, numI_lt (k := 4200) (by omega), big_le (n := ps.length) (by omega) (hb p hp)⟩
  refine ⟨by omega, ?_, fun p hp => ⟨pow_4300 (by decide) (h4 p hp).2.1, pow_4300 (by decide) (h4 p hp).2.2⟩⟩
  have := wrJ_le (B := 8407) (ps := (nf srtS ps).map piS) (by
    intro q hq
    obtain ⟨p, hp, e⟩ := List.mem_map.mp hq
    subst e
    have h5 := (h4 p hp).1
    have h6 := numI_len (by decide) (h4 p hp).2.2
    unfold piS
    simp only [List.length_append, List.length_singleton]
    omega)
  rw [List.length_map] at this
  show (wrJ ((nf srtS ps).map piS)).length ≤ _
  have h7 : (nf srtS ps).length * (8407 + 2) ≤ 841 * (8407 + 2) := Nat.mul_le_mul_right _ (by omega)
  omega
@[simp] theorem atI_m2 {α : Type} (a b : α) : atI [a, b] (-1) = some b := rfl
@[simp] theorem atI_m3 {α : Type} (a b c : α) : atI [a, b, c] (-1) = some c := rfl
theorem cut_kind1 (a b c : D) : slG (.tup [a, b, c]) (some 1) none = .ok (.tup [b, c]) := rfl
theorem cut_kind2 (a b c : D) : slG (.tup [a, b, c]) (some 0) none = .ok (.tup [a, b, c]) := rfl
theorem law_written1_ok {l : List Nat} (hl : l.length ≤ 4200) : d_law_written [.int 1, .str (S l)] = .ok (encO' encP (wrG piP pc1 (nf sortI) l)) := by
  unfold wrG
  by_cases h0 : l = [48]
  · rw [if_pos h0]
    subst h0
    have hw := law_write1_ok (ps := []) (by simp) (by decide) (by simp)
    have e : wrP [] = [48] := rfl
    rw [e] at hw
    simp only [List.map_nil] at hw
    simp [d_law_written, fnDen, n_law_written, b_law_written, startE, dVarO, dVar, t_law_written, hw]
    rfl
  · rw [if_neg h0]
    obtain ⟨hs1, hs2⟩ := spl_lens (sep := [44, 32]) (by simp) l
    have loop := forD_optN (tg := fun d Γ => .ok (Γ.set 7 (.sh d))) (body := (bCons (scSet 2 (ecF (fcSplit (ocVar 7) (ocE (ecStr (S [32])))))) <|
        bCons (scIf (tcCmp lNe (ocE (ecB "len" lLen (aoCons (ocVar 2) aoNil))) (ocE (ecBin lAdd (ocVar 0) (ocE (ecInt 1))))) (bCons (scRet ecNon) bNil) (bNil)) <|
        bCons (scSet 8 (ecCall .f_law_number (acCons (ecIx (ocVar 2) (ocE (ecInt 0))) acNil))) <|
        bCons (scSet 9 (ecCall .f_law_number (acCons (ecIx (ocVar 2) (ocE (ecNeg (ocE (ecInt 1))))) acNil))) <|
        bCons (scIf (tcOr [(tcCmp lIs (ocVar 8) (ocE ecNon)), (tcCmp lIs (ocVar 9) (ocE ecNon))]) (bCons (scRet ecNon) bNil) (bNil)) <|
        bCons (scIf (tcAnd [(tcCmp lEq (ocVar 0) (ocE (ecInt 2))), (tcNot (tcTru (ocE (ecCall .f_law_is_name (acCons (ecIx (ocVar 2) (ocE (ecInt 1))) acNil)))))]) (bCons (scRet ecNon) bNil) (bNil)) <|
        bCons (scApp 6 (ecSl (ocE (ecTup (acCons (ecIx (ocVar 2) (ocE (ecInt 1))) (acCons (ecVar 9) (acCons (ecVar 8) acNil))))) (some (ocE (ecBin lSub (ocE (ecInt 2)) (ocVar 0)))) none)) bNil : BC (mkT t_law_written)).den) (enc := fun p => D.str (S p)) (st := fun (acc : List (Int × Int)) (j : Sl × Sl × Sl × Sl) => [.sh (.int 1), .sh (.str (S l)), j.1, .no, .no, .no, .own (.lst (acc.map encP)), j.2.1, j.2.2.1, j.2.2.2]) (p := pc1) (r := .non) (N := 1000001) (TL.spl [44, 32] 0 [] l) [] (.no, .no, .no, .no) (by simp; omega) (fun x hx acc j hacc => by
        have hxl : x.length ≤ 1000000 := by
          have := hs2 x hx
          omega
        obtain ⟨hw1, hw2⟩ := spl_lens (sep := [32]) (by simp) x
        refine ⟨[.sh (.int 1), .sh (.str (S l)), j.1, .no, .no, .no, .own (.lst (acc.map encP)), .sh (.str (S x)), j.2.2.1, j.2.2.2], rfl, ?_⟩
        have hsp := split_blank hxl
        unfold pc1
        generalize TL.spl [32] 0 [] x = ws at *
        have hacc3 : acc.length < 16777216 := by omega
        rcases ws with _ | ⟨w0, _ | ⟨w1, _ | ⟨w2, r⟩⟩⟩
        · simp [dVarO, dVar, denM1, strR, hsp, strsOf, pr2]
        · have e : pr2 [wn w0] = none := by cases wn w0 <;> rfl
          simp [dVarO, dVar, denM1, strR, hsp, strsOf, e]
        · have n0 := law_number_ok w0 (by have := hw2 w0 (by simp); omega)
          have n2 := law_number_ok w1 (by have := hw2 w1 (by simp); omega)
          cases h1 : wn w0 with
          | none =>
            rw [h1] at n0
            simp only [encO] at n0
            simp [dVarO, dVar, denM1, strR, hsp, strsOf, ixG, t_law_written, n0, n2, pr2, h1]
          | some c =>
            cases h2 : wn w1 with
            | none =>
              rw [h1] at n0
              rw [h2] at n2
              simp only [encO] at n0 n2
              simp [dVarO, dVar, denM1, strR, hsp, strsOf, ixG, t_law_written, n0, n2, pr2, h1, h2]
            | some s =>
              rw [h1] at n0
              rw [h2] at n2
              simp only [encO] at n0 n2
              simp only [List.map_cons, List.map_nil, h1, h2, pr2]
              refine ⟨(.sh (.lst (strsOf [w0, w1])), .sh (.str (S x)), .sh (.int c), .sh (.int s)), ?_⟩
              simp [dVarO, dVar, denM1, strR, hsp, strsOf, ixG, t_law_written, n0, n2, cut_kind1, dApp, hacc3, encP]
        · have e : pr2 (wn w0 :: wn w1 :: wn w2 :: r.map wn) = none := by cases wn w0 <;> cases wn w1 <;> rfl
          have h3 : ¬ ((r.length : Int) + 1 + 1 + 1 = 1 + 1) := by omega
          simp [dVarO, dVar, denM1, strR, hsp, strsOf, e]
          rw [if_neg (by omega)]
          rfl)
    have e0 : (TL.spl [44, 32] 0 [] l).map (fun p => D.str (S p)) = strsOf (TL.spl [44, 32] 0 [] l) := rfl
    rw [e0] at loop
    cases hm : mapO pc1 (TL.spl [44, 32] 0 [] l) with
    | none =>
      rw [hm] at loop
      have loop : forD _ _ _ _ = SR.rt .non := loop
      simp only [List.map_nil] at loop
      simp [d_law_written, fnDen, n_law_written, b_law_written, startE, dVarO, dVar, h0, denM1, strR, split_comma (Nat.le_trans hl (by decide)), loop]
      rfl
    | some ps =>
      rw [hm] at loop
      obtain ⟨j', loop⟩ := loop
      simp only [List.map_nil, List.nil_append] at loop
      have hpl : ps.length ≤ 16777216 := by
        rw [(mapO_all hm).1]
        omega
      obtain ⟨b1, b2, b3⟩ := nfP_bds hl hm
      have hp := law_poly_ok (d := .lst (ps.map encP)) encP_pair rfl hpl
      have hq := law_pairs_ok (nf_nml srtI ps) (Nat.le_trans b1 (by decide))
      have hw := law_write1_ok (Nat.le_trans b1 (by decide)) b2 b3
      by_cases hn : wrP (nf sortI ps) = l
      · have hn' : wrJ ((nf sortI ps).map piP) = l := hn
        simp only [hn', if_pos]
        rw [hn] at hw
        simp [d_law_written, fnDen, n_law_written, b_law_written, startE, dVarO, dVar, h0, denM1, strR, split_comma (Nat.le_trans hl (by decide)), loop, dFrz, t_law_written, hp, hq, hw, encO']
      · have hn' : ¬ wrJ ((nf sortI ps).map piP) = l := hn
        simp only [hn', if_neg, not_false_eq_true]
        have hn2 : ¬ S (wrP (nf sortI ps)) = S l := fun e => hn (SX.S_inj e)
        simp [d_law_written, fnDen, n_law_written, b_law_written, startE, dVarO, dVar, h0, denM1, strR, split_comma (Nat.le_trans hl (by decide)), loop, dFrz, t_law_written, hp, hq, hw, hn2, encO']
theorem law_written2_ok {l : List Nat} (hl : l.length ≤ 4200) : d_law_written [.int 2, .str (S l)] = .ok (encO' encS (wrG piS pc2 (nf srtS) l)) := by
  unfold wrG
  by_cases h0 : l = [48]
  · rw [if_pos h0]
    subst h0
    have hw := law_write2_ok (ps := []) (by simp) (by decide) (by simp)
    have e : wrS [] = [48] := rfl
    rw [e] at hw
    simp only [List.map_nil] at hw
    simp [d_law_written, fnDen, n_law_written, b_law_written, startE, dVarO, dVar, t_law_written, hw]
    rfl
  · rw [if_neg h0]
    obtain ⟨hs1, hs2⟩ := spl_lens (sep := [44, 32]) (by simp) l
    have loop := forD_optN (tg := fun d Γ => .ok (Γ.set 7 (.sh d))) (body := (bCons (scSet 2 (ecF (fcSplit (ocVar 7) (ocE (ecStr (S [32])))))) <|
        bCons (scIf (tcCmp lNe (ocE (ecB "len" lLen (aoCons (ocVar 2) aoNil))) (ocE (ecBin lAdd (ocVar 0) (ocE (ecInt 1))))) (bCons (scRet ecNon) bNil) (bNil)) <|
        bCons (scSet 8 (ecCall .f_law_number (acCons (ecIx (ocVar 2) (ocE (ecInt 0))) acNil))) <|
        bCons (scSet 9 (ecCall .f_law_number (acCons (ecIx (ocVar 2) (ocE (ecNeg (ocE (ecInt 1))))) acNil))) <|
        bCons (scIf (tcOr [(tcCmp lIs (ocVar 8) (ocE ecNon)), (tcCmp lIs (ocVar 9) (ocE ecNon))]) (bCons (scRet ecNon) bNil) (bNil)) <|
        bCons (scIf (tcAnd [(tcCmp lEq (ocVar 0) (ocE (ecInt 2))), (tcNot (tcTru (ocE (ecCall .f_law_is_name (acCons (ecIx (ocVar 2) (ocE (ecInt 1))) acNil)))))]) (bCons (scRet ecNon) bNil) (bNil)) <|
        bCons (scApp 6 (ecSl (ocE (ecTup (acCons (ecIx (ocVar 2) (ocE (ecInt 1))) (acCons (ecVar 9) (acCons (ecVar 8) acNil))))) (some (ocE (ecBin lSub (ocE (ecInt 2)) (ocVar 0)))) none)) bNil : BC (mkT t_law_written)).den) (enc := fun p => D.str (S p)) (st := fun (acc : List (Spt × Int)) (j : Sl × Sl × Sl × Sl) => [.sh (.int 2), .sh (.str (S l)), j.1, .no, .no, .no, .own (.lst (acc.map encS)), j.2.1, j.2.2.1, j.2.2.2]) (p := pc2) (r := .non) (N := 1000001) (TL.spl [44, 32] 0 [] l) [] (.no, .no, .no, .no) (by simp; omega) (fun x hx acc j hacc => by
        have hxl : x.length ≤ 1000000 := by
          have := hs2 x hx
          omega
        obtain ⟨hw1, hw2⟩ := spl_lens (sep := [32]) (by simp) x
        refine ⟨[.sh (.int 2), .sh (.str (S l)), j.1, .no, .no, .no, .own (.lst (acc.map encS)), .sh (.str (S x)), j.2.2.1, j.2.2.2], rfl, ?_⟩
        have hsp := split_blank hxl
        unfold pc2
        generalize TL.spl [32] 0 [] x = ws at *
        have hacc3 : acc.length < 16777216 := by omega
        rcases ws with _ | ⟨w0, _ | ⟨w1, _ | ⟨w2, _ | ⟨w3, r⟩⟩⟩⟩
        · simp [dVarO, dVar, denM1, strR, hsp, strsOf]
        · simp [dVarO, dVar, denM1, strR, hsp, strsOf]
        · simp [dVarO, dVar, denM1, strR, hsp, strsOf]
        · have hr := law_is_name_ok (l := w1) (Nat.le_trans (hw2 w1 (by simp)) hxl)
          have n0 := law_number_ok w0 (by have := hw2 w0 (by simp); omega)
          have n2 := law_number_ok w2 (by have := hw2 w2 (by simp); omega)
          cases h1 : wn w0 with
          | none =>
            rw [h1] at n0
            simp only [encO] at n0
            cases hk : okN w1 <;> simp [dVarO, dVar, denM1, strR, hsp, strsOf, ixG, t_law_written, n0, n2, h1, hk]
          | some c =>
            cases h2 : wn w2 with
            | none =>
              rw [h1] at n0
              rw [h2] at n2
              simp only [encO] at n0 n2
              cases hk : okN w1 <;> simp [dVarO, dVar, denM1, strR, hsp, strsOf, ixG, t_law_written, n0, n2, h1, h2, hk]
            | some s =>
              rw [h1] at n0
              rw [h2] at n2
              simp only [encO] at n0 n2
              cases hk : okN w1 with
              | false =>
                rw [hk] at hr
                simp [dVarO, dVar, denM1, strR, hsp, strsOf, ixG, t_law_written, n0, n2, h1, h2, hk, hr]
              | true =>
                rw [hk] at hr
                simp only [hk, if_true, h1, h2]
                refine ⟨(.sh (.lst (strsOf [w0, w1, w2])), .sh (.str (S x)), .sh (.int c), .sh (.int s)), ?_⟩
                simp [dVarO, dVar, denM1, strR, hsp, strsOf, ixG, t_law_written, n0, n2, hr, cut_kind2, dApp, hacc3, encS]
        · simp [dVarO, dVar, denM1, strR, hsp, strsOf]
          rw [if_neg (by omega)]
          rfl)
    have e0 : (TL.spl [44, 32] 0 [] l).map (fun p => D.str (S p)) = strsOf (TL.spl [44, 32] 0 [] l) := rfl
    rw [e0] at loop
    cases hm : mapO pc2 (TL.spl [44, 32] 0 [] l) with
    | none =>
      rw [hm] at loop
      have loop : forD _ _ _ _ = SR.rt .non := loop
      simp only [List.map_nil] at loop
      simp [d_law_written, fnDen, n_law_written, b_law_written, startE, dVarO, dVar, h0, denM1, strR, split_comma (Nat.le_trans hl (by decide)), loop]
      rfl
    | some ps =>
      rw [hm] at loop
      obtain ⟨j', loop⟩ := loop
      simp only [List.map_nil, List.nil_append] at loop
      have hpl : ps.length ≤ 16777216 := by
        rw [(mapO_all hm).1]
        omega
      obtain ⟨b1, b2, b3⟩ := nfS_bds hl hm
      have hp := law_sum_ok (d := .lst (ps.map encS)) encS_term rfl hpl
      have hq := law_terms_ok (nf_nml srtSS ps) (Nat.le_trans b1 (by decide))
      have hw := law_write2_ok (Nat.le_trans b1 (by decide)) b2 b3
      by_cases hn : wrS (nf srtS ps) = l
      · have hn' : wrJ ((nf srtS ps).map piS) = l := hn
        simp only [hn', if_pos]
        rw [hn] at hw
        simp [d_law_written, fnDen, n_law_written, b_law_written, startE, dVarO, dVar, h0, denM1, strR, split_comma (Nat.le_trans hl (by decide)), loop, dFrz, t_law_written, hp, hq, hw, encO']
      · have hn' : ¬ wrJ ((nf srtS ps).map piS) = l := hn
        simp only [hn', if_neg, not_false_eq_true]
        have hn2 : ¬ S (wrS (nf srtS ps)) = S l := fun e => hn (SX.S_inj e)
        simp [d_law_written, fnDen, n_law_written, b_law_written, startE, dVarO, dVar, h0, denM1, strR, split_comma (Nat.le_trans hl (by decide)), loop, dFrz, t_law_written, hp, hq, hw, hn2, encO']
end RJ

set_option Elab.async false
set_option linter.all false
set_option maxRecDepth 100000
set_option maxHeartbeats 1000000
set_option autoImplicit false
/-! RkL: fractions read; far shifts; a text is treated as it should. -/
namespace RJ
open PySem PySem.Spec L2
open SX (S)

theorem ten_two {n k : Nat} (h : n < 10 ^ k) : n < 2 ^ (4 * k) := Nat.lt_of_lt_of_le h (by
  rw [Nat.pow_mul]
  exact Nat.pow_le_pow_left (by decide) k)
def fr2 (os : List (Option Int)) : Option (Int × Int) := match os with
  | [some a] => some (a, 1)
  | [some a, some b] => if 2 ≤ b ∧ ratM a b = (a, b) then some (a, b) else none
  | _ => none
def rdF (l : List Nat) : Option (Int × Int) := fr2 ((TL.spl [47] 0 [] l).map wn)
def fr3 (l : List Nat) (os : List (Option Int)) : Option (Int × Int) := match os with
  | [some a] => if wrF (ratM a 1) = l then some (ratM a 1) else none
  | [some a, some b] => if 1 ≤ b then (if wrF (ratM a b) = l then some (ratM a b) else none) else none
  | _ => none
def wtF (l : List Nat) : Option (Int × Int) := fr3 l ((TL.spl [47] 0 [] l).map wn)
theorem rat_1 (a : Int) : ratM a 1 = (a, 1) := ratM_unique (by decide) (by decide) (by simp) (by simp)
theorem rdF_wtF (l : List Nat) : rdF l = wtF l := by
  unfold rdF wtF
  have hj := join_spl (sep := [47]) (by simp) l.length [] l (Nat.le_refl _)
  rw [List.nil_append] at hj
  generalize TL.spl [47] 0 [] l = ws at *
  rcases ws with _ | ⟨w0, _ | ⟨w1, _ | ⟨w2, r⟩⟩⟩
  · rfl
  · cases h : wn w0 with
    | none => simp [fr2, fr3, h]
    | some a =>
      have e := num_wn h
      have hj : w0 = l := hj
      have : wrF (a, 1) = l := by
        rw [← hj, e]
        rfl
      simp [fr2, fr3, h, rat_1, this]
  · cases h : wn w0 with
    | none => simp [fr2, fr3, h]
    | some a =>
      cases h2 : wn w1 with
      | none => simp [fr2, fr3, h, h2]
      | some b =>
        have e := num_wn h
        have e2 := num_wn h2
        subst e
        subst e2
        rw [joinL_cons2] at hj
        have hj : numI a ++ [47] ++ numI b = l := hj
        have h47 : (47 : Nat) ∈ l := by
          rw [← hj]
          simp
        simp only [List.map_cons, List.map_nil, h, h2, fr2, fr3]
        by_cases hb : 1 ≤ b
        · rw [if_pos hb]
          by_cases hy : (ratM a b).2 = 1
          · have e3 : ¬ wrF (ratM a b) = l := fun e => by
              unfold wrF at e
              rw [if_pos hy] at e
              rw [← e] at h47
              exact numI_free _ (by decide) h47
            rw [if_neg e3, if_neg]
            rintro ⟨h1, h2⟩
            rw [h2] at hy
            have hy : b = 1 := hy
            omega
          · have key : wrF (ratM a b) = l ↔ ratM a b = (a, b) := by
              unfold wrF
              rw [if_neg hy, ← hj]
              constructor
              · intro e
                have s1 : TL.spl [47] 0 [] (numI (ratM a b).1 ++ [47] ++ numI (ratM a b).2) = [numI (ratM a b).1, numI (ratM a b).2] := by
                  have e : numI (ratM a b).1 ++ [47] ++ numI (ratM a b).2 = TL.joinL [47] [numI (ratM a b).1, numI (ratM a b).2] := by rw [joinL_cons2]; rfl
                  rw [e, SX.spl_join (by simp) (by
                    intro p hp
                    simp only [List.mem_cons, List.not_mem_nil, or_false] at hp
                    rcases hp with e | e <;> subst e <;> exact numI_free _ (by decide))]
                have s2 : TL.spl [47] 0 [] (numI a ++ [47] ++ numI b) = [numI a, numI b] := by
                  have e : numI a ++ [47] ++ numI b = TL.joinL [47] [numI a, numI b] := by rw [joinL_cons2]; rfl
                  rw [e, SX.spl_join (by simp) (by
                    intro p hp
                    simp only [List.mem_cons, List.not_mem_nil, or_false] at hp
                    rcases hp with e | e <;> subst e <;> exact numI_free _ (by decide))]
                rw [e, s2] at s1
                obtain ⟨q1, q2⟩ := List.cons.inj s1
                have q2 := (List.cons.inj q2).1
                exact Prod.ext (numI_inj q1).symm (numI_inj q2).symm
              · intro e
                rw [e]
            by_cases hk : ratM a b = (a, b)
            · have hb2 : 2 ≤ b := by
                rw [hk] at hy
                have hy : ¬ b = 1 := hy
                omega
              rw [if_pos ⟨hb2, hk⟩, if_pos (key.mpr hk), hk]
            · rw [if_neg fun h => hk h.2, if_neg fun h => hk (key.mp h)]
        · rw [if_neg hb, if_neg fun h => hb (by omega)]
  · cases h : wn w0 <;> cases h2 : wn w1 <;> simp [fr2, fr3, h, h2]
def encOF : Option (Int × Int) → D
  | none => .non
  | some f => encF f
theorem two_len {l w0 w1 : List Nat} (h : TL.spl [47] 0 [] l = [w0, w1]) : w0.length + w1.length ≤ l.length := by
  have hj := join_spl (sep := [47]) (by simp) l.length [] l (Nat.le_refl _)
  rw [List.nil_append, h, joinL_cons2] at hj
  have hj : w0 ++ [47] ++ w1 = l := hj
  rw [← hj, List.length_append, List.length_append]
  omega
theorem frac_bits {a b : Int} {w0 w1 : List Nat} {N : Nat} (h0 : wn w0 = some a) (h1 : wn w1 = some b) (hl : w0.length + w1.length ≤ N) : a.natAbs < 2 ^ (4 * w0.length) ∧ b.natAbs < 2 ^ (4 * w1.length) ∧ 4 * w0.length + 4 * w1.length ≤ 4 * N := by
  have e0 := num_wn h0
  have e1 := num_wn h1
  exact ⟨ten_two (numI_lt (by rw [e0]; exact Nat.le_refl _)), ten_two (numI_lt (by rw [e1]; exact Nat.le_refl _)), by omega⟩
theorem eq_f (f g : Int × Int) (n : Bool) : eqG n (encF f) (encF g) = .ok (.bl (if n then !decide (f = g) else decide (f = g))) := eq_one layF (fun x s h => by cases h) trivial trivial n
theorem read_fraction_ok {l : List Nat} (hl : l.length ≤ 5000) : d_read_fraction [.str (S l)] = .ok (encOF (rdF l)) := by
  obtain ⟨hs1, hs2⟩ := spl_lens (sep := [47]) (by simp) l
  have hsp := split_slash (x := l) (by omega)
  have lc := lcGo_map (tg := (gcName 2 : GC (mkT t_read_fraction)).den) (ct := denC (none : Option (TC (mkT t_read_fraction)))) (el := (ecCall .f_whole_number (acCons (ecVar 2) acNil) : EC (mkT t_read_fraction)).den) (vs := [2]) (Γ := [.sh (.str (S l)), .no, .no]) (enc := fun p => D.str (S p)) (out := fun w => encO (wn w)) (Γx := fun w => [.sh (.str (S l)), .no, .sh (.str (S w))]) (xs := TL.spl [47] 0 [] l) (fun w hw => by
    have h := whole_number_ok w (by have := hs2 w hw; omega)
    refine ⟨rfl, rfl, ?_⟩
    simp [dVar, t_read_fraction, h])
  have hlc := denLc_ok (T := mkT t_read_fraction) (it := icSeq (ecF (fcSplit (ocVar 0) (ocE (ecStr (S [47])))))) (tg := gcName 2) (ct := none) (el := ecCall .f_whole_number (acCons (ecVar 2) acNil)) (vs := [2]) (Γ := [.sh (.str (S l)), .no, .no]) (ds := strsOf (TL.spl [47] 0 [] l)) (by simp [dVarO, denM1, strR, hsp]) (by simp [strsOf]; omega) lc
  have e : (TL.spl [47] 0 [] l).map (fun w => encO (wn w)) = ((TL.spl [47] 0 [] l).map wn).map encO := by simp
  rw [e] at hlc
  unfold rdF
  have hin := in_none ((TL.spl [47] 0 [] l).map wn)
  cases h0 : TL.spl [47] 0 [] l with
  | nil => exact absurd h0 (spl_ne _ _ _ _)
  | cons w0 r =>
    rw [h0] at hlc hin
    cases r with
    | nil =>
      cases h1 : wn w0 with
      | none =>
        simp only [List.map_cons, List.map_nil, h1, encO] at hlc hin
        simp [d_read_fraction, fnDen, n_read_fraction, b_read_fraction, startE, dVarO, dVar, hlc, hin, fr2, h1, encOF]
      | some a =>
        simp only [List.map_cons, List.map_nil, h1, encO] at hlc hin
        simp [d_read_fraction, fnDen, n_read_fraction, b_read_fraction, startE, dVarO, dVar, hlc, hin, fr2, h1, encOF, encF, ixG]
    | cons w1 r =>
      cases r with
      | nil =>
        have hln := two_len h0
        cases h1 : wn w0 with
        | none =>
          simp only [List.map_cons, List.map_nil, h1, encO] at hlc hin
          simp [d_read_fraction, fnDen, n_read_fraction, b_read_fraction, startE, dVarO, dVar, hlc, hin, fr2, h1, encOF]
        | some a =>
          cases h2 : wn w1 with
          | none =>
            simp only [List.map_cons, List.map_nil, h1, h2, encO] at hlc hin
            simp [d_read_fraction, fnDen, n_read_fraction, b_read_fraction, startE, dVarO, dVar, hlc, hin, fr2, h1, h2, encOF]
          | some b =>
            simp only [List.map_cons, List.map_nil, h1, h2, encO] at hlc hin
            by_cases hb : b < 2
            · have hb2 : ¬ 2 ≤ b := by omega
              simp [d_read_fraction, fnDen, n_read_fraction, b_read_fraction, startE, dVarO, dVar, hlc, hin, fr2, h1, h2, encOF, ixG, dFrz, hb, hb2]
            · obtain ⟨b1, b2, b3⟩ := frac_bits h1 h2 (Nat.le_trans hln hl)
              have hf := fraction_ok (d := .lst [.int a, .int b]) (a := a) (b := b) rfl b1 b2 (by omega) (by omega)
              have he := eq_f (ratM a b) (a, b) true
              have e3 : encF (a, b) = .tup [.int a, .int b] := rfl
              rw [e3] at he
              have hb2 : 2 ≤ b := by omega
              by_cases hk : ratM a b = (a, b)
              · rw [hk, e3] at hf he
                simp [d_read_fraction, fnDen, n_read_fraction, b_read_fraction, startE, dVarO, dVar, hlc, hin, fr2, h1, h2, encOF, ixG, dFrz, hb, hb2, t_read_fraction, hf, he, hk, e3]
              · simp [d_read_fraction, fnDen, n_read_fraction, b_read_fraction, startE, dVarO, dVar, hlc, hin, fr2, h1, h2, encOF, ixG, dFrz, hb, hb2, t_read_fraction, hf, he, hk, e3]
      | cons w2 r =>
        have e4 : fr2 (wn w0 :: wn w1 :: wn w2 :: r.map wn) = none := by cases wn w0 <;> cases wn w1 <;> rfl
        have hlen : (2 : Int) < (r.length : Int) + 1 + 1 + 1 := by omega
        simp only [List.map_cons, List.map_map] at hlc hin
        by_cases ha : ((wn w0 :: wn w1 :: wn w2 :: r.map wn).any (·.isNone)) = true
        · rw [ha] at hin
          simp [d_read_fraction, fnDen, n_read_fraction, b_read_fraction, startE, dVarO, dVar, hlc, hin, e4, encOF]
        · have ha2 := Bool.eq_false_iff.mpr ha
          rw [ha2] at hin
          simp [d_read_fraction, fnDen, n_read_fraction, b_read_fraction, startE, dVarO, dVar, hlc, hin, e4, encOF, hlen]
end RJ

set_option Elab.async false
set_option linter.all false
set_option maxRecDepth 100000
set_option maxHeartbeats 1000000
set_option autoImplicit false
/-! RkM: a text is treated as it should. -/
namespace RJ
open PySem PySem.Spec L2
open SX (S)

theorem encF_len {f : Int × Int} {k : Nat} (h1 : f.1.natAbs < 10 ^ (k + 1)) (h2 : f.2.natAbs < 10 ^ (k + 1)) : (wrF f).length ≤ 2 * k + 5 := by
  have a1 := numI_len (by omega) h1
  have a2 := numI_len (by omega) h2
  unfold wrF
  split
  · omega
  · simp only [List.length_append, List.length_singleton]
    omega
theorem rat_le {a b : Int} (hb : b ≠ 0) : (ratM a b).1.natAbs ≤ a.natAbs ∧ (ratM a b).2.natAbs ≤ b.natAbs := by
  obtain ⟨h1, h2, h3, h4⟩ := ratM_spec (a := a) hb
  have hg := gq_ne (a := a) hb
  have hg1 : 1 ≤ (gq a b).natAbs := by omega
  constructor
  · have : a.natAbs = (ratM a b).1.natAbs * (gq a b).natAbs := by
      rw [← Int.natAbs_mul, ← h1]
    rw [this]
    exact Nat.le_mul_of_pos_right _ hg1
  · have : b.natAbs = (ratM a b).2.natAbs * (gq a b).natAbs := by
      rw [← Int.natAbs_mul, ← h2]
    rw [this]
    exact Nat.le_mul_of_pos_right _ hg1
theorem law_written0_ok {l : List Nat} (hl : l.length ≤ 4200) : d_law_written [.int 0, .str (S l)] = .ok (encOF (wtF l)) := by
  obtain ⟨hs1, hs2⟩ := spl_lens (sep := [47]) (by simp) l
  have hsp := split_slash (x := l) (by omega)
  have w49 : d_law_number [.str (S [49])] = .ok (.int 1) := by
    rw [law_number_ok [49] (by decide)]
    rfl
  unfold wtF
  cases h0 : TL.spl [47] 0 [] l with
  | nil => exact absurd h0 (spl_ne _ _ _ _)
  | cons w0 r =>
    have n0 := law_number_ok w0 (by have := hs2 w0 (by rw [h0]; simp); omega)
    rw [h0] at hsp
    cases r with
    | nil =>
      cases h1 : wn w0 with
      | none =>
        rw [h1] at n0
        simp only [encO] at n0
        simp [d_law_written, fnDen, n_law_written, b_law_written, startE, dVarO, dVar, denM1, strR, hsp, strsOf, ixG, t_law_written, n0, w49, fr3, h1, encOF]
      | some a =>
        rw [h1] at n0
        simp only [encO] at n0
        have hw0 : w0.length ≤ 4200 := Nat.le_trans (hs2 w0 (by rw [h0]; simp)) hl
        have e0 := num_wn h1
        have ha : a.natAbs < 10 ^ 4200 := numI_lt (by rw [← e0]; exact hw0)
        have hf := law_frac_ok (a := a) (b := 1) (m := 4 * 4200) (n := 1) (ten_two ha) (by decide) (by decide) (by decide)
        rw [rat_1] at hf
        have hwr := law_write0_ok (f := (a, 1)) (Nat.le_trans (encF_len (k := 4299) (pow_4300 (by decide) ha) (pow_4300 (k := 1) (by decide) (show (1 : Int).natAbs < 10 ^ 1 by decide))) (by decide)) ⟨pow_4300 (by decide) ha, pow_4300 (k := 1) (by decide) (show (1 : Int).natAbs < 10 ^ 1 by decide)⟩
        by_cases hk : wrF (a, 1) = l
        · simp only [List.map_cons, List.map_nil, h1, fr3, rat_1, hk, if_pos]
          rw [hk] at hwr
          simp [d_law_written, fnDen, n_law_written, b_law_written, startE, dVarO, dVar, denM1, strR, hsp, strsOf, ixG, t_law_written, n0, w49, hf, hwr, encOF]
        · simp only [List.map_cons, List.map_nil, h1, fr3, rat_1, hk, if_neg, not_false_eq_true]
          have hn2 : ¬ S (wrF (a, 1)) = S l := fun e => hk (SX.S_inj e)
          simp [d_law_written, fnDen, n_law_written, b_law_written, startE, dVarO, dVar, denM1, strR, hsp, strsOf, ixG, t_law_written, n0, w49, hf, hwr, hn2, encOF]
    | cons w1 r =>
      have n1 := law_number_ok w1 (by have := hs2 w1 (by rw [h0]; simp); omega)
      cases r with
      | nil =>
        have hln := two_len h0
        cases h1 : wn w0 with
        | none =>
          rw [h1] at n0
          simp only [encO] at n0
          simp [d_law_written, fnDen, n_law_written, b_law_written, startE, dVarO, dVar, denM1, strR, hsp, strsOf, ixG, t_law_written, n0, n1, fr3, h1, encOF]
        | some a =>
          cases h2 : wn w1 with
          | none =>
            rw [h1] at n0
            rw [h2] at n1
            simp only [encO] at n0 n1
            simp [d_law_written, fnDen, n_law_written, b_law_written, startE, dVarO, dVar, denM1, strR, hsp, strsOf, ixG, t_law_written, n0, n1, fr3, h1, h2, encOF]
          | some b =>
            rw [h1] at n0
            rw [h2] at n1
            simp only [encO] at n0 n1
            by_cases hb : b < 1
            · have hb2 : ¬ 1 ≤ b := by omega
              simp [d_law_written, fnDen, n_law_written, b_law_written, startE, dVarO, dVar, denM1, strR, hsp, strsOf, ixG, t_law_written, n0, n1, fr3, h1, h2, hb, hb2, encOF]
            · obtain ⟨b1, b2, b3⟩ := frac_bits h1 h2 (Nat.le_trans hln hl)
              have hb2 : 1 ≤ b := by omega
              have hb0 : b ≠ 0 := by omega
              have hf := law_frac_ok b1 b2 hb0 (by omega)
              obtain ⟨r1, r2⟩ := rat_le (a := a) hb0
              have e0 := num_wn h1
              have e1 := num_wn h2
              have ha : a.natAbs < 10 ^ 4200 := numI_lt (by rw [← e0]; omega)
              have hbb : b.natAbs < 10 ^ 4200 := numI_lt (by rw [← e1]; omega)
              have c1 := pow_4300 (by decide) (Nat.lt_of_le_of_lt r1 ha)
              have c2 := pow_4300 (by decide) (Nat.lt_of_le_of_lt r2 hbb)
              have hwr := law_write0_ok (f := ratM a b) (Nat.le_trans (encF_len (k := 4299) c1 c2) (by decide)) ⟨c1, c2⟩
              by_cases hk : wrF (ratM a b) = l
              · simp only [List.map_cons, List.map_nil, h1, h2, fr3, hb2, if_true, hk]
                rw [hk] at hwr
                simp [d_law_written, fnDen, n_law_written, b_law_written, startE, dVarO, dVar, denM1, strR, hsp, strsOf, ixG, t_law_written, n0, n1, hb, hf, hwr, encOF]
              · simp only [List.map_cons, List.map_nil, h1, h2, fr3, hb2, if_true, hk, if_false]
                have hn2 : ¬ S (wrF (ratM a b)) = S l := fun e => hk (SX.S_inj e)
                simp [d_law_written, fnDen, n_law_written, b_law_written, startE, dVarO, dVar, denM1, strR, hsp, strsOf, ixG, t_law_written, n0, n1, hb, hf, hwr, hn2, encOF]
      | cons w2 r =>
        have e4 : fr3 l (wn w0 :: wn w1 :: wn w2 :: r.map wn) = none := by cases wn w0 <;> cases wn w1 <;> rfl
        have hlen : (2 : Int) < (r.length : Int) + 1 + 1 + 1 := by omega
        simp only [List.map_cons, e4, encOF]
        by_cases hr : r.length < 16777000
        · have hq : (r.length + 1 + 1 + 1 + 1) ≤ 16777216 := by omega
          simp [d_law_written, fnDen, n_law_written, b_law_written, startE, dVarO, dVar, denM1, strR, hsp, strsOf, ixG, t_law_written, n0, n1, hlen, hq]
        · have := hs1
          rw [h0] at this
          simp only [List.length_cons] at this
          omega
/-! ### far shifts -/
theorem forD_or {α J : Type} {tg : D → En → Re En} {body : En → SR} {enc : α → D} {st : J → En} {r : D} : ∀ (xs : List α) (j : J), (∀ x ∈ xs, ∀ j, ∃ Γ1, tg (enc x) (st j) = .ok Γ1 ∧ ((∃ j', body Γ1 = .nx (st j')) ∨ body Γ1 = .rt r)) → (∃ j', forD tg body (xs.map enc) (st j) = .nx (st j')) ∨ forD tg body (xs.map enc) (st j) = .rt r
  | [], j, _ => .inl ⟨j, rfl⟩
  | x :: xs, j, h => by
    obtain ⟨Γ1, h1, h2⟩ := h x List.mem_cons_self j
    have st1 : forD tg body ((x :: xs).map enc) (st j) = (body Γ1).turn (forD tg body (xs.map enc)) := by
      rw [List.map_cons, forD_cons, h1]
      rfl
    rw [st1]
    rcases h2 with ⟨j', h2⟩ | h2
    · rw [h2, SR.turn_nx]
      exact forD_or xs j' fun z m => h z (List.mem_cons_of_mem _ m)
    · rw [h2]
      exact .inr rfl
theorem atI_last {α : Type} {l : List α} (h : l ≠ []) : atI l (-1) = some (l.getLast h) := by
  unfold atI ixN
  have hl : 0 < l.length := List.length_pos_iff.mpr h
  rw [if_neg (by decide), if_pos (by omega)]
  have e : ((-1 : Int) + (l.length : Int)).toNat = l.length - 1 := by omega
  first
    | (simp only [Option.bind_some]
       rw [e, List.getLast_eq_getElem, List.getElem?_eq_getElem (by omega)])
    | (show l[((-1 : Int) + (l.length : Int)).toNat]? = _
       rw [e, List.getLast_eq_getElem, List.getElem?_eq_getElem (by omega)])
    | (show l[((l.length : Int) + (-1 : Int)).toNat]? = _
       rw [show ((l.length : Int) + (-1 : Int)).toNat = l.length - 1 by omega, List.getLast_eq_getElem, List.getElem?_eq_getElem (by omega)])
theorem reaches_far_ok {l : List Nat} (k : Int) (hl : l.length ≤ 1000000) : ∃ b, d_law_reaches_far [.int k, .str (S l)] = .ok (.bl b) := by
  obtain ⟨hs1, hs2⟩ := spl_lens (sep := [44, 32]) (by simp) l
  have loop := forD_or (tg := fun d Γ => .ok (Γ.set 2 (.sh d))) (body := (bCons (scSet 3 (ecF (fcSplit (ocVar 2) (ocE (ecStr (S [32])))))) <|
    bCons (scSet 4 (ecCall .f_law_number (acCons (ecIx (ocVar 3) (ocE (ecNeg (ocE (ecInt 1))))) acNil))) <|
    bCons (scIf (tcAnd [(tcCmp lGt (ocVar 0) (ocE (ecInt 0))), (tcCmp lEq (ocE (ecB "len" lLen (aoCons (ocVar 3) aoNil))) (ocE (ecBin lAdd (ocVar 0) (ocE (ecInt 1))))), (tcCmp lIsNot (ocVar 4) (ocE ecNon)), (tcCmp lGt (ocE (ecB "abs" lAbs (aoCons (ocVar 4) aoNil))) (ocE (ecInt 20)))]) (bCons (scRet (ecBl true)) bNil) (bNil)) bNil : BC (mkT t_law_reaches_far)).den) (enc := fun p => D.str (S p)) (st := fun (j : Sl × Sl × Sl) => [.sh (.int k), .sh (.str (S l)), j.1, j.2.1, j.2.2]) (r := .bl true) (TL.spl [44, 32] 0 [] l) (.no, .no, .no) (fun x hx j => by
      have hxl : x.length ≤ 1000000 := Nat.le_trans (hs2 x hx) hl
      obtain ⟨hw1, hw2⟩ := spl_lens (sep := [32]) (by simp) x
      refine ⟨[.sh (.int k), .sh (.str (S l)), .sh (.str (S x)), j.2.1, j.2.2], rfl, ?_⟩
      have hsp := split_blank hxl
      have hne : TL.spl [32] 0 [] x ≠ [] := spl_ne _ _ _ _
      generalize TL.spl [32] 0 [] x = ws at *
      have hne2 : strsOf ws ≠ [] := by simpa [strsOf] using hne
      have hat : ixG (.lst (strsOf ws)) (.int (-1)) = .ok (.str (S (ws.getLast hne))) := by
        refine ixG_lst ?_
        rw [atI_last hne2]
        congr 1
        exact List.getLast_map (f := fun p => D.str (S p)) (l := ws) (h := hne2)
      have n0 := law_number_ok (ws.getLast hne) (by have := hw2 _ (List.getLast_mem hne); omega)
      have hlen : (strsOf ws).length = ws.length := by simp [strsOf]
      cases h1 : wn (ws.getLast hne) with
      | none =>
        rw [h1] at n0
        simp only [encO] at n0
        refine .inl ⟨(.sh (.str (S x)), .sh (.lst (strsOf ws)), .sh .non), ?_⟩
        by_cases c1 : 0 < k
        · by_cases c2 : (ws.length : Int) = k + 1
          · simp [dVarO, dVar, denM1, strR, hsp, hat, t_law_reaches_far, n0, c1, c2, hlen]
          · simp [dVarO, dVar, denM1, strR, hsp, hat, t_law_reaches_far, n0, c1, c2, hlen]
        · simp [dVarO, dVar, denM1, strR, hsp, hat, t_law_reaches_far, n0, c1, hlen]
      | some s =>
        rw [h1] at n0
        simp only [encO] at n0
        by_cases c1 : 0 < k
        · by_cases c2 : (ws.length : Int) = k + 1
          · by_cases c3 : 20 < (if s < 0 then -s else s)
            · right
              simp [dVarO, dVar, denM1, strR, hsp, hat, t_law_reaches_far, n0, c1, c2, c3, hlen]
            · refine .inl ⟨(.sh (.str (S x)), .sh (.lst (strsOf ws)), .sh (.int s)), ?_⟩
              simp [dVarO, dVar, denM1, strR, hsp, hat, t_law_reaches_far, n0, c1, c2, c3, hlen]
          · refine .inl ⟨(.sh (.str (S x)), .sh (.lst (strsOf ws)), .sh (.int s)), ?_⟩
            simp [dVarO, dVar, denM1, strR, hsp, hat, t_law_reaches_far, n0, c1, c2, hlen]
        · refine .inl ⟨(.sh (.str (S x)), .sh (.lst (strsOf ws)), .sh (.int s)), ?_⟩
          simp [dVarO, dVar, denM1, strR, hsp, hat, t_law_reaches_far, n0, c1, hlen])
  have e0 : (TL.spl [44, 32] 0 [] l).map (fun p => D.str (S p)) = strsOf (TL.spl [44, 32] 0 [] l) := rfl
  rw [e0] at loop
  rcases loop with ⟨j', loop⟩ | loop
  · refine ⟨false, ?_⟩
    simp [d_law_reaches_far, fnDen, n_law_reaches_far, b_law_reaches_far, startE, dVarO, dVar, denM1, strR, split_comma hl, loop]
  · refine ⟨true, ?_⟩
    simp [d_law_reaches_far, fnDen, n_law_reaches_far, b_law_reaches_far, startE, dVarO, dVar, denM1, strR, split_comma hl, loop]
/-! ### parse -/
def exNot : Re D := .ex ⟨"BadNotation", [("line", .int 0)]⟩
theorem parse_fraction_ok {l : List Nat} (hl : l.length ≤ 5000) : d_parse_fraction [.str (S l)] = match rdF l with
    | some f => .ok (encF f)
    | none => exNot := by
  have h := read_fraction_ok hl
  cases hr : rdF l with
  | none =>
    rw [hr] at h
    simp only [encOF] at h
    simp [d_parse_fraction, fnDen, n_parse_fraction, b_parse_fraction, startE, dVarO, dVar, t_parse_fraction, h, exNot]
  | some f =>
    rw [hr] at h
    simp only [encOF, encF] at h
    simp [d_parse_fraction, fnDen, n_parse_fraction, b_parse_fraction, startE, dVarO, dVar, t_parse_fraction, h, encF]
theorem parse_polynomial_ok {l : List Nat} (hl : l.length ≤ 1000000) : d_parse_polynomial [.str (S l)] = match rdG pc1 (nf sortI) l with
    | some f => .ok (.tup (f.map encP))
    | none => exNot := by
  have h := read_polynomial_ok hl
  cases hr : rdG pc1 (nf sortI) l with
  | none =>
    rw [hr] at h
    simp only [encO'] at h
    simp [d_parse_polynomial, fnDen, n_parse_polynomial, b_parse_polynomial, startE, dVarO, dVar, t_parse_polynomial, h, exNot]
  | some f =>
    rw [hr] at h
    simp only [encO'] at h
    simp [d_parse_polynomial, fnDen, n_parse_polynomial, b_parse_polynomial, startE, dVarO, dVar, t_parse_polynomial, h]
theorem parse_sum_ok {l : List Nat} (hl : l.length ≤ 1000000) : d_parse_sum [.str (S l)] = match rdG pc2 (nf srtS) l with
    | some f => .ok (.tup (f.map encS))
    | none => exNot := by
  have h := read_sum_ok hl
  cases hr : rdG pc2 (nf srtS) l with
  | none =>
    rw [hr] at h
    simp only [encO'] at h
    simp [d_parse_sum, fnDen, n_parse_sum, b_parse_sum, startE, dVarO, dVar, t_parse_sum, h, exNot]
  | some f =>
    rw [hr] at h
    simp only [encO'] at h
    simp [d_parse_sum, fnDen, n_parse_sum, b_parse_sum, startE, dVarO, dVar, t_parse_sum, h]
def dNot : D := .lst [.bl true, .int 0]
theorem eq_dNot : eqG false dNot dNot = .ok (.bl true) := rfl
theorem agrees_none {k : Int} {x : Str} (hr : ∃ b, d_law_reaches_far [.int k, .str x] = .ok (.bl b)) (hw : d_law_written [.int k, .str x] = .ok .non) (hp : d_law_parsed [.int k, .str x] = .ok dNot) : d_law_text_agrees [.int k, .str x] = .ok (.bl true) := by
  obtain ⟨b, hr⟩ := hr
  have e := eq_dNot
  unfold dNot at e hp
  cases b with
  | true => simp [d_law_text_agrees, fnDen, n_law_text_agrees, b_law_text_agrees, startE, dVarO, dVar, t_law_text_agrees, hr]
  | false => simp [d_law_text_agrees, fnDen, n_law_text_agrees, b_law_text_agrees, startE, dVarO, dVar, t_law_text_agrees, hr, hw, hp, e]
theorem agrees_some {k : Int} {x : Str} {v : D} (hr : ∃ b, d_law_reaches_far [.int k, .str x] = .ok (.bl b)) (hw : d_law_written [.int k, .str x] = .ok v) (hn : isG false v .non = .ok (.bl false)) (hp : d_law_parsed [.int k, .str x] = .ok (.lst [v]))
    (hf : d_law_has_form [.int k, v] = .ok (.bl true)) (he : eqG true v v = .ok (.bl false)) (he2 : eqG false (.lst [v]) (.lst [v]) = .ok (.bl true)) (hm : d_law_formatted [.int k, v] = .ok (.str x)) : d_law_text_agrees [.int k, .str x] = .ok (.bl true) := by
  obtain ⟨b, hr⟩ := hr
  cases b with
  | true => simp [d_law_text_agrees, fnDen, n_law_text_agrees, b_law_text_agrees, startE, dVarO, dVar, t_law_text_agrees, hr]
  | false => simp [d_law_text_agrees, fnDen, n_law_text_agrees, b_law_text_agrees, startE, dVarO, dVar, t_law_text_agrees, hr, hw, hn, hp, ixG, hf, he, he2, hm]
end RJ

set_option Elab.async false
set_option linter.all false
set_option maxRecDepth 100000
set_option maxHeartbeats 1000000
set_option autoImplicit false
/-! RkN: every text is treated as it should. -/
namespace RJ
open PySem PySem.Spec L2
open SX (S)

theorem rd_spec {α : Type} [DecidableEq α] {pi : α → List Nat} {pc : List Nat → Option α} {ok : α → Prop} (P : Pc pi pc ok) {nfm : List α → List α} (h0 : nfm [] = []) {l : List Nat} {ps : List α} (h : rdG pc nfm l = some ps) : nfm ps = ps ∧ wrJ (ps.map pi) = l ∧ ∀ p ∈ ps, ok p := by
  unfold rdG at h
  split at h
  · rename_i e
    cases h
    exact ⟨h0, by rw [e]; rfl, fun p hp => by cases hp⟩
  · split at h
    · rename_i qs hm
      split at h
      · rename_i hn
        cases h
        obtain ⟨a, b⟩ := wr_pieces P hm
        exact ⟨hn, b, (mapO_all hm).2 ok fun x _ y hy => P.good x y hy⟩
      · cases h
    · cases h
theorem nfP_nil : nf sortI [] = [] := nf_fix srtI (ps := []) ⟨.nil, fun p hp => by cases hp⟩
theorem nfS_nil : nf srtS [] = [] := nf_fix srtSS (ps := []) ⟨.nil, fun p hp => by cases hp⟩
theorem rdF_spec {l : List Nat} {f : Int × Int} (h : rdF l = some f) : 0 < f.2 ∧ Int.gcd f.1 f.2 = 1 ∧ wrF f = l := by
  rw [rdF_wtF] at h
  unfold wtF fr3 at h
  split at h
  · rename_i a _
    split at h
    · rename_i hw
      cases h
      obtain ⟨h1, h2, h3, h4⟩ := ratM_spec (a := a) (b := 1) (by decide)
      exact ⟨h3, h4, hw⟩
    · cases h
  · rename_i a b _
    split at h
    · rename_i hb
      split at h
      · rename_i hw
        cases h
        obtain ⟨h1, h2, h3, h4⟩ := ratM_spec (a := a) (b := b) (by omega)
        exact ⟨h3, h4, hw⟩
      · cases h
    · cases h
  · cases h
theorem parsed_not : parsedOf exNot = .ok dNot := by
  show (if ("BadNotation" : Str) = "BadNotation" ∧ ("line" : Str) = "line" ∧ (0 : Int) = 0 then Re.ok (D.lst [.bl true, .int 0]) else .no) = _
  rw [if_pos ⟨rfl, rfl, rfl⟩]
  rfl
theorem parsed0 {l : List Nat} (hl : l.length ≤ 5000) : d_law_parsed [.int 0, .str (S l)] = .ok (match rdF l with
    | some f => .lst [encF f]
    | none => dNot) := by
  show parsedOf (if (0 : Int) = 0 then d_parse_fraction [.str (S l)] else _) = _
  rw [if_pos rfl, parse_fraction_ok hl]
  cases rdF l with
  | some f => rfl
  | none => exact parsed_not
theorem parsed1 {l : List Nat} (hl : l.length ≤ 1000000) : d_law_parsed [.int 1, .str (S l)] = .ok (match rdG pc1 (nf sortI) l with
    | some f => .lst [.tup (f.map encP)]
    | none => dNot) := by
  show parsedOf (if (1 : Int) = 0 then _ else if (1 : Int) = 1 then d_parse_polynomial [.str (S l)] else _) = _
  rw [if_neg (by decide), if_pos rfl, parse_polynomial_ok hl]
  cases rdG pc1 (nf sortI) l with
  | some f => rfl
  | none => exact parsed_not
theorem parsed2 {l : List Nat} (hl : l.length ≤ 1000000) : d_law_parsed [.int 2, .str (S l)] = .ok (match rdG pc2 (nf srtS) l with
    | some f => .lst [.tup (f.map encS)]
    | none => dNot) := by
  show parsedOf (if (2 : Int) = 0 then _ else if (2 : Int) = 1 then _ else d_parse_sum [.str (S l)]) = _
  rw [if_neg (by decide), if_neg (by decide), parse_sum_ok hl]
  cases rdG pc2 (nf srtS) l with
  | some f => rfl
  | none => exact parsed_not
theorem formatted0 (d : D) : d_law_formatted [.int 0, d] = d_format_fraction [d] := by
  simp [d_law_formatted, fnDen, n_law_formatted, b_law_formatted, startE, dVarO, dVar, t_law_formatted]
  cases d_format_fraction [d] <;> rfl
theorem formatted1 (d : D) : d_law_formatted [.int 1, d] = d_format_polynomial [d] := by
  simp [d_law_formatted, fnDen, n_law_formatted, b_law_formatted, startE, dVarO, dVar, t_law_formatted]
  cases d_format_polynomial [d] <;> rfl
theorem formatted2 (d : D) : d_law_formatted [.int 2, d] = d_format_sum [d] := by
  simp [d_law_formatted, fnDen, n_law_formatted, b_law_formatted, startE, dVarO, dVar, t_law_formatted]
  cases d_format_sum [d] <;> rfl
theorem form0 (d : D) : d_law_has_form [.int 0, d] = d_law_is_fraction [d] := by
  simp [d_law_has_form, fnDen, n_law_has_form, b_law_has_form, startE, dVarO, dVar, t_law_has_form]
  cases d_law_is_fraction [d] <;> rfl
theorem form1 (d : D) : d_law_has_form [.int 1, d] = d_law_is_poly [d] := by
  simp [d_law_has_form, fnDen, n_law_has_form, b_law_has_form, startE, dVarO, dVar, t_law_has_form]
  cases d_law_is_poly [d] <;> rfl
theorem form2 (d : D) : d_law_has_form [.int 2, d] = d_law_is_sum [d] := by
  simp [d_law_has_form, fnDen, n_law_has_form, b_law_has_form, startE, dVarO, dVar, t_law_has_form]
  cases d_law_is_sum [d] <;> rfl
theorem rat_self {f : Int × Int} (hp : 0 < f.2) (hg : Int.gcd f.1 f.2 = 1) : ratM f.1 f.2 = f := ratM_unique (by omega) hp hg rfl
theorem wrF_bits {f : Int × Int} {N : Nat} (h : (wrF f).length ≤ N) : f.1.natAbs < 2 ^ (4 * (numI f.1).length) ∧ f.2.natAbs < 2 ^ (4 * (numI f.2).length) ∧ 4 * (numI f.1).length + 4 * (numI f.2).length ≤ 4 * N + 8 := by
  refine ⟨ten_two (numI_lt (Nat.le_refl _)), ten_two (numI_lt (Nat.le_refl _)), ?_⟩
  obtain ⟨h1, h2⟩ := wrF_le f
  by_cases h3 : f.2 = 1
  · have : (numI f.2).length ≤ 2 := by rw [h3]; exact numI_len (k := 1) (by decide) (by decide)
    omega
  · have := h2 h3
    omega
theorem format_self {f : Int × Int} {N : Nat} (hp : 0 < f.2) (hg : Int.gcd f.1 f.2 = 1) (h : (wrF f).length ≤ N) (hN : N ≤ 4900) : d_format_fraction [encF f] = .ok (.str (S (wrF f))) := by
  obtain ⟨b1, b2, b3⟩ := wrF_bits h
  have := format_fraction_ok (d := encF f) (a := f.1) (b := f.2) rfl b1 b2 (by omega) (by omega) (by rw [rat_self hp hg]; omega)
  rw [rat_self hp hg] at this
  exact this
theorem form_self {f : Int × Int} {N : Nat} (hp : 0 < f.2) (hg : Int.gcd f.1 f.2 = 1) (h : (wrF f).length ≤ N) (hN : N ≤ 4900) : d_law_is_fraction [encF f] = .ok (.bl true) := by
  obtain ⟨b1, b2, b3⟩ := wrF_bits h
  exact is_fraction_ok (a := f.1) (b := f.2) b2 (by omega) hp hg
theorem eq_fL (f g : Int × Int) : eqG false (.lst [encF f]) (.lst [encF g]) = .ok (.bl (decide (f = g))) := by
  have := eq_lst layF (xs := [f]) (ys := [g]) (fun _ _ => trivial) (fun _ _ => trivial) false
  simp only [List.map_cons, List.map_nil] at this
  rw [this]
  simp
/-- tuples of items, as items -/
theorem layT {α : Type} {enc : α → D} {ok : α → Prop} (L : Lay enc ok) (h9 : ∀ x, ok x → ∀ p, toP (enc x) = some p → p.depth ≤ 8) : Lay (fun xs : List α => .tup (xs.map enc)) fun xs => ∀ x ∈ xs, ok x where
  lay xs h := by
    obtain ⟨ps, a1, a2, a3⟩ := L.list xs h
    refine ⟨.tuple ps, by show (toPs (xs.map enc)).map PyData.tuple = _; rw [a1]; rfl, by rw [PyData.canLay0]; exact a2, ?_⟩
    rw [PyData.depth]
    have : PyData.depthAll ps ≤ 8 := by
      clear a2 a3
      induction xs generalizing ps with
      | nil =>
        cases a1
        exact Nat.zero_le _
      | cons x xs ih =>
        obtain ⟨p, b1, b2, b3⟩ := L.lay x (h x List.mem_cons_self)
        obtain ⟨ps', c1, c2, c3⟩ := L.list xs fun z m => h z (List.mem_cons_of_mem _ m)
        have e1 : (match toP (enc x), toPs (xs.map enc) with
          | some p, some ps => some (p :: ps)
          | _, _ => none) = some ps := a1
        rw [b1, c1] at e1
        cases e1
        rw [PyData.depthAll]
        have := h9 x (h x List.mem_cons_self) p b1
        have := ih (fun z m => h z (List.mem_cons_of_mem _ m)) ps' c1
        omega
    omega
  eqv xs ys p q hx hy h1 h2 := by
    obtain ⟨ps, a1, a2, a3⟩ := L.list xs hx
    obtain ⟨qs, b1, b2, b3⟩ := L.list ys hy
    have h1 : (toPs (xs.map enc)).map PyData.tuple = some p := h1
    have h2 : (toPs (ys.map enc)).map PyData.tuple = some q := h2
    rw [a1] at h1
    rw [b1] at h2
    cases h1
    cases h2
    rw [PyData.eqv]
    exact L.eqs xs ys ps qs hx hy a1 b1
theorem layTP : Lay (fun xs : List (Int × Int) => .tup (xs.map encP)) fun xs => ∀ x ∈ xs, True := layT layP fun x _ p h => by
  cases h
  simp [PyData.depth, PyData.depthAll]
theorem layTS : Lay (fun xs : List (Spt × Int) => .tup (xs.map encS)) fun xs => ∀ x ∈ xs, rowOk x := layT layS fun x _ p h => by
  cases h
  simp [PyData.depth, PyData.depthAll]
theorem eq_PL (f g : List (Int × Int)) : eqG false (.lst [.tup (f.map encP)]) (.lst [.tup (g.map encP)]) = .ok (.bl (decide (f = g))) := by
  have := eq_lst layTP (xs := [f]) (ys := [g]) (fun _ _ _ _ => trivial) (fun _ _ _ _ => trivial) false
  simp only [List.map_cons, List.map_nil] at this
  rw [this]
  simp
theorem eq_SL {f g : List (Spt × Int)} (hf : ∀ x ∈ f, rowOk x) (hg : ∀ x ∈ g, rowOk x) : eqG false (.lst [.tup (f.map encS)]) (.lst [.tup (g.map encS)]) = .ok (.bl (decide (f = g))) := by
  have := eq_lst layTS (xs := [f]) (ys := [g]) (fun x hx => by
    rw [List.mem_singleton] at hx
    subst hx
    exact hf) (fun x hx => by
    rw [List.mem_singleton] at hx
    subst hx
    exact hg) false
  simp only [List.map_cons, List.map_nil] at this
  rw [this]
  simp
theorem text0 {l : List Nat} (hl : l.length ≤ 4200) : d_law_text_agrees [.int 0, .str (S l)] = .ok (.bl true) := by
  have hr := reaches_far_ok (l := l) 0 (by omega)
  have hw := law_written0_ok hl
  have hp := parsed0 (l := l) (by omega)
  rw [← rdF_wtF] at hw
  cases h : rdF l with
  | none =>
    rw [h] at hw hp
    exact agrees_none hr hw hp
  | some f =>
    rw [h] at hw hp
    have hw : d_law_written [.int 0, .str (S l)] = .ok (encF f) := hw
    obtain ⟨h1, h2, h3⟩ := rdF_spec h
    have hlen : (wrF f).length ≤ 4200 := by rw [h3]; exact hl
    refine agrees_some hr hw rfl hp ?_ ?_ ?_ ?_
    · rw [form0]
      exact form_self h1 h2 hlen (by decide)
    · rw [eq_f]
      simp
    · rw [eq_fL]
      simp
    · rw [formatted0, format_self h1 h2 hlen (by decide), h3]
theorem text1 {l : List Nat} (hl : l.length ≤ 4200) : d_law_text_agrees [.int 1, .str (S l)] = .ok (.bl true) := by
  have hr := reaches_far_ok (l := l) 1 (by omega)
  have hw := law_written1_ok hl
  have hp := parsed1 (l := l) (by omega)
  rw [← rd_wr pcP (fun _ _ _ _ => trivial)] at hw
  cases h : rdG pc1 (nf sortI) l with
  | none =>
    rw [h] at hw hp
    exact agrees_none hr hw hp
  | some ps =>
    rw [h] at hw hp
    have hw : d_law_written [.int 1, .str (S l)] = .ok (.tup (ps.map encP)) := hw
    obtain ⟨h1, h2, h3⟩ := rd_spec pcP nfP_nil h
    have hN := nf_nml srtI ps
    rw [h1] at hN
    have hlen : ps.length ≤ 16777216 := by
      by_cases hne : ps = []
      · subst hne
        simp
      · have := wrJ_len (ps := ps.map piP) (by simpa using hne)
        rw [h2, List.length_map] at this
        omega
    refine agrees_some hr hw rfl hp ?_ ?_ ?_ ?_
    · rw [form1]
      exact is_poly_ok hN hlen
    · rw [eq_tup layP (fun _ _ => trivial) (fun _ _ => trivial)]
      simp
    · rw [eq_PL]
      simp
    · have e : wrP ps = l := h2
      rw [formatted1, format_polynomial_ok encP_pair rfl hlen (by rw [h1, e]; omega), h1, e]
theorem text2 {l : List Nat} (hl : l.length ≤ 4200) : d_law_text_agrees [.int 2, .str (S l)] = .ok (.bl true) := by
  have hr := reaches_far_ok (l := l) 2 (by omega)
  have hw := law_written2_ok hl
  have hp := parsed2 (l := l) (by omega)
  rw [← rd_wr pcS nfS_ok] at hw
  cases h : rdG pc2 (nf srtS) l with
  | none =>
    rw [h] at hw hp
    exact agrees_none hr hw hp
  | some ps =>
    rw [h] at hw hp
    have hw : d_law_written [.int 2, .str (S l)] = .ok (.tup (ps.map encS)) := hw
    obtain ⟨h1, h2, h3⟩ := rd_spec pcS nfS_nil h
    have hN := nf_nml srtSS ps
    rw [h1] at hN
    have hlen : ps.length ≤ 16777216 := by
      by_cases hne : ps = []
      · subst hne
        simp
      · have := wrJ_len (ps := ps.map piS) (by simpa using hne)
        rw [h2, List.length_map] at this
        omega
    refine agrees_some hr hw rfl hp ?_ ?_ ?_ ?_
    · rw [form2]
      exact is_sum_ok hN hlen
    · rw [eq_tup layS h3 h3]
      simp
    · rw [eq_SL h3 h3]
      simp
    · have e : wrS ps = l := h2
      rw [formatted2, format_sum_ok encS_term rfl hlen (by rw [h1, e]; omega), h1, e]
theorem text_agrees_ok {k : Int} (hk : k = 0 ∨ k = 1 ∨ k = 2) {l : List Nat} (hl : l.length ≤ 4200) : d_law_text_agrees [.int k, .str (S l)] = .ok (.bl true) := by
  rcases hk with e | e | e <;> subst e
  · exact text0 hl
  · exact text1 hl
  · exact text2 hl
end RJ

set_option Elab.async false
set_option linter.all false
set_option maxRecDepth 100000
set_option maxHeartbeats 1000000
set_option autoImplicit false
/-! RkO: what is drawn: cells, digits, numbers. -/
namespace RJ
open PySem PySem.Spec L2
open SX (S)

abbrev ib (i : Int) : Nat := Builtin.Int.intBits i
theorem ib_of {i : Int} {k : Nat} (h : i.natAbs < 2 ^ k) : ib i ≤ k := intBits_le_iff.mpr h
theorem ib_to {i : Int} {k : Nat} (h : ib i ≤ k) : i.natAbs < 2 ^ k := intBits_le_iff.mp h
theorem ib64 {i : Int} (h : i.natAbs < 18446744073709551616) : ib i ≤ 64 := ib_of (k := 64) h
theorem ib128 {i : Int} (h : i.natAbs < 340282366920938463463374607431768211456) : ib i ≤ 128 := ib_of (k := 128) h
theorem mul_ok {a b : Int} (ha : ib a ≤ 60000000) (hb : ib b ≤ 60000000) : mulG (.int a) (.int b) = .ok (.int (a * b)) := by
  have h : (Builtin.Int.intBits a : Int) + (Builtin.Int.intBits b : Int) ≤ 134217728 := by
    have h1 : Builtin.Int.intBits a ≤ 60000000 := ha
    have h2 : Builtin.Int.intBits b ≤ 60000000 := hb
    omega
  rw [mulG_int, if_pos h]
theorem mul64 {a b : Int} (ha : a.natAbs < 18446744073709551616) (hb : b.natAbs < 18446744073709551616) : mulG (.int a) (.int b) = .ok (.int (a * b)) := mul_ok (Nat.le_trans (ib64 ha) (by decide)) (Nat.le_trans (ib64 hb) (by decide))
theorem pow_ok {n m : Int} (k : Nat) (hk : n = (k : Int)) (h : k ≤ 1000) (hm : (10 : Int) ^ k = m) : powG (.int 10) (.int n) = .ok (.int m) := by
  subst hk
  show (if (0 : Int) ≤ (k : Int) ∧ (k : Int) ≤ 1000000 ∧ (10 : Int).natAbs < 2 ^ 64 then Re.ok (D.int ((10 : Int) ^ (k : Int).toNat)) else .no) = _
  rw [if_pos ⟨by omega, by omega, by decide⟩, Int.toNat_natCast, hm]
theorem pow_9 : powG (.int 10) (.int 9) = .ok (.int 1000000000) := pow_ok 9 rfl (by decide) (by decide +kernel)
theorem pow_18 : powG (.int 10) (.int 18) = .ok (.int 1000000000000000000) := pow_ok 18 rfl (by decide) (by decide +kernel)
theorem pow_20 : powG (.int 10) (.int 20) = .ok (.int 100000000000000000000) := pow_ok 20 rfl (by decide) (by decide +kernel)
theorem pow_26 : powG (.int 10) (.int 26) = .ok (.int 100000000000000000000000000) := pow_ok 26 rfl (by decide) (by decide +kernel)
theorem pow_30 : powG (.int 10) (.int 30) = .ok (.int 1000000000000000000000000000000) := pow_ok 30 rfl (by decide) (by decide +kernel)
theorem pow_36 : powG (.int 10) (.int 36) = .ok (.int 1000000000000000000000000000000000000) := pow_ok 36 rfl (by decide) (by decide +kernel)
theorem fmod_bd (a : Int) {b : Int} (hb : 0 < b) : 0 ≤ a.fmod b ∧ a.fmod b < b := ⟨Int.fmod_nonneg_of_pos a hb, Int.fmod_lt_of_pos a hb⟩
theorem noPyS (x : Int) {y : Int} (h : y.natAbs < 1000000000000) : Builtin.divisionGoesByPylong x y = false := by
  rw [py_eq]
  have h1 : pyD y ≤ 10 := by
    unfold pyD
    split
    · decide
    · rename_i h0
      have hn : y.natAbs ≠ 0 := by
        intro e
        exact h0 (by simp; omega)
      have : y.natAbs.log2 < 40 := (Nat.log2_lt hn).mpr (Nat.lt_trans h (by decide))
      omega
  have h2 : decide (pyD y > 300) = false := decide_eq_false (by omega)
  rw [h2]
  rfl
theorem fdiv_ok {x y : Int} (hy : y ≠ 0) (h : y.natAbs < 1000000000000) : fdivG (.int x) (.int y) = .ok (.int (x.fdiv y)) := by
  rw [fdivG_int, if_pos ⟨hy, noPyS x h⟩]
theorem mod_ok {x y : Int} (hy : y ≠ 0) : modG (.int x) (.int y) = .ok (.int (x.fmod y)) := by
  rw [modG_int, if_pos hy]
theorem ib_fdiv (x y : Int) : ib (x.fdiv y) ≤ ib x := ib_of (Nat.lt_of_le_of_lt (Int.natAbs_fdiv_le_natAbs x y) (ib_to (Nat.le_refl _)))
/-! ### cells -/
theorem law_cell_ok {ns : List Int} {k : Nat} (hl : ns.length ≤ 63) (hb : ∀ z ∈ ns, ib z ≤ 1048576) (hk : k ≤ 100) : ∃ c, d_law_cell [.scr ns, .int (k : Int)] = .ok (.int c) ∧ ib c ≤ 1048576 := by
  by_cases h : k < ns.length
  · have h1 : ((k : Nat) : Int) < (ns.length : Int) := by omega
    refine ⟨ns[k], ?_, hb _ (List.getElem_mem h)⟩
    have hat : atI ns (k : Int) = some ns[k] := atI_nat ns k h
    simp [d_law_cell, fnDen, n_law_cell, b_law_cell, startE, dVarO, dVar, h1, ixG, hat]
  · have h1 : ¬ ((k : Nat) : Int) < (ns.length : Int) := by omega
    have key := forD_fold (tg := fun d Γ => .ok (Γ.set 3 (.sh d))) (body := (bCons (scSet 2 (ecBin lMod (ocE (ecB "int" lInt (aoCons (ocE (ecBin lAdd (ocE (ecBin lMul (ocVar 2) (ocE (ecInt 31)))) (ocE (ecBin lMod (ocE (ecB "int" lInt (aoCons (ocVar 3) aoNil))) (ocE (ecInt 1000003)))))) aoNil))) (ocE (ecInt 1000003)))) bNil : BC (mkT t_law_cell)).den) (enc := D.int) (st := fun (z : Int × Sl) => [.sh (.scr ns), .sh (.int (k : Int)), .sh (.int z.1), z.2]) (f := fun z c => ((z.1 * 31 + c.fmod 1000003).fmod 1000003, .sh (.int c))) (fun _ z => 0 ≤ z.1 ∧ z.1 < 1000003) ns (17, .no) 0 ⟨by decide, by decide⟩ (fun m z c _ _ hz => ⟨fmod_bd _ (by decide), _, rfl, .inl (by
      have m1 := mul64 (a := z.1) (b := 31) (by omega) (by decide)
      simp [-mulG_int, dVarO, dVar, m1])⟩)
    obtain ⟨key, hz⟩ := key
    generalize ns.foldl (fun z c => ((z.1 * 31 + c.fmod 1000003).fmod 1000003, Sl.sh (.int c))) ((17, .no) : Int × Sl) = Z at key hz
    obtain ⟨s, sl⟩ := Z
    have hz : 0 ≤ s ∧ s < 1000003 := hz
    have key : forD (fun d Γ => .ok (Γ.set 3 (.sh d))) (bCons (scSet 2 (ecBin lMod (ocE (ecB "int" lInt (aoCons (ocE (ecBin lAdd (ocE (ecBin lMul (ocVar 2) (ocE (ecInt 31)))) (ocE (ecBin lMod (ocE (ecB "int" lInt (aoCons (ocVar 3) aoNil))) (ocE (ecInt 1000003)))))) aoNil))) (ocE (ecInt 1000003)))) bNil : BC (mkT t_law_cell)).den (ns.map D.int) [.sh (.scr ns), .sh (.int (k : Int)), .sh (.int 17), .no] = .nx [.sh (.scr ns), .sh (.int (k : Int)), .sh (.int s), sl] := key
    have m1 := mul64 (a := s + 7) (b := (k : Int) + 3) (by omega) (by omega)
    have hq : ((s + 7) * ((k : Int) + 3)).natAbs < 18446744073709551616 := by
      have : ((s + 7) * ((k : Int) + 3)).natAbs ≤ 1000010 * 103 := by
        rw [Int.natAbs_mul]
        exact Nat.mul_le_mul (by omega) (by omega)
      omega
    have m2 := mul64 (a := (s + 7) * ((k : Int) + 3)) (b := 69621) hq (by decide)
    refine ⟨((s + 7) * ((k : Int) + 3) * 69621).fmod 2147483647, ?_, ?_⟩
    · simp [-mulG_int, d_law_cell, fnDen, n_law_cell, b_law_cell, startE, dVarO, dVar, h1, key, m1, m2]
    · have := fmod_bd ((s + 7) * ((k : Int) + 3) * 69621) (b := 2147483647) (by decide)
      exact Nat.le_trans (ib64 (by omega)) (by decide)
/-! ### digits -/
inductive Dg : List Int → List Int → Prop
  | nil : Dg [] []
  | cons {d s : Int} {ds ss : List Int} : 0 ≤ d → d < s → Dg ds ss → Dg (d :: ds) (s :: ss)
theorem Dg.snoc {d s : Int} : ∀ {ds ss : List Int}, Dg ds ss → 0 ≤ d → d < s → Dg (ds ++ [d]) (ss ++ [s])
  | _, _, .nil, h1, h2 => .cons h1 h2 .nil
  | _, _, .cons a b r, h1, h2 => .cons a b (r.snoc h1 h2)
theorem Dg.len : ∀ {ds ss : List Int}, Dg ds ss → ds.length = ss.length
  | _, _, .nil => rfl
  | _, _, .cons _ _ r => by simp [r.len]
theorem Dg.at : ∀ {ds ss : List Int}, Dg ds ss → ∀ (i : Nat) (h : i < ds.length) (h2 : i < ss.length), 0 ≤ ds[i] ∧ ds[i] < ss[i]
  | _, _, .cons a b r, 0, _, _ => ⟨a, b⟩
  | _, _, .cons a b r, i + 1, h, h2 => r.at i (by simpa using h) (by simpa using h2)
theorem dig1 : ∀ (ss : List Int) (acc : List Int) (r : Int), (∀ s ∈ ss, 0 < s) → ∃ ds, (ss.foldl (fun (z : List Int × Int × Sl) s => (z.1 ++ [z.2.1.fmod s], z.2.1.fdiv s, Sl.sh (.int s))) (acc, r, Sl.no)).1 = acc ++ ds ∧ Dg ds ss := by
  suffices H : ∀ (ss : List Int) (acc : List Int) (r : Int) (sl : Sl), (∀ s ∈ ss, 0 < s) → ∃ ds, (ss.foldl (fun (z : List Int × Int × Sl) s => (z.1 ++ [z.2.1.fmod s], z.2.1.fdiv s, Sl.sh (.int s))) (acc, r, sl)).1 = acc ++ ds ∧ Dg ds ss from fun ss acc r h => H ss acc r .no h
  intro ss
  induction ss with
  | nil => exact fun acc r sl _ => ⟨[], by simp, .nil⟩
  | cons s ss ih =>
    intro acc r sl h
    obtain ⟨ds, h1, h2⟩ := ih (acc ++ [r.fmod s]) (r.fdiv s) (.sh (.int s)) fun t m => h t (List.mem_cons_of_mem _ m)
    have hs := fmod_bd r (h s List.mem_cons_self)
    refine ⟨r.fmod s :: ds, ?_, .cons hs.1 hs.2 h2⟩
    rw [List.foldl_cons, h1, List.append_assoc]
    rfl
theorem dig2 {c : Int} {ss : List Int} (hs : ∀ s ∈ ss, 0 < s ∧ s ≤ 1000) (hl : ss.length ≤ 100) : ∀ (n j : Nat) (acc : List Int) (seed : Int) (s5 s7 : Sl), j + n = ss.length → Dg acc (ss.take j) → 0 ≤ seed ∧ seed < 2147483647 →
    ∃ ds seed' s5' s7', forD (fun d Γ => .ok (Γ.set 5 (.sh d))) (bCons (scSet 4 (ecBin lMod (ocE (ecB "int" lInt (aoCons (ocE (ecBin lAdd (ocE (ecBin lAdd (ocE (ecBin lMul (ocVar 4) (ocE (ecInt 48271)))) (ocE (ecBin lMul (ocE (ecInt 974711)) (ocVar 5))))) (ocE (ecInt 12345)))) aoNil))) (ocE (ecInt 2147483647)))) <|
    bCons (scSet 7 (ecBin lMod (ocE (ecB "int" lInt (aoCons (ocE (ecBin lMul (ocVar 4) (ocE (ecBin lAdd (ocE (ecBin lFdiv (ocVar 4) (ocE (ecInt 65537)))) (ocE (ecInt 3)))))) aoNil))) (ocE (ecInt 2147483629)))) <|
    bCons (scApp 2 (ecBin lMod (ocE (ecBin lFdiv (ocVar 7) (ocE (ecInt 19)))) (ocE (ecIx (ocVar 1) (ocVar 5))))) bNil : BC (mkT t_law_digits)).den ((List.range' j n).map fun (i : Nat) => D.int (0 + (i : Int))) [.sh (.int c), .sh (.lst (ss.map .int)), .own (.lst (acc.map .int)), .sh (.int c), .sh (.int seed), s5, .no, s7] = .nx [.sh (.int c), .sh (.lst (ss.map .int)), .own (.lst (ds.map .int)), .sh (.int c), .sh (.int seed'), s5', .no, s7'] ∧ Dg ds ss
  | 0, j, acc, seed, s5, s7, hj, hd, _ => by
    rw [show j = ss.length by omega, List.take_length] at hd
    exact ⟨acc, seed, s5, s7, rfl, hd⟩
  | n + 1, j, acc, seed, s5, s7, hj, hd, hz => by
    have hjl : j < ss.length := by omega
    have hb1 := fmod_bd (seed * 48271 + 974711 * (0 + (j : Int)) + 12345) (b := 2147483647) (by decide)
    have m1 := mul64 (a := seed) (b := 48271) (by omega) (by decide)
    have m2 := mul64 (a := 974711) (b := 0 + (j : Int)) (by decide) (by omega)
    generalize hs1 : (seed * 48271 + 974711 * (0 + (j : Int)) + 12345).fmod 2147483647 = t at hb1
    have hfd : 0 ≤ t.fdiv 65537 ∧ t.fdiv 65537 ≤ 40000 := by
      rw [Int.fdiv_eq_ediv_of_nonneg _ (by decide)]
      omega
    have m3 := mul64 (a := t) (b := t.fdiv 65537 + 3) (by omega) (by omega)
    have d1 := fdiv_ok (x := t) (y := 65537) (by decide) (by decide)
    have hb2 := fmod_bd (t * (t.fdiv 65537 + 3)) (b := 2147483629) (by decide)
    generalize hs2 : (t * (t.fdiv 65537 + 3)).fmod 2147483629 = u at hb2
    have d2 := fdiv_ok (x := u) (y := 19) (by decide) (by decide)
    have hsj := hs ss[j] (List.getElem_mem hjl)
    have hix : ixG (.lst (ss.map .int)) (.int (0 + (j : Int))) = .ok (.int ss[j]) := by
      refine ixG_lst ?_
      rw [Int.zero_add, atI_nat _ _ (by simpa using hjl)]
      simp
    have d3 := mod_ok (x := u.fdiv 19) (y := ss[j]) (by omega)
    have hb3 := fmod_bd (u.fdiv 19) hsj.1
    have hal : acc.length < 16777216 := by
      rw [hd.len, List.length_take]
      omega
    have hd2 : Dg (acc ++ [(u.fdiv 19).fmod ss[j]]) (ss.take (j + 1)) := by
      rw [List.take_succ_eq_append_getElem hjl]
      exact hd.snoc hb3.1 hb3.2
    obtain ⟨ds, seed', s5', s7', e, h⟩ := dig2 (c := c) hs hl n (j + 1) (acc ++ [(u.fdiv 19).fmod ss[j]]) t (.sh (.int (0 + (j : Int)))) (.sh (.int u)) (by omega) hd2 (by omega)
    refine ⟨ds, seed', s5', s7', ?_, h⟩
    rw [List.range'_succ, List.map_cons, forD_cons, ← e]
    rw [List.map_append]
    simp only [tgS_ok', SR.seq_nx, List.set_cons_succ, List.set_cons_zero]
    have hm1 := mod_ok (x := seed * 48271 + 974711 * (0 + (j : Int)) + 12345) (y := 2147483647) (by decide)
    have hm2 := mod_ok (x := t * (t.fdiv 65537 + 3)) (y := 2147483629) (by decide)
    rw [hs1] at hm1
    rw [hs2] at hm2
    generalize hJ : (0 + (j : Int)) = J at *
    simp [-modG_int, -fdivG_int, -mulG_int, dVarO, dVar, m1, m2, m3, hm1, hm2, d1, d2, d3, hix, dApp, hal]
theorem law_digits_ok {c : Int} {ss : List Int} (hc : ib c ≤ 1048576) (hs : ∀ s ∈ ss, 0 < s ∧ s ≤ 1000) (hl : ss.length ≤ 100) : ∃ ds, d_law_digits [.int c, .lst (ss.map .int)] = .ok (.lst (ds.map .int)) ∧ Dg ds ss := by
  by_cases hbig : 1000000000000000000 ≤ c
  · have key := forD_fold (tg := fun d Γ => .ok (Γ.set 6 (.sh d))) (body := (bCons (scApp 2 (ecBin lMod (ocE (ecB "int" lInt (aoCons (ocVar 3) aoNil))) (ocVar 6))) <|
      bCons (scSet 3 (ecBin lFdiv (ocE (ecB "int" lInt (aoCons (ocVar 3) aoNil))) (ocVar 6))) bNil : BC (mkT t_law_digits)).den) (enc := D.int) (st := fun (z : List Int × Int × Sl) => [.sh (.int c), .sh (.lst (ss.map .int)), .own (.lst (z.1.map .int)), .sh (.int z.2.1), .no, .no, z.2.2, .no]) (f := fun z s => (z.1 ++ [z.2.1.fmod s], z.2.1.fdiv s, .sh (.int s))) (fun m z => z.1.length = m) ss ([], c - 1000000000000000000, .no) 0 rfl (fun m z s hsm hm hz => ⟨by
      show (z.1 ++ [z.2.1.fmod s]).length = m + 1
      rw [List.length_append, hz]
      rfl, _, rfl, .inl (by
      obtain ⟨s1, s2⟩ := hs s hsm
      have s0 : s ≠ 0 := by omega
      have a1 := mod_ok (x := z.2.1) s0
      have a2 := fdiv_ok (x := z.2.1) s0 (by omega)
      have a3 : z.1.length < 16777216 := by omega
      simp [-modG_int, -fdivG_int, dVarO, dVar, a1, a2, dApp, a3])⟩)
    have key := key.1
    obtain ⟨ds, e1, e2⟩ := dig1 ss [] (c - 1000000000000000000) fun s h => (hs s h).1
    generalize ss.foldl (fun (z : List Int × Int × Sl) s => (z.1 ++ [z.2.1.fmod s], z.2.1.fdiv s, Sl.sh (.int s))) ([], c - 1000000000000000000, Sl.no) = Z at key e1
    obtain ⟨z1, z2, z3⟩ := Z
    have e1 : z1 = ds := e1
    subst e1
    refine ⟨z1, ?_, e2⟩
    have key : forD (fun d Γ => .ok (Γ.set 6 (.sh d))) (bCons (scApp 2 (ecBin lMod (ocE (ecB "int" lInt (aoCons (ocVar 3) aoNil))) (ocVar 6))) <|
      bCons (scSet 3 (ecBin lFdiv (ocE (ecB "int" lInt (aoCons (ocVar 3) aoNil))) (ocVar 6))) bNil : BC (mkT t_law_digits)).den (ss.map .int) [.sh (.int c), .sh (.lst (ss.map .int)), .own (.lst []), .sh (.int (c - 1000000000000000000)), .no, .no, .no, .no] = .nx [.sh (.int c), .sh (.lst (ss.map .int)), .own (.lst (z1.map .int)), .sh (.int z2), .no, .no, z3, .no] := key
    simp [d_law_digits, fnDen, n_law_digits, b_law_digits, startE, dVarO, dVar, pow_18, hbig, key, dFrz]
  · have hz := fmod_bd c (b := 2147483629) (by decide)
    obtain ⟨ds, seed', s5', s7', e, h⟩ := dig2 (c := c) hs hl ss.length 0 [] (c.fmod 2147483629) .no .no (by omega) .nil ⟨hz.1, by omega⟩
    rw [← List.range_eq_range'] at e
    have hr : (icRng1 (ocE (ecB "len" lLen (aoCons (ocVar 1) aoNil))) : IC (mkT t_law_digits)).den [.sh (.int c), .sh (.lst (ss.map .int)), .own (.lst []), .sh (.int c), .sh (.int (c.fmod 2147483629)), .no, .no, .no] = .ok ((List.range ss.length).map fun (i : Nat) => D.int (0 + (i : Int))) := by
      rw [icRng1_ok (j := (ss.length : Nat)) (by simp [dVarO]) (by omega) (by omega), Int.toNat_natCast]
      rfl
    have hnb : ¬ (1000000000000000000 : Int) ≤ c := hbig
    refine ⟨ds, ?_, h⟩
    simp only [List.map_nil] at e
    generalize (List.range ss.length).map (fun (i : Nat) => D.int (0 + (i : Int))) = L at *
    simp [-den_icRng1, d_law_digits, fnDen, n_law_digits, b_law_digits, startE, dVarO, dVar, pow_18, hnb, hr, e, dFrz]
/-! ### numbers -/
theorem drawn_number_ok {digit wide c : Int} (hd : 0 ≤ digit ∧ digit < 11) (hc : ib c ≤ 1048576) : ∃ n, d_law_drawn_number [.int digit, .int wide, .int c] = .ok (.int n) ∧ n.natAbs ≤ 100000000000000000000000000 := by
  by_cases h0 : wide = 0
  · refine ⟨digit - 5, ?_, by omega⟩
    simp [d_law_drawn_number, fnDen, n_law_drawn_number, b_law_drawn_number, startE, dVarO, dVar, h0]
  · by_cases h3 : 3 < digit
    · refine ⟨digit - 5, ?_, by omega⟩
      simp [d_law_drawn_number, fnDen, n_law_drawn_number, b_law_drawn_number, startE, dVarO, dVar, h0, h3]
    · by_cases h1 : wide = 1
      · have hz := fmod_bd c (b := 2000000001) (by decide)
        have m1 := mul64 (a := 2) (b := 1000000000) (by decide) (by decide)
        refine ⟨c.fmod 2000000001 - 1000000000, ?_, by omega⟩
        simp [-mulG_int, d_law_drawn_number, fnDen, n_law_drawn_number, b_law_drawn_number, startE, dVarO, dVar, h0, h3, h1, pow_9, m1]
      · have hz := fmod_bd (c * 100000000000000000039) (b := 200000000000000000000000001) (by decide)
        have m1 := mul_ok (a := c) (b := 100000000000000000039) (Nat.le_trans hc (by decide)) (Nat.le_trans (ib128 (by decide)) (by decide))
        have m2 := mul_ok (a := 2) (b := 100000000000000000000000000) (Nat.le_trans (ib128 (by decide)) (by decide)) (Nat.le_trans (ib128 (by decide)) (by decide))
        refine ⟨(c * 100000000000000000039).fmod 200000000000000000000000001 - 100000000000000000000000000, ?_, by omega⟩
        simp [-mulG_int, d_law_drawn_number, fnDen, n_law_drawn_number, b_law_drawn_number, startE, dVarO, dVar, h0, h3, h1, pow_20, pow_26, m1, m2]
end RJ

set_option Elab.async false
set_option linter.all false
set_option maxRecDepth 100000
set_option maxHeartbeats 1000000
set_option autoImplicit false
/-! RkP: drawn items. -/
namespace RJ
open PySem PySem.Spec L2
open SX (S)

theorem forD_acc {α β J : Type} {tg : D → En → Re En} {body : En → SR} {enc : α → D} {st : List β → J → En} {Q : β → Prop} {N : Nat} : ∀ (xs : List α) (acc : List β) (j : J), acc.length + xs.length ≤ N →
    (∀ x ∈ xs, ∀ acc j, acc.length < N → ∃ Γ1 y j', tg (enc x) (st acc j) = .ok Γ1 ∧ Q y ∧ body Γ1 = .nx (st (acc ++ [y]) j')) →
    ∃ ys j', forD tg body (xs.map enc) (st acc j) = .nx (st (acc ++ ys) j') ∧ ys.length = xs.length ∧ ∀ y ∈ ys, Q y
  | [], acc, j, _, _ => ⟨[], j, by rw [List.append_nil]; rfl, rfl, fun y h => by cases h⟩
  | x :: xs, acc, j, hN, h => by
    obtain ⟨Γ1, y, j', h1, h2, h3⟩ := h x List.mem_cons_self acc j (by simp at hN; omega)
    obtain ⟨ys, j2, g1, g2, g3⟩ := forD_acc (Q := Q) (N := N) xs (acc ++ [y]) j' (by simp at hN ⊢; omega) fun z m => h z (List.mem_cons_of_mem _ m)
    refine ⟨y :: ys, j2, ?_, by simp [g2], fun z hz => ?_⟩
    · rw [List.map_cons, forD_cons, h1]
      show (body Γ1).turn _ = _
      rw [h3, SR.turn_nx, g1, List.append_assoc]
      rfl
    · rcases List.mem_cons.mp hz with e | e
      · subst e
        exact h2
      · exact g3 z e
theorem ix_mem {l : List D} {i : Int} (h : 0 ≤ i ∧ i < (l.length : Int)) : ∃ x, x ∈ l ∧ ixG (.lst l) (.int i) = .ok x := by
  obtain ⟨k, rfl⟩ : ∃ k : Nat, i = (k : Int) := ⟨i.toNat, by omega⟩
  have hk : k < l.length := by omega
  exact ⟨l[k], List.getElem_mem hk, ixG_lst (atI_nat l k hk)⟩
theorem ix_dg {ds ss : List Int} (h : Dg ds ss) {i : Nat} (hi : i < ss.length) : ∃ x, ixG (.lst (ds.map .int)) (.int (i : Int)) = .ok (.int x) ∧ 0 ≤ x ∧ x < ss[i] := by
  have hd : i < ds.length := by rw [h.len]; exact hi
  have hb := h.at i hd hi
  refine ⟨ds[i], ixG_lst ?_, hb.1, hb.2⟩
  rw [atI_nat _ _ (by simpa using hd)]
  simp
def Gd (q : Spt × Int) : Prop := okN q.1.1 = true ∧ q.1.2.natAbs ≤ 20 ∧ q.2.natAbs ≤ 100000000000000000000000000
structure Kd (k : Int) (K : Spt × Int → D) : Prop where
  cut : ∀ r s n, slG (.tup [.str (S r), .int s, .int n]) (some (2 - k)) none = .ok (K ((r, s), n))
  last : ∀ q, ∃ ini : List D, slG (K q) none (some (-1)) = .ok (.tup ini) ∧ ini.length ≤ 2 ∧ ∀ n, D.tup (ini ++ [.int n]) = K (q.1, n)
def K1 (q : Spt × Int) : D := .tup [.int q.1.2, .int q.2]
theorem kd1 : Kd 1 K1 := ⟨fun _ _ _ => rfl, fun q => ⟨[.int q.1.2], rfl, by simp, fun _ => rfl⟩⟩
theorem kd2 : Kd 2 encS := ⟨fun _ _ _ => rfl, fun q => ⟨[.str (S q.1.1), .int q.1.2], rfl, by simp, fun _ => rfl⟩⟩
def sz24 : List Int := [11, 41, 8, 11, 41, 8, 11, 41, 8, 11, 41, 8, 11, 41, 8, 11, 41, 8, 11, 41, 8, 11, 41, 8]
theorem mul24 : mulG (.lst [.int 11, .int 41, .int 8]) (.int 8) = .ok (.lst (sz24.map .int)) := by
  have hb : blk (decide (-(2 ^ 63) ≤ (8 : Int) ∧ (8 : Int) < 2 ^ 63 ∧ [D.int 11, D.int 41, D.int 8].length * (8 : Int).toNat ≤ sizeLine)) = true := blk_to ⟨by decide +kernel, by decide +kernel, by rw [sizeLine_eq]; decide⟩
  show (if blk (decide (-(2 ^ 63) ≤ (8 : Int) ∧ (8 : Int) < 2 ^ 63 ∧ [D.int 11, D.int 41, D.int 8].length * (8 : Int).toNat ≤ sizeLine)) = true then Re.ok (D.lst (List.replicate (8 : Int).toNat [D.int 11, D.int 41, D.int 8]).flatten) else .no) = _
  rw [if_pos hb]
  rfl
theorem sz24_at : ∀ m, m < 8 → sz24[3 * m]? = some 11 ∧ sz24[3 * m + 1]? = some 41 ∧ sz24[3 * m + 2]? = some 8 := by decide
theorem n_a : ("a" : Str) = S [97] := TL.ext_tl (by rw [TL.tl_ofString]; rfl)
theorem n_b1 : ("b1" : Str) = S [98, 49] := TL.ext_tl (by rw [TL.tl_ofString]; rfl)
theorem n_level : ("level" : Str) = S [108, 101, 118, 101, 108] := TL.ext_tl (by rw [TL.tl_ofString]; rfl)
theorem n_aj : ("abcdefghij" : Str) = S [97, 98, 99, 100, 101, 102, 103, 104, 105, 106] := TL.ext_tl (by rw [TL.tl_ofString]; rfl)
theorem n_a0 : ("a0" : Str) = S [97, 48] := TL.ext_tl (by rw [TL.tl_ofString]; rfl)
theorem n_z : ("z" : Str) = S [122] := TL.ext_tl (by rw [TL.tl_ofString]; rfl)
theorem n_x10 : ("x10" : Str) = S [120, 49, 48] := TL.ext_tl (by rw [TL.tl_ofString]; rfl)
theorem n_x2 : ("x2" : Str) = S [120, 50] := TL.ext_tl (by rw [TL.tl_ofString]; rfl)
def names8 : List (List Nat) := [[97], [98, 49], [108, 101, 118, 101, 108], [97, 98, 99, 100, 101, 102, 103, 104, 105, 106], [97, 48], [122], [120, 49, 48], [120, 50]]
theorem names_ix {i : Int} (h : 0 ≤ i ∧ i < 8) : ∃ nm, ixG (.lst (strsOf names8)) (.int i) = .ok (.str (S nm)) ∧ okN nm = true := by
  obtain ⟨x, h1, h2⟩ := ix_mem (l := strsOf names8) (i := i) ⟨h.1, h.2⟩
  obtain ⟨nm, hn, e⟩ := List.mem_map.mp h1
  subst e
  refine ⟨nm, h2, ?_⟩
  have : ∀ nm ∈ names8, okN nm = true := by decide
  exact this nm hn
def body_items : BC (mkT t_law_drawn_items) :=
  bCons (scSet 10 (ecBin lMul (ocE (ecInt 3)) (ocE (ecBin lMod (ocE (ecB "int" lInt (aoCons (ocVar 9) aoNil))) (ocE (ecInt 8)))))) <|
    bCons (scSet 11 (ecBin lSub (ocE (ecIx (ocVar 7) (ocE (ecBin lAdd (ocVar 10) (ocE (ecInt 1)))))) (ocE (ecInt 20)))) <|
    bCons (scIf (tcCmp lGt (ocVar 9) (ocE (ecInt 7))) (bCons (scSet 11 (ecBin lSub (ocE (ecBin lMod (ocE (ecB "int" lInt (aoCons (ocE (ecBin lAdd (ocVar 11) (ocE (ecBin lMul (ocE (ecInt 7)) (ocVar 9))))) aoNil))) (ocE (ecInt 41)))) (ocE (ecInt 20)))) bNil) (bNil)) <|
    bCons (scSet 12 (ecCall .f_law_drawn_number (acCons (ecIx (ocVar 7) (ocVar 10)) (acCons (ecVar 3) (acCons (ecBin lFdiv (ocE (ecB "int" lInt (aoCons (ocE (ecCall .f_law_cell (acCons (ecVar 0) (acCons (ecBin lAdd (ocVar 1) (ocE (ecInt 2))) acNil)))) aoNil))) (ocE (ecBin lAdd (ocVar 9) (ocE (ecInt 1))))) acNil))))) <|
    bCons (scApp 8 (ecSl (ocE (ecTup (acCons (ecIx (ocVar 6) (ocE (ecB "int" lInt (aoCons (ocE (ecBin lFdiv (ocE (ecIx (ocVar 7) (ocE (ecBin lAdd (ocVar 10) (ocE (ecInt 2)))))) (ocE (ecBin lAdd (ocE (ecInt 1)) (ocE (ecIx (ocVar 4) (ocE (ecInt 2)))))))) aoNil)))) (acCons (ecVar 11) (acCons (ecVar 12) acNil))))) (some (ocE (ecBin lSub (ocE (ecInt 2)) (ocVar 2)))) none)) bNil
def last_items : BC (mkT t_law_drawn_items) :=
  bCons (scIf (tcAnd [(tcCmp lEq (ocE (ecIx (ocVar 4) (ocE (ecInt 1)))) (ocE (ecInt 1))), (tcCmp lGt (ocVar 5) (ocE (ecInt 0)))]) (bCons (scSet 8 (ecBin lAdd (ocVar 8) (ocE (ecF (fcLst (acCons (ecBin lAdd (ocE (ecSl (ocE (ecIx (ocVar 8) (ocE (ecInt 0)))) none (some (ocE (ecNeg (ocE (ecInt 1))))))) (ocE (ecTup (acCons (ecInt 5) acNil)))) (acCons (ecBin lAdd (ocE (ecSl (ocE (ecIx (ocVar 8) (ocE (ecNeg (ocE (ecInt 1)))))) none (some (ocE (ecNeg (ocE (ecInt 1))))))) (ocE (ecTup (acCons (ecInt 0) acNil)))) (acCons (ecBin lAdd (ocE (ecSl (ocE (ecIx (ocVar 8) (ocE (ecInt 0)))) none (some (ocE (ecNeg (ocE (ecInt 1))))))) (ocE (ecTup (acCons (ecNeg (ocE (ecInt 5))) acNil)))) acNil)))))))) bNil) (bNil)) <|
  bFrz 8 <| bCons (scRet (ecVar 8)) bNil
def rest_items : BC (mkT t_law_drawn_items) :=
  bCons (scSet 6 (ecF (fcLst (acCons (ecStr ("a" : Str)) (acCons (ecStr ("b1" : Str)) (acCons (ecStr ("level" : Str)) (acCons (ecStr ("abcdefghij" : Str)) (acCons (ecStr ("a0" : Str)) (acCons (ecStr ("z" : Str)) (acCons (ecStr ("x10" : Str)) (acCons (ecStr ("x2" : Str)) acNil))))))))))) <|
  bCons (scSet 7 (ecCall .f_law_digits (acCons (ecCall .f_law_cell (acCons (ecVar 0) (acCons (ecBin lAdd (ocVar 1) (ocE (ecInt 1))) acNil))) (acCons (ecBin lMul (ocE (ecF (fcLst (acCons (ecInt 11) (acCons (ecInt 41) (acCons (ecInt 8) acNil)))))) (ocE (ecInt 8))) acNil)))) <|
  bCons (scSetF 8 (fcLst acNil)) <|
  bCons (scFor (gcName 9) (icRng1 (ocVar 5)) body_items) last_items
theorem last_items_ok {k : Int} {K : Spt × Int → D} (H : Kd k K) {a b c d e n : Int} {s0 s1 s3 s6 s7 s9 s10 s11 s12 : Sl} {qs : List (Spt × Int)} (hn : (0 < n → qs ≠ [])) (hq : ∀ q ∈ qs, Gd q) (hl : qs.length ≤ 57) :
    ∃ rs : List (Spt × Int), outS (last_items.den [s0, s1, .sh (.int k), s3, .sh (.lst [.int a, .int b, .int c, .int d, .int e]), .sh (.int n), s6, s7, .own (.lst (qs.map K)), s9, s10, s11, s12]) = .ok (.lst (rs.map K)) ∧ rs.length ≤ 60 ∧ ∀ q ∈ rs, Gd q := by
  by_cases h1 : b = 1
  · subst h1
    by_cases h2 : 0 < n
    · have hne := hn h2
      obtain ⟨q0, r, e0⟩ : ∃ q0 r, qs = q0 :: r := by
        cases qs with
        | nil => exact absurd rfl hne
        | cons q r => exact ⟨q, r, rfl⟩
      have hne2 : qs.map K ≠ [] := by simpa using hne
      have i0 : ixG (.lst (qs.map K)) (.int 0) = .ok (K q0) := ixG_lst (by rw [e0]; simp)
      have i1 : ixG (.lst (qs.map K)) (.int (-1)) = .ok (K (qs.getLast hne)) := ixG_lst (by
        rw [atI_last hne2]
        congr 1
        exact List.getLast_map (f := K) (l := qs) (h := hne2))
      obtain ⟨in0, a1, a2, a3⟩ := H.last q0
      obtain ⟨in1, b1, b2, b3⟩ := H.last (qs.getLast hne)
      have g0 := hq q0 (by rw [e0]; exact List.mem_cons_self)
      have g1 := hq _ (List.getLast_mem hne)
      refine ⟨qs ++ [(q0.1, 5), ((qs.getLast hne).1, 0), (q0.1, -5)], ?_, by simp; omega, fun q hq' => ?_⟩
      · have c1 : addG (.tup in0) (.tup [.int 5]) = .ok (K (q0.1, 5)) := by
          rw [addG_tup, if_pos (by rw [sizeLine_eq]; simp; omega), a3]
        have c2 : addG (.tup in1) (.tup [.int 0]) = .ok (K ((qs.getLast hne).1, 0)) := by
          rw [addG_tup, if_pos (by rw [sizeLine_eq]; simp; omega), b3]
        have c3 : addG (.tup in0) (.tup [.int (-5)]) = .ok (K (q0.1, -5)) := by
          rw [addG_tup, if_pos (by rw [sizeLine_eq]; simp; omega), a3]
        have c4 : addG (.lst (qs.map K)) (.lst [K (q0.1, 5), K ((qs.getLast hne).1, 0), K (q0.1, -5)]) = .ok (.lst ((qs ++ [(q0.1, 5), ((qs.getLast hne).1, 0), (q0.1, -5)]).map K)) := by
          rw [addG_lst, if_pos (by rw [sizeLine_eq]; simp; omega)]
          simp
        have ib : ixG (.lst [.int a, .int 1, .int c, .int d, .int e]) (.int 1) = .ok (.int 1) := ixG_lst rfl
        simp only [last_items]
        simp [-addG_tup, -addG_lst, -List.map_append, dVarO, dVar, ib, h2, i0, i1, a1, b1, c1, c2, c3, c4, dFrz]
      · rcases List.mem_append.mp hq' with m | m
        · exact hq q m
        · simp only [List.mem_cons, List.not_mem_nil, or_false] at m
          rcases m with e | e | e <;> subst e
          · exact ⟨g0.1, g0.2.1, by show (5 : Int).natAbs ≤ _; decide⟩
          · exact ⟨g1.1, g1.2.1, by show (0 : Int).natAbs ≤ _; decide⟩
          · exact ⟨g0.1, g0.2.1, by show (-5 : Int).natAbs ≤ _; decide⟩
    · have ib : ixG (.lst [.int a, .int 1, .int c, .int d, .int e]) (.int 1) = .ok (.int 1) := ixG_lst rfl
      refine ⟨qs, ?_, by omega, hq⟩
      simp [last_items, dVarO, dVar, ib, h2, dFrz]
  · have ib : ixG (.lst [.int a, .int b, .int c, .int d, .int e]) (.int 1) = .ok (.int b) := ixG_lst rfl
    refine ⟨qs, ?_, by omega, hq⟩
    simp [last_items, dVarO, dVar, ib, h1, dFrz]
theorem rest_items_ok {ns : List Int} (hl : ns.length ≤ 63) (hb : ∀ z ∈ ns, ib z ≤ 1048576) {at' : Nat} (hat : at' ≤ 50) {k wide : Int} {K : Spt × Int → D} (H : Kd k K) {a b c d e : Int} (hc : 0 ≤ c ∧ c < 2) {n : Nat} (hn : n ≤ 57) :
    ∃ rs : List (Spt × Int), outS (rest_items.den [.sh (.scr ns), .sh (.int (at' : Int)), .sh (.int k), .sh (.int wide), .sh (.lst [.int a, .int b, .int c, .int d, .int e]), .sh (.int (n : Int)), .no, .no, .no, .no, .no, .no, .no]) = .ok (.lst (rs.map K)) ∧ rs.length ≤ 60 ∧ ∀ q ∈ rs, Gd q := by
  obtain ⟨c1, k1, k2⟩ := law_cell_ok (k := at' + 1) hl hb (by omega)
  have k1 : d_law_cell [.scr ns, .int ((at' : Int) + 1)] = .ok (.int c1) := k1
  obtain ⟨c2, k3, k4⟩ := law_cell_ok (k := at' + 2) hl hb (by omega)
  have k3 : d_law_cell [.scr ns, .int ((at' : Int) + 2)] = .ok (.int c2) := k3
  obtain ⟨row, r1, r2⟩ := law_digits_ok (c := c1) (ss := sz24) k2 (by decide) (by decide)
  have loop := forD_acc (tg := fun d Γ => .ok (Γ.set 9 (.sh d))) (body := body_items.den) (enc := fun (i : Nat) => D.int (0 + (i : Int)))
    (st := fun (acc : List (Spt × Int)) (j : Sl × Sl × Sl × Sl) => [.sh (.scr ns), .sh (.int (at' : Int)), .sh (.int k), .sh (.int wide), .sh (.lst [.int a, .int b, .int c, .int d, .int e]), .sh (.int (n : Int)), .sh (.lst (strsOf names8)), .sh (.lst (row.map .int)), .own (.lst (acc.map K)), j.1, j.2.1, j.2.2.1, j.2.2.2]) (Q := Gd) (N := 57) (List.range n) [] (.no, .no, .no, .no) (by simpa using hn) (fun i hi acc j hacc => by
      have hi := List.mem_range.mp hi
      obtain ⟨z1, z2, z3⟩ := sz24_at (i % 8) (Nat.mod_lt _ (by decide))
      obtain ⟨y1, z1⟩ := List.getElem?_eq_some_iff.mp z1
      obtain ⟨y2, z2⟩ := List.getElem?_eq_some_iff.mp z2
      obtain ⟨y3, z3⟩ := List.getElem?_eq_some_iff.mp z3
      obtain ⟨x1, g1, g1a, g1b⟩ := ix_dg r2 y1
      obtain ⟨x2, g2, g2a, g2b⟩ := ix_dg r2 y2
      obtain ⟨x3, g3, g3a, g3b⟩ := ix_dg r2 y3
      rw [z1] at g1b
      rw [z2] at g2b
      rw [z3] at g3b
      have e1 : ((3 * (i % 8) : Nat) : Int) = 3 * ((i % 8 : Nat) : Int) := by omega
      have e2 : ((3 * (i % 8) + 1 : Nat) : Int) = 3 * ((i % 8 : Nat) : Int) + 1 := by omega
      have e3 : ((3 * (i % 8) + 2 : Nat) : Int) = 3 * ((i % 8 : Nat) : Int) + 2 := by omega
      rw [e1] at g1
      rw [e2] at g2
      rw [e3] at g3
      have hm : modG (.int (0 + (i : Int))) (.int 8) = .ok (.int ((i % 8 : Nat) : Int)) := by
        rw [mod_ok (by decide), Int.fmod_eq_emod_of_nonneg _ (by decide), Int.zero_add]
        rfl
      have hm3 := mul64 (a := 3) (b := ((i % 8 : Nat) : Int)) (by decide) (by omega)
      have hm7 := mul64 (a := 7) (b := 0 + (i : Int)) (by decide) (by omega)
      have hfd := fdiv_ok (x := c2) (y := 0 + (i : Int) + 1) (by omega) (by omega)
      obtain ⟨num, q1, q2⟩ := drawn_number_ok (digit := x1) (wide := wide) (c := c2.fdiv (0 + (i : Int) + 1)) ⟨g1a, g1b⟩ (Nat.le_trans (ib_fdiv _ _) k4)
      have hx3 := fdiv_ok (x := x3) (y := 1 + c) (by omega) (by omega)
      have hnm : 0 ≤ x3.fdiv (1 + c) ∧ x3.fdiv (1 + c) < 8 := by
        rw [Int.fdiv_eq_ediv_of_nonneg _ (by omega)]
        have h1 : 0 ≤ x3 / (1 + c) := Int.ediv_nonneg g3a (by omega)
        have h2 : x3 / (1 + c) ≤ x3 := Int.ediv_le_self _ g3a
        omega
      obtain ⟨nm, w1, w2⟩ := names_ix hnm
      have ic : ixG (.lst [.int a, .int b, .int c, .int d, .int e]) (.int 2) = .ok (.int c) := ixG_lst rfl
      have hacc3 : acc.length < 16777216 := by omega
      have hsm := fmod_bd (x2 - 20 + 7 * (0 + (i : Int))) (b := 41) (by decide)
      have hmm := mod_ok (x := x2 - 20 + 7 * (0 + (i : Int))) (y := 41) (by decide)
      generalize ((i % 8 : Nat) : Int) = M at *
      generalize hI : 0 + (i : Int) = I at *
      have hI0 : 0 ≤ I := by omega
      by_cases h7 : 7 < I
      · refine ⟨_, ((nm, (x2 - 20 + 7 * I).fmod 41 - 20), num), (.sh (.int I), .sh (.int (3 * M)), .sh (.int ((x2 - 20 + 7 * I).fmod 41 - 20)), .sh (.int num)), rfl, ⟨w2, by show ((x2 - 20 + 7 * I).fmod 41 - 20).natAbs ≤ 20; omega, q2⟩, ?_⟩
        have hcut := H.cut nm ((x2 - 20 + 7 * I).fmod 41 - 20) num
        simp [-mulG_int, -modG_int, -fdivG_int, body_items, dVarO, dVar, hm, hm3, hm7, g1, g2, g3, h7, hmm, t_law_drawn_items, k3, hfd, q1, hx3, ic, w1, hcut, dApp, hacc3]
      · refine ⟨_, ((nm, x2 - 20), num), (.sh (.int I), .sh (.int (3 * M)), .sh (.int (x2 - 20)), .sh (.int num)), rfl, ⟨w2, by show (x2 - 20).natAbs ≤ 20; omega, q2⟩, ?_⟩
        have hcut := H.cut nm (x2 - 20) num
        simp [-mulG_int, -modG_int, -fdivG_int, body_items, dVarO, dVar, hm, hm3, hm7, g1, g2, g3, h7, t_law_drawn_items, k3, hfd, q1, hx3, ic, w1, hcut, dApp, hacc3])
  obtain ⟨qs, ⟨j1, j2, j3, j4⟩, l1, l2, l3⟩ := loop
  rw [List.length_range] at l2
  obtain ⟨rs, f1, f2, f3⟩ := last_items_ok H (a := a) (b := b) (c := c) (d := d) (e := e) (n := (n : Int)) (s0 := .sh (.scr ns)) (s1 := .sh (.int (at' : Int))) (s3 := .sh (.int wide)) (s6 := .sh (.lst (strsOf names8))) (s7 := .sh (.lst (row.map .int))) (s9 := j1) (s10 := j2) (s11 := j3) (s12 := j4) (qs := qs) (fun h e => by
    subst e
    simp at l2
    omega) l3 (by omega)
  refine ⟨rs, ?_, f2, f3⟩
  rw [← f1]
  simp only [List.map_nil, List.nil_append] at l1
  have hr : (icRng1 (ocVar 5) : IC (mkT t_law_drawn_items)).den [.sh (.scr ns), .sh (.int (at' : Int)), .sh (.int k), .sh (.int wide), .sh (.lst [.int a, .int b, .int c, .int d, .int e]), .sh (.int (n : Int)), .sh (.lst (strsOf names8)), .sh (.lst (row.map .int)), .own (.lst []), .no, .no, .no, .no] = .ok ((List.range n).map fun (i : Nat) => D.int (0 + (i : Int))) := by
    rw [icRng1_ok (j := (n : Int)) rfl (by omega) (by omega), Int.toNat_natCast]
    rfl
  generalize (List.range n).map (fun (i : Nat) => D.int (0 + (i : Int))) = L at *
  have hnames : D.lst [.str (S [97]), .str (S [98, 49]), .str (S [108, 101, 118, 101, 108]), .str (S [97, 98, 99, 100, 101, 102, 103, 104, 105, 106]), .str (S [97, 48]), .str (S [122]), .str (S [120, 49, 48]), .str (S [120, 50])] = .lst (strsOf names8) := rfl
  simp [-mulG_int, -den_icRng1, rest_items, dVarO, dVar, n_a, n_b1, n_level, n_aj, n_a0, n_z, n_x10, n_x2, hnames, t_law_drawn_items, k1, mul24, r1, hr, l1]
end RJ

set_option Elab.async false
set_option linter.all false
set_option maxRecDepth 100000
set_option maxHeartbeats 1000000
set_option autoImplicit false
/-! RkQ: drawn items and worths, what is handed. -/
namespace RJ
open PySem PySem.Spec L2
open SX (S)

theorem count_ix {a d : Int} (ha : 0 ≤ a ∧ a < 12) (hd : 0 ≤ d ∧ d < 30) : ∃ n : Nat, n ≤ 57 ∧ ixG (.lst [.int 2, .int 1, .int 3, .int 2, .int 4, .int 0, .int 1, .int 5, .int 3, .int 2, .int 6, .int (36 - d)]) (.int a) = .ok (.int (n : Int)) := by
  obtain ⟨x, h1, h2⟩ := ix_mem (l := [.int 2, .int 1, .int 3, .int 2, .int 4, .int 0, .int 1, .int 5, .int 3, .int 2, .int 6, .int (36 - d)]) (i := a) ⟨ha.1, ha.2⟩
  have key : ∃ n : Nat, n ≤ 57 ∧ x = .int (n : Int) := by
    simp only [List.mem_cons, List.not_mem_nil, or_false] at h1
    rcases h1 with e | e | e | e | e | e | e | e | e | e | e | e
    · exact ⟨2, by decide, e⟩
    · exact ⟨1, by decide, e⟩
    · exact ⟨3, by decide, e⟩
    · exact ⟨2, by decide, e⟩
    · exact ⟨4, by decide, e⟩
    · exact ⟨0, by decide, e⟩
    · exact ⟨1, by decide, e⟩
    · exact ⟨5, by decide, e⟩
    · exact ⟨3, by decide, e⟩
    · exact ⟨2, by decide, e⟩
    · exact ⟨6, by decide, e⟩
    · refine ⟨(36 - d).toNat, by omega, ?_⟩
      rw [e, show (((36 - d).toNat : Nat) : Int) = 36 - d by omega]
  obtain ⟨n, h3, h4⟩ := key
  exact ⟨n, h3, by rw [h2, h4]⟩
def b_items' : BC (mkT t_law_drawn_items) :=
  bCons (scSet 4 (ecCall .f_law_digits (acCons (ecCall .f_law_cell (acCons (ecVar 0) (acCons (ecVar 1) acNil))) (acCons (ecF (fcLst (acCons (ecInt 12) (acCons (ecInt 3) (acCons (ecInt 2) (acCons (ecInt 30) (acCons (ecInt 2) acNil))))))) acNil)))) <|
  bCons (scSet 5 (ecIx (ocE (ecF (fcLst (acCons (ecInt 2) (acCons (ecInt 1) (acCons (ecInt 3) (acCons (ecInt 2) (acCons (ecInt 4) (acCons (ecInt 0) (acCons (ecInt 1) (acCons (ecInt 5) (acCons (ecInt 3) (acCons (ecInt 2) (acCons (ecInt 6) (acCons (ecBin lSub (ocE (ecInt 36)) (ocE (ecIx (ocVar 4) (ocE (ecInt 3))))) acNil))))))))))))))) (ocE (ecIx (ocVar 4) (ocE (ecInt 0)))))) <|
  bCons (scIf (tcAnd [(tcCmp lEq (ocVar 2) (ocE (ecInt 2))), (tcCmp lGt (ocE (ecIx (ocVar 4) (ocE (ecInt 0)))) (ocE (ecInt 8))), (tcCmp lEq (ocE (ecIx (ocVar 4) (ocE (ecInt 4)))) (ocE (ecInt 1)))]) (bCons (scSet 5 (ecBin lSub (ocE (ecInt 57)) (ocE (ecIx (ocVar 4) (ocE (ecInt 3)))))) bNil) (bNil)) rest_items
theorem drawn_items_ok {ns : List Int} (hl : ns.length ≤ 63) (hb : ∀ z ∈ ns, ib z ≤ 1048576) {at' : Nat} (hat : at' ≤ 50) {k wide : Int} {K : Spt × Int → D} (H : Kd k K) :
    ∃ rs : List (Spt × Int), d_law_drawn_items [.scr ns, .int (at' : Int), .int k, .int wide] = .ok (.lst (rs.map K)) ∧ rs.length ≤ 60 ∧ ∀ q ∈ rs, Gd q := by
  obtain ⟨c0, k1, k2⟩ := law_cell_ok (k := at') hl hb (by omega)
  obtain ⟨ds, r1, r2⟩ := law_digits_ok (c := c0) (ss := [12, 3, 2, 30, 2]) k2 (by decide) (by decide)
  rcases r2 with _ | ⟨a1, a2, _ | ⟨b1, b2, _ | ⟨c1, c2, _ | ⟨d1, d2, _ | ⟨e1, e2, r2⟩⟩⟩⟩⟩
  cases r2
  rename_i a b c d e
  have r1 : d_law_digits [.int c0, .lst [.int 12, .int 3, .int 2, .int 30, .int 2]] = .ok (.lst [.int a, .int b, .int c, .int d, .int e]) := r1
  obtain ⟨n, n1, n2⟩ := count_ix (a := a) (d := d) ⟨a1, a2⟩ ⟨d1, d2⟩
  have i0 : ixG (.lst [.int a, .int b, .int c, .int d, .int e]) (.int 0) = .ok (.int a) := ixG_lst rfl
  have i3 : ixG (.lst [.int a, .int b, .int c, .int d, .int e]) (.int 3) = .ok (.int d) := ixG_lst rfl
  have i4 : ixG (.lst [.int a, .int b, .int c, .int d, .int e]) (.int 4) = .ok (.int e) := ixG_lst rfl
  have main : d_law_drawn_items [.scr ns, .int (at' : Int), .int k, .int wide] = outS (b_items'.den [.sh (.scr ns), .sh (.int (at' : Int)), .sh (.int k), .sh (.int wide), .no, .no, .no, .no, .no, .no, .no, .no, .no]) := rfl
  rw [main]
  have done : ∀ m : Nat, m ≤ 57 → ∃ rs : List (Spt × Int), outS (rest_items.den [.sh (.scr ns), .sh (.int (at' : Int)), .sh (.int k), .sh (.int wide), .sh (.lst [.int a, .int b, .int c, .int d, .int e]), .sh (.int (m : Int)), .no, .no, .no, .no, .no, .no, .no]) = .ok (.lst (rs.map K)) ∧ rs.length ≤ 60 ∧ ∀ q ∈ rs, Gd q := fun m hm => rest_items_ok hl hb hat H ⟨c1, c2⟩ hm
  by_cases h1 : k = 2
  · by_cases h2 : 8 < a
    · by_cases h3 : e = 1
      · obtain ⟨rs, f1, f2⟩ := done (57 - d).toNat (by omega)
        rw [show (((57 - d).toNat : Nat) : Int) = 57 - d by omega] at f1
        refine ⟨rs, ?_, f2⟩
        rw [← f1]
        subst h3
        simp [b_items', dVarO, dVar, t_law_drawn_items, k1, r1, i0, i3, i4, n2, h1, h2]
      · obtain ⟨rs, f1, f2⟩ := done n n1
        refine ⟨rs, ?_, f2⟩
        rw [← f1]
        simp [b_items', dVarO, dVar, t_law_drawn_items, k1, r1, i0, i3, i4, n2, h1, h2, h3]
    · obtain ⟨rs, f1, f2⟩ := done n n1
      refine ⟨rs, ?_, f2⟩
      rw [← f1]
      simp [b_items', dVarO, dVar, t_law_drawn_items, k1, r1, i0, i3, i4, n2, h1, h2]
  · obtain ⟨rs, f1, f2⟩ := done n n1
    refine ⟨rs, ?_, f2⟩
    rw [← f1]
    simp [b_items', dVarO, dVar, t_law_drawn_items, k1, r1, i0, i3, i4, n2, h1]
def drop1 (q : Spt × Int) : Int × Int := (q.1.2, q.2)
theorem K1_map (rs : List (Spt × Int)) : rs.map K1 = (rs.map drop1).map encP := by
  rw [List.map_map]
  rfl
theorem worth1_ok {ns : List Int} (hl : ns.length ≤ 63) (hb : ∀ z ∈ ns, ib z ≤ 1048576) {at' : Nat} (hat : at' ≤ 50) {wide : Int} :
    ∃ rs : List (Spt × Int), d_law_drawn_worth [.scr ns, .int (at' : Int), .int 1, .int wide] = .ok (.tup ((nf sortI (rs.map drop1)).map encP)) ∧ rs.length ≤ 60 ∧ ∀ q ∈ rs, Gd q := by
  obtain ⟨rs, h1, h2, h3⟩ := drawn_items_ok (wide := wide) hl hb hat kd1
  rw [K1_map] at h1
  have hq : (rs.map drop1).length ≤ 16777216 := by
    rw [List.length_map]
    omega
  have p1 := law_poly_ok (d := .lst ((rs.map drop1).map encP)) encP_pair rfl hq
  have p2 := law_pairs_ok (nf_nml srtI (rs.map drop1)) (Nat.le_trans (nf_len srtI _) hq)
  refine ⟨rs, ?_, h2, h3⟩
  generalize rs.map drop1 = ps at *
  simp [d_law_drawn_worth, fnDen, n_law_drawn_worth, b_law_drawn_worth, startE, dVarO, dVar, t_law_drawn_worth, h1, p1, p2]
theorem worth2_ok {ns : List Int} (hl : ns.length ≤ 63) (hb : ∀ z ∈ ns, ib z ≤ 1048576) {at' : Nat} (hat : at' ≤ 50) {wide : Int} :
    ∃ rs : List (Spt × Int), d_law_drawn_worth [.scr ns, .int (at' : Int), .int 2, .int wide] = .ok (.tup ((nf srtS rs).map encS)) ∧ rs.length ≤ 60 ∧ ∀ q ∈ rs, Gd q := by
  obtain ⟨rs, h1, h2, h3⟩ := drawn_items_ok (wide := wide) hl hb hat kd2
  have hq : rs.length ≤ 16777216 := by omega
  have p1 := law_sum_ok (d := .lst (rs.map encS)) encS_term rfl hq
  have p2 := law_terms_ok (nf_nml srtSS rs) (Nat.le_trans (nf_len srtSS _) hq)
  refine ⟨rs, ?_, h2, h3⟩
  simp [d_law_drawn_worth, fnDen, n_law_drawn_worth, b_law_drawn_worth, startE, dVarO, dVar, t_law_drawn_worth, h1, p1, p2]
theorem bot_ix {b : Int} (hb : 0 ≤ b ∧ b < 12) : ∃ n : Int, 1 ≤ n ∧ n ≤ 12 ∧ ixG (.lst [.int 1, .int 1, .int 2, .int 3, .int 4, .int 6, .int 1, .int 10, .int 1, .int 2, .int 12, .int 5]) (.int b) = .ok (.int n) := by
  obtain ⟨x, h1, h2⟩ := ix_mem (l := [.int 1, .int 1, .int 2, .int 3, .int 4, .int 6, .int 1, .int 10, .int 1, .int 2, .int 12, .int 5]) (i := b) ⟨hb.1, hb.2⟩
  have key : ∃ n : Int, 1 ≤ n ∧ n ≤ 12 ∧ x = .int n := by
    simp only [List.mem_cons, List.not_mem_nil, or_false] at h1
    rcases h1 with e | e | e | e | e | e | e | e | e | e | e | e <;> exact ⟨_, by decide, by decide, e⟩
  obtain ⟨n, h3, h4, h5⟩ := key
  exact ⟨n, h3, h4, by rw [h2, h5]⟩
theorem wide_ix {w : Int} (hb : 0 ≤ w ∧ w < 3) : ∃ n : Int, 1 ≤ n ∧ n ≤ 100000000000000000000000000 ∧ ixG (.lst [.int 60, .int 1000000000, .int 100000000000000000000000000]) (.int w) = .ok (.int n) := by
  obtain ⟨x, h1, h2⟩ := ix_mem (l := [.int 60, .int 1000000000, .int 100000000000000000000000000]) (i := w) ⟨hb.1, hb.2⟩
  have key : ∃ n : Int, 1 ≤ n ∧ n ≤ 100000000000000000000000000 ∧ x = .int n := by
    simp only [List.mem_cons, List.not_mem_nil, or_false] at h1
    rcases h1 with e | e | e <;> exact ⟨_, by decide, by decide, e⟩
  obtain ⟨n, h3, h4, h5⟩ := key
  exact ⟨n, h3, h4, by rw [h2, h5]⟩
theorem p100 {a : Int} (h : a.natAbs ≤ 100000000000000000000000000) : a.natAbs < 2 ^ 100 := Nat.lt_of_le_of_lt h (by decide)
theorem worth0_ok {ns : List Int} (hl : ns.length ≤ 63) (hb : ∀ z ∈ ns, ib z ≤ 1048576) {at' : Nat} (hat : at' ≤ 50) {wide : Int} (hw : 0 ≤ wide ∧ wide < 3) :
    ∃ x y : Int, d_law_drawn_worth [.scr ns, .int (at' : Int), .int 0, .int wide] = .ok (encF (ratM x y)) ∧ x.natAbs ≤ 100000000000000000000000000 ∧ 1 ≤ y ∧ y ≤ 100000000000000000000000000 := by
  obtain ⟨c0, k1, k2⟩ := law_cell_ok (k := at') hl hb (by omega)
  obtain ⟨c1, k3, k4⟩ := law_cell_ok (k := at' + 1) hl hb (by omega)
  have k3 : d_law_cell [.scr ns, .int ((at' : Int) + 1)] = .ok (.int c1) := k3
  obtain ⟨c2, k5, k6⟩ := law_cell_ok (k := at' + 2) hl hb (by omega)
  have k5 : d_law_cell [.scr ns, .int ((at' : Int) + 2)] = .ok (.int c2) := k5
  obtain ⟨ds, r1, r2⟩ := law_digits_ok (c := c0) (ss := [11, 12, 3]) k2 (by decide) (by decide)
  rcases r2 with _ | ⟨a1, a2, _ | ⟨b1, b2, _ | ⟨g1, g2, r2⟩⟩⟩
  cases r2
  rename_i a b c
  have r1 : d_law_digits [.int c0, .lst [.int 11, .int 12, .int 3]] = .ok (.lst [.int a, .int b, .int c]) := r1
  obtain ⟨num, q1, q2⟩ := drawn_number_ok (digit := a) (wide := wide) (c := c1) ⟨a1, a2⟩ k4
  obtain ⟨bot, b3, b4, b5⟩ := bot_ix ⟨b1, b2⟩
  obtain ⟨wd, w1, w2, w3⟩ := wide_ix hw
  have i0 : ixG (.lst [.int a, .int b, .int c]) (.int 0) = .ok (.int a) := ixG_lst rfl
  have i1 : ixG (.lst [.int a, .int b, .int c]) (.int 1) = .ok (.int b) := ixG_lst rfl
  have i2 : ixG (.lst [.int a, .int b, .int c]) (.int 2) = .ok (.int c) := ixG_lst rfl
  by_cases hc : c = 1
  · have m1 := mul_ok (a := c2) (b := 100000000000000000039) (Nat.le_trans k6 (by decide)) (Nat.le_trans (ib128 (by decide)) (by decide))
    have m2 := mod_ok (x := c2 * 100000000000000000039) (y := wd) (by omega)
    have m3 := fmod_bd (c2 * 100000000000000000039) (b := wd) (by omega)
    have hf := law_frac_ok (a := a - 5) (b := 1 + (c2 * 100000000000000000039).fmod wd) (m := 100) (n := 100) (p100 (by omega)) (p100 (by omega)) (by omega) (by decide)
    subst hc
    refine ⟨a - 5, 1 + (c2 * 100000000000000000039).fmod wd, ?_, by omega, by omega, by omega⟩
    simp [-mulG_int, -modG_int, d_law_drawn_worth, fnDen, n_law_drawn_worth, b_law_drawn_worth, startE, dVarO, dVar, t_law_drawn_worth, k1, k3, k5, r1, i0, i1, i2, q1, b5, w3, pow_9, pow_20, pow_26, m1, m2, hf]
  · have hf := law_frac_ok (a := num) (b := bot) (m := 100) (n := 100) (p100 q2) (p100 (by omega)) (by omega) (by decide)
    refine ⟨num, bot, ?_, q2, b3, by omega⟩
    simp [d_law_drawn_worth, fnDen, n_law_drawn_worth, b_law_drawn_worth, startE, dVarO, dVar, t_law_drawn_worth, k1, k3, k5, r1, i0, i1, i2, q1, b5, hc, hf]
end RJ

set_option Elab.async false
set_option linter.all false
set_option maxRecDepth 100000
set_option maxHeartbeats 1000000
set_option autoImplicit false
/-! RkR: what is handed; what was written is read. -/
namespace RJ
open PySem PySem.Spec L2
open SX (S)

def encPl (p : Int × Int) : D := .lst [.int p.1, .int p.2]
def encSl (p : Spt × Int) : D := .lst [.str (S p.1.1), .int p.1.2, .int p.2]
theorem encPl_pair : IsPair encPl := fun _ => rfl
theorem encSl_term : IsTerm encSl := fun _ => rfl
theorem layPl : Lay encPl fun _ => True := layL fun _ => rfl
theorem laySl : Lay encSl rowOk where
  lay x h := ⟨.list [.str (S x.1.1), .int x.1.2, .int x.2], rfl, by
    have h : PyData.strOk (S x.1.1) = true := okN_codes h
    simp [PyData.canLay0, PyData.canLayAll0, h], by simp [PyData.depth, PyData.depthAll]⟩
  eqv x y p q _ _ h1 h2 := by
    cases h1
    cases h2
    simp only [PyData.eqv, PyData.eqvAll, Bool.and_true, Bool.and_eq_true, beq_iff_eq]
    constructor
    · rintro ⟨a, b, c⟩
      exact Prod.ext (Prod.ext (SX.S_inj a) b) c
    · rintro rfl
      exact ⟨rfl, rfl, rfl⟩
abbrev row8 (r0 r1 r2 r3 r4 r5 r6 r7 : Int) : D := .lst [.int r0, .int r1, .int r2, .int r3, .int r4, .int r5, .int r6, .int r7]
theorem min_ok (i j : Int) : min2G [.int i, .int j] = .ok (.int (if j < i then j else i)) := rfl
theorem handed1_ok {ns : List Int} (hl : ns.length ≤ 63) (hb : ∀ z ∈ ns, ib z ≤ 1048576) (r0 r1 r2 r3 r4 r5 r6 r7 : Int) :
    ∃ (d : D) (enc : Int × Int → D) (ps : List (Int × Int)), d_law_handed [.scr ns, .int 1, row8 r0 r1 r2 r3 r4 r5 r6 r7] = .ok d ∧ IsPair enc ∧ seqOf d = some (ps.map enc) ∧ ps.length ≤ 60 ∧ (∀ p ∈ ps, p.1.natAbs ≤ 20 ∧ p.2.natAbs ≤ 100000000000000000000000000) ∧ eqG true d d = .ok (.bl false) := by
  obtain ⟨rs, h1, h2, h3⟩ := drawn_items_ok (wide := if r1 < 1 then r1 else 1) (at' := 2) hl hb (by decide) kd1
  have h1 : d_law_drawn_items [.scr ns, .int 2, .int 1, .int (if r1 < 1 then r1 else 1)] = .ok (.lst (rs.map K1)) := h1
  rw [K1_map] at h1
  have hp : ∀ p ∈ rs.map drop1, p.1.natAbs ≤ 20 ∧ p.2.natAbs ≤ 100000000000000000000000000 := fun p hp => by
    obtain ⟨q, hq, e⟩ := List.mem_map.mp hp
    subst e
    exact (h3 q hq).2
  have hq : (rs.map drop1).length ≤ 60 := by
    rw [List.length_map]
    exact h2
  generalize rs.map drop1 = ps at *
  have i1 : ixG (row8 r0 r1 r2 r3 r4 r5 r6 r7) (.int 1) = .ok (.int r1) := ixG_lst rfl
  have i2 : ixG (row8 r0 r1 r2 r3 r4 r5 r6 r7) (.int 2) = .ok (.int r2) := ixG_lst rfl
  have hmin := min_ok 1 r1
  generalize (if r1 < 1 then r1 else 1) = w at *
  generalize row8 r0 r1 r2 r3 r4 r5 r6 r7 = row at *
  by_cases h0 : r2 = 0
  · have l := lcGo_map (tg := (gcName 6 : GC (mkT t_law_handed)).den) (ct := denC (none : Option (TC (mkT t_law_handed)))) (el := (ecB "list" lList (aoCons (ocVar 6) aoNil) : EC (mkT t_law_handed)).den) (vs := [6]) (Γ := [.sh (.scr ns), .sh (.int 1), .sh row, .no, .no, .sh (.lst (ps.map encP)), .no]) (enc := encP) (out := encPl) (Γx := fun p => [.sh (.scr ns), .sh (.int 1), .sh row, .no, .no, .sh (.lst (ps.map encP)), .sh (encP p)]) (xs := ps) (fun p hp => by
      refine ⟨rfl, rfl, ?_⟩
      simp [dVarO, dVar, encP, encPl])
    have h3 := denLc_ok (T := mkT t_law_handed) (it := icSeq (ecVar 5)) (tg := gcName 6) (ct := none) (el := ecB "list" lList (aoCons (ocVar 6) aoNil)) (vs := [6]) (Γ := [.sh (.scr ns), .sh (.int 1), .sh row, .no, .no, .sh (.lst (ps.map encP)), .no]) (ds := ps.map encP) (by simp [dVar]) (by simp; omega) l
    refine ⟨.lst (ps.map encPl), encPl, ps, ?_, encPl_pair, rfl, hq, hp, ?_⟩
    · subst h0
      simp [d_law_handed, fnDen, n_law_handed, b_law_handed, startE, dVarO, dVar, t_law_handed, i1, i2, hmin, h1, h3]
    · rw [eq_lst layPl (fun _ _ => trivial) (fun _ _ => trivial)]
      simp
  · refine ⟨.tup (ps.map encP), encP, ps, ?_, encP_pair, rfl, hq, hp, ?_⟩
    · simp [d_law_handed, fnDen, n_law_handed, b_law_handed, startE, dVarO, dVar, t_law_handed, i1, i2, hmin, h1, h0]
    · rw [eq_tup layP (fun _ _ => trivial) (fun _ _ => trivial)]
      simp
theorem handed2_ok {ns : List Int} (hl : ns.length ≤ 63) (hb : ∀ z ∈ ns, ib z ≤ 1048576) (r0 r1 r2 r3 r4 r5 r6 r7 : Int) :
    ∃ (d : D) (enc : Spt × Int → D) (ps : List (Spt × Int)), d_law_handed [.scr ns, .int 2, row8 r0 r1 r2 r3 r4 r5 r6 r7] = .ok d ∧ IsTerm enc ∧ seqOf d = some (ps.map enc) ∧ ps.length ≤ 60 ∧ (∀ p ∈ ps, Gd p) ∧ eqG true d d = .ok (.bl false) := by
  obtain ⟨ps, h1, hq, hp⟩ := drawn_items_ok (wide := if r1 < 1 then r1 else 1) (at' := 2) hl hb (by decide) kd2
  have h1 : d_law_drawn_items [.scr ns, .int 2, .int 2, .int (if r1 < 1 then r1 else 1)] = .ok (.lst (ps.map encS)) := h1
  have hrow : ∀ p ∈ ps, rowOk p := fun p h => (hp p h).1
  have i1 : ixG (row8 r0 r1 r2 r3 r4 r5 r6 r7) (.int 1) = .ok (.int r1) := ixG_lst rfl
  have i2 : ixG (row8 r0 r1 r2 r3 r4 r5 r6 r7) (.int 2) = .ok (.int r2) := ixG_lst rfl
  have hmin := min_ok 1 r1
  generalize (if r1 < 1 then r1 else 1) = w at *
  generalize row8 r0 r1 r2 r3 r4 r5 r6 r7 = row at *
  by_cases h0 : r2 = 0
  · have l := lcGo_map (tg := (gcName 6 : GC (mkT t_law_handed)).den) (ct := denC (none : Option (TC (mkT t_law_handed)))) (el := (ecB "list" lList (aoCons (ocVar 6) aoNil) : EC (mkT t_law_handed)).den) (vs := [6]) (Γ := [.sh (.scr ns), .sh (.int 2), .sh row, .no, .no, .sh (.lst (ps.map encS)), .no]) (enc := encS) (out := encSl) (Γx := fun p => [.sh (.scr ns), .sh (.int 2), .sh row, .no, .no, .sh (.lst (ps.map encS)), .sh (encS p)]) (xs := ps) (fun p hp => by
      refine ⟨rfl, rfl, ?_⟩
      simp [dVarO, dVar, encS, encSl])
    have h3 := denLc_ok (T := mkT t_law_handed) (it := icSeq (ecVar 5)) (tg := gcName 6) (ct := none) (el := ecB "list" lList (aoCons (ocVar 6) aoNil)) (vs := [6]) (Γ := [.sh (.scr ns), .sh (.int 2), .sh row, .no, .no, .sh (.lst (ps.map encS)), .no]) (ds := ps.map encS) (by simp [dVar]) (by simp; omega) l
    refine ⟨.lst (ps.map encSl), encSl, ps, ?_, encSl_term, rfl, hq, hp, ?_⟩
    · subst h0
      simp [d_law_handed, fnDen, n_law_handed, b_law_handed, startE, dVarO, dVar, t_law_handed, i1, i2, hmin, h1, h3]
    · rw [eq_lst laySl hrow hrow]
      simp
  · refine ⟨.tup (ps.map encS), encS, ps, ?_, encS_term, rfl, hq, hp, ?_⟩
    · simp [d_law_handed, fnDen, n_law_handed, b_law_handed, startE, dVarO, dVar, t_law_handed, i1, i2, hmin, h1, h0]
    · rw [eq_tup layS hrow hrow]
      simp
theorem up_ix {i : Int} (hb : 0 ≤ i ∧ i < 5) : ∃ n : Int, n ≠ 0 ∧ n.natAbs ≤ 10 ∧ ixG (.lst [.int 1, .int (-1), .int 2, .int (-3), .int 10]) (.int i) = .ok (.int n) := by
  obtain ⟨x, h1, h2⟩ := ix_mem (l := [.int 1, .int (-1), .int 2, .int (-3), .int 10]) (i := i) ⟨hb.1, hb.2⟩
  have key : ∃ n : Int, n ≠ 0 ∧ n.natAbs ≤ 10 ∧ x = .int n := by
    simp only [List.mem_cons, List.not_mem_nil, or_false] at h1
    rcases h1 with e | e | e | e | e <;> exact ⟨_, by decide, by decide, e⟩
  obtain ⟨n, h3, h4, h5⟩ := key
  exact ⟨n, h3, h4, by rw [h2, h5]⟩
theorem handed0_ok {ns : List Int} (hl : ns.length ≤ 63) (hb : ∀ z ∈ ns, ib z ≤ 1048576) (r0 r1 r2 r3 r4 r5 r6 r7 : Int) (b1 : 0 ≤ r1 ∧ r1 < 3) (b3 : 0 ≤ r3 ∧ r3 < 5) :
    ∃ (d : D) (x y : Int), d_law_handed [.scr ns, .int 0, row8 r0 r1 r2 r3 r4 r5 r6 r7] = .ok d ∧ ((d = .int x ∧ y = 1) ∨ d = .lst [.int x, .int y] ∨ d = .tup [.int x, .int y]) ∧ y ≠ 0 ∧ x.natAbs ≤ 1000000000000000000000000000 ∧ y.natAbs ≤ 1000000000000000000000000000 ∧ eqG true d d = .ok (.bl false) := by
  obtain ⟨x, y, h1, h2, h3, h4⟩ := worth0_ok (wide := r1) (at' := 2) hl hb (by decide) b1
  have h1 : d_law_drawn_worth [.scr ns, .int 2, .int 0, .int r1] = .ok (encF (ratM x y)) := h1
  obtain ⟨q1, q2⟩ := rat_le (a := x) (b := y) (by omega)
  obtain ⟨s1, s2, s3, s4⟩ := ratM_spec (a := x) (b := y) (by omega)
  obtain ⟨up, u1, u2, u3⟩ := up_ix b3
  generalize hf : ratM x y = f at *
  obtain ⟨a, b⟩ := f
  simp only at q1 q2 s3
  have i1 : ixG (row8 r0 r1 r2 r3 r4 r5 r6 r7) (.int 1) = .ok (.int r1) := ixG_lst rfl
  have i2 : ixG (row8 r0 r1 r2 r3 r4 r5 r6 r7) (.int 2) = .ok (.int r2) := ixG_lst rfl
  have i3 : ixG (row8 r0 r1 r2 r3 r4 r5 r6 r7) (.int 3) = .ok (.int r3) := ixG_lst rfl
  generalize row8 r0 r1 r2 r3 r4 r5 r6 r7 = row at *
  have m1 := mul_ok (a := up) (b := a) (Nat.le_trans (ib64 (by omega)) (by decide)) (Nat.le_trans (ib128 (by omega)) (by decide))
  have m2 := mul_ok (a := up) (b := b) (Nat.le_trans (ib64 (by omega)) (by decide)) (Nat.le_trans (ib128 (by omega)) (by decide))
  have e1 : (up * a).natAbs ≤ 10 * 100000000000000000000000000 := by
    rw [Int.natAbs_mul]
    exact Nat.mul_le_mul u2 (by omega)
  have e2 : (up * b).natAbs ≤ 10 * 100000000000000000000000000 := by
    rw [Int.natAbs_mul]
    exact Nat.mul_le_mul u2 (by omega)
  have e3 : up * b ≠ 0 := Int.mul_ne_zero u1 (by omega)
  have f0 : ixG (encF (a, b)) (.int 0) = .ok (.int a) := ixG_tup rfl
  have f1 : ixG (encF (a, b)) (.int 1) = .ok (.int b) := ixG_tup rfl
  have rest : ∀ (X : Prop), (¬ X) → True := fun _ _ => trivial
  by_cases c1 : r3 = 0 ∧ b = 1
  · obtain ⟨c1, c2⟩ := c1
    refine ⟨.int a, a, 1, ?_, .inl ⟨rfl, rfl⟩, by decide, by omega, by decide, by simp⟩
    simp [d_law_handed, fnDen, n_law_handed, b_law_handed, startE, dVarO, dVar, t_law_handed, i1, i2, i3, h1, f0, f1, c1, c2]
    first
      | done
      | (subst c2; simp [f0, f1, i3, c1])
  · by_cases c2 : r3 = 0
    · have c3 : ¬ b = 1 := fun h => c1 ⟨c2, h⟩
      clear c1
      subst c2
      by_cases c4 : r2 = 0
      · refine ⟨.lst [.int (up * a), .int (up * b)], up * a, up * b, ?_, .inr (.inl rfl), e3, by omega, by omega, ?_⟩
        · simp [-mulG_int, d_law_handed, fnDen, n_law_handed, b_law_handed, startE, dVarO, dVar, t_law_handed, i1, i2, i3, h1, f0, f1, c3, c4, u3, m1, m2]
        · have := eq_one layPl (fun x s h => by cases h) (x := (up * a, up * b)) (y := (up * a, up * b)) trivial trivial true
          simpa [encPl] using this
      · refine ⟨.tup [.int (up * a), .int (up * b)], up * a, up * b, ?_, .inr (.inr rfl), e3, by omega, by omega, ?_⟩
        · simp [-mulG_int, d_law_handed, fnDen, n_law_handed, b_law_handed, startE, dVarO, dVar, t_law_handed, i1, i2, i3, h1, f0, f1, c3, c4, u3, m1, m2]
        · have := eq_f (up * a, up * b) (up * a, up * b) true
          simpa [encF] using this
    · by_cases c4 : r2 = 0
      · refine ⟨.lst [.int (up * a), .int (up * b)], up * a, up * b, ?_, .inr (.inl rfl), e3, by omega, by omega, ?_⟩
        · simp [-mulG_int, d_law_handed, fnDen, n_law_handed, b_law_handed, startE, dVarO, dVar, t_law_handed, i1, i2, i3, h1, f0, f1, c2, c4, u3, m1, m2]
        · have := eq_one layPl (fun x s h => by cases h) (x := (up * a, up * b)) (y := (up * a, up * b)) trivial trivial true
          simpa [encPl] using this
      · refine ⟨.tup [.int (up * a), .int (up * b)], up * a, up * b, ?_, .inr (.inr rfl), e3, by omega, by omega, ?_⟩
        · simp [-mulG_int, d_law_handed, fnDen, n_law_handed, b_law_handed, startE, dVarO, dVar, t_law_handed, i1, i2, i3, h1, f0, f1, c2, c4, u3, m1, m2]
        · have := eq_f (up * a, up * b) (up * a, up * b) true
          simpa [encF] using this
/-! ### what was written is read -/
theorem rd_written {α : Type} [DecidableEq α] {pi : α → List Nat} {pc : List Nat → Option α} {ok : α → Prop} (P : Pc pi pc ok) (h3 : ∀ x, 3 ≤ (pi x).length) {nfm : List α → List α} {q : List α} (hq : nfm q = q) (hok : ∀ x ∈ q, ok x) : rdG pc nfm (wrJ (q.map pi)) = some q := by
  by_cases hne : q = []
  · subst hne
    rfl
  · obtain ⟨x, r, e⟩ : ∃ x r, q = x :: r := by
      cases q with
      | nil => exact absurd rfl hne
      | cons x r => exact ⟨x, r, rfl⟩
    have hm := wrJ_mem (ps := q.map pi) (p := pi x) (by rw [e]; simp)
    have h48 : wrJ (q.map pi) ≠ [48] := fun e => by
      have := congrArg List.length e
      have h := h3 x
      simp at this
      omega
    unfold rdG
    rw [if_neg h48, P.split hne hok, P.again hok]
    exact if_pos hq
theorem rdF_written {f : Int × Int} (hp : 0 < f.2) (hg : Int.gcd f.1 f.2 = 1) : rdF (wrF f) = some f := by
  unfold rdF wrF
  split
  · rename_i h
    have e : TL.spl [47] 0 [] (numI f.1) = [numI f.1] := SX.spl_join (c := 47) (sep := []) (parts := [numI f.1]) (by simp) (by
      intro p hp
      rw [List.mem_singleton] at hp
      subst hp
      exact numI_free _ (by decide))
    rw [e]
    simp only [List.map_cons, List.map_nil, wn_num, fr2]
    rw [← h]
  · rename_i h
    have e : TL.spl [47] 0 [] (numI f.1 ++ [47] ++ numI f.2) = [numI f.1, numI f.2] := by
      have e : numI f.1 ++ [47] ++ numI f.2 = TL.joinL [47] [numI f.1, numI f.2] := by rw [joinL_cons2]; rfl
      rw [e, SX.spl_join (by simp) (by
        intro p hp
        simp only [List.mem_cons, List.not_mem_nil, or_false] at hp
        rcases hp with e | e <;> subst e <;> exact numI_free _ (by decide))]
    rw [e]
    simp only [List.map_cons, List.map_nil, wn_num, fr2]
    rw [if_pos ⟨by omega, rat_self hp hg⟩]
end RJ

set_option Elab.async false
set_option linter.all false
set_option maxRecDepth 100000
set_option maxHeartbeats 1000000
set_option autoImplicit false
/-! RkS: values beyond the bounds. -/
namespace RJ
open PySem PySem.Spec L2
open SX (S)

def fa_bB : BC (mkT t_law_far_agrees) :=
  (bCons (scSet 6 (ecCall .f_times (acCons (ecVar 6) (acCons (ecVar 6) acNil)))) <|
    bCons (scSet 7 (ecBin lMul (ocVar 7) (ocVar 7))) bNil)
def fa_bE : BC (mkT t_law_far_agrees) :=
  (bCons (scIf (tcCmp lEq (ocVar 0) (ocE (ecInt 1))) (bCons (scSet 4 (ecCall .f_poly_times (acCons (ecVar 4) (acCons (ecF (fcLst (acCons (ecF (fcLst (acCons (ecBin lSub (ocVar 2) (ocE (ecInt 20))) (acCons (ecBin lPow (ocE (ecInt 10)) (ocE (ecInt 9))) acNil)))) acNil))) acNil)))) bNil) (bNil)) <|
    bCons (scIf (tcCmp lEq (ocVar 0) (ocE (ecInt 2))) (bCons (scSet 4 (ecCall .f_sum_times (acCons (ecF (fcLst (acCons (ecTup (acCons (ecBin lSub (ocVar 2) (ocE (ecInt 20))) (acCons (ecBin lPow (ocE (ecInt 10)) (ocE (ecInt 9))) acNil))) acNil))) (acCons (ecVar 4) acNil)))) bNil) (bNil)) bNil)
def fa_G : BC (mkT t_law_far_agrees) :=
  bCons (scSet 9 (ecCall .f_law_formatted (acCons (ecVar 0) (acCons (ecVar 4) acNil)))) <|
  bCons (scRet (ecAnd [(ecCmp lEq (ocVar 9) (ocE (ecCall .f_law_write (acCons (ecVar 0) (acCons (ecVar 10) acNil))))), (ecCmp lEq (ocE (ecCall .f_law_parsed (acCons (ecVar 0) (acCons (ecVar 9) acNil)))) (ocE (ecF (fcLst (acCons (ecVar 10) acNil)))))])) bNil
def fa_F2 : BC (mkT t_law_far_agrees) :=
  bCons (scIf (tcCmp lEq (ocVar 0) (ocE (ecInt 2))) (bCons (scSet 4 (ecCall .f_sum_times (acCons (ecF (fcLst (acCons (ecF (fcLst (acCons (ecInt 0) (acCons (ecIx (ocVar 6) (ocE (ecInt 0))) acNil)))) acNil))) (acCons (ecVar 4) acNil)))) <|
    bCons (scSet 10 (ecB "tuple" lTuple (aoCons (ocE (ecF (fcLc [(("term" : Str), 12)] (icSeq (ecVar 1)) (gcName 12) none (ecTup (acCons (ecIx (ocVar 12) (ocE (ecInt 0))) (acCons (ecBin lAdd (ocE (ecIx (ocVar 12) (ocE (ecInt 1)))) (ocVar 5)) (acCons (ecBin lMul (ocE (ecBin lMul (ocE (ecBin lPow (ocE (ecInt 10)) (ocE (ecInt 36)))) (ocVar 7))) (ocE (ecIx (ocVar 12) (ocE (ecInt 2))))) acNil))))))) aoNil))) bNil) (bNil)) fa_G
def fa_F1 : BC (mkT t_law_far_agrees) :=
  bCons (scIf (tcCmp lEq (ocVar 0) (ocE (ecInt 1))) (bCons (scSet 4 (ecCall .f_poly_times (acCons (ecVar 4) (acCons (ecF (fcLst (acCons (ecTup (acCons (ecInt 0) (acCons (ecIx (ocVar 6) (ocE (ecInt 0))) acNil))) acNil))) acNil)))) <|
    bCons (scSet 10 (ecB "tuple" lTuple (aoCons (ocE (ecF (fcLc [(("pair" : Str), 11)] (icSeq (ecVar 1)) (gcName 11) none (ecTup (acCons (ecBin lAdd (ocE (ecIx (ocVar 11) (ocE (ecInt 0)))) (ocVar 5)) (acCons (ecBin lMul (ocE (ecBin lMul (ocE (ecBin lPow (ocE (ecInt 10)) (ocE (ecInt 36)))) (ocVar 7))) (ocE (ecIx (ocVar 11) (ocE (ecInt 1))))) acNil)))))) aoNil))) bNil) (bNil)) fa_F2
def fa_E : BC (mkT t_law_far_agrees) :=
  bCons (scFor (gcName 8) (icRng1 (ocE (ecInt 4))) fa_bE) fa_F1
def fa_D : BC (mkT t_law_far_agrees) :=
  bCons (scIf (tcCmp lEq (ocVar 0) (ocE (ecInt 0))) (bCons (scSet 4 (ecCall .f_times (acCons (ecCall .f_times (acCons (ecVar 1) (acCons (ecVar 6) acNil))) (acCons (ecTup (acCons (ecNeg (ocE (ecInt 1))) (acCons (ecBin lSub (ocE (ecBin lPow (ocE (ecInt 10)) (ocE (ecInt 30)))) (ocE (ecInt 3))) acNil))) acNil)))) <|
    bCons (scSet 10 (ecCall .f_law_frac (acCons (ecBin lMul (ocE (ecNeg (ocE (ecIx (ocVar 1) (ocE (ecInt 0)))))) (ocVar 7)) (acCons (ecBin lMul (ocE (ecIx (ocVar 1) (ocE (ecInt 1)))) (ocE (ecBin lSub (ocE (ecBin lPow (ocE (ecInt 10)) (ocE (ecInt 30)))) (ocE (ecInt 3))))) acNil)))) bNil) (bNil)) fa_E
def fa_C : BC (mkT t_law_far_agrees) :=
  bCons (scIf (tcOr [(tcCmp lNe (ocVar 6) (ocE (ecTup (acCons (ecVar 7) (acCons (ecInt 1) acNil))))), (tcNot (tcTru (ocE (ecCall .f_law_is_fraction (acCons (ecVar 6) acNil)))))]) (bCons (scRet (ecBl false)) bNil) (bNil)) fa_D
def fa_B : BC (mkT t_law_far_agrees) :=
  bCons (scFor (gcName 8) (icRng1 (ocVar 3)) fa_bB) fa_C
def fa_A : BC (mkT t_law_far_agrees) :=
  bCons (scSet 4 (ecVar 1)) <|
  bCons (scSet 5 (ecBin lMul (ocE (ecInt 4)) (ocE (ecBin lSub (ocVar 2) (ocE (ecInt 20)))))) <|
  bCons (scSet 6 (ecCall .f_times (acCons (ecBin lSub (ocE (ecBin lPow (ocE (ecInt 10)) (ocE (ecInt 30)))) (ocE (ecInt 1))) (acCons (ecInt 1) acNil)))) <|
  bCons (scSet 7 (ecBin lSub (ocE (ecBin lPow (ocE (ecInt 10)) (ocE (ecInt 30)))) (ocE (ecInt 1)))) <|
  bCons (scIf (tcAnd [(tcCmp lGt (ocVar 0) (ocE (ecInt 0))), (tcCmp lGt (ocE (ecB "len" lLen (aoCons (ocVar 1) aoNil))) (ocE (ecInt 6)))]) (bCons (scSet 3 (ecInt 0)) bNil) (bNil)) fa_B

abbrev g0 : Int := 999999999999999999999999999999
theorem pow_lt {a b k m : Nat} (ha : a < 10 ^ k) (hb : b < 10 ^ m) : a * b < 10 ^ (k + m) := by
  rw [Nat.pow_add]
  exact Nat.mul_lt_mul'' ha hb
theorem pow_mono {a k m : Nat} (ha : a < 10 ^ k) (h : k ≤ m) : a < 10 ^ m := Nat.lt_of_lt_of_le ha (Nat.pow_le_pow_right (by decide) h)
theorem mulD {a b : Int} {k m : Nat} (ha : a.natAbs < 10 ^ k) (hb : b.natAbs < 10 ^ m) : (a * b).natAbs < 10 ^ (k + m) := by
  rw [Int.natAbs_mul]
  exact pow_lt ha hb
theorem ibD {a : Int} {k : Nat} (ha : a.natAbs < 10 ^ k) : ib a ≤ 4 * k := bits10 ha
theorem mul_okD {a b : Int} {k m : Nat} (ha : a.natAbs < 10 ^ k) (hb : b.natAbs < 10 ^ m) (hk : k ≤ 5000) (hm : m ≤ 5000) : mulG (.int a) (.int b) = .ok (.int (a * b)) :=
  mul_ok (Nat.le_trans (ibD ha) (by omega)) (Nat.le_trans (ibD hb) (by omega))
theorem times_D {d e : D} {a b a' b' : Int} {k1 k2 k3 k4 : Nat} (hd : fracOf d = some (a, b)) (he : fracOf e = some (a', b')) (h1 : a.natAbs < 10 ^ k1) (h2 : b.natAbs < 10 ^ k2) (h3 : a'.natAbs < 10 ^ k3) (h4 : b'.natAbs < 10 ^ k4) (hb : b ≠ 0) (hb' : b' ≠ 0) (hk : k1 + k2 + k3 + k4 ≤ 5000) : d_times [d, e] = .ok (encF (ratM (a * a') (b * b'))) := by
  refine times_ok hd he (ten_two (mulD h1 h3)) (ten_two (mulD h2 h4)) (Int.mul_ne_zero hb hb') (by omega) ?_ ?_
  · have i1 := ibD h1
    have i2 := ibD h3
    show ((ib a : Nat) : Int) + ((ib a' : Nat) : Int) ≤ 134217728
    omega
  · have i1 := ibD h2
    have i2 := ibD h4
    show ((ib b : Nat) : Int) + ((ib b' : Nat) : Int) ≤ 134217728
    omega
theorem loopB {k : Int} {v : D} {s2 s3 s4 s5 s9 s10 s11 s12 : Sl} {t : Nat} (ht : t ≤ 7) : ∃ (g : Int) (s8 : Sl), 0 < g ∧ g.natAbs < 10 ^ 3840 ∧ forD (fun d Γ => .ok (Γ.set 8 (.sh d))) fa_bB.den ((List.range t).map fun (i : Nat) => D.int (0 + (i : Int))) [.sh (.int k), .sh v, s2, s3, s4, s5, .sh (encF (g0, 1)), .sh (.int g0), .no, s9, s10, s11, s12] = .nx [.sh (.int k), .sh v, s2, s3, s4, s5, .sh (encF (g, 1)), .sh (.int g), s8, s9, s10, s11, s12] := by
  have key := forD_fold (tg := fun d Γ => .ok (Γ.set 8 (.sh d))) (body := fa_bB.den) (enc := fun (i : Nat) => D.int (0 + (i : Int))) (st := fun (z : Int × Sl) => [.sh (.int k), .sh v, s2, s3, s4, s5, .sh (encF (z.1, 1)), .sh (.int z.1), z.2, s9, s10, s11, s12]) (f := fun z i => (z.1 * z.1, .sh (.int (0 + (i : Int))))) (fun m z => 0 < z.1 ∧ z.1.natAbs < 10 ^ (30 * 2 ^ m)) (List.range t) (g0, .no) 0 ⟨by decide, by decide +kernel⟩ (fun m z i _ hm hz => by
    obtain ⟨z1, z2⟩ := hz
    rw [List.length_range] at hm
    have hm6 : m ≤ 6 := by omega
    have hp : 30 * 2 ^ m ≤ 1920 := by
      have : 2 ^ m ≤ 2 ^ 6 := Nat.pow_le_pow_right (by decide) hm6
      omega
    have hsq : (z.1 * z.1).natAbs < 10 ^ (30 * 2 ^ (m + 1)) := by
      rw [show 30 * 2 ^ (m + 1) = 30 * 2 ^ m + 30 * 2 ^ m by rw [Nat.pow_succ]; omega]
      exact mulD z2 z2
    refine ⟨⟨Int.mul_pos z1 z1, hsq⟩, _, rfl, .inl ?_⟩
    have h1 := times_D (d := encF (z.1, 1)) (e := encF (z.1, 1)) rfl rfl z2 (show (1 : Int).natAbs < 10 ^ 1 by decide) z2 (show (1 : Int).natAbs < 10 ^ 1 by decide) (show (1 : Int) ≠ 0 by decide) (show (1 : Int) ≠ 0 by decide) (by omega)
    rw [Int.mul_one, rat_1] at h1
    have h2 := mul_okD z2 z2 (by omega) (by omega)
    generalize z.1 = Z at *
    generalize encF (Z, 1) = E at *
    simp [-mulG_int, fa_bB, dVarO, dVar, t_law_far_agrees, h1, h2])
  obtain ⟨key, hz1, hz2⟩ := key
  rw [Nat.zero_add, List.length_range] at hz2
  generalize (List.range t).foldl (fun (z : Int × Sl) (i : Nat) => (z.1 * z.1, Sl.sh (.int (0 + (i : Int))))) (g0, .no) = Z at key hz1 hz2
  obtain ⟨g, s8⟩ := Z
  refine ⟨g, s8, hz1, pow_mono hz2 ?_, key⟩
  have : 2 ^ t ≤ 2 ^ 7 := Nat.pow_le_pow_right (by decide) ht
  omega
/-- up to the kinds -/
theorem far_B {k : Int} {v : D} {by' : Int} {s4 s5 : Sl} {t : Nat} (ht : t ≤ 7) : ∃ (g : Int) (s8 : Sl), 0 < g ∧ g.natAbs < 10 ^ 3840 ∧
    fa_B.den [.sh (.int k), .sh v, .sh (.int by'), .sh (.int (t : Int)), s4, s5, .sh (encF (g0, 1)), .sh (.int g0), .no, .no, .no, .no, .no] = fa_D.den [.sh (.int k), .sh v, .sh (.int by'), .sh (.int (t : Int)), s4, s5, .sh (encF (g, 1)), .sh (.int g), s8, .no, .no, .no, .no] := by
  obtain ⟨g, s8, h1, h2, l⟩ := loopB (k := k) (v := v) (s2 := .sh (.int by')) (s3 := .sh (.int (t : Int))) (s4 := s4) (s5 := s5) (s9 := .no) (s10 := .no) (s11 := .no) (s12 := .no) ht
  refine ⟨g, s8, h1, h2, ?_⟩
  have hr : (icRng1 (ocVar 3) : IC (mkT t_law_far_agrees)).den [.sh (.int k), .sh v, .sh (.int by'), .sh (.int (t : Int)), s4, s5, .sh (encF (g0, 1)), .sh (.int g0), .no, .no, .no, .no, .no] = .ok ((List.range t).map fun (i : Nat) => D.int (0 + (i : Int))) := by
    rw [icRng1_ok (j := (t : Int)) rfl (by omega) (by omega), Int.toNat_natCast]
    rfl
  generalize (List.range t).map (fun (i : Nat) => D.int (0 + (i : Int))) = L at *
  have he : eqG true (encF (g, 1)) (.tup [.int g, .int 1]) = .ok (.bl false) := by
    have := eq_f (g, 1) (g, 1) true
    simpa [encF] using this
  have hf := is_fraction_ok (a := g) (b := 1) (n := 1) (by decide) (by decide) (by decide) (by simp)
  generalize hG : encF (g0, 1) = G0 at *
  generalize hE : encF (g, 1) = E at *
  simp [-den_icRng1, fa_B, dVarO, dVar, hr, l, fa_C, he, t_law_far_agrees, hf]
theorem far_A {k : Int} {v : D} {by' t : Int} (hy : 0 ≤ by' ∧ by' < 41) (ht : 0 ≤ t ∧ t ≤ 7) (hv : k = 0 ∨ (0 < k ∧ ∃ n : Int, lenG [v] = .ok (.int n))) : ∃ (g t' : Int) (s8 : Sl), 0 < g ∧ g.natAbs < 10 ^ 3840 ∧
    d_law_far_agrees [.int k, v, .int by', .int t] = outS (fa_D.den [.sh (.int k), .sh v, .sh (.int by'), .sh (.int t'), .sh v, .sh (.int (4 * (by' - 20))), .sh (encF (g, 1)), .sh (.int g), s8, .no, .no, .no, .no]) := by
  · have hby : ib (by' - 20) ≤ 1000 := Nat.le_trans (ib64 (by omega)) (by decide)
    have m1 := mul_ok (a := 4) (b := by' - 20) (Nat.le_trans (ib64 (by decide)) (by decide)) (Nat.le_trans hby (by decide))
    have h1 := times_D (d := .int g0) (e := .int 1) (k1 := 30) (k2 := 1) (k3 := 1) (k4 := 1) rfl rfl (by decide) (show (1 : Int).natAbs < 10 ^ 1 by decide) (show (1 : Int).natAbs < 10 ^ 1 by decide) (show (1 : Int).natAbs < 10 ^ 1 by decide) (by decide) (by decide) (by decide)
    rw [Int.mul_one, Int.mul_one, rat_1] at h1
    have main : d_law_far_agrees [.int k, v, .int by', .int t] = outS (fa_A.den [.sh (.int k), .sh v, .sh (.int by'), .sh (.int t), .no, .no, .no, .no, .no, .no, .no, .no, .no]) := rfl
    have sub1 : (1000000000000000000000000000000 : Int) - 1 = g0 := by decide
    have step : ∃ t' : Nat, t' ≤ 7 ∧ fa_A.den [.sh (.int k), .sh v, .sh (.int by'), .sh (.int t), .no, .no, .no, .no, .no, .no, .no, .no, .no] = fa_B.den [.sh (.int k), .sh v, .sh (.int by'), .sh (.int (t' : Int)), .sh v, .sh (.int (4 * (by' - 20))), .sh (encF (g0, 1)), .sh (.int g0), .no, .no, .no, .no, .no] := by
      have hsub : subG (.int 1000000000000000000000000000000) (.int 1) = .ok (.int g0) := rfl
      generalize g0 = G at *
      generalize encF (G, 1) = E at *
      rcases hv with e | ⟨hk, n, hv⟩
      · subst e
        refine ⟨t.toNat, by omega, ?_⟩
        rw [show ((t.toNat : Nat) : Int) = t by omega]
        simp [-mulG_int, -subG_int, subG_int _ 20, m1, fa_A, dVarO, dVar, pow_30, t_law_far_agrees, hsub, h1]
      · by_cases h6 : 6 < n
        · refine ⟨0, by decide, ?_⟩
          simp [-mulG_int, -subG_int, subG_int _ 20, m1, fa_A, dVarO, dVar, pow_30, t_law_far_agrees, hsub, h1, hv, h6, hk]
        · refine ⟨t.toNat, by omega, ?_⟩
          rw [show ((t.toNat : Nat) : Int) = t by omega]
          simp [-mulG_int, -subG_int, subG_int _ 20, m1, fa_A, dVarO, dVar, pow_30, t_law_far_agrees, hsub, h1, hv, h6, hk]
    obtain ⟨t', h7, h8⟩ := step
    obtain ⟨g, s8, g1, g2, g3⟩ := far_B (k := k) (v := v) (by' := by') (s4 := .sh v) (s5 := .sh (.int (4 * (by' - 20)))) h7
    exact ⟨g, t', s8, g1, g2, by rw [main, h8, g3]⟩
end RJ

set_option Elab.async false
set_option linter.all false
set_option maxRecDepth 100000
set_option maxHeartbeats 1000000
set_option autoImplicit false
/-! RkT: values beyond the bounds, kind by kind. -/
namespace RJ
open PySem PySem.Spec L2
open SX (S)

theorem ratM_eq {a b a' b' : Int} (hb : b ≠ 0) (hb' : b' ≠ 0) (h : a * b' = a' * b) : ratM a b = ratM a' b' := by
  obtain ⟨h1, h2, h3, h4⟩ := ratM_spec (a := a') hb'
  have hg := gq_ne (a := a') hb'
  refine ratM_unique (x := (ratM a' b').1) (y := (ratM a' b').2) hb h3 h4 ?_
  generalize (ratM a' b').1 = X at *
  generalize (ratM a' b').2 = Y at *
  generalize gq a' b' = Q at *
  refine Int.eq_of_mul_eq_mul_right hg ?_
  calc X * b * Q = X * Q * b := by rw [Int.mul_assoc, Int.mul_comm b Q, ← Int.mul_assoc]
    _ = a' * b := by rw [← h1]
    _ = a * b' := h.symm
    _ = a * (Y * Q) := by rw [← h2]
    _ = a * Y * Q := by rw [← Int.mul_assoc]
theorem loopE0 {v : D} {s2 s3 s4 s5 s6 s7 s8 s9 s10 s11 s12 : Sl} : ∃ s8', forD (fun d Γ => .ok (Γ.set 8 (.sh d))) fa_bE.den ((List.range 4).map fun (i : Nat) => D.int (0 + (i : Int))) [.sh (.int 0), .sh v, s2, s3, s4, s5, s6, s7, s8, s9, s10, s11, s12] = .nx [.sh (.int 0), .sh v, s2, s3, s4, s5, s6, s7, s8', s9, s10, s11, s12] := by
  obtain ⟨j, h⟩ := forD_true (tg := fun d Γ => .ok (Γ.set 8 (.sh d))) (body := fa_bE.den) (enc := fun (i : Nat) => D.int (0 + (i : Int))) (st := fun (s : Sl) => [.sh (.int 0), .sh v, s2, s3, s4, s5, s6, s7, s, s9, s10, s11, s12]) (List.range 4) s8 (fun i _ j => by
    refine ⟨_, .sh (.int (0 + (i : Int))), rfl, ?_⟩
    simp [fa_bE, dVarO, dVar])
  exact ⟨j, h⟩
theorem rng4 (Γ : En) : (icRng1 (ocE (ecInt 4)) : IC (mkT t_law_far_agrees)).den Γ = .ok ((List.range 4).map fun (i : Nat) => D.int (0 + (i : Int))) := by
  rw [icRng1_ok (j := 4) rfl (by decide) (by decide)]
  rfl
abbrev c3 : Int := 999999999999999999999999999997
theorem wrF_len2 {f : Int × Int} {k m : Nat} (h1 : f.1.natAbs < 10 ^ (k + 1)) (h2 : f.2.natAbs < 10 ^ (m + 1)) : (wrF f).length ≤ k + m + 5 := by
  have a1 := numI_len (by omega) h1
  have a2 := numI_len (by omega) h2
  unfold wrF
  split
  · omega
  · simp only [List.length_append, List.length_singleton]
    omega
theorem far0 {f : Int × Int} {by' t : Int} (hy : 0 ≤ by' ∧ by' < 41) (ht : 0 ≤ t ∧ t ≤ 7) (ha : f.1.natAbs < 10 ^ 28) (hb : f.2.natAbs < 10 ^ 28) (hp : 0 < f.2) (hg : Int.gcd f.1 f.2 = 1) : d_law_far_agrees [.int 0, encF f, .int by', .int t] = .ok (.bl true) := by
  obtain ⟨g, t', s8, g1, g2, main⟩ := far_A (k := 0) (v := encF f) hy ht (.inl rfl)
  rw [main]
  obtain ⟨a, b⟩ := f
  simp only at ha hb hp hg
  have hc3 : c3.natAbs < 10 ^ 30 := by decide +kernel
  have hc0 : c3 ≠ 0 := by decide
  -- far
  have t1 := times_D (d := encF (a, b)) (e := encF (g, 1)) rfl rfl ha hb g2 (show (1 : Int).natAbs < 10 ^ 1 by decide) (show b ≠ 0 by omega) (show (1 : Int) ≠ 0 by decide) (by decide)
  rw [Int.mul_one] at t1
  obtain ⟨x1, x2⟩ := rat_le (a := a * g) (b := b) (by omega)
  obtain ⟨y1, y2, y3, y4⟩ := ratM_spec (a := a * g) (b := b) (by omega)
  have bx : (ratM (a * g) b).1.natAbs < 10 ^ (28 + 3840) := Nat.lt_of_le_of_lt x1 (mulD ha g2)
  have bw : (ratM (a * g) b).2.natAbs < 10 ^ 28 := Nat.lt_of_le_of_lt x2 hb
  have key : ∀ x y : Int, ratM (a * g) b = (x, y) → x * b = a * g * y := fun x y e => by
    rw [e] at y1 y2
    generalize gq (a * g) b = Q at *
    simp only at y1 y2
    rw [y1, Int.mul_assoc, Int.mul_comm Q y, ← y2]
  obtain ⟨x, y⟩ : ∃ p, p = ratM (a * g) b := ⟨_, rfl⟩
  cases hR : ratM (a * g) b with
  | mk x y =>
    rw [hR] at t1 bx bw y3
    have hk := key x y hR
    simp only at bx bw y3
    have t2 := times_D (d := encF (x, y)) (e := .tup [.int (-1), .int c3]) rfl rfl bx bw (show (-1 : Int).natAbs < 10 ^ 1 by decide) hc3 (show y ≠ 0 by omega) hc0 (by decide)
    have heq : ratM (x * -1) (y * c3) = ratM (-a * g) (b * c3) := by
      refine ratM_eq (Int.mul_ne_zero (by omega) hc0) (Int.mul_ne_zero (by omega) hc0) ?_
      have e1 : x * -1 * (b * c3) = -(x * b) * c3 := by
        rw [Int.mul_neg, Int.mul_one, ← Int.mul_assoc, Int.neg_mul]
      have e2 : -a * g * (y * c3) = -(a * g * y) * c3 := by
        rw [← Int.mul_assoc, Int.neg_mul, Int.neg_mul]
      rw [e1, e2, hk]
    rw [heq] at t2
    have l1 := law_frac_ok (a := -a * g) (b := b * c3) (m := 4 * (28 + 3840)) (n := 4 * (28 + 30)) (ten_two (mulD (by rw [Int.natAbs_neg]; exact ha) g2)) (ten_two (mulD hb hc3)) (Int.mul_ne_zero (by omega) hc0) (by decide)
    obtain ⟨z1, z2⟩ := rat_le (a := -a * g) (b := b * c3) (Int.mul_ne_zero (by omega) hc0)
    obtain ⟨w1, w2, w3, w4⟩ := ratM_spec (a := -a * g) (b := b * c3) (Int.mul_ne_zero (by omega) hc0)
    have m1 := mul_okD (a := -a) (b := g) (by rw [Int.natAbs_neg]; exact ha) g2 (by decide) (by decide)
    have m2 := mul_okD (a := b) (b := c3) hb hc3 (by decide) (by decide)
    have bF1 : (ratM (-a * g) (b * c3)).1.natAbs < 10 ^ (28 + 3840) := Nat.lt_of_le_of_lt z1 (mulD (by rw [Int.natAbs_neg]; exact ha) g2)
    have bF2 : (ratM (-a * g) (b * c3)).2.natAbs < 10 ^ (28 + 30) := Nat.lt_of_le_of_lt z2 (mulD hb hc3)
    generalize ratM (-a * g) (b * c3) = F at *
    have hlen : (wrF F).length ≤ 4000 := Nat.le_trans (wrF_len2 (k := 3867) (m := 57) bF1 bF2) (by decide)
    have q1 := format_self w3 w4 hlen (by decide)
    have q2 := law_write0_ok (f := F) (by omega) ⟨pow_4300 (by decide) bF1, pow_4300 (by decide) bF2⟩
    have q3 := parsed0 (l := wrF F) (by omega)
    rw [rdF_written w3 w4] at q3
    have q3 : d_law_parsed [.int 0, .str (S (wrF F))] = .ok (.lst [encF F]) := q3
    have q4 := eq_fL F F
    have q5 := formatted0 (encF F)
    rw [q1] at q5
    obtain ⟨s8', l2⟩ := loopE0 (v := encF (a, b)) (s2 := .sh (.int by')) (s3 := .sh (.int t')) (s4 := .sh (encF F)) (s5 := .sh (.int (4 * (by' - 20)))) (s6 := .sh (encF (g, 1))) (s7 := .sh (.int g)) (s8 := s8) (s9 := .no) (s10 := .sh (encF F)) (s11 := .no) (s12 := .no)
    have f0 : ixG (encF (a, b)) (.int 0) = .ok (.int a) := ixG_tup rfl
    have f1 : ixG (encF (a, b)) (.int 1) = .ok (.int b) := ixG_tup rfl
    have hsub : subG (.int 1000000000000000000000000000000) (.int 3) = .ok (.int c3) := rfl
    have hr := fun Γ => rng4 Γ
    generalize (List.range 4).map (fun (i : Nat) => D.int (0 + (i : Int))) = L at *
    generalize encF (a, b) = V at *
    generalize encF (g, 1) = E at *
    generalize encF (x, y) = W at *
    generalize encF F = FF at *
    generalize wrF F = ll at *
    generalize c3 = C at *
    simp [-mulG_int, -subG_int, -den_icRng1, fa_D, fa_E, fa_F1, fa_F2, fa_G, dVarO, dVar, t_law_far_agrees, t1, t2, pow_30, hsub, f0, f1, m1, m2, l1, hr, l2, q2, q3, q4, q5]
end RJ

set_option Elab.async false
set_option linter.all false
set_option maxRecDepth 100000
set_option maxHeartbeats 1000000
set_option autoImplicit false
/-! RkU: values beyond the bounds: polynomials and sums. -/
namespace RJ
open PySem PySem.Spec L2
open SX (S)

abbrev C9 : Int := 1000000000
def mvP (b c : Int) (q : List (Int × Int)) : List (Int × Int) := q.map fun p => (p.1 + b, p.2 * c)
theorem Nml_mv {q : List (Int × Int)} (h : Nml ltI q) {b c : Int} (hc : c ≠ 0) : Nml ltI (mvP b c q) := by
  refine ⟨?_, fun p hp => ?_⟩
  · unfold kys mvP
    rw [List.map_map, List.pairwise_map]
    have h1 := h.1
    unfold kys at h1
    rw [List.pairwise_map] at h1
    refine h1.imp fun {x y} hxy => ?_
    have hxy : x.1 < y.1 := hxy
    show x.1 + b < y.1 + b
    omega
  · obtain ⟨q', hq, e⟩ := List.mem_map.mp hp
    subst e
    exact Int.mul_ne_zero (h.2 q' hq) hc
theorem mv_mv (b c b' c' : Int) (q : List (Int × Int)) : mvP b' c' (mvP b c q) = mvP (b + b') (c * c') q := by
  unfold mvP
  rw [List.map_map]
  refine List.map_congr_left fun p _ => ?_
  show (p.1 + b + b', p.2 * c * c') = (p.1 + (b + b'), p.2 * (c * c'))
  rw [Int.add_assoc, Int.mul_assoc]
theorem mv_0 (q : List (Int × Int)) : mvP 0 1 q = q := by
  unfold mvP
  conv => rhs; rw [← List.map_id q]
  refine List.map_congr_left fun p _ => ?_
  show (p.1 + 0, p.2 * 1) = p
  rw [Int.add_zero, Int.mul_one]
theorem times_mv {q : List (Int × Int)} (h : Nml ltI q) (hl : q.length ≤ 60) {k : Nat} (hk : k ≤ 4000) (hb : ∀ p ∈ q, p.2.natAbs < 10 ^ k) {f x : D} {b c : Int} (hf : seqOf f = some [x]) (hx : seqOf x = some [.int b, .int c]) (hc : c ≠ 0) (hc2 : ib c ≤ 20000) : d_poly_times [.tup (q.map encP), f] = .ok (.tup ((mvP b c q).map encP)) := by
  have := poly_times_ok (d := .tup (q.map encP)) (f := f) (q := x) encP_pair rfl hf hx (by omega) (fun p hp => by
    have h1 := ibD (hb p hp)
    show ((ib p.2 : Nat) : Int) + ((ib c : Nat) : Int) ≤ 134217728
    omega)
  rw [this]
  have e := nf_fix srtI (Nml_mv h (b := b) hc)
  unfold mvP at e
  rw [e]
  rfl
theorem C9_pow : ∀ m, m ≤ 4 → (C9 ^ m).natAbs < 10 ^ 37 ∧ C9 ^ m ≠ 0 := by decide +kernel
theorem loopE1 {q : List (Int × Int)} (hq : Nml ltI q) (hl : q.length ≤ 60) (hb : ∀ p ∈ q, p.2.natAbs < 10 ^ 28) {v : D} {by' : Int} {s3 s5 s6 s7 s8 s9 s10 s11 s12 : Sl} : ∃ s8', forD (fun d Γ => .ok (Γ.set 8 (.sh d))) fa_bE.den ((List.range 4).map fun (i : Nat) => D.int (0 + (i : Int))) [.sh (.int 1), .sh v, .sh (.int by'), s3, .sh (.tup (q.map encP)), s5, s6, s7, s8, s9, s10, s11, s12] = .nx [.sh (.int 1), .sh v, .sh (.int by'), s3, .sh (.tup ((mvP (4 * (by' - 20)) (C9 ^ 4) q).map encP)), s5, s6, s7, s8', s9, s10, s11, s12] := by
  have key := forD_fold (tg := fun d Γ => .ok (Γ.set 8 (.sh d))) (body := fa_bE.den) (enc := fun (i : Nat) => D.int (0 + (i : Int))) (st := fun (z : List (Int × Int) × Sl) => [.sh (.int 1), .sh v, .sh (.int by'), s3, .sh (.tup (z.1.map encP)), s5, s6, s7, z.2, s9, s10, s11, s12]) (f := fun z i => (mvP (by' - 20) C9 z.1, .sh (.int (0 + (i : Int))))) (fun m z => z.1 = mvP (m * (by' - 20)) (C9 ^ m) q) (List.range 4) (q, s8) 0 (by
      show q = mvP (((0 : Nat) : Int) * (by' - 20)) (C9 ^ 0) q
      rw [show ((0 : Nat) : Int) * (by' - 20) = 0 by simp, Int.pow_zero, mv_0]) (fun m z i _ hm hz => by
    have hm4 : m ≤ 4 := by
      rw [List.length_range] at hm
      omega
    obtain ⟨c1, c2⟩ := C9_pow m hm4
    have hn : Nml ltI z.1 := by
      rw [hz]
      exact Nml_mv hq c2
    have hlen : z.1.length ≤ 60 := by
      rw [hz]
      unfold mvP
      rw [List.length_map]
      exact hl
    have hbd : ∀ p ∈ z.1, p.2.natAbs < 10 ^ (28 + 37) := fun p hp => by
      rw [hz] at hp
      obtain ⟨p', hp', e⟩ := List.mem_map.mp hp
      subst e
      exact mulD (hb p' hp') c1
    have h1 := times_mv hn hlen (by decide) hbd (f := .lst [.lst [.int (by' - 20), .int C9]]) (b := by' - 20) (c := C9) rfl rfl (by decide) (by decide +kernel)
    refine ⟨?_, _, rfl, .inl ?_⟩
    · show mvP (by' - 20) C9 z.1 = mvP (((m + 1 : Nat) : Int) * (by' - 20)) (C9 ^ (m + 1)) q
      rw [hz, mv_mv, Int.pow_succ]
      congr 1
      rw [show ((m + 1 : Nat) : Int) = (m : Int) + 1 by omega, Int.add_mul, Int.one_mul]
    · generalize z.1.map encP = Z at *
      have p9 : powG (.int 10) (.int 9) = .ok (.int C9) := pow_9
      generalize C9 = C at *
      simp [fa_bE, dVarO, dVar, t_law_far_agrees, p9, h1])
  obtain ⟨key, hz⟩ := key
  rw [Nat.zero_add, List.length_range] at hz
  generalize (List.range 4).foldl (fun (z : List (Int × Int) × Sl) (i : Nat) => (mvP (by' - 20) C9 z.1, Sl.sh (.int (0 + (i : Int))))) (q, s8) = Z at key hz
  obtain ⟨z, s8'⟩ := Z
  have hz : z = mvP (4 * (by' - 20)) (C9 ^ 4) q := hz
  subst hz
  exact ⟨s8', key⟩
theorem C36 : C9 ^ 4 = 1000000000000000000000000000000000000 := by decide +kernel
theorem wr_small {pi : List (List Nat)} (h : pi.length ≤ 60) (hb : ∀ p ∈ pi, p.length ≤ 8000) : (wrJ pi).length ≤ 500000 := by
  have := wrJ_le (B := 8000) hb
  have h2 : pi.length * (8000 + 2) ≤ 60 * (8000 + 2) := Nat.mul_le_mul_right _ h
  omega
theorem far1 {q : List (Int × Int)} {by' t : Int} (hy : 0 ≤ by' ∧ by' < 41) (ht : 0 ≤ t ∧ t ≤ 7) (hq : Nml ltI q) (hl : q.length ≤ 60) (hs : ∀ p ∈ q, p.1.natAbs ≤ 20) (hb : ∀ p ∈ q, p.2.natAbs < 10 ^ 28) : d_law_far_agrees [.int 1, .tup (q.map encP), .int by', .int t] = .ok (.bl true) := by
  obtain ⟨g, t', s8, g1, g2, main⟩ := far_A (k := 1) (v := .tup (q.map encP)) hy ht (.inr ⟨by decide, _, lenG_tup _⟩)
  rw [main]
  obtain ⟨s8', l2⟩ := loopE1 hq hl hb (v := .tup (q.map encP)) (by' := by') (s3 := .sh (.int t')) (s5 := .sh (.int (4 * (by' - 20)))) (s6 := .sh (encF (g, 1))) (s7 := .sh (.int g)) (s8 := s8) (s9 := .no) (s10 := .no) (s11 := .no) (s12 := .no)
  have hP : (C9 ^ 4).natAbs < 10 ^ 37 := (C9_pow 4 (by decide)).1
  have hP0 : C9 ^ 4 ≠ 0 := (C9_pow 4 (by decide)).2
  have p36 : powG (.int 10) (.int 36) = .ok (.int (C9 ^ 4)) := by rw [C36]; exact pow_36
  generalize C9 ^ 4 = P at *
  have hgn : g ≠ 0 := by omega
  have n1 := Nml_mv hq (b := 4 * (by' - 20)) hP0
  have len1 : (mvP (4 * (by' - 20)) P q).length ≤ 60 := by
    unfold mvP
    rw [List.length_map]
    exact hl
  have t1 := times_mv n1 len1 (k := 28 + 37) (by decide) (fun p hp => by
    obtain ⟨p', hp', e⟩ := List.mem_map.mp hp
    subst e
    exact mulD (hb p' hp') hP) (f := .lst [.tup [.int 0, .int g]]) (b := 0) (c := g) rfl rfl hgn (Nat.le_trans (ibD g2) (by decide))
  rw [mv_mv, Int.add_zero] at t1
  have n2 := Nml_mv hq (b := 4 * (by' - 20)) (c := P * g) (Int.mul_ne_zero hP0 hgn)
  have bd : ∀ p ∈ mvP (4 * (by' - 20)) (P * g) q, p.1.natAbs < 10 ^ 4 ∧ p.2.natAbs < 10 ^ (28 + (37 + 3840)) := fun p hp => by
    obtain ⟨p', hp', e⟩ := List.mem_map.mp hp
    subst e
    have := hs p' hp'
    refine ⟨?_, mulD (hb p' hp') (mulD hP g2)⟩
    show (p'.1 + 4 * (by' - 20)).natAbs < 10 ^ 4
    have : (10 : Nat) ^ 4 = 10000 := by decide
    omega
  -- due
  have mPg := mul_okD (a := P) (b := g) hP g2 (by decide) (by decide)
  have due := lcGo_map (tg := (gcName 11 : GC (mkT t_law_far_agrees)).den) (ct := denC (none : Option (TC (mkT t_law_far_agrees)))) (el := (ecTup (acCons (ecBin lAdd (ocE (ecIx (ocVar 11) (ocE (ecInt 0)))) (ocVar 5)) (acCons (ecBin lMul (ocE (ecBin lMul (ocE (ecBin lPow (ocE (ecInt 10)) (ocE (ecInt 36)))) (ocVar 7))) (ocE (ecIx (ocVar 11) (ocE (ecInt 1))))) acNil)) : EC (mkT t_law_far_agrees)).den) (vs := [11]) (Γ := [.sh (.int 1), .sh (.tup (q.map encP)), .sh (.int by'), .sh (.int t'), .sh (.tup ((mvP (4 * (by' - 20)) (P * g) q).map encP)), .sh (.int (4 * (by' - 20))), .sh (encF (g, 1)), .sh (.int g), s8', .no, .no, .no, .no]) (enc := encP) (out := fun p => encP (p.1 + 4 * (by' - 20), p.2 * (P * g)))
    (Γx := fun p => [.sh (.int 1), .sh (.tup (q.map encP)), .sh (.int by'), .sh (.int t'), .sh (.tup ((mvP (4 * (by' - 20)) (P * g) q).map encP)), .sh (.int (4 * (by' - 20))), .sh (encF (g, 1)), .sh (.int g), s8', .no, .no, .sh (encP p), .no]) (xs := q) (fun p hp => by
      have i0 : ixG (encP p) (.int 0) = .ok (.int p.1) := ixG_tup rfl
      have i1 : ixG (encP p) (.int 1) = .ok (.int p.2) := ixG_tup rfl
      have m2 := mul_okD (a := P * g) (b := p.2) (mulD hP g2) (hb p hp) (by decide) (by decide)
      rw [Int.mul_comm (P * g) p.2] at m2
      refine ⟨rfl, rfl, ?_⟩
      generalize (mvP (4 * (by' - 20)) (P * g) q).map encP = ZZ at *
      generalize encF (g, 1) = E at *
      generalize 4 * (by' - 20) = MV at *
      simp [-mulG_int, dVarO, dVar, i0, i1, p36, mPg, m2]
      rfl)
  have edue : q.map (fun p => encP (p.1 + 4 * (by' - 20), p.2 * (P * g))) = (mvP (4 * (by' - 20)) (P * g) q).map encP := by
    unfold mvP
    rw [List.map_map]
    rfl
  rw [edue] at due
  have hdue := denLc_ok (T := mkT t_law_far_agrees) (it := icSeq (ecVar 1)) (tg := gcName 11) (ct := none) (el := ecTup (acCons (ecBin lAdd (ocE (ecIx (ocVar 11) (ocE (ecInt 0)))) (ocVar 5)) (acCons (ecBin lMul (ocE (ecBin lMul (ocE (ecBin lPow (ocE (ecInt 10)) (ocE (ecInt 36)))) (ocVar 7))) (ocE (ecIx (ocVar 11) (ocE (ecInt 1))))) acNil))) (vs := [11]) (Γ := [.sh (.int 1), .sh (.tup (q.map encP)), .sh (.int by'), .sh (.int t'), .sh (.tup ((mvP (4 * (by' - 20)) (P * g) q).map encP)), .sh (.int (4 * (by' - 20))), .sh (encF (g, 1)), .sh (.int g), s8', .no, .no, .no, .no]) (ds := q.map encP) (by simp [dVar]) (by simp; omega) due
  have len2 : (mvP (4 * (by' - 20)) (P * g) q).length ≤ 60 := by
    unfold mvP
    rw [List.length_map]
    exact hl
  generalize mvP (4 * (by' - 20)) (P * g) q = R at *
  have hw : (wrP R).length ≤ 500000 := wr_small (by rw [List.length_map]; exact len2) (fun l hl => by
    obtain ⟨p, hp, e⟩ := List.mem_map.mp hl
    subst e
    obtain ⟨b1, b2⟩ := bd p hp
    have a1 := numI_len (by decide) b1
    have a2 := numI_len (by decide) b2
    unfold piP
    simp only [List.length_append, List.length_singleton]
    omega)
  have hfix := nf_fix srtI n2
  have q1 := format_polynomial_ok (d := .tup (R.map encP)) encP_pair rfl (by omega) (by rw [hfix]; omega)
  rw [hfix, ← formatted1] at q1
  have q2 := law_write1_ok (ps := R) (by omega) (by omega) (fun p hp => ⟨pow_4300 (by decide) (bd p hp).1, pow_4300 (by decide) (bd p hp).2⟩)
  have q3 := parsed1 (l := wrP R) (by omega)
  have q0 : rdG pc1 (nf sortI) (wrP R) = some R := rd_written pcP piP_3 hfix (fun _ _ => trivial)
  rw [q0] at q3
  have q3 : d_law_parsed [.int 1, .str (S (wrP R))] = .ok (.lst [.tup (R.map encP)]) := q3
  have q4 := eq_PL R R
  have i6 : ixG (encF (g, 1)) (.int 0) = .ok (.int g) := ixG_tup rfl
  have hr := fun Γ => rng4 Γ
  generalize hL : (List.range 4).map (fun (i : Nat) => D.int (0 + (i : Int))) = L at *
  generalize (mvP (4 * (by' - 20)) P q).map encP = W1 at *
  generalize R.map encP = W2 at *
  generalize encF (g, 1) = E at *
  generalize wrP R = ll at *
  generalize hMV : 4 * (by' - 20) = MV at *
  generalize hQ : q.map encP = QQ at *
  simp [-mulG_int, -den_icRng1, fa_D, fa_E, fa_F1, fa_F2, fa_G, dVarO, dVar, t_law_far_agrees, hr, l2, t1, i6, hdue, q1, q2, q3, q4]
end RJ

set_option Elab.async false
set_option linter.all false
set_option maxRecDepth 100000
set_option maxHeartbeats 1000000
set_option autoImplicit false
/-! RkV: values beyond the bounds: sums. -/
namespace RJ
open PySem PySem.Spec L2
open SX (S)

theorem ltS_mv {a c : Spt} (b : Int) (h : ltS a c) : ltS (a.1, a.2 + b) (c.1, c.2 + b) := by
  have h : PyProof.Rows.lexLt PyProof.Rows.itemOrd [Sum.inr a.1, Sum.inl a.2] [Sum.inr c.1, Sum.inl c.2] = true := h
  show PyProof.Rows.lexLt PyProof.Rows.itemOrd [Sum.inr a.1, Sum.inl (a.2 + b)] [Sum.inr c.1, Sum.inl (c.2 + b)] = true
  by_cases h1 : a.1 = c.1
  · rw [h1] at h ⊢
    rw [PyProof.Rows.lex_self (O := PyProof.Rows.itemOrd)] at h ⊢
    have h : PySem.W.dataLt (.int a.2) (.int c.2) = true := h
    show PySem.W.dataLt (.int (a.2 + b)) (.int (c.2 + b)) = true
    rw [PySem.W.dataLt_int] at h ⊢
    have := of_decide_eq_true h
    exact decide_eq_true (by omega)
  · have hne : (Sum.inr a.1 : Int ⊕ List Nat) ≠ Sum.inr c.1 := fun e => h1 (Sum.inr.inj e)
    rw [PyProof.Rows.lex_diff (O := PyProof.Rows.itemOrd) hne] at h ⊢
    exact h
def mvS (b c : Int) (q : List (Spt × Int)) : List (Spt × Int) := q.map fun p => ((p.1.1, p.1.2 + b), c * p.2)
theorem Nml_mvS {q : List (Spt × Int)} (h : Nml ltS q) {b c : Int} (hc : c ≠ 0) : Nml ltS (mvS b c q) := by
  refine ⟨?_, fun p hp => ?_⟩
  · unfold kys mvS
    rw [List.map_map, List.pairwise_map]
    have h1 := h.1
    unfold kys at h1
    rw [List.pairwise_map] at h1
    exact h1.imp fun {x y} hxy => ltS_mv b hxy
  · obtain ⟨q', hq, e⟩ := List.mem_map.mp hp
    subst e
    exact Int.mul_ne_zero hc (h.2 q' hq)
theorem mvS_mvS (b c b' c' : Int) (q : List (Spt × Int)) : mvS b' c' (mvS b c q) = mvS (b + b') (c * c') q := by
  unfold mvS
  rw [List.map_map]
  refine List.map_congr_left fun p _ => ?_
  show ((p.1.1, p.1.2 + b + b'), c' * (c * p.2)) = ((p.1.1, p.1.2 + (b + b')), c * c' * p.2)
  rw [Int.add_assoc, ← Int.mul_assoc, Int.mul_comm c' c]
theorem mvS_0 (q : List (Spt × Int)) : mvS 0 1 q = q := by
  unfold mvS
  conv => rhs; rw [← List.map_id q]
  refine List.map_congr_left fun p _ => ?_
  show ((p.1.1, p.1.2 + 0), 1 * p.2) = p
  rw [Int.add_zero, Int.one_mul]
theorem times_mvS {q : List (Spt × Int)} (h : Nml ltS q) (hl : q.length ≤ 60) {k : Nat} (hk : k ≤ 4000) (hb : ∀ p ∈ q, p.2.natAbs < 10 ^ k) {f x : D} {b c : Int} (hf : seqOf f = some [x]) (hx : seqOf x = some [.int b, .int c]) (hc : c ≠ 0) (hc2 : ib c ≤ 20000) : d_sum_times [f, .tup (q.map encS)] = .ok (.tup ((mvS b c q).map encS)) := by
  have := sum_times_ok (d := .tup (q.map encS)) (f := f) (q := x) encS_term rfl hf hx (by omega) (fun p hp => by
    have h1 := ibD (hb p hp)
    show ((ib c : Nat) : Int) + ((ib p.2 : Nat) : Int) ≤ 134217728
    omega)
  rw [this]
  have e := nf_fix srtSS (Nml_mvS h (b := b) hc)
  unfold mvS at e
  rw [e]
  rfl
theorem mvS_row {q : List (Spt × Int)} (h : ∀ p ∈ q, rowOk p) (b c : Int) : ∀ p ∈ mvS b c q, rowOk p := fun p hp => by
  obtain ⟨p', hp', e⟩ := List.mem_map.mp hp
  subst e
  exact h p' hp'
theorem loopE2 {q : List (Spt × Int)} (hq : Nml ltS q) (hl : q.length ≤ 60) (hb : ∀ p ∈ q, p.2.natAbs < 10 ^ 28) {v : D} {by' : Int} {s3 s5 s6 s7 s8 s9 s10 s11 s12 : Sl} : ∃ s8', forD (fun d Γ => .ok (Γ.set 8 (.sh d))) fa_bE.den ((List.range 4).map fun (i : Nat) => D.int (0 + (i : Int))) [.sh (.int 2), .sh v, .sh (.int by'), s3, .sh (.tup (q.map encS)), s5, s6, s7, s8, s9, s10, s11, s12] = .nx [.sh (.int 2), .sh v, .sh (.int by'), s3, .sh (.tup ((mvS (4 * (by' - 20)) (C9 ^ 4) q).map encS)), s5, s6, s7, s8', s9, s10, s11, s12] := by
  have key := forD_fold (tg := fun d Γ => .ok (Γ.set 8 (.sh d))) (body := fa_bE.den) (enc := fun (i : Nat) => D.int (0 + (i : Int))) (st := fun (z : List (Spt × Int) × Sl) => [.sh (.int 2), .sh v, .sh (.int by'), s3, .sh (.tup (z.1.map encS)), s5, s6, s7, z.2, s9, s10, s11, s12]) (f := fun z i => (mvS (by' - 20) C9 z.1, .sh (.int (0 + (i : Int))))) (fun m z => z.1 = mvS (m * (by' - 20)) (C9 ^ m) q) (List.range 4) (q, s8) 0 (by
      show q = mvS (((0 : Nat) : Int) * (by' - 20)) (C9 ^ 0) q
      rw [show ((0 : Nat) : Int) * (by' - 20) = 0 by simp, Int.pow_zero, mvS_0]) (fun m z i _ hm hz => by
    have hm4 : m ≤ 4 := by
      rw [List.length_range] at hm
      omega
    obtain ⟨c1, c2⟩ := C9_pow m hm4
    have hn : Nml ltS z.1 := by
      rw [hz]
      exact Nml_mvS hq c2
    have hlen : z.1.length ≤ 60 := by
      rw [hz]
      unfold mvS
      rw [List.length_map]
      exact hl
    have hbd : ∀ p ∈ z.1, p.2.natAbs < 10 ^ (37 + 28) := fun p hp => by
      rw [hz] at hp
      obtain ⟨p', hp', e⟩ := List.mem_map.mp hp
      subst e
      exact mulD c1 (hb p' hp')
    have h1 := times_mvS hn hlen (by decide) hbd (f := .lst [.tup [.int (by' - 20), .int C9]]) (b := by' - 20) (c := C9) rfl rfl (by decide) (by decide +kernel)
    refine ⟨?_, _, rfl, .inl ?_⟩
    · show mvS (by' - 20) C9 z.1 = mvS (((m + 1 : Nat) : Int) * (by' - 20)) (C9 ^ (m + 1)) q
      rw [hz, mvS_mvS, Int.pow_succ]
      congr 1
      rw [show ((m + 1 : Nat) : Int) = (m : Int) + 1 by omega, Int.add_mul, Int.one_mul]
    · generalize z.1.map encS = Z at *
      have p9 : powG (.int 10) (.int 9) = .ok (.int C9) := pow_9
      generalize C9 = C at *
      simp [fa_bE, dVarO, dVar, t_law_far_agrees, p9, h1])
  obtain ⟨key, hz⟩ := key
  rw [Nat.zero_add, List.length_range] at hz
  generalize (List.range 4).foldl (fun (z : List (Spt × Int) × Sl) (i : Nat) => (mvS (by' - 20) C9 z.1, Sl.sh (.int (0 + (i : Int))))) (q, s8) = Z at key hz
  obtain ⟨z, s8'⟩ := Z
  have hz : z = mvS (4 * (by' - 20)) (C9 ^ 4) q := hz
  subst hz
  exact ⟨s8', key⟩
theorem far2 {q : List (Spt × Int)} {by' t : Int} (hy : 0 ≤ by' ∧ by' < 41) (ht : 0 ≤ t ∧ t ≤ 7) (hq : Nml ltS q) (hl : q.length ≤ 60) (hs : ∀ p ∈ q, p.1.2.natAbs ≤ 20) (hrow : ∀ p ∈ q, rowOk p) (hb : ∀ p ∈ q, p.2.natAbs < 10 ^ 28) : d_law_far_agrees [.int 2, .tup (q.map encS), .int by', .int t] = .ok (.bl true) := by
  obtain ⟨g, t', s8, g1, g2, main⟩ := far_A (k := 2) (v := .tup (q.map encS)) hy ht (.inr ⟨by decide, _, lenG_tup _⟩)
  rw [main]
  obtain ⟨s8', l2⟩ := loopE2 hq hl hb (v := .tup (q.map encS)) (by' := by') (s3 := .sh (.int t')) (s5 := .sh (.int (4 * (by' - 20)))) (s6 := .sh (encF (g, 1))) (s7 := .sh (.int g)) (s8 := s8) (s9 := .no) (s10 := .no) (s11 := .no) (s12 := .no)
  have hP : (C9 ^ 4).natAbs < 10 ^ 37 := (C9_pow 4 (by decide)).1
  have hP0 : C9 ^ 4 ≠ 0 := (C9_pow 4 (by decide)).2
  have p36 : powG (.int 10) (.int 36) = .ok (.int (C9 ^ 4)) := by rw [C36]; exact pow_36
  generalize C9 ^ 4 = P at *
  have hgn : g ≠ 0 := by omega
  have n1 := Nml_mvS hq (b := 4 * (by' - 20)) hP0
  have len1 : (mvS (4 * (by' - 20)) P q).length ≤ 60 := by
    unfold mvS
    rw [List.length_map]
    exact hl
  have t1 := times_mvS n1 len1 (k := 37 + 28) (by decide) (fun p hp => by
    obtain ⟨p', hp', e⟩ := List.mem_map.mp hp
    subst e
    exact mulD hP (hb p' hp')) (f := .lst [.lst [.int 0, .int g]]) (b := 0) (c := g) rfl rfl hgn (Nat.le_trans (ibD g2) (by decide))
  rw [mvS_mvS, Int.add_zero] at t1
  have n2 := Nml_mvS hq (b := 4 * (by' - 20)) (c := P * g) (Int.mul_ne_zero hP0 hgn)
  have bd : ∀ p ∈ mvS (4 * (by' - 20)) (P * g) q, p.1.2.natAbs < 10 ^ 4 ∧ p.2.natAbs < 10 ^ (37 + 3840 + 28) ∧ p.1.1.length ≤ 10 := fun p hp => by
    obtain ⟨p', hp', e⟩ := List.mem_map.mp hp
    subst e
    have := hs p' hp'
    refine ⟨?_, mulD (mulD hP g2) (hb p' hp'), ?_⟩
    · show (p'.1.2 + 4 * (by' - 20)).natAbs < 10 ^ 4
      have : (10 : Nat) ^ 4 = 10000 := by decide
      omega
    · have hk : okN p'.1.1 = true := hrow p' hp'
      show p'.1.1.length ≤ 10
      unfold okN at hk
      split at hk
      · cases hk
      · rename_i c r e
        simp only [Bool.and_eq_true, decide_eq_true_eq] at hk
        rw [e]
        simp
        omega
  -- due
  have mPg := mul_okD (a := P) (b := g) hP g2 (by decide) (by decide)
  have due := lcGo_map (tg := (gcName 12 : GC (mkT t_law_far_agrees)).den) (ct := denC (none : Option (TC (mkT t_law_far_agrees)))) (el := (ecTup (acCons (ecIx (ocVar 12) (ocE (ecInt 0))) (acCons (ecBin lAdd (ocE (ecIx (ocVar 12) (ocE (ecInt 1)))) (ocVar 5)) (acCons (ecBin lMul (ocE (ecBin lMul (ocE (ecBin lPow (ocE (ecInt 10)) (ocE (ecInt 36)))) (ocVar 7))) (ocE (ecIx (ocVar 12) (ocE (ecInt 2))))) acNil))) : EC (mkT t_law_far_agrees)).den) (vs := [12]) (Γ := [.sh (.int 2), .sh (.tup (q.map encS)), .sh (.int by'), .sh (.int t'), .sh (.tup ((mvS (4 * (by' - 20)) (P * g) q).map encS)), .sh (.int (4 * (by' - 20))), .sh (encF (g, 1)), .sh (.int g), s8', .no, .no, .no, .no]) (enc := encS) (out := fun p => encS ((p.1.1, p.1.2 + 4 * (by' - 20)), P * g * p.2))
    (Γx := fun p => [.sh (.int 2), .sh (.tup (q.map encS)), .sh (.int by'), .sh (.int t'), .sh (.tup ((mvS (4 * (by' - 20)) (P * g) q).map encS)), .sh (.int (4 * (by' - 20))), .sh (encF (g, 1)), .sh (.int g), s8', .no, .no, .no, .sh (encS p)]) (xs := q) (fun p hp => by
      have i0 : ixG (encS p) (.int 0) = .ok (.str (S p.1.1)) := ixG_tup rfl
      have i1 : ixG (encS p) (.int 1) = .ok (.int p.1.2) := ixG_tup rfl
      have i2 : ixG (encS p) (.int 2) = .ok (.int p.2) := ixG_tup rfl
      have m2 := mul_okD (a := P * g) (b := p.2) (mulD hP g2) (hb p hp) (by decide) (by decide)
      refine ⟨rfl, rfl, ?_⟩
      generalize (mvS (4 * (by' - 20)) (P * g) q).map encS = ZZ at *
      generalize encF (g, 1) = E at *
      generalize 4 * (by' - 20) = MV at *
      simp [-mulG_int, dVarO, dVar, i0, i1, i2, p36, mPg, m2]
      rfl)
  have edue : q.map (fun p => encS ((p.1.1, p.1.2 + 4 * (by' - 20)), P * g * p.2)) = (mvS (4 * (by' - 20)) (P * g) q).map encS := by
    unfold mvS
    rw [List.map_map]
    rfl
  rw [edue] at due
  have hdue := denLc_ok (T := mkT t_law_far_agrees) (it := icSeq (ecVar 1)) (tg := gcName 12) (ct := none) (el := ecTup (acCons (ecIx (ocVar 12) (ocE (ecInt 0))) (acCons (ecBin lAdd (ocE (ecIx (ocVar 12) (ocE (ecInt 1)))) (ocVar 5)) (acCons (ecBin lMul (ocE (ecBin lMul (ocE (ecBin lPow (ocE (ecInt 10)) (ocE (ecInt 36)))) (ocVar 7))) (ocE (ecIx (ocVar 12) (ocE (ecInt 2))))) acNil)))) (vs := [12]) (Γ := [.sh (.int 2), .sh (.tup (q.map encS)), .sh (.int by'), .sh (.int t'), .sh (.tup ((mvS (4 * (by' - 20)) (P * g) q).map encS)), .sh (.int (4 * (by' - 20))), .sh (encF (g, 1)), .sh (.int g), s8', .no, .no, .no, .no]) (ds := q.map encS) (by simp [dVar]) (by simp; omega) due
  have len2 : (mvS (4 * (by' - 20)) (P * g) q).length ≤ 60 := by
    unfold mvS
    rw [List.length_map]
    exact hl
  have hrow2 := mvS_row hrow (4 * (by' - 20)) (P * g)
  generalize mvS (4 * (by' - 20)) (P * g) q = R at *
  have hw : (wrS R).length ≤ 500000 := wr_small (by rw [List.length_map]; exact len2) (fun l hl => by
    obtain ⟨p, hp, e⟩ := List.mem_map.mp hl
    subst e
    obtain ⟨b1, b2, b3⟩ := bd p hp
    have a1 := numI_len (by decide) b1
    have a2 := numI_len (by decide) b2
    unfold piS
    simp only [List.length_append, List.length_singleton]
    omega)
  have hfix := nf_fix srtSS n2
  have q1 := format_sum_ok (d := .tup (R.map encS)) encS_term rfl (by omega) (by rw [hfix]; omega)
  rw [hfix, ← formatted2] at q1
  have q2 := law_write2_ok (ps := R) (by omega) (by omega) (fun p hp => ⟨pow_4300 (by decide) (bd p hp).1, pow_4300 (by decide) (bd p hp).2.1⟩)
  have q3 := parsed2 (l := wrS R) (by omega)
  have q0 : rdG pc2 (nf srtS) (wrS R) = some R := rd_written pcS piS_3 hfix hrow2
  rw [q0] at q3
  have q3 : d_law_parsed [.int 2, .str (S (wrS R))] = .ok (.lst [.tup (R.map encS)]) := q3
  have q4 := eq_SL hrow2 hrow2
  have i6 : ixG (encF (g, 1)) (.int 0) = .ok (.int g) := ixG_tup rfl
  have hr := fun Γ => rng4 Γ
  generalize hL : (List.range 4).map (fun (i : Nat) => D.int (0 + (i : Int))) = L at *
  generalize (mvS (4 * (by' - 20)) P q).map encS = W1 at *
  generalize R.map encS = W2 at *
  generalize encF (g, 1) = E at *
  generalize wrS R = ll at *
  generalize hMV : 4 * (by' - 20) = MV at *
  generalize hQ : q.map encS = QQ at *
  simp [-mulG_int, -den_icRng1, fa_D, fa_E, fa_F1, fa_F2, fa_G, dVarO, dVar, t_law_far_agrees, hr, l2, t1, i6, hdue, q1, q2, q3, q4]
end RJ

set_option Elab.async false
set_option linter.all false
set_option maxRecDepth 100000
set_option maxHeartbeats 4000000
set_option autoImplicit false
/-! RkW: spoilt texts, free texts. -/
namespace RJ
open PySem PySem.Spec L2
open SX (S)

theorem strIn (x : Str) (n : Nat) (h : x.length ≤ n) : ∃ m, D.str x = .str (S m) ∧ m.length ≤ n := ⟨x.cps.toList, congrArg D.str (SX.S_tl x).symm, by
  rw [← TL.len_tl x] <;> exact h⟩
theorem ix_str {l : List D} {i : Int} {n : Nat} (h : 0 ≤ i ∧ i < (l.length : Int)) (hs : ∀ y ∈ l, ∃ m, y = .str (S m) ∧ m.length ≤ n) : ∃ m, ixG (.lst l) (.int i) = .ok (.str (S m)) ∧ m.length ≤ n := by
  obtain ⟨x, h1, h2⟩ := ix_mem h
  obtain ⟨m, e, h3⟩ := hs x h1
  exact ⟨m, by rw [h2, e], h3⟩
theorem lcGo_ex {α : Type} {tg : D → En → Re En} {ct : En → Re Bool} {el : En → Re D} {vs : List Nat} {Γ : En} {enc : α → D} {Q : List Nat → Prop} : ∀ {xs : List α}, (∀ x ∈ xs, ∃ Γx m, tg (enc x) (wipeE Γ vs) = .ok Γx ∧ ct Γx = .ok true ∧ el Γx = .ok (.str (S m)) ∧ Q m) → ∃ ms, lcGo tg ct el vs (xs.map enc) Γ = some (strsOf ms) ∧ ms.length = xs.length ∧ ∀ m ∈ ms, Q m
  | [], _ => ⟨[], rfl, rfl, fun m h => by cases h⟩
  | x :: xs, h => by
    obtain ⟨Γx, m, h1, h2, h3, h4⟩ := h x List.mem_cons_self
    obtain ⟨ms, g1, g2, g3⟩ := lcGo_ex (Q := Q) fun y hy => h y (List.mem_cons_of_mem _ hy)
    refine ⟨m :: ms, ?_, by simp [g2], fun z hz => ?_⟩
    · rw [List.map_cons]
      unfold lcGo
      rw [h1, g1]
      simp [okO, h2, h3, strsOf]
    · rcases List.mem_cons.mp hz with e | e
      · subst e
        exact h4
      · exact g3 z e
theorem sum_le {B : Nat} : ∀ (qs : List (List Nat)), (∀ q ∈ qs, q.length ≤ B) → (qs.map List.length).sum ≤ qs.length * B
  | [], _ => by simp
  | q :: r, h => by
    have h1 := h q List.mem_cons_self
    have h2 := sum_le r fun x hx => h x (List.mem_cons_of_mem _ hx)
    rw [List.map_cons, List.sum_cons, List.length_cons, Nat.add_mul]
    omega
theorem joinJ {sep : List Nat} {qs : List (List Nat)} {n B : Nat} (hs : sep.length ≤ 3) (hn : qs.length ≤ n) (hB : ∀ q ∈ qs, q.length ≤ B) (hnB : n * (B + 3) ≤ 16777216) : joinG (S sep) (.lst (strsOf qs)) = .ok (.str (S (TL.joinL sep qs))) ∧ (TL.joinL sep qs).length ≤ n * (B + 3) := by
  have h1 := sum_le qs hB
  have h2 : qs.length * B + qs.length * 3 ≤ n * (B + 3) := by
    rw [← Nat.mul_add]
    exact Nat.mul_le_mul_right _ hn
  have h3 : qs.length * sep.length ≤ qs.length * 3 := Nat.mul_le_mul_left _ hs
  refine ⟨join_ok (by omega), ?_⟩
  by_cases hne : qs = []
  · subst hne
    exact Nat.zero_le _
  · have := join_len sep qs hne
    omega
/-! ### slices -/
theorem mid_ok {l : List Nat} (hl : l.length ≤ 1000000) (i j : Nat) (hij : i ≤ j) : ∃ m, slG (.str (S l)) (some (i : Int)) (some (j : Int)) = .ok (.str (S m)) ∧ m.length ≤ j - i := by
  refine ⟨((l.drop (HT.sIx (S l).length 0 (some (i : Int)))).take (HT.sIx (S l).length (S l).length (some (j : Int)) - HT.sIx (S l).length 0 (some (i : Int)))), ?_, ?_⟩
  · show (if (S l).length ≤ sizeLine then Re.ok (D.str (cutS (S l) (some (i : Int)) (some (j : Int)))) else .no) = _
    rw [if_pos (by rw [s_len, sizeLine_eq]; omega)]
    rfl
  · rw [HT.sIx_nat, HT.sIx_nat, List.length_take]
    omega
theorem slL_to (ps : List (List Nat)) (k : Nat) : slG (.lst (strsOf ps)) none (some (k : Int)) = .ok (.lst (strsOf (ps.take k))) := by
  show Re.ok (D.lst (cutD (strsOf ps) none (some (k : Int)))) = _
  unfold cutD
  rw [HT.sIx_none, HT.sIx_nat, List.drop_zero, Nat.sub_zero]
  congr 2
  unfold strsOf
  rw [List.length_map, ← List.map_take]
  congr 1
  by_cases h : k ≤ ps.length
  · rw [Nat.min_eq_left h]
  · rw [Nat.min_eq_right (by omega), List.take_length, List.take_of_length_le (by omega)]
theorem slL_from (ps : List (List Nat)) (k : Nat) : slG (.lst (strsOf ps)) (some (k : Int)) none = .ok (.lst (strsOf (ps.drop k))) := by
  show Re.ok (D.lst (cutD (strsOf ps) (some (k : Int)) none)) = _
  unfold cutD
  rw [HT.sIx_none, HT.sIx_nat]
  congr 2
  unfold strsOf
  rw [List.length_map, ← List.map_drop, ← List.map_take]
  congr 1
  by_cases h : k ≤ ps.length
  · rw [Nat.min_eq_left h, List.take_of_length_le (by rw [List.length_drop]; exact Nat.le_refl _)]
  · rw [Nat.min_eq_right (by omega), List.drop_length, List.drop_eq_nil_of_le (by omega)]
    simp
theorem addL {A B : List (List Nat)} (h : A.length + B.length ≤ 1000) : addG (.lst (strsOf A)) (.lst (strsOf B)) = .ok (.lst (strsOf (A ++ B))) := by
  rw [addG_lst, if_pos (by rw [sizeLine_eq]; simp [strsOf]; omega)]
  simp [strsOf]
theorem set_join {sep : List Nat} {ws : List (List Nat)} {j : Nat} (hj : j < ws.length) (w : List Nat) : (TL.joinL sep (ws.set j w)).length + ws[j].length = (TL.joinL sep ws).length + w.length := by
  have hne : ws ≠ [] := fun e => by
    subst e
    cases hj
  have hne2 : ws.set j w ≠ [] := fun e => by
    have := congrArg List.length e
    simp at this
    exact hne this
  have h1 := join_len sep ws hne
  have h2 := join_len sep (ws.set j w) hne2
  have h3 : ((ws.set j w).map List.length).sum + ws[j].length = (ws.map List.length).sum + w.length := by
    clear h1 h2 hne2 hne
    induction ws generalizing j with
    | nil => cases hj
    | cons x r ih =>
      cases j with
      | zero =>
        simp only [List.set_cons_zero, List.map_cons, List.sum_cons, List.getElem_cons_zero]
        omega
      | succ j =>
        have := ih (j := j) (by simpa using hj)
        simp only [List.set_cons_succ, List.map_cons, List.sum_cons, List.getElem_cons_succ]
        omega
  rw [List.length_set] at h2
  omega
/-! ### free texts -/
def menu18 : List D := [.str (S [48]), .str (S [49]), .str ("2" : Str), .str ("10" : Str), .str (S [45]), .str (S [32]), .str (S [44, 32]), .str ("a" : Str), .str ("b1" : Str), .str (S [47]), .str ("3" : Str), .str ("\n" : Str), .str ("+" : Str), .str ("1 a 0" : Str), .str ("-2 b1 3" : Str), .str ("3 0" : Str), .str ("-1 2" : Str), .str ("," : Str)]
theorem menu_str : ∀ y ∈ menu18, ∃ m, y = .str (S m) ∧ m.length ≤ 7 := by
  intro y hy
  simp only [menu18, List.mem_cons, List.not_mem_nil, or_false] at hy
  rcases hy with e | e | e | e | e | e | e | e | e | e | e | e | e | e | e | e | e | e <;> subst e <;> first | exact ⟨_, rfl, by decide⟩ | exact strIn _ 7 (by decide +kernel)
def sz16 : List Int := [17, 18, 18, 18, 18, 18, 18, 18, 18, 18, 18, 18, 18, 18, 18, 18]
def l15 : List D := [18, 18, 18, 18, 18, 18, 18, 18, 18, 18, 18, 18, 18, 18, 18].map .int
theorem mul15 : mulG (.lst [.int 18]) (.int 15) = .ok (.lst l15) := by
  have hb : blk (decide (-(2 ^ 63) ≤ (15 : Int) ∧ (15 : Int) < 2 ^ 63 ∧ [D.int 18].length * (15 : Int).toNat ≤ sizeLine)) = true := blk_to ⟨by decide +kernel, by decide +kernel, by rw [sizeLine_eq]; decide⟩
  show (if blk (decide (-(2 ^ 63) ≤ (15 : Int) ∧ (15 : Int) < 2 ^ 63 ∧ [D.int 18].length * (15 : Int).toNat ≤ sizeLine)) = true then Re.ok (D.lst (List.replicate (15 : Int).toNat [D.int 18]).flatten) else .no) = _
  rw [if_pos hb]
  rfl
theorem add16 : addG (.lst [.int 17]) (.lst l15) = .ok (.lst (sz16.map .int)) := by
  rw [addG_lst, if_pos (by rw [sizeLine_eq]; decide)]
  rfl
theorem cnt17 {a : Int} (ha : 0 ≤ a ∧ a < 17) : ∃ n : Nat, n ≤ 15 ∧ ixG (.lst [.int 1, .int 2, .int 3, .int 3, .int 5, .int 3, .int 1, .int 4, .int 7, .int 2, .int 3, .int 5, .int 15, .int 12, .int 9, .int 3, .int 0]) (.int a) = .ok (.int (n : Int)) := by
  obtain ⟨x, h1, h2⟩ := ix_mem (l := [.int 1, .int 2, .int 3, .int 3, .int 5, .int 3, .int 1, .int 4, .int 7, .int 2, .int 3, .int 5, .int 15, .int 12, .int 9, .int 3, .int 0]) (i := a) ⟨ha.1, ha.2⟩
  have key : ∃ n : Nat, n ≤ 15 ∧ x = .int (n : Int) := by
    simp only [List.mem_cons, List.not_mem_nil, or_false] at h1
    rcases h1 with e | e | e | e | e | e | e | e | e | e | e | e | e | e | e | e | e
    · exact ⟨1, by decide, e⟩
    · exact ⟨2, by decide, e⟩
    · exact ⟨3, by decide, e⟩
    · exact ⟨3, by decide, e⟩
    · exact ⟨5, by decide, e⟩
    · exact ⟨3, by decide, e⟩
    · exact ⟨1, by decide, e⟩
    · exact ⟨4, by decide, e⟩
    · exact ⟨7, by decide, e⟩
    · exact ⟨2, by decide, e⟩
    · exact ⟨3, by decide, e⟩
    · exact ⟨5, by decide, e⟩
    · exact ⟨15, by decide, e⟩
    · exact ⟨12, by decide, e⟩
    · exact ⟨9, by decide, e⟩
    · exact ⟨3, by decide, e⟩
    · exact ⟨0, by decide, e⟩
  obtain ⟨n, h3, h4⟩ := key
  exact ⟨n, h3, by rw [h2, h4]⟩
theorem free_text_ok {c : Int} (hc : ib c ≤ 1048576) : ∃ l, d_law_free_text [.int c] = .ok (.str (S l)) ∧ l.length ≤ 4200 := by
  obtain ⟨ds, r1, r2⟩ := law_digits_ok (c := c) (ss := sz16) hc (by decide) (by decide)
  have b0 := ix_dg r2 (i := 0) (by decide)
  obtain ⟨x0, i0, x0a, x0b⟩ := b0
  have i0 : ixG (.lst (ds.map .int)) (.int 0) = .ok (.int x0) := i0
  obtain ⟨n, n1, n2⟩ := cnt17 (a := x0) ⟨x0a, x0b⟩
  have lc := lcGo_ex (tg := (gcName 4 : GC (mkT t_law_free_text)).den) (ct := denC (none : Option (TC (mkT t_law_free_text)))) (el := (ecIx (ocVar 1) (ocE (ecIx (ocVar 2) (ocE (ecBin lAdd (ocE (ecInt 1)) (ocVar 4))))) : EC (mkT t_law_free_text)).den) (vs := [4]) (Γ := [.sh (.int c), .sh (.lst menu18), .sh (.lst (ds.map .int)), .sh (.int (n : Int)), .no]) (enc := fun (i : Nat) => D.int (0 + (i : Int))) (Q := fun m => m.length ≤ 7) (xs := List.range n) (fun i hi => by
    have hi := List.mem_range.mp hi
    have h16 : i + 1 < sz16.length := by
      show i + 1 < 16
      omega
    obtain ⟨x, g1, g2, g3⟩ := ix_dg r2 h16
    have g3 : x < 18 := by
      have : ∀ j, j < 15 → ∀ h : j + 1 < sz16.length, sz16[j + 1] = 18 := by decide
      rw [this i (by omega) h16] at g3
      exact g3
    rw [show ((i + 1 : Nat) : Int) = 1 + (0 + (i : Int)) by omega] at g1
    obtain ⟨m, m1, m2⟩ := ix_str (l := menu18) (i := x) ⟨g2, g3⟩ menu_str
    refine ⟨[.sh (.int c), .sh (.lst menu18), .sh (.lst (ds.map .int)), .sh (.int (n : Int)), .sh (.int (0 + (i : Int)))], m, rfl, rfl, ?_, m2⟩
    generalize 0 + (i : Int) = I at *
    generalize menu18 = M at *
    simp [dVarO, dVar, g1, m1])
  obtain ⟨ms, e1, e2, e3⟩ := lc
  rw [List.length_range] at e2
  have hr : (icRng1 (ocVar 3) : IC (mkT t_law_free_text)).den [.sh (.int c), .sh (.lst menu18), .sh (.lst (ds.map .int)), .sh (.int (n : Int)), .no] = .ok ((List.range n).map fun (i : Nat) => D.int (0 + (i : Int))) := by
    rw [icRng1_ok (j := (n : Int)) rfl (by omega) (by omega), Int.toNat_natCast]
    rfl
  have hlc := denLc_ok (T := mkT t_law_free_text) hr (by simp; omega) e1
  obtain ⟨j1, j2⟩ := joinJ (sep := []) (qs := ms) (n := 15) (B := 7) (by decide) (by omega) e3 (by decide)
  refine ⟨_, ?_, Nat.le_trans j2 (by decide)⟩
  have hm : D.lst [.str (S [48]), .str (S [49]), .str ("2" : Str), .str ("10" : Str), .str (S [45]), .str (S [32]), .str (S [44, 32]), .str ("a" : Str), .str ("b1" : Str), .str (S [47]), .str ("3" : Str), .str ("\n" : Str), .str ("+" : Str), .str ("1 a 0" : Str), .str ("-2 b1 3" : Str), .str ("3 0" : Str), .str ("-1 2" : Str), .str ("," : Str)] = .lst menu18 := rfl
  have r1' := r1
  simp [-mulG_int, -addG_lst, -den_icRng1, d_law_free_text, fnDen, n_law_free_text, b_law_free_text, startE, dVarO, dVar, t_law_free_text, hm, mul15, add16, r1, i0, n2, denM1, strR, hlc, j1]
end RJ

set_option Elab.async false
set_option linter.all false
set_option maxRecDepth 100000
set_option maxHeartbeats 4000000
set_option autoImplicit false
/-! RkX: spoilt texts. -/
namespace RJ
open PySem PySem.Spec L2
open SX (S)

def sig24 : List Nat := [48, 49, 50, 51, 52, 53, 54, 55, 56, 57, 32, 45, 43, 44, 47, 97, 98, 120, 95, 90, 46, 10, 58, 39]
theorem s_sig : ("0123456789 -+,/abx_Z.\n:'" : Str) = S sig24 := TL.ext_tl (by rw [TL.tl_ofString]; rfl)
theorem sig_ix {i : Int} (h : 0 ≤ i ∧ i < 24) : ∃ c, ixG (.str (S sig24)) (.int i) = .ok (.str (S [c])) := by
  obtain ⟨k, rfl⟩ : ∃ k : Nat, i = (k : Int) := ⟨i.toNat, by omega⟩
  have hk : k < sig24.length := by
    show k < 24
    omega
  exact ⟨sig24[k], ixG_str _ _ _ (by rw [sizeLine_eq]; decide) (atI_nat sig24 k hk)⟩
theorem mod_nat {r : Int} {n : Nat} (hn : 0 < n) (h : n ≤ 100000) : ∃ a : Nat, a < n ∧ modG (.int r) (.int (n : Int)) = .ok (.int (a : Int)) := by
  have hb := fmod_bd r (b := (n : Int)) (by omega)
  refine ⟨(r.fmod n).toNat, by omega, ?_⟩
  rw [mod_ok (by omega), show (((r.fmod n).toNat : Nat) : Int) = r.fmod n by omega]
/-- a text made of pieces -/
structure Pcs (l : List Nat) (ps : List (List Nat)) : Prop where
  join : TL.joinL [44, 32] ps = l
  spl : TL.spl [44, 32] 0 [] l = ps
  ne : ps ≠ []
  few : ps.length ≤ 60
  small : ∀ p ∈ ps, p.length ≤ 60
theorem Pcs.len {l : List Nat} {ps : List (List Nat)} (h : Pcs l ps) : l.length ≤ 3720 := by
  have h1 := join_len [44, 32] ps h.ne
  have h2 := sum_le ps h.small
  rw [h.join] at h1
  have : ps.length * 60 ≤ 60 * 60 := Nat.mul_le_mul_right _ h.few
  have h3 := h.few
  simp only [List.length_cons, List.length_nil] at h1
  omega
def pre8 : List D := [.str (S [48]), .str ("+" : Str), .str (S [45]), .str ("00" : Str), .str ("--" : Str), .str ("-0" : Str), .str ("1_" : Str), .str (S [32])]
def suf11 : List D := [.str ("\n" : Str), .str (S [32]), .str ("," : Str), .str (S [44, 32]), .str ("/1" : Str), .str ("/0" : Str), .str ("/-2" : Str), .str (".0" : Str), .str (", 0" : Str), .str (S [47]), .str (" 0" : Str)]
def odd15 : List D := [.str (S []), .str (S [32]), .str ("\n" : Str), .str (S [45]), .str ("-0" : Str), .str ("00" : Str), .str ("1/1" : Str), .str ("0/1" : Str), .str ("2/4" : Str), .str ("0 0" : Str), .str ("1 a" : Str), .str ("a" : Str), .str ("-1/-2" : Str), .str ("1/2/3" : Str), .str ("0/5" : Str)]
def sep5 : List D := [.str ("," : Str), .str (" , " : Str), .str (",  " : Str), .str (", ," : Str), .str ("; " : Str)]
def zer3 : List D := [.str (S [48]), .str ("0 0" : Str), .str ("0 a 0" : Str)]
def one4 : List D := [.str ("7" : Str), .str ("-7" : Str), .str (S [48]), .str (S [49])]
theorem pre8_str : ∀ y ∈ pre8, ∃ m, y = .str (S m) ∧ m.length ≤ 2 := by
  intro y hy
  simp only [pre8, List.mem_cons, List.not_mem_nil, or_false] at hy
  rcases hy with e | e | e | e | e | e | e | e <;> subst e <;> first | exact ⟨_, rfl, by decide⟩ | exact strIn _ 2 (by decide +kernel)
theorem suf11_str : ∀ y ∈ suf11, ∃ m, y = .str (S m) ∧ m.length ≤ 3 := by
  intro y hy
  simp only [suf11, List.mem_cons, List.not_mem_nil, or_false] at hy
  rcases hy with e | e | e | e | e | e | e | e | e | e | e <;> subst e <;> first | exact ⟨_, rfl, by decide⟩ | exact strIn _ 3 (by decide +kernel)
theorem odd15_str : ∀ y ∈ odd15, ∃ m, y = .str (S m) ∧ m.length ≤ 5 := by
  intro y hy
  simp only [odd15, List.mem_cons, List.not_mem_nil, or_false] at hy
  rcases hy with e | e | e | e | e | e | e | e | e | e | e | e | e | e | e <;> subst e <;> first | exact ⟨_, rfl, by decide⟩ | exact strIn _ 5 (by decide +kernel)
theorem sep5_str : ∀ y ∈ sep5, ∃ m, y = .str (S m) ∧ m.length ≤ 3 := by
  intro y hy
  simp only [sep5, List.mem_cons, List.not_mem_nil, or_false] at hy
  rcases hy with e | e | e | e | e <;> subst e <;> exact strIn _ 3 (by decide +kernel)
theorem zer3_str : ∀ y ∈ zer3, ∃ m, y = .str (S m) ∧ m.length ≤ 5 := by
  intro y hy
  simp only [zer3, List.mem_cons, List.not_mem_nil, or_false] at hy
  rcases hy with e | e | e <;> subst e <;> first | exact ⟨_, rfl, by decide⟩ | exact strIn _ 5 (by decide +kernel)
theorem one4_str : ∀ y ∈ one4, ∃ m, y = .str (S m) ∧ m.length ≤ 2 := by
  intro y hy
  simp only [one4, List.mem_cons, List.not_mem_nil, or_false] at hy
  rcases hy with e | e | e | e <;> subst e <;> first | exact ⟨_, rfl, by decide⟩ | exact strIn _ 2 (by decide +kernel)
theorem ixN_nat {n k : Nat} (h : k < n) : ixN n (k : Int) = some k := by
  unfold ixN
  rw [if_pos (by omega), if_pos (by omega), Int.toNat_natCast]
theorem take_mem {ps : List (List Nat)} {B k : Nat} (h : ∀ p ∈ ps, p.length ≤ B) : ∀ p ∈ ps.take k, p.length ≤ B := fun p hp => h p (List.mem_of_mem_take hp)
theorem drop_mem {ps : List (List Nat)} {B k : Nat} (h : ∀ p ∈ ps, p.length ≤ B) : ∀ p ∈ ps.drop k, p.length ≤ B := fun p hp => h p (List.mem_of_mem_drop hp)
theorem app_mem {a b : List (List Nat)} {B : Nat} (ha : ∀ p ∈ a, p.length ≤ B) (hb : ∀ p ∈ b, p.length ≤ B) : ∀ p ∈ a ++ b, p.length ≤ B := fun p hp => by
  rcases List.mem_append.mp hp with h | h
  · exact ha p h
  · exact hb p h
theorem one_mem {a : List Nat} {B : Nat} (ha : a.length ≤ B) : ∀ p ∈ [a], p.length ≤ B := fun p hp => by
  rw [List.mem_singleton] at hp
  subst hp
  exact ha
def sp11 : BC (mkT t_law_spoilt) :=
  bCons (scRet (ecIx (ocE (ecF (fcLst (acCons (ecStr ("" : Str)) (acCons (ecStr (" " : Str)) (acCons (ecStr ("\n" : Str)) (acCons (ecStr ("-" : Str)) (acCons (ecStr ("-0" : Str)) (acCons (ecStr ("00" : Str)) (acCons (ecStr ("1/1" : Str)) (acCons (ecStr ("0/1" : Str)) (acCons (ecStr ("2/4" : Str)) (acCons (ecStr ("0 0" : Str)) (acCons (ecStr ("1 a" : Str)) (acCons (ecStr ("a" : Str)) (acCons (ecStr ("-1/-2" : Str)) (acCons (ecStr ("1/2/3" : Str)) (acCons (ecStr ("0/5" : Str)) acNil)))))))))))))))))) (ocE (ecBin lMod (ocE (ecB "int" lInt (aoCons (ocE (ecIx (ocVar 2) (ocE (ecInt 2)))) aoNil))) (ocE (ecInt 15)))))) bNil
def sp10 : BC (mkT t_law_spoilt) :=
  bCons (scIf (tcCmp lEq (ocE (ecIx (ocVar 2) (ocE (ecInt 0)))) (ocE (ecInt 10))) (bCons (scPutL 7 (ocE (ecInt 0)) (ecIx (ocE (ecF (fcLst (acCons (ecStr ("7" : Str)) (acCons (ecStr ("-7" : Str)) (acCons (ecStr ("0" : Str)) (acCons (ecStr ("1" : Str)) acNil))))))) (ocE (ecBin lMod (ocE (ecB "int" lInt (aoCons (ocE (ecIx (ocVar 2) (ocE (ecInt 2)))) aoNil))) (ocE (ecInt 4)))))) <|
    bCons (scRet (ecJoin (ocE (ecStr (", " : Str))) (ocE (ecBin lAdd (ocE (ecBin lAdd (ocE (ecSl (ocVar 5) none (some (ocVar 6)))) (ocE (ecF (fcLst (acCons (ecJoin (ocE (ecStr (" " : Str))) (ocVar 7)) acNil)))))) (ocE (ecSl (ocVar 5) (some (ocVar 6)) none)))))) bNil) (bNil)) sp11
def sp9 : BC (mkT t_law_spoilt) :=
  bCons (scIf (tcCmp lEq (ocE (ecIx (ocVar 2) (ocE (ecInt 0)))) (ocE (ecInt 9))) (bCons (scRet (ecBin lAdd (ocVar 1) (ocE (ecIx (ocE (ecF (fcLst (acCons (ecStr ("\n" : Str)) (acCons (ecStr (" " : Str)) (acCons (ecStr ("," : Str)) (acCons (ecStr (", " : Str)) (acCons (ecStr ("/1" : Str)) (acCons (ecStr ("/0" : Str)) (acCons (ecStr ("/-2" : Str)) (acCons (ecStr (".0" : Str)) (acCons (ecStr (", 0" : Str)) (acCons (ecStr ("/" : Str)) (acCons (ecStr (" 0" : Str)) acNil)))))))))))))) (ocE (ecBin lMod (ocE (ecB "int" lInt (aoCons (ocE (ecIx (ocVar 2) (ocE (ecInt 2)))) aoNil))) (ocE (ecInt 11)))))))) bNil) (bNil)) sp10
def sp8 : BC (mkT t_law_spoilt) :=
  bCons (scIf (tcCmp lEq (ocE (ecIx (ocVar 2) (ocE (ecInt 0)))) (ocE (ecInt 8))) (bCons (scSet 3 (ecIx (ocE (ecF (fcLst (acCons (ecInt 0) (acCons (ecBin lSub (ocE (ecB "len" lLen (aoCons (ocVar 7) aoNil))) (ocE (ecInt 1))) acNil))))) (ocE (ecBin lMod (ocE (ecB "int" lInt (aoCons (ocE (ecIx (ocVar 2) (ocE (ecInt 2)))) aoNil))) (ocE (ecInt 2)))))) <|
    bCons (scPutL 7 (ocVar 3) (ecBin lAdd (ocE (ecIx (ocE (ecF (fcLst (acCons (ecStr ("0" : Str)) (acCons (ecStr ("+" : Str)) (acCons (ecStr ("-" : Str)) (acCons (ecStr ("00" : Str)) (acCons (ecStr ("--" : Str)) (acCons (ecStr ("-0" : Str)) (acCons (ecStr ("1_" : Str)) (acCons (ecStr (" " : Str)) acNil))))))))))) (ocE (ecBin lMod (ocE (ecBin lFdiv (ocE (ecB "int" lInt (aoCons (ocE (ecIx (ocVar 2) (ocE (ecInt 2)))) aoNil))) (ocE (ecInt 2)))) (ocE (ecInt 8)))))) (ocE (ecIx (ocVar 7) (ocVar 3))))) <|
    bCons (scRet (ecJoin (ocE (ecStr (", " : Str))) (ocE (ecBin lAdd (ocE (ecBin lAdd (ocE (ecSl (ocVar 5) none (some (ocVar 6)))) (ocE (ecF (fcLst (acCons (ecJoin (ocE (ecStr (" " : Str))) (ocVar 7)) acNil)))))) (ocE (ecSl (ocVar 5) (some (ocE (ecBin lAdd (ocVar 6) (ocE (ecInt 1))))) none)))))) bNil) (bNil)) sp9
def sp7 : BC (mkT t_law_spoilt) :=
  bCons (scIf (tcCmp lEq (ocE (ecIx (ocVar 2) (ocE (ecInt 0)))) (ocE (ecInt 7))) (bCons (scRet (ecJoin (ocE (ecIx (ocE (ecF (fcLst (acCons (ecStr ("," : Str)) (acCons (ecStr (" , " : Str)) (acCons (ecStr (",  " : Str)) (acCons (ecStr (", ," : Str)) (acCons (ecStr ("; " : Str)) acNil)))))))) (ocE (ecBin lMod (ocE (ecB "int" lInt (aoCons (ocE (ecIx (ocVar 2) (ocE (ecInt 2)))) aoNil))) (ocE (ecInt 5)))))) (ocVar 5))) bNil) (bNil)) sp8
def sp6 : BC (mkT t_law_spoilt) :=
  bCons (scIf (tcCmp lEq (ocE (ecIx (ocVar 2) (ocE (ecInt 0)))) (ocE (ecInt 6))) (bCons (scRet (ecJoin (ocE (ecStr (", " : Str))) (ocE (ecBin lAdd (ocE (ecBin lAdd (ocE (ecSl (ocVar 5) none (some (ocVar 6)))) (ocE (ecF (fcLst (acCons (ecIx (ocE (ecF (fcLst (acCons (ecStr ("0" : Str)) (acCons (ecStr ("0 0" : Str)) (acCons (ecStr ("0 a 0" : Str)) acNil)))))) (ocVar 0)) acNil)))))) (ocE (ecSl (ocVar 5) (some (ocVar 6)) none)))))) bNil) (bNil)) sp7
def sp5 : BC (mkT t_law_spoilt) :=
  bCons (scIf (tcCmp lEq (ocE (ecIx (ocVar 2) (ocE (ecInt 0)))) (ocE (ecInt 5))) (bCons (scRet (ecJoin (ocE (ecStr (", " : Str))) (ocE (ecBin lAdd (ocE (ecSl (ocVar 5) (some (ocVar 6)) none)) (ocE (ecSl (ocVar 5) none (some (ocVar 6)))))))) bNil) (bNil)) sp6
def sp4 : BC (mkT t_law_spoilt) :=
  bCons (scIf (tcCmp lEq (ocE (ecIx (ocVar 2) (ocE (ecInt 0)))) (ocE (ecInt 4))) (bCons (scRet (ecJoin (ocE (ecStr (", " : Str))) (ocE (ecBin lAdd (ocE (ecBin lAdd (ocE (ecSl (ocVar 5) none (some (ocVar 6)))) (ocE (ecF (fcLst (acCons (ecIx (ocVar 5) (ocVar 6)) acNil)))))) (ocE (ecSl (ocVar 5) (some (ocVar 6)) none)))))) bNil) (bNil)) sp5
def sp3 : BC (mkT t_law_spoilt) :=
  bCons (scIf (tcCmp lEq (ocE (ecIx (ocVar 2) (ocE (ecInt 0)))) (ocE (ecInt 3))) (bCons (scRet (ecBin lAdd (ocE (ecBin lAdd (ocE (ecBin lAdd (ocE (ecSl (ocVar 1) none (some (ocVar 3)))) (ocE (ecSl (ocVar 1) (some (ocE (ecBin lAdd (ocVar 3) (ocE (ecInt 1))))) (some (ocE (ecBin lAdd (ocVar 3) (ocE (ecInt 2))))))))) (ocE (ecSl (ocVar 1) (some (ocVar 3)) (some (ocE (ecBin lAdd (ocVar 3) (ocE (ecInt 1))))))))) (ocE (ecSl (ocVar 1) (some (ocE (ecBin lAdd (ocVar 3) (ocE (ecInt 2))))) none)))) bNil) (bNil)) sp4
def sp2 : BC (mkT t_law_spoilt) :=
  bCons (scIf (tcCmp lEq (ocE (ecIx (ocVar 2) (ocE (ecInt 0)))) (ocE (ecInt 2))) (bCons (scRet (ecBin lAdd (ocE (ecBin lAdd (ocE (ecSl (ocVar 1) none (some (ocVar 3)))) (ocVar 4))) (ocE (ecSl (ocVar 1) (some (ocE (ecBin lAdd (ocVar 3) (ocE (ecInt 1))))) none)))) bNil) (bNil)) sp3
def sp1 : BC (mkT t_law_spoilt) :=
  bCons (scIf (tcCmp lEq (ocE (ecIx (ocVar 2) (ocE (ecInt 0)))) (ocE (ecInt 1))) (bCons (scRet (ecBin lAdd (ocE (ecSl (ocVar 1) none (some (ocVar 3)))) (ocE (ecSl (ocVar 1) (some (ocE (ecBin lAdd (ocVar 3) (ocE (ecInt 1))))) none)))) bNil) (bNil)) sp2
def sp0 : BC (mkT t_law_spoilt) :=
  bCons (scIf (tcCmp lEq (ocE (ecIx (ocVar 2) (ocE (ecInt 0)))) (ocE (ecInt 0))) (bCons (scRet (ecBin lAdd (ocE (ecBin lAdd (ocE (ecSl (ocVar 1) none (some (ocVar 3)))) (ocVar 4))) (ocE (ecSl (ocVar 1) (some (ocVar 3)) none)))) bNil) (bNil)) sp1
def h4 : BC (mkT t_law_spoilt) :=
  bCons (scSetF 7 (fcSplit (ocE (ecIx (ocVar 5) (ocVar 6))) (ocE (ecStr (" " : Str))))) sp0
def h3 : BC (mkT t_law_spoilt) :=
  bCons (scSet 6 (ecBin lMod (ocE (ecB "int" lInt (aoCons (ocE (ecIx (ocVar 2) (ocE (ecInt 1)))) aoNil))) (ocE (ecB "len" lLen (aoCons (ocVar 5) aoNil))))) h4
def h2 : BC (mkT t_law_spoilt) :=
  bCons (scSet 5 (ecF (fcSplit (ocVar 1) (ocE (ecStr (", " : Str)))))) h3
def h1 (sg : Str) : BC (mkT t_law_spoilt) :=
  bCons (scSet 4 (ecIx (ocE (ecStr sg)) (ocE (ecIx (ocVar 2) (ocE (ecInt 2)))))) h2
def h0 (sg : Str) : BC (mkT t_law_spoilt) :=
  bCons (scSet 3 (ecBin lMod (ocE (ecB "int" lInt (aoCons (ocE (ecIx (ocVar 2) (ocE (ecInt 1)))) aoNil))) (ocE (ecBin lAdd (ocE (ecB "len" lLen (aoCons (ocVar 1) aoNil))) (ocE (ecInt 1)))))) (h1 sg)
theorem den_step {T : Tbl} {a : SC T} {r : BC T} {Γ Γ' : En} (h : a.den Γ = .nx Γ') : (bCons a r).den Γ = r.den Γ' := by
  rw [den_bCons, h, SR.seq_nx]
theorem hs0 {sg : Str} {s0 s4 s5 s6 s7 : Sl} {x row : D} {r1 n a : Int} (i1 : ixG row (.int 1) = .ok (.int r1)) (hl : lenG [x] = .ok (.int n)) (a2 : modG (.int r1) (.int (n + 1)) = .ok (.int a)) : (h0 sg).den [s0, .sh x, .sh row, .no, s4, s5, s6, s7] = (h1 sg).den [s0, .sh x, .sh row, .sh (.int a), s4, s5, s6, s7] := by
  unfold h0
  refine den_step ?_
  simp [-modG_int, dVarO, dVar, i1, hl, a2]
theorem hs1 {sg : Str} {s0 s1 s3 s5 s6 s7 : Sl} {row c : D} {r2 : Int} (i2 : ixG row (.int 2) = .ok (.int r2)) (c1 : ixG (.str sg) (.int r2) = .ok c) : (h1 sg).den [s0, s1, .sh row, s3, .no, s5, s6, s7] = h2.den [s0, s1, .sh row, s3, .sh c, s5, s6, s7] := by
  unfold h1
  refine den_step ?_
  simp [dVarO, dVar, i2, c1]
theorem hs2 {s0 s2 s3 s4 s6 s7 : Sl} {x : Str} {d : D} (h : splitG x (.str (S [44, 32])) = .ok d) : h2.den [s0, .sh (.str x), s2, s3, s4, .no, s6, s7] = h3.den [s0, .sh (.str x), s2, s3, s4, .sh d, s6, s7] := by
  unfold h2
  refine den_step ?_
  simp [dVarO, dVar, denM1, strR, h]
theorem hs3 {s0 s1 s3 s4 s7 : Sl} {row y : D} {r1 n k : Int} (i1 : ixG row (.int 1) = .ok (.int r1)) (hl : lenG [y] = .ok (.int n)) (k2 : modG (.int r1) (.int n) = .ok (.int k)) : h3.den [s0, s1, .sh row, s3, s4, .sh y, .no, s7] = h4.den [s0, s1, .sh row, s3, s4, .sh y, .sh (.int k), s7] := by
  unfold h3
  refine den_step ?_
  simp [-modG_int, dVarO, dVar, i1, hl, k2]
theorem hs4 {s0 s1 s2 s3 s4 : Sl} {y w d : D} {k : Int} {x : Str} (hpk : ixG y (.int k) = .ok (.str x)) (h : splitG x (.str (S [32])) = .ok d) : h4.den [s0, s1, s2, s3, s4, .sh y, .sh (.int k), .no] = sp0.den [s0, s1, s2, s3, s4, .sh y, .sh (.int k), .own d] := by
  unfold h4
  refine den_step ?_
  simp [dVarO, dVar, denM1, strR, hpk, h]
theorem sk0 {r0 r1 r2 : Int} {s0 s1 s3 s4 s5 s6 s7 : Sl} (h : r0 ≠ 0) : sp0.den [s0, s1, .sh (.lst [.int r0, .int r1, .int r2]), s3, s4, s5, s6, s7] = sp1.den [s0, s1, .sh (.lst [.int r0, .int r1, .int r2]), s3, s4, s5, s6, s7] := by
  have i0 : ixG (.lst [.int r0, .int r1, .int r2]) (.int 0) = .ok (.int r0) := ixG_lst rfl
  unfold sp0
  generalize sp1 = R
  simp [dVarO, dVar, i0, h]
theorem sk1 {r0 r1 r2 : Int} {s0 s1 s3 s4 s5 s6 s7 : Sl} (h : r0 ≠ 1) : sp1.den [s0, s1, .sh (.lst [.int r0, .int r1, .int r2]), s3, s4, s5, s6, s7] = sp2.den [s0, s1, .sh (.lst [.int r0, .int r1, .int r2]), s3, s4, s5, s6, s7] := by
  have i0 : ixG (.lst [.int r0, .int r1, .int r2]) (.int 0) = .ok (.int r0) := ixG_lst rfl
  unfold sp1
  generalize sp2 = R
  simp [dVarO, dVar, i0, h]
theorem sk2 {r0 r1 r2 : Int} {s0 s1 s3 s4 s5 s6 s7 : Sl} (h : r0 ≠ 2) : sp2.den [s0, s1, .sh (.lst [.int r0, .int r1, .int r2]), s3, s4, s5, s6, s7] = sp3.den [s0, s1, .sh (.lst [.int r0, .int r1, .int r2]), s3, s4, s5, s6, s7] := by
  have i0 : ixG (.lst [.int r0, .int r1, .int r2]) (.int 0) = .ok (.int r0) := ixG_lst rfl
  unfold sp2
  generalize sp3 = R
  simp [dVarO, dVar, i0, h]
theorem sk3 {r0 r1 r2 : Int} {s0 s1 s3 s4 s5 s6 s7 : Sl} (h : r0 ≠ 3) : sp3.den [s0, s1, .sh (.lst [.int r0, .int r1, .int r2]), s3, s4, s5, s6, s7] = sp4.den [s0, s1, .sh (.lst [.int r0, .int r1, .int r2]), s3, s4, s5, s6, s7] := by
  have i0 : ixG (.lst [.int r0, .int r1, .int r2]) (.int 0) = .ok (.int r0) := ixG_lst rfl
  unfold sp3
  generalize sp4 = R
  simp [dVarO, dVar, i0, h]
theorem sk4 {r0 r1 r2 : Int} {s0 s1 s3 s4 s5 s6 s7 : Sl} (h : r0 ≠ 4) : sp4.den [s0, s1, .sh (.lst [.int r0, .int r1, .int r2]), s3, s4, s5, s6, s7] = sp5.den [s0, s1, .sh (.lst [.int r0, .int r1, .int r2]), s3, s4, s5, s6, s7] := by
  have i0 : ixG (.lst [.int r0, .int r1, .int r2]) (.int 0) = .ok (.int r0) := ixG_lst rfl
  unfold sp4
  generalize sp5 = R
  simp [dVarO, dVar, i0, h]
theorem sk5 {r0 r1 r2 : Int} {s0 s1 s3 s4 s5 s6 s7 : Sl} (h : r0 ≠ 5) : sp5.den [s0, s1, .sh (.lst [.int r0, .int r1, .int r2]), s3, s4, s5, s6, s7] = sp6.den [s0, s1, .sh (.lst [.int r0, .int r1, .int r2]), s3, s4, s5, s6, s7] := by
  have i0 : ixG (.lst [.int r0, .int r1, .int r2]) (.int 0) = .ok (.int r0) := ixG_lst rfl
  unfold sp5
  generalize sp6 = R
  simp [dVarO, dVar, i0, h]
theorem sk6 {r0 r1 r2 : Int} {s0 s1 s3 s4 s5 s6 s7 : Sl} (h : r0 ≠ 6) : sp6.den [s0, s1, .sh (.lst [.int r0, .int r1, .int r2]), s3, s4, s5, s6, s7] = sp7.den [s0, s1, .sh (.lst [.int r0, .int r1, .int r2]), s3, s4, s5, s6, s7] := by
  have i0 : ixG (.lst [.int r0, .int r1, .int r2]) (.int 0) = .ok (.int r0) := ixG_lst rfl
  unfold sp6
  generalize sp7 = R
  simp [dVarO, dVar, i0, h]
theorem sk7 {r0 r1 r2 : Int} {s0 s1 s3 s4 s5 s6 s7 : Sl} (h : r0 ≠ 7) : sp7.den [s0, s1, .sh (.lst [.int r0, .int r1, .int r2]), s3, s4, s5, s6, s7] = sp8.den [s0, s1, .sh (.lst [.int r0, .int r1, .int r2]), s3, s4, s5, s6, s7] := by
  have i0 : ixG (.lst [.int r0, .int r1, .int r2]) (.int 0) = .ok (.int r0) := ixG_lst rfl
  unfold sp7
  generalize sp8 = R
  simp [dVarO, dVar, i0, h]
theorem sk8 {r0 r1 r2 : Int} {s0 s1 s3 s4 s5 s6 s7 : Sl} (h : r0 ≠ 8) : sp8.den [s0, s1, .sh (.lst [.int r0, .int r1, .int r2]), s3, s4, s5, s6, s7] = sp9.den [s0, s1, .sh (.lst [.int r0, .int r1, .int r2]), s3, s4, s5, s6, s7] := by
  have i0 : ixG (.lst [.int r0, .int r1, .int r2]) (.int 0) = .ok (.int r0) := ixG_lst rfl
  unfold sp8
  generalize sp9 = R
  simp [dVarO, dVar, i0, h]
theorem sk9 {r0 r1 r2 : Int} {s0 s1 s3 s4 s5 s6 s7 : Sl} (h : r0 ≠ 9) : sp9.den [s0, s1, .sh (.lst [.int r0, .int r1, .int r2]), s3, s4, s5, s6, s7] = sp10.den [s0, s1, .sh (.lst [.int r0, .int r1, .int r2]), s3, s4, s5, s6, s7] := by
  have i0 : ixG (.lst [.int r0, .int r1, .int r2]) (.int 0) = .ok (.int r0) := ixG_lst rfl
  unfold sp9
  generalize sp10 = R
  simp [dVarO, dVar, i0, h]
theorem sk10 {r0 r1 r2 : Int} {s0 s1 s3 s4 s5 s6 s7 : Sl} (h : r0 ≠ 10) : sp10.den [s0, s1, .sh (.lst [.int r0, .int r1, .int r2]), s3, s4, s5, s6, s7] = sp11.den [s0, s1, .sh (.lst [.int r0, .int r1, .int r2]), s3, s4, s5, s6, s7] := by
  have i0 : ixG (.lst [.int r0, .int r1, .int r2]) (.int 0) = .ok (.int r0) := ixG_lst rfl
  unfold sp10
  generalize sp11 = R
  simp [dVarO, dVar, i0, h]
theorem sp_head {l : List Nat} {ps : List (List Nat)} (P : Pcs l ps) {kind r0 r1 r2 : Int} (h2 : 0 ≤ r2 ∧ r2 < 24) : ∃ (a k c : Nat) (pk : List Nat) (ws : List (List Nat)), a ≤ l.length ∧ k < ps.length ∧ ixG (.lst (strsOf ps)) (.int (k : Int)) = .ok (.str (S pk)) ∧ pk.length ≤ 60 ∧ 0 < ws.length ∧ ws.length ≤ 61 ∧ TL.joinL [32] ws = pk ∧
    d_law_spoilt [.int kind, .str (S l), .lst [.int r0, .int r1, .int r2]] = outS (sp0.den [.sh (.int kind), .sh (.str (S l)), .sh (.lst [.int r0, .int r1, .int r2]), .sh (.int (a : Int)), .sh (.str (S [c])), .sh (.lst (strsOf ps)), .sh (.int (k : Int)), .own (.lst (strsOf ws))]) := by
  have hl := P.len
  have hlz : l.length ≤ sizeLine := by rw [sizeLine_eq]; omega
  have hfew := P.few
  have hpos : 0 < ps.length := List.length_pos_iff.mpr P.ne
  obtain ⟨a, a1, a2⟩ := mod_nat (r := r1) (n := l.length + 1) (by omega) (by omega)
  have a2 : modG (.int r1) (.int ((l.length : Int) + 1)) = .ok (.int (a : Int)) := a2
  obtain ⟨k, k1, k2⟩ := mod_nat (r := r1) (n := ps.length) hpos (by omega)
  obtain ⟨c, c1⟩ := sig_ix h2
  have hsp := split_comma (x := l) (by omega)
  rw [P.spl] at hsp
  have hpk : ixG (.lst (strsOf ps)) (.int (k : Int)) = .ok (.str (S ps[k])) := by
    refine ixG_lst ?_
    rw [atI_nat _ _ (by simpa [strsOf] using k1)]
    simp [strsOf]
  have hps := P.small _ (List.getElem_mem k1)
  generalize ps[k] = pk at *
  have hsp2 := split_blank (x := pk) (by omega)
  have hjw := join_spl (sep := [32]) (by simp) pk.length [] pk (Nat.le_refl _)
  rw [List.nil_append] at hjw
  have hwne : TL.spl [32] 0 [] pk ≠ [] := spl_ne _ _ _ _
  obtain ⟨hwc, _⟩ := spl_lens (sep := [32]) (by simp) pk
  generalize TL.spl [32] 0 [] pk = ws at *
  have hwpos : 0 < ws.length := List.length_pos_iff.mpr hwne
  have hplen : ((strsOf ps).length : Int) = (ps.length : Int) := by simp [strsOf]
  have hlenS : lenG [.str (S l)] = .ok (.int (l.length : Int)) := by rw [lenG_str, if_pos (by rw [s_len]; exact hlz), s_len]
  have hlenP : lenG [.lst (strsOf ps)] = .ok (.int (ps.length : Int)) := by rw [lenG_lst, hplen]
  have i1 : ixG (.lst [.int r0, .int r1, .int r2]) (.int 1) = .ok (.int r1) := ixG_lst rfl
  have i2 : ixG (.lst [.int r0, .int r1, .int r2]) (.int 2) = .ok (.int r2) := ixG_lst rfl
  refine ⟨a, k, c, pk, ws, by omega, k1, hpk, hps, hwpos, by omega, hjw, ?_⟩
  have main : d_law_spoilt [.int kind, .str (S l), .lst [.int r0, .int r1, .int r2]] = outS ((h0 "0123456789 -+,/abx_Z.\n:'").den [.sh (.int kind), .sh (.str (S l)), .sh (.lst [.int r0, .int r1, .int r2]), .no, .no, .no, .no, .no]) := rfl
  rw [main, s_sig]
  clear main
  generalize S sig24 = sg at *
  rw [hs0 i1 hlenS a2, hs1 i2 c1, hs2 hsp, hs3 i1 hlenP k2, hs4 (w := .non) hpk hsp2]
theorem spc0 {l : List Nat} {ps : List (List Nat)} (P : Pcs l ps) {kind r1 r2 : Int} (hk : 0 ≤ kind ∧ kind < 3) (h2 : 0 ≤ r2 ∧ r2 < 24) {a k c : Nat} {pk : List Nat} {ws : List (List Nat)} (hal : a ≤ l.length) (k1 : k < ps.length) (hpk : ixG (.lst (strsOf ps)) (.int (k : Int)) = .ok (.str (S pk))) (hps : pk.length ≤ 60) (hwpos : 0 < ws.length) (hwc : ws.length ≤ 61) (hjw : TL.joinL [32] ws = pk) : ∃ l', outS (sp0.den [.sh (.int kind), .sh (.str (S l)), .sh (.lst [.int 0, .int r1, .int r2]), .sh (.int (a : Int)), .sh (.str (S [c])), .sh (.lst (strsOf ps)), .sh (.int (k : Int)), .own (.lst (strsOf ws))]) = .ok (.str (S l')) ∧ l'.length ≤ 4200 := by
  have hl := P.len
  have hlz : l.length ≤ sizeLine := by rw [sizeLine_eq]; omega
  have hfew := P.few
  have hwlen : ((strsOf ws).length : Int) = (ws.length : Int) := by simp [strsOf]
  have hlenW : lenG [.lst (strsOf ws)] = .ok (.int (ws.length : Int)) := by rw [lenG_lst, hwlen]
  -- slices
  have t1 : slG (.str (S l)) none (some (a : Int)) = .ok (.str (S (l.take a))) := by rw [slG_to _ _ (by omega) hlz, Int.toNat_natCast]
  have t2 : slG (.str (S l)) (some (a : Int)) none = .ok (.str (S (l.drop a))) := by rw [slG_from _ _ (by omega) hlz, Int.toNat_natCast]
  have t3 : slG (.str (S l)) (some ((a : Int) + 1)) none = .ok (.str (S (l.drop (a + 1)))) := by rw [slG_from _ _ (by omega) hlz]; rfl
  have t4 : slG (.str (S l)) (some ((a : Int) + 2)) none = .ok (.str (S (l.drop (a + 2)))) := by rw [slG_from _ _ (by omega) hlz]; rfl
  obtain ⟨m1, t5, t5l⟩ := mid_ok (l := l) (by omega) (a + 1) (a + 2) (by omega)
  have t5 : slG (.str (S l)) (some ((a : Int) + 1)) (some ((a : Int) + 2)) = .ok (.str (S m1)) := t5
  obtain ⟨m2, t6, t6l⟩ := mid_ok (l := l) (by omega) a (a + 1) (by omega)
  have t6 : slG (.str (S l)) (some (a : Int)) (some ((a : Int) + 1)) = .ok (.str (S m2)) := t6
  have lt : (l.take a).length ≤ a := by rw [List.length_take]; omega
  have ld0 : (l.drop a).length ≤ l.length - a := by rw [List.length_drop]; exact Nat.le_refl _
  have ld1 : (l.drop (a + 1)).length ≤ l.length - a := by rw [List.length_drop]; omega
  have ld2 : (l.drop (a + 2)).length ≤ l.length - a := by rw [List.length_drop]; omega
  have p1 := slL_to ps k
  have p2 := slL_from ps k
  have p3 : slG (.lst (strsOf ps)) (some ((k : Int) + 1)) none = .ok (.lst (strsOf (ps.drop (k + 1)))) := slL_from ps (k + 1)
  have pt : (ps.take k).length ≤ k := by rw [List.length_take]; omega
  have pd0 : (ps.drop k).length ≤ ps.length - k := by rw [List.length_drop]; exact Nat.le_refl _
  have pd1 : (ps.drop (k + 1)).length ≤ ps.length - k := by rw [List.length_drop]; omega
  have ht := take_mem (k := k) P.small
  have hd0 := drop_mem (k := k) P.small
  have hd1 := drop_mem (k := k + 1) P.small
  have eone : ∀ w : List Nat, D.lst [.str (S w)] = .lst (strsOf [w]) := fun _ => rfl
  have i0 : ∀ x : Int, ixG (.lst [.int x, .int r1, .int r2]) (.int 0) = .ok (.int x) := fun x => ixG_lst rfl
  have i1 : ∀ x : Int, ixG (.lst [.int x, .int r1, .int r2]) (.int 1) = .ok (.int r1) := fun x => ixG_lst rfl
  have i2 : ∀ x : Int, ixG (.lst [.int x, .int r1, .int r2]) (.int 2) = .ok (.int r2) := fun x => ixG_lst rfl
  have u1 := addS (a := l.take a) (b := [c]) (by simp; omega)
  have u2 := addS (a := l.take a ++ [c]) (b := l.drop a) (by simp; omega)
  refine ⟨l.take a ++ [c] ++ l.drop a, ?_, by simp; omega⟩
  simp [-addG_str, -modG_int, -lenG_str, -lenG_lst, -List.append_assoc, -List.take_append_drop, sp0, dVarO, dVar, i0, i1, i2, denM1, strR, hpk, t1, t2, u1, u2]
theorem spc1 {l : List Nat} {ps : List (List Nat)} (P : Pcs l ps) {kind r1 r2 : Int} (hk : 0 ≤ kind ∧ kind < 3) (h2 : 0 ≤ r2 ∧ r2 < 24) {a k c : Nat} {pk : List Nat} {ws : List (List Nat)} (hal : a ≤ l.length) (k1 : k < ps.length) (hpk : ixG (.lst (strsOf ps)) (.int (k : Int)) = .ok (.str (S pk))) (hps : pk.length ≤ 60) (hwpos : 0 < ws.length) (hwc : ws.length ≤ 61) (hjw : TL.joinL [32] ws = pk) : ∃ l', outS (sp1.den [.sh (.int kind), .sh (.str (S l)), .sh (.lst [.int 1, .int r1, .int r2]), .sh (.int (a : Int)), .sh (.str (S [c])), .sh (.lst (strsOf ps)), .sh (.int (k : Int)), .own (.lst (strsOf ws))]) = .ok (.str (S l')) ∧ l'.length ≤ 4200 := by
  have hl := P.len
  have hlz : l.length ≤ sizeLine := by rw [sizeLine_eq]; omega
  have hfew := P.few
  have hwlen : ((strsOf ws).length : Int) = (ws.length : Int) := by simp [strsOf]
  have hlenW : lenG [.lst (strsOf ws)] = .ok (.int (ws.length : Int)) := by rw [lenG_lst, hwlen]
  -- slices
  have t1 : slG (.str (S l)) none (some (a : Int)) = .ok (.str (S (l.take a))) := by rw [slG_to _ _ (by omega) hlz, Int.toNat_natCast]
  have t2 : slG (.str (S l)) (some (a : Int)) none = .ok (.str (S (l.drop a))) := by rw [slG_from _ _ (by omega) hlz, Int.toNat_natCast]
  have t3 : slG (.str (S l)) (some ((a : Int) + 1)) none = .ok (.str (S (l.drop (a + 1)))) := by rw [slG_from _ _ (by omega) hlz]; rfl
  have t4 : slG (.str (S l)) (some ((a : Int) + 2)) none = .ok (.str (S (l.drop (a + 2)))) := by rw [slG_from _ _ (by omega) hlz]; rfl
  obtain ⟨m1, t5, t5l⟩ := mid_ok (l := l) (by omega) (a + 1) (a + 2) (by omega)
  have t5 : slG (.str (S l)) (some ((a : Int) + 1)) (some ((a : Int) + 2)) = .ok (.str (S m1)) := t5
  obtain ⟨m2, t6, t6l⟩ := mid_ok (l := l) (by omega) a (a + 1) (by omega)
  have t6 : slG (.str (S l)) (some (a : Int)) (some ((a : Int) + 1)) = .ok (.str (S m2)) := t6
  have lt : (l.take a).length ≤ a := by rw [List.length_take]; omega
  have ld0 : (l.drop a).length ≤ l.length - a := by rw [List.length_drop]; exact Nat.le_refl _
  have ld1 : (l.drop (a + 1)).length ≤ l.length - a := by rw [List.length_drop]; omega
  have ld2 : (l.drop (a + 2)).length ≤ l.length - a := by rw [List.length_drop]; omega
  have p1 := slL_to ps k
  have p2 := slL_from ps k
  have p3 : slG (.lst (strsOf ps)) (some ((k : Int) + 1)) none = .ok (.lst (strsOf (ps.drop (k + 1)))) := slL_from ps (k + 1)
  have pt : (ps.take k).length ≤ k := by rw [List.length_take]; omega
  have pd0 : (ps.drop k).length ≤ ps.length - k := by rw [List.length_drop]; exact Nat.le_refl _
  have pd1 : (ps.drop (k + 1)).length ≤ ps.length - k := by rw [List.length_drop]; omega
  have ht := take_mem (k := k) P.small
  have hd0 := drop_mem (k := k) P.small
  have hd1 := drop_mem (k := k + 1) P.small
  have eone : ∀ w : List Nat, D.lst [.str (S w)] = .lst (strsOf [w]) := fun _ => rfl
  have i0 : ∀ x : Int, ixG (.lst [.int x, .int r1, .int r2]) (.int 0) = .ok (.int x) := fun x => ixG_lst rfl
  have i1 : ∀ x : Int, ixG (.lst [.int x, .int r1, .int r2]) (.int 1) = .ok (.int r1) := fun x => ixG_lst rfl
  have i2 : ∀ x : Int, ixG (.lst [.int x, .int r1, .int r2]) (.int 2) = .ok (.int r2) := fun x => ixG_lst rfl
  have u1 := addS (a := l.take a) (b := l.drop (a + 1)) (by omega)
  refine ⟨l.take a ++ l.drop (a + 1), ?_, by simp; omega⟩
  simp [-addG_str, -modG_int, -lenG_str, -lenG_lst, -List.append_assoc, sp1, dVarO, dVar, i0, i1, i2, denM1, strR, hpk, t1, t3, u1]
theorem spc2 {l : List Nat} {ps : List (List Nat)} (P : Pcs l ps) {kind r1 r2 : Int} (hk : 0 ≤ kind ∧ kind < 3) (h2 : 0 ≤ r2 ∧ r2 < 24) {a k c : Nat} {pk : List Nat} {ws : List (List Nat)} (hal : a ≤ l.length) (k1 : k < ps.length) (hpk : ixG (.lst (strsOf ps)) (.int (k : Int)) = .ok (.str (S pk))) (hps : pk.length ≤ 60) (hwpos : 0 < ws.length) (hwc : ws.length ≤ 61) (hjw : TL.joinL [32] ws = pk) : ∃ l', outS (sp2.den [.sh (.int kind), .sh (.str (S l)), .sh (.lst [.int 2, .int r1, .int r2]), .sh (.int (a : Int)), .sh (.str (S [c])), .sh (.lst (strsOf ps)), .sh (.int (k : Int)), .own (.lst (strsOf ws))]) = .ok (.str (S l')) ∧ l'.length ≤ 4200 := by
  have hl := P.len
  have hlz : l.length ≤ sizeLine := by rw [sizeLine_eq]; omega
  have hfew := P.few
  have hwlen : ((strsOf ws).length : Int) = (ws.length : Int) := by simp [strsOf]
  have hlenW : lenG [.lst (strsOf ws)] = .ok (.int (ws.length : Int)) := by rw [lenG_lst, hwlen]
  -- slices
  have t1 : slG (.str (S l)) none (some (a : Int)) = .ok (.str (S (l.take a))) := by rw [slG_to _ _ (by omega) hlz, Int.toNat_natCast]
  have t2 : slG (.str (S l)) (some (a : Int)) none = .ok (.str (S (l.drop a))) := by rw [slG_from _ _ (by omega) hlz, Int.toNat_natCast]
  have t3 : slG (.str (S l)) (some ((a : Int) + 1)) none = .ok (.str (S (l.drop (a + 1)))) := by rw [slG_from _ _ (by omega) hlz]; rfl
  have t4 : slG (.str (S l)) (some ((a : Int) + 2)) none = .ok (.str (S (l.drop (a + 2)))) := by rw [slG_from _ _ (by omega) hlz]; rfl
  obtain ⟨m1, t5, t5l⟩ := mid_ok (l := l) (by omega) (a + 1) (a + 2) (by omega)
  have t5 : slG (.str (S l)) (some ((a : Int) + 1)) (some ((a : Int) + 2)) = .ok (.str (S m1)) := t5
  obtain ⟨m2, t6, t6l⟩ := mid_ok (l := l) (by omega) a (a + 1) (by omega)
  have t6 : slG (.str (S l)) (some (a : Int)) (some ((a : Int) + 1)) = .ok (.str (S m2)) := t6
  have lt : (l.take a).length ≤ a := by rw [List.length_take]; omega
  have ld0 : (l.drop a).length ≤ l.length - a := by rw [List.length_drop]; exact Nat.le_refl _
  have ld1 : (l.drop (a + 1)).length ≤ l.length - a := by rw [List.length_drop]; omega
  have ld2 : (l.drop (a + 2)).length ≤ l.length - a := by rw [List.length_drop]; omega
  have p1 := slL_to ps k
  have p2 := slL_from ps k
  have p3 : slG (.lst (strsOf ps)) (some ((k : Int) + 1)) none = .ok (.lst (strsOf (ps.drop (k + 1)))) := slL_from ps (k + 1)
  have pt : (ps.take k).length ≤ k := by rw [List.length_take]; omega
  have pd0 : (ps.drop k).length ≤ ps.length - k := by rw [List.length_drop]; exact Nat.le_refl _
  have pd1 : (ps.drop (k + 1)).length ≤ ps.length - k := by rw [List.length_drop]; omega
  have ht := take_mem (k := k) P.small
  have hd0 := drop_mem (k := k) P.small
  have hd1 := drop_mem (k := k + 1) P.small
  have eone : ∀ w : List Nat, D.lst [.str (S w)] = .lst (strsOf [w]) := fun _ => rfl
  have i0 : ∀ x : Int, ixG (.lst [.int x, .int r1, .int r2]) (.int 0) = .ok (.int x) := fun x => ixG_lst rfl
  have i1 : ∀ x : Int, ixG (.lst [.int x, .int r1, .int r2]) (.int 1) = .ok (.int r1) := fun x => ixG_lst rfl
  have i2 : ∀ x : Int, ixG (.lst [.int x, .int r1, .int r2]) (.int 2) = .ok (.int r2) := fun x => ixG_lst rfl
  have u1 := addS (a := l.take a) (b := [c]) (by simp; omega)
  have u2 := addS (a := l.take a ++ [c]) (b := l.drop (a + 1)) (by simp; omega)
  refine ⟨l.take a ++ [c] ++ l.drop (a + 1), ?_, by simp; omega⟩
  simp [-addG_str, -modG_int, -lenG_str, -lenG_lst, -List.append_assoc, sp2, dVarO, dVar, i0, i1, i2, denM1, strR, hpk, t1, t3, u1, u2]
theorem spc3 {l : List Nat} {ps : List (List Nat)} (P : Pcs l ps) {kind r1 r2 : Int} (hk : 0 ≤ kind ∧ kind < 3) (h2 : 0 ≤ r2 ∧ r2 < 24) {a k c : Nat} {pk : List Nat} {ws : List (List Nat)} (hal : a ≤ l.length) (k1 : k < ps.length) (hpk : ixG (.lst (strsOf ps)) (.int (k : Int)) = .ok (.str (S pk))) (hps : pk.length ≤ 60) (hwpos : 0 < ws.length) (hwc : ws.length ≤ 61) (hjw : TL.joinL [32] ws = pk) : ∃ l', outS (sp3.den [.sh (.int kind), .sh (.str (S l)), .sh (.lst [.int 3, .int r1, .int r2]), .sh (.int (a : Int)), .sh (.str (S [c])), .sh (.lst (strsOf ps)), .sh (.int (k : Int)), .own (.lst (strsOf ws))]) = .ok (.str (S l')) ∧ l'.length ≤ 4200 := by
  have hl := P.len
  have hlz : l.length ≤ sizeLine := by rw [sizeLine_eq]; omega
  have hfew := P.few
  have hwlen : ((strsOf ws).length : Int) = (ws.length : Int) := by simp [strsOf]
  have hlenW : lenG [.lst (strsOf ws)] = .ok (.int (ws.length : Int)) := by rw [lenG_lst, hwlen]
  -- slices
  have t1 : slG (.str (S l)) none (some (a : Int)) = .ok (.str (S (l.take a))) := by rw [slG_to _ _ (by omega) hlz, Int.toNat_natCast]
  have t2 : slG (.str (S l)) (some (a : Int)) none = .ok (.str (S (l.drop a))) := by rw [slG_from _ _ (by omega) hlz, Int.toNat_natCast]
  have t3 : slG (.str (S l)) (some ((a : Int) + 1)) none = .ok (.str (S (l.drop (a + 1)))) := by rw [slG_from _ _ (by omega) hlz]; rfl
  have t4 : slG (.str (S l)) (some ((a : Int) + 2)) none = .ok (.str (S (l.drop (a + 2)))) := by rw [slG_from _ _ (by omega) hlz]; rfl
  obtain ⟨m1, t5, t5l⟩ := mid_ok (l := l) (by omega) (a + 1) (a + 2) (by omega)
  have t5 : slG (.str (S l)) (some ((a : Int) + 1)) (some ((a : Int) + 2)) = .ok (.str (S m1)) := t5
  obtain ⟨m2, t6, t6l⟩ := mid_ok (l := l) (by omega) a (a + 1) (by omega)
  have t6 : slG (.str (S l)) (some (a : Int)) (some ((a : Int) + 1)) = .ok (.str (S m2)) := t6
  have lt : (l.take a).length ≤ a := by rw [List.length_take]; omega
  have ld0 : (l.drop a).length ≤ l.length - a := by rw [List.length_drop]; exact Nat.le_refl _
  have ld1 : (l.drop (a + 1)).length ≤ l.length - a := by rw [List.length_drop]; omega
  have ld2 : (l.drop (a + 2)).length ≤ l.length - a := by rw [List.length_drop]; omega
  have p1 := slL_to ps k
  have p2 := slL_from ps k
  have p3 : slG (.lst (strsOf ps)) (some ((k : Int) + 1)) none = .ok (.lst (strsOf (ps.drop (k + 1)))) := slL_from ps (k + 1)
  have pt : (ps.take k).length ≤ k := by rw [List.length_take]; omega
  have pd0 : (ps.drop k).length ≤ ps.length - k := by rw [List.length_drop]; exact Nat.le_refl _
  have pd1 : (ps.drop (k + 1)).length ≤ ps.length - k := by rw [List.length_drop]; omega
  have ht := take_mem (k := k) P.small
  have hd0 := drop_mem (k := k) P.small
  have hd1 := drop_mem (k := k + 1) P.small
  have eone : ∀ w : List Nat, D.lst [.str (S w)] = .lst (strsOf [w]) := fun _ => rfl
  have i0 : ∀ x : Int, ixG (.lst [.int x, .int r1, .int r2]) (.int 0) = .ok (.int x) := fun x => ixG_lst rfl
  have i1 : ∀ x : Int, ixG (.lst [.int x, .int r1, .int r2]) (.int 1) = .ok (.int r1) := fun x => ixG_lst rfl
  have i2 : ∀ x : Int, ixG (.lst [.int x, .int r1, .int r2]) (.int 2) = .ok (.int r2) := fun x => ixG_lst rfl
  have u1 := addS (a := l.take a) (b := m1) (by omega)
  have u2 := addS (a := l.take a ++ m1) (b := m2) (by rw [List.length_append]; omega)
  have u3 := addS (a := l.take a ++ m1 ++ m2) (b := l.drop (a + 2)) (by rw [List.length_append, List.length_append]; omega)
  refine ⟨l.take a ++ m1 ++ m2 ++ l.drop (a + 2), ?_, by rw [List.length_append, List.length_append, List.length_append]; omega⟩
  simp [-addG_str, -modG_int, -lenG_str, -lenG_lst, -List.append_assoc, sp3, dVarO, dVar, i0, i1, i2, denM1, strR, hpk, t1, t4, t5, t6, u1, u2, u3]
theorem spc4 {l : List Nat} {ps : List (List Nat)} (P : Pcs l ps) {kind r1 r2 : Int} (hk : 0 ≤ kind ∧ kind < 3) (h2 : 0 ≤ r2 ∧ r2 < 24) {a k c : Nat} {pk : List Nat} {ws : List (List Nat)} (hal : a ≤ l.length) (k1 : k < ps.length) (hpk : ixG (.lst (strsOf ps)) (.int (k : Int)) = .ok (.str (S pk))) (hps : pk.length ≤ 60) (hwpos : 0 < ws.length) (hwc : ws.length ≤ 61) (hjw : TL.joinL [32] ws = pk) : ∃ l', outS (sp4.den [.sh (.int kind), .sh (.str (S l)), .sh (.lst [.int 4, .int r1, .int r2]), .sh (.int (a : Int)), .sh (.str (S [c])), .sh (.lst (strsOf ps)), .sh (.int (k : Int)), .own (.lst (strsOf ws))]) = .ok (.str (S l')) ∧ l'.length ≤ 4200 := by
  have hl := P.len
  have hlz : l.length ≤ sizeLine := by rw [sizeLine_eq]; omega
  have hfew := P.few
  have hwlen : ((strsOf ws).length : Int) = (ws.length : Int) := by simp [strsOf]
  have hlenW : lenG [.lst (strsOf ws)] = .ok (.int (ws.length : Int)) := by rw [lenG_lst, hwlen]
  -- slices
  have t1 : slG (.str (S l)) none (some (a : Int)) = .ok (.str (S (l.take a))) := by rw [slG_to _ _ (by omega) hlz, Int.toNat_natCast]
  have t2 : slG (.str (S l)) (some (a : Int)) none = .ok (.str (S (l.drop a))) := by rw [slG_from _ _ (by omega) hlz, Int.toNat_natCast]
  have t3 : slG (.str (S l)) (some ((a : Int) + 1)) none = .ok (.str (S (l.drop (a + 1)))) := by rw [slG_from _ _ (by omega) hlz]; rfl
  have t4 : slG (.str (S l)) (some ((a : Int) + 2)) none = .ok (.str (S (l.drop (a + 2)))) := by rw [slG_from _ _ (by omega) hlz]; rfl
  obtain ⟨m1, t5, t5l⟩ := mid_ok (l := l) (by omega) (a + 1) (a + 2) (by omega)
  have t5 : slG (.str (S l)) (some ((a : Int) + 1)) (some ((a : Int) + 2)) = .ok (.str (S m1)) := t5
  obtain ⟨m2, t6, t6l⟩ := mid_ok (l := l) (by omega) a (a + 1) (by omega)
  have t6 : slG (.str (S l)) (some (a : Int)) (some ((a : Int) + 1)) = .ok (.str (S m2)) := t6
  have lt : (l.take a).length ≤ a := by rw [List.length_take]; omega
  have ld0 : (l.drop a).length ≤ l.length - a := by rw [List.length_drop]; exact Nat.le_refl _
  have ld1 : (l.drop (a + 1)).length ≤ l.length - a := by rw [List.length_drop]; omega
  have ld2 : (l.drop (a + 2)).length ≤ l.length - a := by rw [List.length_drop]; omega
  have p1 := slL_to ps k
  have p2 := slL_from ps k
  have p3 : slG (.lst (strsOf ps)) (some ((k : Int) + 1)) none = .ok (.lst (strsOf (ps.drop (k + 1)))) := slL_from ps (k + 1)
  have pt : (ps.take k).length ≤ k := by rw [List.length_take]; omega
  have pd0 : (ps.drop k).length ≤ ps.length - k := by rw [List.length_drop]; exact Nat.le_refl _
  have pd1 : (ps.drop (k + 1)).length ≤ ps.length - k := by rw [List.length_drop]; omega
  have ht := take_mem (k := k) P.small
  have hd0 := drop_mem (k := k) P.small
  have hd1 := drop_mem (k := k + 1) P.small
  have eone : ∀ w : List Nat, D.lst [.str (S w)] = .lst (strsOf [w]) := fun _ => rfl
  have i0 : ∀ x : Int, ixG (.lst [.int x, .int r1, .int r2]) (.int 0) = .ok (.int x) := fun x => ixG_lst rfl
  have i1 : ∀ x : Int, ixG (.lst [.int x, .int r1, .int r2]) (.int 1) = .ok (.int r1) := fun x => ixG_lst rfl
  have i2 : ∀ x : Int, ixG (.lst [.int x, .int r1, .int r2]) (.int 2) = .ok (.int r2) := fun x => ixG_lst rfl
  have u1 := addL (A := ps.take k) (B := [pk]) (by simp; omega)
  have u2 := addL (A := ps.take k ++ [pk]) (B := ps.drop k) (by simp; omega)
  obtain ⟨j1, j2⟩ := joinJ (sep := [44, 32]) (qs := ps.take k ++ [pk] ++ ps.drop k) (n := 61) (B := 62) (by decide) (by simp only [List.length_append, List.length_singleton]; omega) (app_mem (app_mem (fun p hp => Nat.le_trans (ht p hp) (by decide)) (one_mem (by omega))) (fun p hp => Nat.le_trans (hd0 p hp) (by decide))) (by decide)
  refine ⟨_, ?_, Nat.le_trans j2 (by decide)⟩
  generalize hQ : ps.take k ++ [pk] ++ ps.drop k = Q at *
  simp [-addG_lst, -modG_int, -lenG_str, -lenG_lst, -List.append_assoc, sp4, dVarO, dVar, i0, i1, i2, denM1, strR, hpk, p1, p2, eone, u1, u2, j1]
theorem spc5 {l : List Nat} {ps : List (List Nat)} (P : Pcs l ps) {kind r1 r2 : Int} (hk : 0 ≤ kind ∧ kind < 3) (h2 : 0 ≤ r2 ∧ r2 < 24) {a k c : Nat} {pk : List Nat} {ws : List (List Nat)} (hal : a ≤ l.length) (k1 : k < ps.length) (hpk : ixG (.lst (strsOf ps)) (.int (k : Int)) = .ok (.str (S pk))) (hps : pk.length ≤ 60) (hwpos : 0 < ws.length) (hwc : ws.length ≤ 61) (hjw : TL.joinL [32] ws = pk) : ∃ l', outS (sp5.den [.sh (.int kind), .sh (.str (S l)), .sh (.lst [.int 5, .int r1, .int r2]), .sh (.int (a : Int)), .sh (.str (S [c])), .sh (.lst (strsOf ps)), .sh (.int (k : Int)), .own (.lst (strsOf ws))]) = .ok (.str (S l')) ∧ l'.length ≤ 4200 := by
  have hl := P.len
  have hlz : l.length ≤ sizeLine := by rw [sizeLine_eq]; omega
  have hfew := P.few
  have hwlen : ((strsOf ws).length : Int) = (ws.length : Int) := by simp [strsOf]
  have hlenW : lenG [.lst (strsOf ws)] = .ok (.int (ws.length : Int)) := by rw [lenG_lst, hwlen]
  -- slices
  have t1 : slG (.str (S l)) none (some (a : Int)) = .ok (.str (S (l.take a))) := by rw [slG_to _ _ (by omega) hlz, Int.toNat_natCast]
  have t2 : slG (.str (S l)) (some (a : Int)) none = .ok (.str (S (l.drop a))) := by rw [slG_from _ _ (by omega) hlz, Int.toNat_natCast]
  have t3 : slG (.str (S l)) (some ((a : Int) + 1)) none = .ok (.str (S (l.drop (a + 1)))) := by rw [slG_from _ _ (by omega) hlz]; rfl
  have t4 : slG (.str (S l)) (some ((a : Int) + 2)) none = .ok (.str (S (l.drop (a + 2)))) := by rw [slG_from _ _ (by omega) hlz]; rfl
  obtain ⟨m1, t5, t5l⟩ := mid_ok (l := l) (by omega) (a + 1) (a + 2) (by omega)
  have t5 : slG (.str (S l)) (some ((a : Int) + 1)) (some ((a : Int) + 2)) = .ok (.str (S m1)) := t5
  obtain ⟨m2, t6, t6l⟩ := mid_ok (l := l) (by omega) a (a + 1) (by omega)
  have t6 : slG (.str (S l)) (some (a : Int)) (some ((a : Int) + 1)) = .ok (.str (S m2)) := t6
  have lt : (l.take a).length ≤ a := by rw [List.length_take]; omega
  have ld0 : (l.drop a).length ≤ l.length - a := by rw [List.length_drop]; exact Nat.le_refl _
  have ld1 : (l.drop (a + 1)).length ≤ l.length - a := by rw [List.length_drop]; omega
  have ld2 : (l.drop (a + 2)).length ≤ l.length - a := by rw [List.length_drop]; omega
  have p1 := slL_to ps k
  have p2 := slL_from ps k
  have p3 : slG (.lst (strsOf ps)) (some ((k : Int) + 1)) none = .ok (.lst (strsOf (ps.drop (k + 1)))) := slL_from ps (k + 1)
  have pt : (ps.take k).length ≤ k := by rw [List.length_take]; omega
  have pd0 : (ps.drop k).length ≤ ps.length - k := by rw [List.length_drop]; exact Nat.le_refl _
  have pd1 : (ps.drop (k + 1)).length ≤ ps.length - k := by rw [List.length_drop]; omega
  have ht := take_mem (k := k) P.small
  have hd0 := drop_mem (k := k) P.small
  have hd1 := drop_mem (k := k + 1) P.small
  have eone : ∀ w : List Nat, D.lst [.str (S w)] = .lst (strsOf [w]) := fun _ => rfl
  have i0 : ∀ x : Int, ixG (.lst [.int x, .int r1, .int r2]) (.int 0) = .ok (.int x) := fun x => ixG_lst rfl
  have i1 : ∀ x : Int, ixG (.lst [.int x, .int r1, .int r2]) (.int 1) = .ok (.int r1) := fun x => ixG_lst rfl
  have i2 : ∀ x : Int, ixG (.lst [.int x, .int r1, .int r2]) (.int 2) = .ok (.int r2) := fun x => ixG_lst rfl
  have u1 := addL (A := ps.drop k) (B := ps.take k) (by omega)
  obtain ⟨j1, j2⟩ := joinJ (sep := [44, 32]) (qs := ps.drop k ++ ps.take k) (n := 61) (B := 62) (by decide) (by simp only [List.length_append]; omega) (app_mem (fun p hp => Nat.le_trans (hd0 p hp) (by decide)) (fun p hp => Nat.le_trans (ht p hp) (by decide))) (by decide)
  refine ⟨_, ?_, Nat.le_trans j2 (by decide)⟩
  generalize hQ : ps.drop k ++ ps.take k = Q at *
  simp [-addG_lst, -modG_int, -lenG_str, -lenG_lst, -List.append_assoc, sp5, dVarO, dVar, i0, i1, i2, denM1, strR, hpk, p1, p2, eone, u1, j1]
theorem spc6 {l : List Nat} {ps : List (List Nat)} (P : Pcs l ps) {kind r1 r2 : Int} (hk : 0 ≤ kind ∧ kind < 3) (h2 : 0 ≤ r2 ∧ r2 < 24) {a k c : Nat} {pk : List Nat} {ws : List (List Nat)} (hal : a ≤ l.length) (k1 : k < ps.length) (hpk : ixG (.lst (strsOf ps)) (.int (k : Int)) = .ok (.str (S pk))) (hps : pk.length ≤ 60) (hwpos : 0 < ws.length) (hwc : ws.length ≤ 61) (hjw : TL.joinL [32] ws = pk) : ∃ l', outS (sp6.den [.sh (.int kind), .sh (.str (S l)), .sh (.lst [.int 6, .int r1, .int r2]), .sh (.int (a : Int)), .sh (.str (S [c])), .sh (.lst (strsOf ps)), .sh (.int (k : Int)), .own (.lst (strsOf ws))]) = .ok (.str (S l')) ∧ l'.length ≤ 4200 := by
  have hl := P.len
  have hlz : l.length ≤ sizeLine := by rw [sizeLine_eq]; omega
  have hfew := P.few
  have hwlen : ((strsOf ws).length : Int) = (ws.length : Int) := by simp [strsOf]
  have hlenW : lenG [.lst (strsOf ws)] = .ok (.int (ws.length : Int)) := by rw [lenG_lst, hwlen]
  -- slices
  have t1 : slG (.str (S l)) none (some (a : Int)) = .ok (.str (S (l.take a))) := by rw [slG_to _ _ (by omega) hlz, Int.toNat_natCast]
  have t2 : slG (.str (S l)) (some (a : Int)) none = .ok (.str (S (l.drop a))) := by rw [slG_from _ _ (by omega) hlz, Int.toNat_natCast]
  have t3 : slG (.str (S l)) (some ((a : Int) + 1)) none = .ok (.str (S (l.drop (a + 1)))) := by rw [slG_from _ _ (by omega) hlz]; rfl
  have t4 : slG (.str (S l)) (some ((a : Int) + 2)) none = .ok (.str (S (l.drop (a + 2)))) := by rw [slG_from _ _ (by omega) hlz]; rfl
  obtain ⟨m1, t5, t5l⟩ := mid_ok (l := l) (by omega) (a + 1) (a + 2) (by omega)
  have t5 : slG (.str (S l)) (some ((a : Int) + 1)) (some ((a : Int) + 2)) = .ok (.str (S m1)) := t5
  obtain ⟨m2, t6, t6l⟩ := mid_ok (l := l) (by omega) a (a + 1) (by omega)
  have t6 : slG (.str (S l)) (some (a : Int)) (some ((a : Int) + 1)) = .ok (.str (S m2)) := t6
  have lt : (l.take a).length ≤ a := by rw [List.length_take]; omega
  have ld0 : (l.drop a).length ≤ l.length - a := by rw [List.length_drop]; exact Nat.le_refl _
  have ld1 : (l.drop (a + 1)).length ≤ l.length - a := by rw [List.length_drop]; omega
  have ld2 : (l.drop (a + 2)).length ≤ l.length - a := by rw [List.length_drop]; omega
  have p1 := slL_to ps k
  have p2 := slL_from ps k
  have p3 : slG (.lst (strsOf ps)) (some ((k : Int) + 1)) none = .ok (.lst (strsOf (ps.drop (k + 1)))) := slL_from ps (k + 1)
  have pt : (ps.take k).length ≤ k := by rw [List.length_take]; omega
  have pd0 : (ps.drop k).length ≤ ps.length - k := by rw [List.length_drop]; exact Nat.le_refl _
  have pd1 : (ps.drop (k + 1)).length ≤ ps.length - k := by rw [List.length_drop]; omega
  have ht := take_mem (k := k) P.small
  have hd0 := drop_mem (k := k) P.small
  have hd1 := drop_mem (k := k + 1) P.small
  have eone : ∀ w : List Nat, D.lst [.str (S w)] = .lst (strsOf [w]) := fun _ => rfl
  have i0 : ∀ x : Int, ixG (.lst [.int x, .int r1, .int r2]) (.int 0) = .ok (.int x) := fun x => ixG_lst rfl
  have i1 : ∀ x : Int, ixG (.lst [.int x, .int r1, .int r2]) (.int 1) = .ok (.int r1) := fun x => ixG_lst rfl
  have i2 : ∀ x : Int, ixG (.lst [.int x, .int r1, .int r2]) (.int 2) = .ok (.int r2) := fun x => ixG_lst rfl
  obtain ⟨z, z1, z2⟩ := ix_str (l := zer3) (i := kind) ⟨hk.1, hk.2⟩ zer3_str
  have hz : D.lst [.str (S [48]), .str ("0 0" : Str), .str ("0 a 0" : Str)] = .lst zer3 := rfl
  have u1 := addL (A := ps.take k) (B := [z]) (by simp; omega)
  have u2 := addL (A := ps.take k ++ [z]) (B := ps.drop k) (by simp; omega)
  obtain ⟨j1, j2⟩ := joinJ (sep := [44, 32]) (qs := ps.take k ++ [z] ++ ps.drop k) (n := 61) (B := 62) (by decide) (by simp only [List.length_append, List.length_singleton]; omega) (app_mem (app_mem (fun p hp => Nat.le_trans (ht p hp) (by decide)) (one_mem (by omega))) (fun p hp => Nat.le_trans (hd0 p hp) (by decide))) (by decide)
  refine ⟨_, ?_, Nat.le_trans j2 (by decide)⟩
  generalize hQ : ps.take k ++ [z] ++ ps.drop k = Q at *
  simp [-addG_lst, -modG_int, -lenG_str, -lenG_lst, -List.append_assoc, sp6, dVarO, dVar, i0, i1, i2, denM1, strR, hpk, p1, p2, hz, z1, eone, u1, u2, j1]
theorem spc7 {l : List Nat} {ps : List (List Nat)} (P : Pcs l ps) {kind r1 r2 : Int} (hk : 0 ≤ kind ∧ kind < 3) (h2 : 0 ≤ r2 ∧ r2 < 24) {a k c : Nat} {pk : List Nat} {ws : List (List Nat)} (hal : a ≤ l.length) (k1 : k < ps.length) (hpk : ixG (.lst (strsOf ps)) (.int (k : Int)) = .ok (.str (S pk))) (hps : pk.length ≤ 60) (hwpos : 0 < ws.length) (hwc : ws.length ≤ 61) (hjw : TL.joinL [32] ws = pk) : ∃ l', outS (sp7.den [.sh (.int kind), .sh (.str (S l)), .sh (.lst [.int 7, .int r1, .int r2]), .sh (.int (a : Int)), .sh (.str (S [c])), .sh (.lst (strsOf ps)), .sh (.int (k : Int)), .own (.lst (strsOf ws))]) = .ok (.str (S l')) ∧ l'.length ≤ 4200 := by
  have hl := P.len
  have hlz : l.length ≤ sizeLine := by rw [sizeLine_eq]; omega
  have hfew := P.few
  have hwlen : ((strsOf ws).length : Int) = (ws.length : Int) := by simp [strsOf]
  have hlenW : lenG [.lst (strsOf ws)] = .ok (.int (ws.length : Int)) := by rw [lenG_lst, hwlen]
  -- slices
  have t1 : slG (.str (S l)) none (some (a : Int)) = .ok (.str (S (l.take a))) := by rw [slG_to _ _ (by omega) hlz, Int.toNat_natCast]
  have t2 : slG (.str (S l)) (some (a : Int)) none = .ok (.str (S (l.drop a))) := by rw [slG_from _ _ (by omega) hlz, Int.toNat_natCast]
  have t3 : slG (.str (S l)) (some ((a : Int) + 1)) none = .ok (.str (S (l.drop (a + 1)))) := by rw [slG_from _ _ (by omega) hlz]; rfl
  have t4 : slG (.str (S l)) (some ((a : Int) + 2)) none = .ok (.str (S (l.drop (a + 2)))) := by rw [slG_from _ _ (by omega) hlz]; rfl
  obtain ⟨m1, t5, t5l⟩ := mid_ok (l := l) (by omega) (a + 1) (a + 2) (by omega)
  have t5 : slG (.str (S l)) (some ((a : Int) + 1)) (some ((a : Int) + 2)) = .ok (.str (S m1)) := t5
  obtain ⟨m2, t6, t6l⟩ := mid_ok (l := l) (by omega) a (a + 1) (by omega)
  have t6 : slG (.str (S l)) (some (a : Int)) (some ((a : Int) + 1)) = .ok (.str (S m2)) := t6
  have lt : (l.take a).length ≤ a := by rw [List.length_take]; omega
  have ld0 : (l.drop a).length ≤ l.length - a := by rw [List.length_drop]; exact Nat.le_refl _
  have ld1 : (l.drop (a + 1)).length ≤ l.length - a := by rw [List.length_drop]; omega
  have ld2 : (l.drop (a + 2)).length ≤ l.length - a := by rw [List.length_drop]; omega
  have p1 := slL_to ps k
  have p2 := slL_from ps k
  have p3 : slG (.lst (strsOf ps)) (some ((k : Int) + 1)) none = .ok (.lst (strsOf (ps.drop (k + 1)))) := slL_from ps (k + 1)
  have pt : (ps.take k).length ≤ k := by rw [List.length_take]; omega
  have pd0 : (ps.drop k).length ≤ ps.length - k := by rw [List.length_drop]; exact Nat.le_refl _
  have pd1 : (ps.drop (k + 1)).length ≤ ps.length - k := by rw [List.length_drop]; omega
  have ht := take_mem (k := k) P.small
  have hd0 := drop_mem (k := k) P.small
  have hd1 := drop_mem (k := k + 1) P.small
  have eone : ∀ w : List Nat, D.lst [.str (S w)] = .lst (strsOf [w]) := fun _ => rfl
  have i0 : ∀ x : Int, ixG (.lst [.int x, .int r1, .int r2]) (.int 0) = .ok (.int x) := fun x => ixG_lst rfl
  have i1 : ∀ x : Int, ixG (.lst [.int x, .int r1, .int r2]) (.int 1) = .ok (.int r1) := fun x => ixG_lst rfl
  have i2 : ∀ x : Int, ixG (.lst [.int x, .int r1, .int r2]) (.int 2) = .ok (.int r2) := fun x => ixG_lst rfl
  obtain ⟨x5, x51, x52⟩ := mod_nat (r := r2) (n := 5) (by decide) (by decide)
  have x52 : modG (.int r2) (.int 5) = .ok (.int (x5 : Int)) := x52
  obtain ⟨z, z1, z2⟩ := ix_str (l := sep5) (i := (x5 : Int)) ⟨by omega, by show (x5 : Int) < 5; omega⟩ sep5_str
  have hz : D.lst [.str ("," : Str), .str (" , " : Str), .str (",  " : Str), .str (", ," : Str), .str ("; " : Str)] = .lst sep5 := rfl
  obtain ⟨j1, j2⟩ := joinJ (sep := z) (qs := ps) (n := 61) (B := 62) z2 (by omega) (fun p hp => Nat.le_trans (P.small p hp) (by decide)) (by decide)
  refine ⟨_, ?_, Nat.le_trans j2 (by decide)⟩
  simp [-addG_lst, -modG_int, -lenG_str, -lenG_lst, -List.append_assoc, sp7, dVarO, dVar, i0, i1, i2, denM1, strR, hpk, x52, hz, z1, j1]
theorem spc8 {l : List Nat} {ps : List (List Nat)} (P : Pcs l ps) {kind r1 r2 : Int} (hk : 0 ≤ kind ∧ kind < 3) (h2 : 0 ≤ r2 ∧ r2 < 24) {a k c : Nat} {pk : List Nat} {ws : List (List Nat)} (hal : a ≤ l.length) (k1 : k < ps.length) (hpk : ixG (.lst (strsOf ps)) (.int (k : Int)) = .ok (.str (S pk))) (hps : pk.length ≤ 60) (hwpos : 0 < ws.length) (hwc : ws.length ≤ 61) (hjw : TL.joinL [32] ws = pk) : ∃ l', outS (sp8.den [.sh (.int kind), .sh (.str (S l)), .sh (.lst [.int 8, .int r1, .int r2]), .sh (.int (a : Int)), .sh (.str (S [c])), .sh (.lst (strsOf ps)), .sh (.int (k : Int)), .own (.lst (strsOf ws))]) = .ok (.str (S l')) ∧ l'.length ≤ 4200 := by
  have hl := P.len
  have hlz : l.length ≤ sizeLine := by rw [sizeLine_eq]; omega
  have hfew := P.few
  have hwlen : ((strsOf ws).length : Int) = (ws.length : Int) := by simp [strsOf]
  have hlenW : lenG [.lst (strsOf ws)] = .ok (.int (ws.length : Int)) := by rw [lenG_lst, hwlen]
  -- slices
  have t1 : slG (.str (S l)) none (some (a : Int)) = .ok (.str (S (l.take a))) := by rw [slG_to _ _ (by omega) hlz, Int.toNat_natCast]
  have t2 : slG (.str (S l)) (some (a : Int)) none = .ok (.str (S (l.drop a))) := by rw [slG_from _ _ (by omega) hlz, Int.toNat_natCast]
  have t3 : slG (.str (S l)) (some ((a : Int) + 1)) none = .ok (.str (S (l.drop (a + 1)))) := by rw [slG_from _ _ (by omega) hlz]; rfl
  have t4 : slG (.str (S l)) (some ((a : Int) + 2)) none = .ok (.str (S (l.drop (a + 2)))) := by rw [slG_from _ _ (by omega) hlz]; rfl
  obtain ⟨m1, t5, t5l⟩ := mid_ok (l := l) (by omega) (a + 1) (a + 2) (by omega)
  have t5 : slG (.str (S l)) (some ((a : Int) + 1)) (some ((a : Int) + 2)) = .ok (.str (S m1)) := t5
  obtain ⟨m2, t6, t6l⟩ := mid_ok (l := l) (by omega) a (a + 1) (by omega)
  have t6 : slG (.str (S l)) (some (a : Int)) (some ((a : Int) + 1)) = .ok (.str (S m2)) := t6
  have lt : (l.take a).length ≤ a := by rw [List.length_take]; omega
  have ld0 : (l.drop a).length ≤ l.length - a := by rw [List.length_drop]; exact Nat.le_refl _
  have ld1 : (l.drop (a + 1)).length ≤ l.length - a := by rw [List.length_drop]; omega
  have ld2 : (l.drop (a + 2)).length ≤ l.length - a := by rw [List.length_drop]; omega
  have p1 := slL_to ps k
  have p2 := slL_from ps k
  have p3 : slG (.lst (strsOf ps)) (some ((k : Int) + 1)) none = .ok (.lst (strsOf (ps.drop (k + 1)))) := slL_from ps (k + 1)
  have pt : (ps.take k).length ≤ k := by rw [List.length_take]; omega
  have pd0 : (ps.drop k).length ≤ ps.length - k := by rw [List.length_drop]; exact Nat.le_refl _
  have pd1 : (ps.drop (k + 1)).length ≤ ps.length - k := by rw [List.length_drop]; omega
  have ht := take_mem (k := k) P.small
  have hd0 := drop_mem (k := k) P.small
  have hd1 := drop_mem (k := k + 1) P.small
  have eone : ∀ w : List Nat, D.lst [.str (S w)] = .lst (strsOf [w]) := fun _ => rfl
  have i0 : ∀ x : Int, ixG (.lst [.int x, .int r1, .int r2]) (.int 0) = .ok (.int x) := fun x => ixG_lst rfl
  have i1 : ∀ x : Int, ixG (.lst [.int x, .int r1, .int r2]) (.int 1) = .ok (.int r1) := fun x => ixG_lst rfl
  have i2 : ∀ x : Int, ixG (.lst [.int x, .int r1, .int r2]) (.int 2) = .ok (.int r2) := fun x => ixG_lst rfl
  obtain ⟨x2, x21, x22⟩ := mod_nat (r := r2) (n := 2) (by decide) (by decide)
  have x22 : modG (.int r2) (.int 2) = .ok (.int (x2 : Int)) := x22
  obtain ⟨x8, x81, x82⟩ := mod_nat (r := r2.fdiv 2) (n := 8) (by decide) (by decide)
  have x82 : modG (.int (r2.fdiv 2)) (.int 8) = .ok (.int (x8 : Int)) := x82
  have fd := fdiv_ok (x := r2) (y := 2) (by decide) (by decide)
  obtain ⟨z, z1, z2⟩ := ix_str (l := pre8) (i := (x8 : Int)) ⟨by omega, by show (x8 : Int) < 8; omega⟩ pre8_str
  have hz : D.lst [.str (S [48]), .str ("+" : Str), .str (S [45]), .str ("00" : Str), .str ("--" : Str), .str ("-0" : Str), .str ("1_" : Str), .str (S [32])] = .lst pre8 := rfl
  have hat : ∃ j : Nat, j < ws.length ∧ ixG (.lst [.int 0, .int ((ws.length : Int) - 1)]) (.int (x2 : Int)) = .ok (.int (j : Int)) := by
    have : x2 = 0 ∨ x2 = 1 := by omega
    rcases this with e | e <;> subst e
    · exact ⟨0, hwpos, rfl⟩
    · refine ⟨ws.length - 1, by omega, ?_⟩
      rw [show ((ws.length - 1 : Nat) : Int) = (ws.length : Int) - 1 by omega]
      rfl
  obtain ⟨j, jl, hj⟩ := hat
  have hwj : ixG (.lst (strsOf ws)) (.int (j : Int)) = .ok (.str (S ws[j])) := by
    refine ixG_lst ?_
    rw [atI_nat _ _ (by simpa [strsOf] using jl)]
    simp [strsOf]
  have hsj := set_join (sep := [32]) jl (z ++ ws[j])
  rw [hjw, List.length_append] at hsj
  have hwl : ws[j].length ≤ 60 := by
    have := (joinL_len [32] ws).2 ws[j] (List.getElem_mem jl)
    rw [hjw] at this
    omega
  have u0 := addS (a := z) (b := ws[j]) (by omega)
  have hset : (strsOf ws).set j (.str (S (z ++ ws[j]))) = strsOf (ws.set j (z ++ ws[j])) := by simp [strsOf, List.map_set]
  have hixn : ixN (strsOf ws).length (j : Int) = some j := ixN_nat (by simpa [strsOf] using jl)
  generalize hwjd : ws[j] = wj at *
  have hwsl : (ws.set j (z ++ wj)).length = ws.length := List.length_set
  generalize ws.set j (z ++ wj) = ws' at *
  have jw : joinG (S [32]) (.lst (strsOf ws')) = .ok (.str (S (TL.joinL [32] ws'))) := by
    have hne : ws' ≠ [] := fun e => by
      rw [e] at hwsl
      simp at hwsl
      omega
    have := join_len [32] ws' hne
    refine join_ok ?_
    simp only [List.length_singleton] at this ⊢
    omega
  generalize TL.joinL [32] ws' = pk' at *
  have u1 := addL (A := ps.take k) (B := [pk']) (by simp; omega)
  have u2 := addL (A := ps.take k ++ [pk']) (B := ps.drop (k + 1)) (by simp; omega)
  obtain ⟨j1, j2⟩ := joinJ (sep := [44, 32]) (qs := ps.take k ++ [pk'] ++ ps.drop (k + 1)) (n := 61) (B := 62) (by decide) (by simp only [List.length_append, List.length_singleton]; omega) (app_mem (app_mem (fun p hp => Nat.le_trans (ht p hp) (by decide)) (one_mem (by omega))) (fun p hp => Nat.le_trans (hd1 p hp) (by decide))) (by decide)
  refine ⟨_, ?_, Nat.le_trans j2 (by decide)⟩
  generalize hQ : ps.take k ++ [pk'] ++ ps.drop (k + 1) = Q at *
  simp [-addG_lst, -addG_str, -modG_int, -fdivG_int, -lenG_str, -lenG_lst, -List.append_assoc, sp8, dVarO, dVar, i0, i1, i2, hlenW, denM1, strR, hpk, x22, hj, fd, x82, hz, z1, hwj, u0, dPutL, hixn, hset, jw, p1, p3, eone, u1, u2, j1]
theorem spc9 {l : List Nat} {ps : List (List Nat)} (P : Pcs l ps) {kind r1 r2 : Int} (hk : 0 ≤ kind ∧ kind < 3) (h2 : 0 ≤ r2 ∧ r2 < 24) {a k c : Nat} {pk : List Nat} {ws : List (List Nat)} (hal : a ≤ l.length) (k1 : k < ps.length) (hpk : ixG (.lst (strsOf ps)) (.int (k : Int)) = .ok (.str (S pk))) (hps : pk.length ≤ 60) (hwpos : 0 < ws.length) (hwc : ws.length ≤ 61) (hjw : TL.joinL [32] ws = pk) : ∃ l', outS (sp9.den [.sh (.int kind), .sh (.str (S l)), .sh (.lst [.int 9, .int r1, .int r2]), .sh (.int (a : Int)), .sh (.str (S [c])), .sh (.lst (strsOf ps)), .sh (.int (k : Int)), .own (.lst (strsOf ws))]) = .ok (.str (S l')) ∧ l'.length ≤ 4200 := by
  have hl := P.len
  have hlz : l.length ≤ sizeLine := by rw [sizeLine_eq]; omega
  have hfew := P.few
  have hwlen : ((strsOf ws).length : Int) = (ws.length : Int) := by simp [strsOf]
  have hlenW : lenG [.lst (strsOf ws)] = .ok (.int (ws.length : Int)) := by rw [lenG_lst, hwlen]
  -- slices
  have t1 : slG (.str (S l)) none (some (a : Int)) = .ok (.str (S (l.take a))) := by rw [slG_to _ _ (by omega) hlz, Int.toNat_natCast]
  have t2 : slG (.str (S l)) (some (a : Int)) none = .ok (.str (S (l.drop a))) := by rw [slG_from _ _ (by omega) hlz, Int.toNat_natCast]
  have t3 : slG (.str (S l)) (some ((a : Int) + 1)) none = .ok (.str (S (l.drop (a + 1)))) := by rw [slG_from _ _ (by omega) hlz]; rfl
  have t4 : slG (.str (S l)) (some ((a : Int) + 2)) none = .ok (.str (S (l.drop (a + 2)))) := by rw [slG_from _ _ (by omega) hlz]; rfl
  obtain ⟨m1, t5, t5l⟩ := mid_ok (l := l) (by omega) (a + 1) (a + 2) (by omega)
  have t5 : slG (.str (S l)) (some ((a : Int) + 1)) (some ((a : Int) + 2)) = .ok (.str (S m1)) := t5
  obtain ⟨m2, t6, t6l⟩ := mid_ok (l := l) (by omega) a (a + 1) (by omega)
  have t6 : slG (.str (S l)) (some (a : Int)) (some ((a : Int) + 1)) = .ok (.str (S m2)) := t6
  have lt : (l.take a).length ≤ a := by rw [List.length_take]; omega
  have ld0 : (l.drop a).length ≤ l.length - a := by rw [List.length_drop]; exact Nat.le_refl _
  have ld1 : (l.drop (a + 1)).length ≤ l.length - a := by rw [List.length_drop]; omega
  have ld2 : (l.drop (a + 2)).length ≤ l.length - a := by rw [List.length_drop]; omega
  have p1 := slL_to ps k
  have p2 := slL_from ps k
  have p3 : slG (.lst (strsOf ps)) (some ((k : Int) + 1)) none = .ok (.lst (strsOf (ps.drop (k + 1)))) := slL_from ps (k + 1)
  have pt : (ps.take k).length ≤ k := by rw [List.length_take]; omega
  have pd0 : (ps.drop k).length ≤ ps.length - k := by rw [List.length_drop]; exact Nat.le_refl _
  have pd1 : (ps.drop (k + 1)).length ≤ ps.length - k := by rw [List.length_drop]; omega
  have ht := take_mem (k := k) P.small
  have hd0 := drop_mem (k := k) P.small
  have hd1 := drop_mem (k := k + 1) P.small
  have eone : ∀ w : List Nat, D.lst [.str (S w)] = .lst (strsOf [w]) := fun _ => rfl
  have i0 : ∀ x : Int, ixG (.lst [.int x, .int r1, .int r2]) (.int 0) = .ok (.int x) := fun x => ixG_lst rfl
  have i1 : ∀ x : Int, ixG (.lst [.int x, .int r1, .int r2]) (.int 1) = .ok (.int r1) := fun x => ixG_lst rfl
  have i2 : ∀ x : Int, ixG (.lst [.int x, .int r1, .int r2]) (.int 2) = .ok (.int r2) := fun x => ixG_lst rfl
  obtain ⟨x5, x51, x52⟩ := mod_nat (r := r2) (n := 11) (by decide) (by decide)
  have x52 : modG (.int r2) (.int 11) = .ok (.int (x5 : Int)) := x52
  obtain ⟨z, z1, z2⟩ := ix_str (l := suf11) (i := (x5 : Int)) ⟨by omega, by show (x5 : Int) < 11; omega⟩ suf11_str
  have hz : D.lst [.str ("\n" : Str), .str (S [32]), .str ("," : Str), .str (S [44, 32]), .str ("/1" : Str), .str ("/0" : Str), .str ("/-2" : Str), .str (".0" : Str), .str (", 0" : Str), .str (S [47]), .str (" 0" : Str)] = .lst suf11 := rfl
  have u1 := addS (a := l) (b := z) (by omega)
  refine ⟨l ++ z, ?_, by rw [List.length_append]; omega⟩
  simp [-addG_str, -modG_int, -lenG_str, -lenG_lst, -List.append_assoc, sp9, dVarO, dVar, i0, i1, i2, denM1, strR, hpk, x52, hz, z1, u1]
theorem spc10 {l : List Nat} {ps : List (List Nat)} (P : Pcs l ps) {kind r1 r2 : Int} (hk : 0 ≤ kind ∧ kind < 3) (h2 : 0 ≤ r2 ∧ r2 < 24) {a k c : Nat} {pk : List Nat} {ws : List (List Nat)} (hal : a ≤ l.length) (k1 : k < ps.length) (hpk : ixG (.lst (strsOf ps)) (.int (k : Int)) = .ok (.str (S pk))) (hps : pk.length ≤ 60) (hwpos : 0 < ws.length) (hwc : ws.length ≤ 61) (hjw : TL.joinL [32] ws = pk) : ∃ l', outS (sp10.den [.sh (.int kind), .sh (.str (S l)), .sh (.lst [.int 10, .int r1, .int r2]), .sh (.int (a : Int)), .sh (.str (S [c])), .sh (.lst (strsOf ps)), .sh (.int (k : Int)), .own (.lst (strsOf ws))]) = .ok (.str (S l')) ∧ l'.length ≤ 4200 := by
  have hl := P.len
  have hlz : l.length ≤ sizeLine := by rw [sizeLine_eq]; omega
  have hfew := P.few
  have hwlen : ((strsOf ws).length : Int) = (ws.length : Int) := by simp [strsOf]
  have hlenW : lenG [.lst (strsOf ws)] = .ok (.int (ws.length : Int)) := by rw [lenG_lst, hwlen]
  -- slices
  have t1 : slG (.str (S l)) none (some (a : Int)) = .ok (.str (S (l.take a))) := by rw [slG_to _ _ (by omega) hlz, Int.toNat_natCast]
  have t2 : slG (.str (S l)) (some (a : Int)) none = .ok (.str (S (l.drop a))) := by rw [slG_from _ _ (by omega) hlz, Int.toNat_natCast]
  have t3 : slG (.str (S l)) (some ((a : Int) + 1)) none = .ok (.str (S (l.drop (a + 1)))) := by rw [slG_from _ _ (by omega) hlz]; rfl
  have t4 : slG (.str (S l)) (some ((a : Int) + 2)) none = .ok (.str (S (l.drop (a + 2)))) := by rw [slG_from _ _ (by omega) hlz]; rfl
  obtain ⟨m1, t5, t5l⟩ := mid_ok (l := l) (by omega) (a + 1) (a + 2) (by omega)
  have t5 : slG (.str (S l)) (some ((a : Int) + 1)) (some ((a : Int) + 2)) = .ok (.str (S m1)) := t5
  obtain ⟨m2, t6, t6l⟩ := mid_ok (l := l) (by omega) a (a + 1) (by omega)
  have t6 : slG (.str (S l)) (some (a : Int)) (some ((a : Int) + 1)) = .ok (.str (S m2)) := t6
  have lt : (l.take a).length ≤ a := by rw [List.length_take]; omega
  have ld0 : (l.drop a).length ≤ l.length - a := by rw [List.length_drop]; exact Nat.le_refl _
  have ld1 : (l.drop (a + 1)).length ≤ l.length - a := by rw [List.length_drop]; omega
  have ld2 : (l.drop (a + 2)).length ≤ l.length - a := by rw [List.length_drop]; omega
  have p1 := slL_to ps k
  have p2 := slL_from ps k
  have p3 : slG (.lst (strsOf ps)) (some ((k : Int) + 1)) none = .ok (.lst (strsOf (ps.drop (k + 1)))) := slL_from ps (k + 1)
  have pt : (ps.take k).length ≤ k := by rw [List.length_take]; omega
  have pd0 : (ps.drop k).length ≤ ps.length - k := by rw [List.length_drop]; exact Nat.le_refl _
  have pd1 : (ps.drop (k + 1)).length ≤ ps.length - k := by rw [List.length_drop]; omega
  have ht := take_mem (k := k) P.small
  have hd0 := drop_mem (k := k) P.small
  have hd1 := drop_mem (k := k + 1) P.small
  have eone : ∀ w : List Nat, D.lst [.str (S w)] = .lst (strsOf [w]) := fun _ => rfl
  have i0 : ∀ x : Int, ixG (.lst [.int x, .int r1, .int r2]) (.int 0) = .ok (.int x) := fun x => ixG_lst rfl
  have i1 : ∀ x : Int, ixG (.lst [.int x, .int r1, .int r2]) (.int 1) = .ok (.int r1) := fun x => ixG_lst rfl
  have i2 : ∀ x : Int, ixG (.lst [.int x, .int r1, .int r2]) (.int 2) = .ok (.int r2) := fun x => ixG_lst rfl
  obtain ⟨x8, x81, x82⟩ := mod_nat (r := r2) (n := 4) (by decide) (by decide)
  have x82 : modG (.int r2) (.int 4) = .ok (.int (x8 : Int)) := x82
  obtain ⟨z, z1, z2⟩ := ix_str (l := one4) (i := (x8 : Int)) ⟨by omega, by show (x8 : Int) < 4; omega⟩ one4_str
  have hz : D.lst [.str ("7" : Str), .str ("-7" : Str), .str (S [48]), .str (S [49])] = .lst one4 := rfl
  have hsj := set_join (sep := [32]) hwpos z
  rw [hjw] at hsj
  have hset : (strsOf ws).set 0 (.str (S z)) = strsOf (ws.set 0 z) := by simp [strsOf, List.map_set]
  have hixn : ixN (strsOf ws).length (0 : Int) = some 0 := ixN_nat (k := 0) (by simpa [strsOf] using hwpos)
  have hwsl : (ws.set 0 z).length = ws.length := List.length_set
  generalize ws.set 0 z = ws' at *
  have jw : joinG (S [32]) (.lst (strsOf ws')) = .ok (.str (S (TL.joinL [32] ws'))) := by
    have hne : ws' ≠ [] := fun e => by
      rw [e] at hwsl
      simp at hwsl
      omega
    have := join_len [32] ws' hne
    refine join_ok ?_
    simp only [List.length_singleton] at this ⊢
    omega
  generalize TL.joinL [32] ws' = pk' at *
  have u1 := addL (A := ps.take k) (B := [pk']) (by simp; omega)
  have u2 := addL (A := ps.take k ++ [pk']) (B := ps.drop k) (by simp; omega)
  obtain ⟨j1, j2⟩ := joinJ (sep := [44, 32]) (qs := ps.take k ++ [pk'] ++ ps.drop k) (n := 61) (B := 62) (by decide) (by simp only [List.length_append, List.length_singleton]; omega) (app_mem (app_mem (fun p hp => Nat.le_trans (ht p hp) (by decide)) (one_mem (by omega))) (fun p hp => Nat.le_trans (hd0 p hp) (by decide))) (by decide)
  have p3k := p3
  refine ⟨_, ?_, Nat.le_trans j2 (by decide)⟩
  generalize hQ : ps.take k ++ [pk'] ++ ps.drop k = Q at *
  simp [-addG_lst, -addG_str, -modG_int, -fdivG_int, -lenG_str, -lenG_lst, -List.append_assoc, sp10, dVarO, dVar, i0, i1, i2, hlenW, denM1, strR, hpk, x82, hz, z1, dPutL, hixn, hset, jw, p1, p2, p3, eone, u1, u2, j1]
theorem spc11 {l : List Nat} {ps : List (List Nat)} (P : Pcs l ps) {kind r1 r2 : Int} (hk : 0 ≤ kind ∧ kind < 3) (h2 : 0 ≤ r2 ∧ r2 < 24) {a k c : Nat} {pk : List Nat} {ws : List (List Nat)} (hal : a ≤ l.length) (k1 : k < ps.length) (hpk : ixG (.lst (strsOf ps)) (.int (k : Int)) = .ok (.str (S pk))) (hps : pk.length ≤ 60) (hwpos : 0 < ws.length) (hwc : ws.length ≤ 61) (hjw : TL.joinL [32] ws = pk) : ∃ l', outS (sp11.den [.sh (.int kind), .sh (.str (S l)), .sh (.lst [.int 11, .int r1, .int r2]), .sh (.int (a : Int)), .sh (.str (S [c])), .sh (.lst (strsOf ps)), .sh (.int (k : Int)), .own (.lst (strsOf ws))]) = .ok (.str (S l')) ∧ l'.length ≤ 4200 := by
  have hl := P.len
  have hlz : l.length ≤ sizeLine := by rw [sizeLine_eq]; omega
  have hfew := P.few
  have hwlen : ((strsOf ws).length : Int) = (ws.length : Int) := by simp [strsOf]
  have hlenW : lenG [.lst (strsOf ws)] = .ok (.int (ws.length : Int)) := by rw [lenG_lst, hwlen]
  -- slices
  have t1 : slG (.str (S l)) none (some (a : Int)) = .ok (.str (S (l.take a))) := by rw [slG_to _ _ (by omega) hlz, Int.toNat_natCast]
  have t2 : slG (.str (S l)) (some (a : Int)) none = .ok (.str (S (l.drop a))) := by rw [slG_from _ _ (by omega) hlz, Int.toNat_natCast]
  have t3 : slG (.str (S l)) (some ((a : Int) + 1)) none = .ok (.str (S (l.drop (a + 1)))) := by rw [slG_from _ _ (by omega) hlz]; rfl
  have t4 : slG (.str (S l)) (some ((a : Int) + 2)) none = .ok (.str (S (l.drop (a + 2)))) := by rw [slG_from _ _ (by omega) hlz]; rfl
  obtain ⟨m1, t5, t5l⟩ := mid_ok (l := l) (by omega) (a + 1) (a + 2) (by omega)
  have t5 : slG (.str (S l)) (some ((a : Int) + 1)) (some ((a : Int) + 2)) = .ok (.str (S m1)) := t5
  obtain ⟨m2, t6, t6l⟩ := mid_ok (l := l) (by omega) a (a + 1) (by omega)
  have t6 : slG (.str (S l)) (some (a : Int)) (some ((a : Int) + 1)) = .ok (.str (S m2)) := t6
  have lt : (l.take a).length ≤ a := by rw [List.length_take]; omega
  have ld0 : (l.drop a).length ≤ l.length - a := by rw [List.length_drop]; exact Nat.le_refl _
  have ld1 : (l.drop (a + 1)).length ≤ l.length - a := by rw [List.length_drop]; omega
  have ld2 : (l.drop (a + 2)).length ≤ l.length - a := by rw [List.length_drop]; omega
  have p1 := slL_to ps k
  have p2 := slL_from ps k
  have p3 : slG (.lst (strsOf ps)) (some ((k : Int) + 1)) none = .ok (.lst (strsOf (ps.drop (k + 1)))) := slL_from ps (k + 1)
  have pt : (ps.take k).length ≤ k := by rw [List.length_take]; omega
  have pd0 : (ps.drop k).length ≤ ps.length - k := by rw [List.length_drop]; exact Nat.le_refl _
  have pd1 : (ps.drop (k + 1)).length ≤ ps.length - k := by rw [List.length_drop]; omega
  have ht := take_mem (k := k) P.small
  have hd0 := drop_mem (k := k) P.small
  have hd1 := drop_mem (k := k + 1) P.small
  have eone : ∀ w : List Nat, D.lst [.str (S w)] = .lst (strsOf [w]) := fun _ => rfl
  have i0 : ∀ x : Int, ixG (.lst [.int x, .int r1, .int r2]) (.int 0) = .ok (.int x) := fun x => ixG_lst rfl
  have i1 : ∀ x : Int, ixG (.lst [.int x, .int r1, .int r2]) (.int 1) = .ok (.int r1) := fun x => ixG_lst rfl
  have i2 : ∀ x : Int, ixG (.lst [.int x, .int r1, .int r2]) (.int 2) = .ok (.int r2) := fun x => ixG_lst rfl
  obtain ⟨x5, x51, x52⟩ := mod_nat (r := r2) (n := 15) (by decide) (by decide)
  have x52 : modG (.int r2) (.int 15) = .ok (.int (x5 : Int)) := x52
  obtain ⟨z, z1, z2⟩ := ix_str (l := odd15) (i := (x5 : Int)) ⟨by omega, by show (x5 : Int) < 15; omega⟩ odd15_str
  have hz : D.lst [.str (S []), .str (S [32]), .str ("\n" : Str), .str (S [45]), .str ("-0" : Str), .str ("00" : Str), .str ("1/1" : Str), .str ("0/1" : Str), .str ("2/4" : Str), .str ("0 0" : Str), .str ("1 a" : Str), .str ("a" : Str), .str ("-1/-2" : Str), .str ("1/2/3" : Str), .str ("0/5" : Str)] = .lst odd15 := rfl
  refine ⟨z, ?_, by omega⟩
  simp [-addG_str, -modG_int, -lenG_str, -lenG_lst, -List.append_assoc, sp11, dVarO, dVar, i0, i1, i2, denM1, strR, hpk, x52, hz, z1]
theorem spoilt_ok {l : List Nat} {ps : List (List Nat)} (P : Pcs l ps) {kind r0 r1 r2 : Int} (hk : 0 ≤ kind ∧ kind < 3) (h0 : 0 ≤ r0 ∧ r0 < 12) (h2 : 0 ≤ r2 ∧ r2 < 24) : ∃ l', d_law_spoilt [.int kind, .str (S l), .lst [.int r0, .int r1, .int r2]] = .ok (.str (S l')) ∧ l'.length ≤ 4200 := by
  obtain ⟨a, k, c, pk, ws, g1, g2, g3, g4, g5, g6, g7, main⟩ := sp_head P (kind := kind) (r0 := r0) (r1 := r1) h2
  rw [main]
  have cases12 : r0 = 0 ∨ r0 = 1 ∨ r0 = 2 ∨ r0 = 3 ∨ r0 = 4 ∨ r0 = 5 ∨ r0 = 6 ∨ r0 = 7 ∨ r0 = 8 ∨ r0 = 9 ∨ r0 = 10 ∨ r0 = 11 := by omega
  rcases cases12 with e | e | e | e | e | e | e | e | e | e | e | e <;> subst e
  · exact spc0 P hk h2 g1 g2 g3 g4 g5 g6 g7
  · rw [sk0 (by decide)]
    exact spc1 P hk h2 g1 g2 g3 g4 g5 g6 g7
  · rw [sk0 (by decide), sk1 (by decide)]
    exact spc2 P hk h2 g1 g2 g3 g4 g5 g6 g7
  · rw [sk0 (by decide), sk1 (by decide), sk2 (by decide)]
    exact spc3 P hk h2 g1 g2 g3 g4 g5 g6 g7
  · rw [sk0 (by decide), sk1 (by decide), sk2 (by decide), sk3 (by decide)]
    exact spc4 P hk h2 g1 g2 g3 g4 g5 g6 g7
  · rw [sk0 (by decide), sk1 (by decide), sk2 (by decide), sk3 (by decide), sk4 (by decide)]
    exact spc5 P hk h2 g1 g2 g3 g4 g5 g6 g7
  · rw [sk0 (by decide), sk1 (by decide), sk2 (by decide), sk3 (by decide), sk4 (by decide), sk5 (by decide)]
    exact spc6 P hk h2 g1 g2 g3 g4 g5 g6 g7
  · rw [sk0 (by decide), sk1 (by decide), sk2 (by decide), sk3 (by decide), sk4 (by decide), sk5 (by decide), sk6 (by decide)]
    exact spc7 P hk h2 g1 g2 g3 g4 g5 g6 g7
  · rw [sk0 (by decide), sk1 (by decide), sk2 (by decide), sk3 (by decide), sk4 (by decide), sk5 (by decide), sk6 (by decide), sk7 (by decide)]
    exact spc8 P hk h2 g1 g2 g3 g4 g5 g6 g7
  · rw [sk0 (by decide), sk1 (by decide), sk2 (by decide), sk3 (by decide), sk4 (by decide), sk5 (by decide), sk6 (by decide), sk7 (by decide), sk8 (by decide)]
    exact spc9 P hk h2 g1 g2 g3 g4 g5 g6 g7
  · rw [sk0 (by decide), sk1 (by decide), sk2 (by decide), sk3 (by decide), sk4 (by decide), sk5 (by decide), sk6 (by decide), sk7 (by decide), sk8 (by decide), sk9 (by decide)]
    exact spc10 P hk h2 g1 g2 g3 g4 g5 g6 g7
  · rw [sk0 (by decide), sk1 (by decide), sk2 (by decide), sk3 (by decide), sk4 (by decide), sk5 (by decide), sk6 (by decide), sk7 (by decide), sk8 (by decide), sk9 (by decide), sk10 (by decide)]
    exact spc11 P hk h2 g1 g2 g3 g4 g5 g6 g7
end RJ

set_option Elab.async false
set_option linter.all false
set_option maxRecDepth 100000
set_option maxHeartbeats 4000000
set_option autoImplicit false
/-! RkY: the plain law. -/
namespace RJ
open PySem PySem.Spec L2
open SX (S)

def la0 : SC (mkT t_law) :=
  (scSet 1 (ecCall .f_law_digits (acCons (ecCall .f_law_cell (acCons (ecVar 0) (acCons (ecInt 0) acNil))) (acCons (ecF (fcLst (acCons (ecInt 6) (acCons (ecInt 3) (acCons (ecInt 2) (acCons (ecInt 5) (acCons (ecInt 6) (acCons (ecInt 3) (acCons (ecInt 41) (acCons (ecInt 8) acNil)))))))))) acNil))))
def la1 : SC (mkT t_law) :=
  (scSet 2 (ecIx (ocE (ecF (fcLst (acCons (ecInt 2) (acCons (ecInt 0) (acCons (ecInt 1) (acCons (ecInt 2) (acCons (ecInt 1) (acCons (ecInt 2) acNil))))))))) (ocE (ecIx (ocVar 1) (ocE (ecInt 0))))))
def la2 : SC (mkT t_law) :=
  (scSet 3 (ecCall .f_law_handed (acCons (ecVar 0) (acCons (ecVar 2) (acCons (ecVar 1) acNil)))))
def la3 : SC (mkT t_law) :=
  (scIf (tcCmp lEq (ocVar 2) (ocE (ecInt 0))) (bCons (scSet 7 (ecIf (tcTru (ocE (ecIsi "int" (ocVar 3)))) (ecCall .f_law_frac (acCons (ecVar 3) (acCons (ecInt 1) acNil))) (ecCall .f_law_frac (acCons (ecIx (ocVar 3) (ocE (ecInt 0))) (acCons (ecIx (ocVar 3) (ocE (ecInt 1))) acNil))))) bNil) (bCons (scSet 7 (ecIf (tcCmp lEq (ocVar 2) (ocE (ecInt 1))) (ecCall .f_law_pairs (acCons (ecCall .f_law_poly (acCons (ecVar 3) acNil)) acNil)) (ecCall .f_law_terms (acCons (ecCall .f_law_sum (acCons (ecVar 3) acNil)) acNil)))) bNil))
def la4 : SC (mkT t_law) :=
  (scSet 4 (ecCall .f_law_formatted (acCons (ecVar 2) (acCons (ecVar 3) acNil))))
def la5 : SC (mkT t_law) :=
  (scIf (tcOr [(tcNot (tcTru (ocE (ecIsi "str" (ocVar 4))))), (tcCmp lNe (ocVar 4) (ocE (ecCall .f_law_write (acCons (ecVar 2) (acCons (ecVar 7) acNil))))), (tcCmp lNe (ocVar 3) (ocE (ecCall .f_law_handed (acCons (ecVar 0) (acCons (ecVar 2) (acCons (ecVar 1) acNil))))))]) (bCons (scRet (ecBl false)) bNil) (bNil))
def la6 : SC (mkT t_law) :=
  (scIf (tcCmp lNe (ocE (ecCall .f_law_formatted (acCons (ecVar 2) (acCons (ecVar 3) acNil)))) (ocVar 4)) (bCons (scRet (ecBl false)) bNil) (bNil))
def la7 : SC (mkT t_law) :=
  (scIf (tcOr [(tcNot (tcTru (ocE (ecCall .f_law_text_agrees (acCons (ecVar 2) (acCons (ecVar 4) acNil)))))), (tcNot (tcTru (ocE (ecCall .f_law_far_agrees (acCons (ecVar 2) (acCons (ecIx (ocE (ecCall .f_law_parsed (acCons (ecVar 2) (acCons (ecVar 4) acNil)))) (ocE (ecInt 0))) (acCons (ecIx (ocVar 1) (ocE (ecInt 6))) (acCons (ecIx (ocE (ecF (fcLst (acCons (ecInt 0) (acCons (ecInt 7) (acCons (ecInt 0) (acCons (ecInt 2) (acCons (ecInt 0) (acCons (ecInt 5) (acCons (ecInt 1) (acCons (ecInt 0) acNil))))))))))) (ocE (ecIx (ocVar 1) (ocE (ecInt 7))))) acNil))))))))]) (bCons (scRet (ecBl false)) bNil) (bNil))
def la8 : SC (mkT t_law) :=
  (scSet 4 (ecCall .f_law_write (acCons (ecVar 2) (acCons (ecCall .f_law_drawn_worth (acCons (ecVar 0) (acCons (ecInt 5) (acCons (ecVar 2) (acCons (ecIx (ocVar 1) (ocE (ecInt 5))) acNil))))) acNil))))
def la9 : SC (mkT t_law) :=
  (scIf (tcNot (tcTru (ocE (ecCall .f_law_text_agrees (acCons (ecVar 2) (acCons (ecVar 4) acNil)))))) (bCons (scRet (ecBl false)) bNil) (bNil))
def la10 : SC (mkT t_law) :=
  (scSet 5 (ecCall .f_law_digits (acCons (ecCall .f_law_cell (acCons (ecVar 0) (acCons (ecInt 8) acNil))) (acCons (ecF (fcLst (acCons (ecInt 12) (acCons (ecInt 97) (acCons (ecInt 24) (acCons (ecInt 30) acNil)))))) acNil))))
def la11 : SC (mkT t_law) :=
  (scSet 6 (ecCall .f_law_spoilt (acCons (ecVar 2) (acCons (ecVar 4) (acCons (ecF (fcLst (acCons (ecIx (ocVar 5) (ocE (ecInt 0))) (acCons (ecBin lAdd (ocE (ecIx (ocVar 5) (ocE (ecInt 1)))) (ocE (ecBin lMul (ocE (ecInt 97)) (ocE (ecIx (ocVar 5) (ocE (ecInt 3))))))) (acCons (ecIx (ocVar 5) (ocE (ecInt 2))) acNil))))) acNil)))))
def la12 : SC (mkT t_law) :=
  (scIf (tcNot (tcTru (ocE (ecCall .f_law_text_agrees (acCons (ecVar 2) (acCons (ecVar 6) acNil)))))) (bCons (scRet (ecBl false)) bNil) (bNil))
def la13 : SC (mkT t_law) :=
  (scIf (tcCmp lEq (ocE (ecIx (ocVar 1) (ocE (ecInt 4)))) (ocE (ecInt 0))) (bCons (scRet (ecAnd [(ecCall .f_law_text_agrees (acCons (ecBin lMod (ocE (ecB "int" lInt (aoCons (ocE (ecBin lAdd (ocVar 2) (ocE (ecInt 1)))) aoNil))) (ocE (ecInt 3))) (acCons (ecVar 4) acNil))), (ecCall .f_law_text_agrees (acCons (ecBin lMod (ocE (ecB "int" lInt (aoCons (ocE (ecBin lAdd (ocVar 2) (ocE (ecInt 2)))) aoNil))) (ocE (ecInt 3))) (acCons (ecVar 4) acNil)))])) bNil) (bNil))
def la14 : SC (mkT t_law) :=
  (scRet (ecCall .f_law_text_agrees (acCons (ecBin lMod (ocE (ecB "int" lInt (aoCons (ocE (ecIx (ocVar 1) (ocE (ecInt 4)))) aoNil))) (ocE (ecInt 3))) (acCons (ecCall .f_law_free_text (acCons (ecCall .f_law_cell (acCons (ecVar 0) (acCons (ecInt 9) acNil))) acNil)) acNil))))
theorem law_la (ns : List Int) : d_law [.scr ns] = outS ((bCons la0 (bCons la1 (bCons la2 (bCons la3 (bCons la4 (bCons la5 (bCons la6 (bCons la7 (bCons la8 (bCons la9 (bCons la10 (bCons la11 (bCons la12 (bCons la13 (bCons la14 bNil)))))))))))))) : BC (mkT t_law)).den [.sh (.scr ns), .no, .no, .no, .no, .no, .no, .no]) := rfl

theorem den_rt {T : Tbl} {a : SC T} {r : BC T} {Γ : En} {d : D} (h : a.den Γ = .rt d) : (bCons a r).den Γ = .rt d := by
  rw [den_bCons, h, SR.seq_rt]
abbrev ev1 (ns : List Int) (row : D) (k : Int) (d : D) : En := [.sh (.scr ns), .sh row, .sh (.int k), .sh d, .no, .no, .no, .no]
/-- what the law's first half leans on -/
structure First (ns : List Int) (row : D) (k : Int) : Prop where
  ex : ∃ (d due v : D) (t : List Nat), d_law_handed [.scr ns, .int k, row] = .ok d ∧ la3.den (ev1 ns row k d) = .nx [.sh (.scr ns), .sh row, .sh (.int k), .sh d, .no, .no, .no, .sh due] ∧
    d_law_formatted [.int k, d] = .ok (.str (S t)) ∧ d_law_write [.int k, due] = .ok (.str (S t)) ∧ eqG true d d = .ok (.bl false) ∧ t.length ≤ 4200 ∧ d_law_parsed [.int k, .str (S t)] = .ok (.lst [v]) ∧
    ∀ by' t' : Int, 0 ≤ by' ∧ by' < 41 → 0 ≤ t' ∧ t' ≤ 7 → d_law_far_agrees [.int k, v, .int by', .int t'] = .ok (.bl true)
structure Second (ns : List Int) (k w : Int) : Prop where
  ex : ∃ (d : D) (t : List Nat) (ps : List (List Nat)), d_law_drawn_worth [.scr ns, .int 5, .int k, .int w] = .ok d ∧ d_law_write [.int k, d] = .ok (.str (S t)) ∧ Pcs t ps
theorem p27 {a : Int} (h : a.natAbs ≤ 1000000000000000000000000000) : a.natAbs < 10 ^ 28 := Nat.lt_of_le_of_lt h (by decide)
theorem p27b {a : Int} (h : a.natAbs ≤ 1000000000000000000000000000) : a.natAbs < 2 ^ 100 := Nat.lt_of_le_of_lt h (by decide)
theorem small_wrF {f : Int × Int} (h1 : f.1.natAbs < 10 ^ 28) (h2 : f.2.natAbs < 10 ^ 28) : (wrF f).length ≤ 60 := Nat.le_trans (wrF_len2 (k := 27) (m := 27) h1 h2) (by decide)
theorem first0 {ns : List Int} (hl : ns.length ≤ 63) (hb : ∀ z ∈ ns, ib z ≤ 1048576) (r0 r1 r2 r3 r4 r5 r6 r7 : Int) (b1 : 0 ≤ r1 ∧ r1 < 3) (b3 : 0 ≤ r3 ∧ r3 < 5) : First ns (row8 r0 r1 r2 r3 r4 r5 r6 r7) 0 := by
  obtain ⟨d, x, y, h1, h2, h3, h4, h5, h6⟩ := handed0_ok hl hb r0 r1 r2 r3 r4 r5 r6 r7 b1 b3
  obtain ⟨s1, s2, s3, s4⟩ := ratM_spec (a := x) (b := y) h3
  obtain ⟨q1, q2⟩ := rat_le (a := x) (b := y) h3
  have k1 : (ratM x y).1.natAbs < 10 ^ 28 := p27 (Nat.le_trans q1 h4)
  have k2 : (ratM x y).2.natAbs < 10 ^ 28 := p27 (Nat.le_trans q2 h5)
  have hlen := small_wrF k1 k2
  have hfr : fracOf d = some (x, y) := by
    rcases h2 with ⟨e, e2⟩ | e | e
    · subst e
      subst e2
      rfl
    · subst e
      rfl
    · subst e
      rfl
  have f1 := format_fraction_ok hfr (p27b h4) (p27b h5) h3 (by decide) (by omega)
  rw [← formatted0] at f1
  have f2 := law_write0_ok (f := ratM x y) (by omega) ⟨pow_4300 (by decide) k1, pow_4300 (by decide) k2⟩
  have f3 := parsed0 (l := wrF (ratM x y)) (by omega)
  rw [rdF_written s3 s4] at f3
  have f3 : d_law_parsed [.int 0, .str (S (wrF (ratM x y)))] = .ok (.lst [encF (ratM x y)]) := f3
  have lf := law_frac_ok (p27b h4) (p27b h5) h3 (by decide)
  refine ⟨d, encF (ratM x y), encF (ratM x y), wrF (ratM x y), h1, ?_, f1, f2, h6, by omega, f3, fun by' t' hy ht => far0 hy ht k1 k2 s3 s4⟩
  generalize encF (ratM x y) = F at *
  rcases h2 with ⟨e, e2⟩ | e | e
  · subst e
    subst e2
    simp [la3, dVarO, dVar, t_law, lf]
  · subst e
    have i0 : ixG (.lst [.int x, .int y]) (.int 0) = .ok (.int x) := ixG_lst rfl
    have i1 : ixG (.lst [.int x, .int y]) (.int 1) = .ok (.int y) := ixG_lst rfl
    simp [la3, dVarO, dVar, t_law, lf, i0, i1]
  · subst e
    have i0 : ixG (.tup [.int x, .int y]) (.int 0) = .ok (.int x) := ixG_tup rfl
    have i1 : ixG (.tup [.int x, .int y]) (.int 1) = .ok (.int y) := ixG_tup rfl
    simp [la3, dVarO, dVar, t_law, lf, i0, i1]
theorem coef28 {n : Nat} (h : n ≤ 60) {c : Int} (hc : c.natAbs ≤ n * 100000000000000000000000000) : c.natAbs < 10 ^ 28 := by
  refine Nat.lt_of_le_of_lt hc (Nat.lt_of_le_of_lt (Nat.mul_le_mul_right _ h) (by decide))
theorem nfP_props {ps : List (Int × Int)} (hl : ps.length ≤ 60) (hp : ∀ p ∈ ps, p.1.natAbs ≤ 20 ∧ p.2.natAbs ≤ 100000000000000000000000000) : (nf sortI ps).length ≤ 60 ∧ (∀ p ∈ nf sortI ps, p.1.natAbs ≤ 20) ∧ (∀ p ∈ nf sortI ps, p.2.natAbs < 10 ^ 28) ∧ ∀ p ∈ nf sortI ps, (piP p).length ≤ 60 := by
  have h1 := nf_len srtI ps
  have h2 : ∀ p ∈ nf sortI ps, p.1.natAbs ≤ 20 := fun p h => by
    obtain ⟨q, hq, e⟩ := List.mem_map.mp (nf_mem srtI h).1
    rw [← e]
    exact (hp q hq).1
  have h3 : ∀ p ∈ nf sortI ps, p.2.natAbs < 10 ^ 28 := fun p h => coef28 hl (nf_bd srtI (fun q hq => (hp q hq).2) p h)
  refine ⟨by omega, h2, h3, fun p h => ?_⟩
  have a1 := numI_len (n := p.1) (k := 2) (by decide) (Nat.lt_of_le_of_lt (h2 p h) (by decide))
  have a2 := numI_len (by decide) (h3 p h)
  unfold piP
  simp only [List.length_append, List.length_singleton]
  omega
theorem nfS_props {ps : List (Spt × Int)} (hl : ps.length ≤ 60) (hp : ∀ p ∈ ps, Gd p) : (nf srtS ps).length ≤ 60 ∧ (∀ p ∈ nf srtS ps, p.1.2.natAbs ≤ 20) ∧ (∀ p ∈ nf srtS ps, p.2.natAbs < 10 ^ 28) ∧ (∀ p ∈ nf srtS ps, (piS p).length ≤ 60) ∧ ∀ p ∈ nf srtS ps, rowOk p := by
  have h1 := nf_len srtSS ps
  have h2 : ∀ p ∈ nf srtS ps, p.1.2.natAbs ≤ 20 := fun p h => by
    obtain ⟨q, hq, e⟩ := List.mem_map.mp (nf_mem srtSS h).1
    rw [← e]
    exact (hp q hq).2.1
  have h3 : ∀ p ∈ nf srtS ps, p.2.natAbs < 10 ^ 28 := fun p h => coef28 hl (nf_bd srtSS (fun q hq => (hp q hq).2.2) p h)
  have h4 := nfS_ok ps fun p h => (hp p h).1
  refine ⟨by omega, h2, h3, fun p h => ?_, h4⟩
  have a1 := numI_len (n := p.1.2) (k := 2) (by decide) (Nat.lt_of_le_of_lt (h2 p h) (by decide))
  have a2 := numI_len (by decide) (h3 p h)
  have a3 : p.1.1.length ≤ 10 := by
    have hk : okN p.1.1 = true := h4 p h
    unfold okN at hk
    split at hk
    · cases hk
    · rename_i c r e
      simp only [Bool.and_eq_true, decide_eq_true_eq] at hk
      rw [e]
      simp
      omega
  unfold piS
  simp only [List.length_append, List.length_singleton]
  omega
theorem wr_60 {ps : List (List Nat)} (hl : ps.length ≤ 60) (h : ∀ p ∈ ps, p.length ≤ 60) : (wrJ ps).length ≤ 4200 := by
  have := wrJ_le h
  have h2 : ps.length * (60 + 2) ≤ 60 * (60 + 2) := Nat.mul_le_mul_right _ hl
  omega
theorem Pcs_wr {α : Type} {pi : α → List Nat} {pc : List Nat → Option α} {ok : α → Prop} (P : Pc pi pc ok) {q : List α} (hok : ∀ x ∈ q, ok x) (hl : q.length ≤ 60) (h : ∀ x ∈ q, (pi x).length ≤ 60) : ∃ ps, Pcs (wrJ (q.map pi)) ps := by
  by_cases hne : q = []
  · subst hne
    refine ⟨[[48]], rfl, SX.spl_join (c := 44) (sep := [32]) (parts := [[48]]) (by simp) (by simp), by simp, by decide, by simp⟩
  · have hne2 : q.map pi ≠ [] := by simpa using hne
    refine ⟨q.map pi, ?_, P.split hne hok, hne2, by rw [List.length_map]; exact hl, fun p hp => ?_⟩
    · unfold wrJ
      rw [if_neg hne2]
    · obtain ⟨x, hx, e⟩ := List.mem_map.mp hp
      subst e
      exact h x hx
theorem first1 {ns : List Int} (hl : ns.length ≤ 63) (hb : ∀ z ∈ ns, ib z ≤ 1048576) (r0 r1 r2 r3 r4 r5 r6 r7 : Int) : First ns (row8 r0 r1 r2 r3 r4 r5 r6 r7) 1 := by
  obtain ⟨d, enc, ps, h1, h2, h3, h4, h5, h6⟩ := handed1_ok hl hb r0 r1 r2 r3 r4 r5 r6 r7
  obtain ⟨n1, n2, n3, n4⟩ := nfP_props h4 h5
  have hN := nf_nml srtI ps
  have hfix := nf_fix srtI hN
  have hlen : (wrP (nf sortI ps)).length ≤ 4200 := wr_60 (by rw [List.length_map]; exact n1) (fun p hp => by
    obtain ⟨x, hx, e⟩ := List.mem_map.mp hp
    subst e
    exact n4 x hx)
  have f1 := format_polynomial_ok h2 h3 (by omega) (by omega)
  rw [← formatted1] at f1
  have f2 := law_write1_ok (ps := nf sortI ps) (by omega) (by omega) (fun p hp => ⟨pow_4300 (k := 2) (by decide) (Nat.lt_of_le_of_lt (n2 p hp) (by decide)), pow_4300 (by decide) (n3 p hp)⟩)
  have f3 := parsed1 (l := wrP (nf sortI ps)) (by omega)
  have q0 : rdG pc1 (nf sortI) (wrP (nf sortI ps)) = some (nf sortI ps) := rd_written pcP piP_3 hfix (fun _ _ => trivial)
  rw [q0] at f3
  have f3 : d_law_parsed [.int 1, .str (S (wrP (nf sortI ps)))] = .ok (.lst [.tup ((nf sortI ps).map encP)]) := f3
  have p1 := law_poly_ok h2 h3 (by omega)
  have p2 := law_pairs_ok hN (by omega)
  refine ⟨d, .tup ((nf sortI ps).map encP), .tup ((nf sortI ps).map encP), wrP (nf sortI ps), h1, ?_, f1, f2, h6, hlen, f3, fun by' t' hy ht => far1 hy ht hN n1 n2 n3⟩
  generalize (nf sortI ps).map encP = F at *
  simp [la3, dVarO, dVar, t_law, p1, p2]
theorem first2 {ns : List Int} (hl : ns.length ≤ 63) (hb : ∀ z ∈ ns, ib z ≤ 1048576) (r0 r1 r2 r3 r4 r5 r6 r7 : Int) : First ns (row8 r0 r1 r2 r3 r4 r5 r6 r7) 2 := by
  obtain ⟨d, enc, ps, h1, h2, h3, h4, h5, h6⟩ := handed2_ok hl hb r0 r1 r2 r3 r4 r5 r6 r7
  obtain ⟨n1, n2, n3, n4, n5⟩ := nfS_props h4 h5
  have hN := nf_nml srtSS ps
  have hfix := nf_fix srtSS hN
  have hlen : (wrS (nf srtS ps)).length ≤ 4200 := wr_60 (by rw [List.length_map]; exact n1) (fun p hp => by
    obtain ⟨x, hx, e⟩ := List.mem_map.mp hp
    subst e
    exact n4 x hx)
  have f1 := format_sum_ok h2 h3 (by omega) (by omega)
  rw [← formatted2] at f1
  have f2 := law_write2_ok (ps := nf srtS ps) (by omega) (by omega) (fun p hp => ⟨pow_4300 (k := 2) (by decide) (Nat.lt_of_le_of_lt (n2 p hp) (by decide)), pow_4300 (by decide) (n3 p hp)⟩)
  have f3 := parsed2 (l := wrS (nf srtS ps)) (by omega)
  have q0 : rdG pc2 (nf srtS) (wrS (nf srtS ps)) = some (nf srtS ps) := rd_written pcS piS_3 hfix n5
  rw [q0] at f3
  have f3 : d_law_parsed [.int 2, .str (S (wrS (nf srtS ps)))] = .ok (.lst [.tup ((nf srtS ps).map encS)]) := f3
  have p1 := law_sum_ok h2 h3 (by omega)
  have p2 := law_terms_ok hN (by omega)
  refine ⟨d, .tup ((nf srtS ps).map encS), .tup ((nf srtS ps).map encS), wrS (nf srtS ps), h1, ?_, f1, f2, h6, hlen, f3, fun by' t' hy ht => far2 hy ht hN n1 n2 n5 n3⟩
  generalize (nf srtS ps).map encS = F at *
  simp [la3, dVarO, dVar, t_law, p1, p2]
theorem second0 {ns : List Int} (hl : ns.length ≤ 63) (hb : ∀ z ∈ ns, ib z ≤ 1048576) {w : Int} (hw : 0 ≤ w ∧ w < 3) : Second ns 0 w := by
  obtain ⟨x, y, h1, h2, h3, h4⟩ := worth0_ok (at' := 5) hl hb (by decide) hw
  obtain ⟨q1, q2⟩ := rat_le (a := x) (b := y) (by omega)
  have k1 : (ratM x y).1.natAbs < 10 ^ 28 := Nat.lt_of_le_of_lt (Nat.le_trans q1 h2) (by decide)
  have k2 : (ratM x y).2.natAbs < 10 ^ 28 := Nat.lt_of_le_of_lt (Nat.le_trans q2 (show y.natAbs ≤ 100000000000000000000000000 by omega)) (by decide)
  have hlen := small_wrF k1 k2
  have f2 := law_write0_ok (f := ratM x y) (by omega) ⟨pow_4300 (by decide) k1, pow_4300 (by decide) k2⟩
  refine ⟨encF (ratM x y), wrF (ratM x y), [wrF (ratM x y)], h1, f2, rfl, SX.spl_join (c := 44) (sep := [32]) (parts := [wrF (ratM x y)]) (by simp) (fun p hp => ?_), by simp, by simp, fun p hp => ?_⟩
  · rw [List.mem_singleton] at hp
    subst hp
    unfold wrF
    split
    · exact numI_free _ (by decide)
    · simp only [List.mem_append, List.mem_singleton, not_or]
      exact ⟨⟨numI_free _ (by decide), by decide⟩, numI_free _ (by decide)⟩
  · rw [List.mem_singleton] at hp
    subst hp
    exact hlen
theorem second1 {ns : List Int} (hl : ns.length ≤ 63) (hb : ∀ z ∈ ns, ib z ≤ 1048576) {w : Int} : Second ns 1 w := by
  obtain ⟨rs, h1, h2, h3⟩ := worth1_ok (at' := 5) (wide := w) hl hb (by decide)
  have hp : ∀ p ∈ rs.map drop1, p.1.natAbs ≤ 20 ∧ p.2.natAbs ≤ 100000000000000000000000000 := fun p hp => by
    obtain ⟨q, hq, e⟩ := List.mem_map.mp hp
    subst e
    exact (h3 q hq).2
  obtain ⟨n1, n2, n3, n4⟩ := nfP_props (ps := rs.map drop1) (by rw [List.length_map]; exact h2) hp
  have hlen : (wrP (nf sortI (rs.map drop1))).length ≤ 4200 := wr_60 (by rw [List.length_map]; exact n1) (fun p hp => by
    obtain ⟨x, hx, e⟩ := List.mem_map.mp hp
    subst e
    exact n4 x hx)
  have f2 := law_write1_ok (ps := nf sortI (rs.map drop1)) (by omega) (by omega) (fun p hp => ⟨pow_4300 (k := 2) (by decide) (Nat.lt_of_le_of_lt (n2 p hp) (by decide)), pow_4300 (by decide) (n3 p hp)⟩)
  obtain ⟨ps, g⟩ := Pcs_wr pcP (q := nf sortI (rs.map drop1)) (fun _ _ => trivial) n1 n4
  exact ⟨_, _, ps, h1, f2, g⟩
theorem second2 {ns : List Int} (hl : ns.length ≤ 63) (hb : ∀ z ∈ ns, ib z ≤ 1048576) {w : Int} : Second ns 2 w := by
  obtain ⟨rs, h1, h2, h3⟩ := worth2_ok (at' := 5) (wide := w) hl hb (by decide)
  obtain ⟨n1, n2, n3, n4, n5⟩ := nfS_props h2 h3
  have hlen : (wrS (nf srtS rs)).length ≤ 4200 := wr_60 (by rw [List.length_map]; exact n1) (fun p hp => by
    obtain ⟨x, hx, e⟩ := List.mem_map.mp hp
    subst e
    exact n4 x hx)
  have f2 := law_write2_ok (ps := nf srtS rs) (by omega) (by omega) (fun p hp => ⟨pow_4300 (k := 2) (by decide) (Nat.lt_of_le_of_lt (n2 p hp) (by decide)), pow_4300 (by decide) (n3 p hp)⟩)
  obtain ⟨ps, g⟩ := Pcs_wr pcS (q := nf srtS rs) n5 n1 n4
  exact ⟨_, _, ps, h1, f2, g⟩
theorem kind_ix {a : Int} (ha : 0 ≤ a ∧ a < 6) : ∃ k : Int, (k = 0 ∨ k = 1 ∨ k = 2) ∧ ixG (.lst [.int 2, .int 0, .int 1, .int 2, .int 1, .int 2]) (.int a) = .ok (.int k) := by
  obtain ⟨x, h1, h2⟩ := ix_mem (l := [.int 2, .int 0, .int 1, .int 2, .int 1, .int 2]) (i := a) ⟨ha.1, ha.2⟩
  have key : ∃ k : Int, (k = 0 ∨ k = 1 ∨ k = 2) ∧ x = .int k := by
    simp only [List.mem_cons, List.not_mem_nil, or_false] at h1
    rcases h1 with e | e | e | e | e | e <;> exact ⟨_, by decide, e⟩
  obtain ⟨k, h3, h4⟩ := key
  exact ⟨k, h3, by rw [h2, h4]⟩
theorem turn_ix {a : Int} (ha : 0 ≤ a ∧ a < 8) : ∃ k : Int, (0 ≤ k ∧ k ≤ 7) ∧ ixG (.lst [.int 0, .int 7, .int 0, .int 2, .int 0, .int 5, .int 1, .int 0]) (.int a) = .ok (.int k) := by
  obtain ⟨x, h1, h2⟩ := ix_mem (l := [.int 0, .int 7, .int 0, .int 2, .int 0, .int 5, .int 1, .int 0]) (i := a) ⟨ha.1, ha.2⟩
  have key : ∃ k : Int, (0 ≤ k ∧ k ≤ 7) ∧ x = .int k := by
    simp only [List.mem_cons, List.not_mem_nil, or_false] at h1
    rcases h1 with e | e | e | e | e | e | e | e <;> exact ⟨_, by decide, e⟩
  obtain ⟨k, h3, h4⟩ := key
  exact ⟨k, h3, by rw [h2, h4]⟩
theorem mod3 (x : Int) : ∃ k : Int, (k = 0 ∨ k = 1 ∨ k = 2) ∧ modG (.int x) (.int 3) = .ok (.int k) := by
  have h := fmod_bd x (b := 3) (by decide)
  exact ⟨x.fmod 3, by omega, mod_ok (by decide)⟩
theorem law_true_core {ns : List Int} (hl : ns.length ≤ 63) (hb : ∀ z ∈ ns, ib z ≤ 1048576) : d_law [.scr ns] = .ok (.bl true) := by
  obtain ⟨c0, k1, k2⟩ := law_cell_ok (k := 0) hl hb (by decide)
  have k1 : d_law_cell [.scr ns, .int 0] = .ok (.int c0) := k1
  obtain ⟨ds, r1, r2⟩ := law_digits_ok (c := c0) (ss := [6, 3, 2, 5, 6, 3, 41, 8]) k2 (by decide) (by decide)
  rcases r2 with _ | ⟨a0, b0, _ | ⟨a1, b1, _ | ⟨a2, b2, _ | ⟨a3, b3, _ | ⟨a4, b4, _ | ⟨a5, b5, _ | ⟨a6, b6, _ | ⟨a7, b7, r2⟩⟩⟩⟩⟩⟩⟩⟩
  cases r2
  rename_i x0 x1 x2 x3 x4 x5 x6 x7
  have r1 : d_law_digits [.int c0, .lst [.int 6, .int 3, .int 2, .int 5, .int 6, .int 3, .int 41, .int 8]] = .ok (row8 x0 x1 x2 x3 x4 x5 x6 x7) := r1
  obtain ⟨k, hk, e1⟩ := kind_ix ⟨a0, b0⟩
  have F : First ns (row8 x0 x1 x2 x3 x4 x5 x6 x7) k := by
    rcases hk with e | e | e <;> subst e
    · exact first0 hl hb x0 x1 x2 x3 x4 x5 x6 x7 ⟨a1, b1⟩ ⟨a3, b3⟩
    · exact first1 hl hb x0 x1 x2 x3 x4 x5 x6 x7
    · exact first2 hl hb x0 x1 x2 x3 x4 x5 x6 x7
  have G : Second ns k x5 := by
    rcases hk with e | e | e <;> subst e
    · exact second0 hl hb ⟨a5, b5⟩
    · exact second1 hl hb
    · exact second2 hl hb
  obtain ⟨d, due, v, t, f1, f2, f3, f4, f5, f6, f7, f8⟩ := F.ex
  obtain ⟨w, t2, ps, g1, g2, g3⟩ := G.ex
  obtain ⟨tn, t1, t2'⟩ := turn_ix (a := x7) ⟨a7, b7⟩
  have f8 := f8 x6 tn ⟨a6, b6⟩ t1
  have ta := text_agrees_ok hk f6
  have tb := text_agrees_ok hk (l := t2) (by have := g3.len; omega)
  obtain ⟨c8, k3, k4⟩ := law_cell_ok (k := 8) hl hb (by decide)
  have k3 : d_law_cell [.scr ns, .int 8] = .ok (.int c8) := k3
  obtain ⟨ds2, q1, q2⟩ := law_digits_ok (c := c8) (ss := [12, 97, 24, 30]) k4 (by decide) (by decide)
  rcases q2 with _ | ⟨u0, v0, _ | ⟨u1, v1, _ | ⟨u2, v2, _ | ⟨u3, v3, q2⟩⟩⟩⟩
  cases q2
  rename_i y0 y1 y2 y3
  have q1 : d_law_digits [.int c8, .lst [.int 12, .int 97, .int 24, .int 30]] = .ok (.lst [.int y0, .int y1, .int y2, .int y3]) := q1
  obtain ⟨l3, s1, s2⟩ := spoilt_ok g3 (kind := k) (r0 := y0) (r1 := y1 + 97 * y3) (r2 := y2) (by omega) ⟨u0, v0⟩ ⟨u2, v2⟩
  have tc := text_agrees_ok hk s2
  have m97 := mul64 (a := 97) (b := y3) (by decide) (by omega)
  obtain ⟨c9, k5, k6⟩ := law_cell_ok (k := 9) hl hb (by decide)
  have k5 : d_law_cell [.scr ns, .int 9] = .ok (.int c9) := k5
  obtain ⟨l4, z1, z2⟩ := free_text_ok k6
  obtain ⟨ka, ka1, ka2⟩ := mod3 (k + 1)
  obtain ⟨kb, kb1, kb2⟩ := mod3 (k + 2)
  obtain ⟨kc, kc1, kc2⟩ := mod3 x4
  have td := text_agrees_ok ka1 (l := t2) (by have := g3.len; omega)
  have te := text_agrees_ok kb1 (l := t2) (by have := g3.len; omega)
  have tf := text_agrees_ok kc1 z2
  have i0 : ixG (row8 x0 x1 x2 x3 x4 x5 x6 x7) (.int 0) = .ok (.int x0) := ixG_lst rfl
  have i4 : ixG (row8 x0 x1 x2 x3 x4 x5 x6 x7) (.int 4) = .ok (.int x4) := ixG_lst rfl
  have i5 : ixG (row8 x0 x1 x2 x3 x4 x5 x6 x7) (.int 5) = .ok (.int x5) := ixG_lst rfl
  have i6 : ixG (row8 x0 x1 x2 x3 x4 x5 x6 x7) (.int 6) = .ok (.int x6) := ixG_lst rfl
  have i7 : ixG (row8 x0 x1 x2 x3 x4 x5 x6 x7) (.int 7) = .ok (.int x7) := ixG_lst rfl
  have j0 : ixG (.lst [.int y0, .int y1, .int y2, .int y3]) (.int 0) = .ok (.int y0) := ixG_lst rfl
  have j1 : ixG (.lst [.int y0, .int y1, .int y2, .int y3]) (.int 1) = .ok (.int y1) := ixG_lst rfl
  have j2 : ixG (.lst [.int y0, .int y1, .int y2, .int y3]) (.int 2) = .ok (.int y2) := ixG_lst rfl
  have j3 : ixG (.lst [.int y0, .int y1, .int y2, .int y3]) (.int 3) = .ok (.int y3) := ixG_lst rfl
  have v0' : ixG (.lst [v]) (.int 0) = .ok v := ixG_lst rfl
  clear F G
  generalize row8 x0 x1 x2 x3 x4 x5 x6 x7 = row at *
  have e0 : la0.den [.sh (.scr ns), .no, .no, .no, .no, .no, .no, .no] = .nx [.sh (.scr ns), .sh row, .no, .no, .no, .no, .no, .no] := by
    simp [la0, dVarO, dVar, t_law, k1, r1]
  have e1' : la1.den [.sh (.scr ns), .sh row, .no, .no, .no, .no, .no, .no] = .nx [.sh (.scr ns), .sh row, .sh (.int k), .no, .no, .no, .no, .no] := by
    simp [la1, dVarO, dVar, i0, e1]
  have e2 : la2.den [.sh (.scr ns), .sh row, .sh (.int k), .no, .no, .no, .no, .no] = .nx (ev1 ns row k d) := by
    simp [la2, dVarO, dVar, t_law, f1]
  have e4 : la4.den [.sh (.scr ns), .sh row, .sh (.int k), .sh d, .no, .no, .no, .sh due] = .nx [.sh (.scr ns), .sh row, .sh (.int k), .sh d, .sh (.str (S t)), .no, .no, .sh due] := by
    simp [la4, dVarO, dVar, t_law, f3]
  have e5 : la5.den [.sh (.scr ns), .sh row, .sh (.int k), .sh d, .sh (.str (S t)), .no, .no, .sh due] = .nx [.sh (.scr ns), .sh row, .sh (.int k), .sh d, .sh (.str (S t)), .no, .no, .sh due] := by
    simp [la5, dVarO, dVar, t_law, f4, f1, f5]
  have e6 : la6.den [.sh (.scr ns), .sh row, .sh (.int k), .sh d, .sh (.str (S t)), .no, .no, .sh due] = .nx [.sh (.scr ns), .sh row, .sh (.int k), .sh d, .sh (.str (S t)), .no, .no, .sh due] := by
    simp [la6, dVarO, dVar, t_law, f3]
  have e7 : la7.den [.sh (.scr ns), .sh row, .sh (.int k), .sh d, .sh (.str (S t)), .no, .no, .sh due] = .nx [.sh (.scr ns), .sh row, .sh (.int k), .sh d, .sh (.str (S t)), .no, .no, .sh due] := by
    simp [la7, dVarO, dVar, t_law, ta, f7, v0', i6, i7, t2', f8]
  have e8 : la8.den [.sh (.scr ns), .sh row, .sh (.int k), .sh d, .sh (.str (S t)), .no, .no, .sh due] = .nx [.sh (.scr ns), .sh row, .sh (.int k), .sh d, .sh (.str (S t2)), .no, .no, .sh due] := by
    simp [la8, dVarO, dVar, t_law, i5, g1, g2]
  have e9 : la9.den [.sh (.scr ns), .sh row, .sh (.int k), .sh d, .sh (.str (S t2)), .no, .no, .sh due] = .nx [.sh (.scr ns), .sh row, .sh (.int k), .sh d, .sh (.str (S t2)), .no, .no, .sh due] := by
    simp [la9, dVarO, dVar, t_law, tb]
  have e10 : la10.den [.sh (.scr ns), .sh row, .sh (.int k), .sh d, .sh (.str (S t2)), .no, .no, .sh due] = .nx [.sh (.scr ns), .sh row, .sh (.int k), .sh d, .sh (.str (S t2)), .sh (.lst [.int y0, .int y1, .int y2, .int y3]), .no, .sh due] := by
    simp [la10, dVarO, dVar, t_law, k3, q1]
  have e11 : la11.den [.sh (.scr ns), .sh row, .sh (.int k), .sh d, .sh (.str (S t2)), .sh (.lst [.int y0, .int y1, .int y2, .int y3]), .no, .sh due] = .nx [.sh (.scr ns), .sh row, .sh (.int k), .sh d, .sh (.str (S t2)), .sh (.lst [.int y0, .int y1, .int y2, .int y3]), .sh (.str (S l3)), .sh due] := by
    simp [-mulG_int, la11, dVarO, dVar, t_law, j0, j1, j2, j3, m97, s1]
  have e12 : la12.den [.sh (.scr ns), .sh row, .sh (.int k), .sh d, .sh (.str (S t2)), .sh (.lst [.int y0, .int y1, .int y2, .int y3]), .sh (.str (S l3)), .sh due] = .nx [.sh (.scr ns), .sh row, .sh (.int k), .sh d, .sh (.str (S t2)), .sh (.lst [.int y0, .int y1, .int y2, .int y3]), .sh (.str (S l3)), .sh due] := by
    simp [la12, dVarO, dVar, t_law, tc]
  rw [law_la, den_step e0, den_step e1', den_step e2, den_step f2, den_step e4, den_step e5, den_step e6, den_step e7, den_step e8, den_step e9, den_step e10, den_step e11, den_step e12]
  by_cases h4 : x4 = 0
  · have e13 : la13.den [.sh (.scr ns), .sh row, .sh (.int k), .sh d, .sh (.str (S t2)), .sh (.lst [.int y0, .int y1, .int y2, .int y3]), .sh (.str (S l3)), .sh due] = .rt (.bl true) := by
      subst h4
      simp [-modG_int, la13, dVarO, dVar, t_law, i4, ka2, kb2, td, te]
    rw [den_rt e13]
    rfl
  · have e13 : la13.den [.sh (.scr ns), .sh row, .sh (.int k), .sh d, .sh (.str (S t2)), .sh (.lst [.int y0, .int y1, .int y2, .int y3]), .sh (.str (S l3)), .sh due] = .nx [.sh (.scr ns), .sh row, .sh (.int k), .sh d, .sh (.str (S t2)), .sh (.lst [.int y0, .int y1, .int y2, .int y3]), .sh (.str (S l3)), .sh due] := by
      simp [-modG_int, la13, dVarO, dVar, t_law, i4, h4]
    have e14 : la14.den [.sh (.scr ns), .sh row, .sh (.int k), .sh d, .sh (.str (S t2)), .sh (.lst [.int y0, .int y1, .int y2, .int y3]), .sh (.str (S l3)), .sh due] = .rt (.bl true) := by
      simp [-modG_int, la14, dVarO, dVar, t_law, i4, kc2, k5, z1, tf]
    rw [den_step e13, den_rt e14]
    rfl
end RJ

set_option Elab.async false
set_option linter.all false
set_option maxRecDepth 100000
set_option maxHeartbeats 0
/-! RjZ: the end. -/
namespace RJ
open PySem PySem.Spec L2
theorem law_true (ns : List Int) (hl : ns.length ≤ 63) (hb : ∀ z ∈ ns, Builtin.Int.intBits z ≤ 1048576) : d_law [.scr ns] = .ok (.bl true) := law_true_core hl hb
theorem law_fn {P : Program} {w : World} {K : PySem.W.Frag} {mg : Str → Option Value} {h : Heap} {fa : Addr} (X : K.In h) (G : h.Ns mainGlobals mg) (hfa : mg ("law" : Str) = some (.ref fa)) (c : He.SaysD faJ fnJ K) (ex : exJ K = true) :
    ∃ fd : FuncData, (∀ (s : Shared) (v : Value), BindsTo s fd ⟨[v], []⟩ [("script", v)]) ∧ ∀ base : Heap, K.In base → base.Ns mainGlobals mg → FnOk P w K mg base (L2N.CX P w) (fnLvl .f_law) fa fd ["script"] (spOf ⟨K, mg⟩ d_law) := by
  obtain ⟨fd, F⟩ := fd_law c
  have e := hfa.symm.trans (He.glo_ok X G (c.fact 49 (f := .glo "law") rfl))
  cases e
  have b := FunD.bindsA (ps := ["script"]) F fun _ _ _ _ _ _ us hl => match us, hl with | [_], _ => rfl
  exact ⟨fd, fun s v => b s [v] rfl, fun base X' G' => def_ok F sc_law (b_law dAll) mt_law do_law (fun h hh => knows X' G' c ex _ h hh) (bltJ X' G' c) (ciJ X' G' c) (csJ X' G' c) (cbJ X' G' ex) (digJ X' ex) (xkJ X' G' c ex)⟩
end RJ
open PySem PySem.W PySem.Calls PyProof.Rows
theorem PySem.Challenge.cw_joinpast_k89_sum_notes_holds : PySem.Challenge.rw_joinpast_k89_sum_notes.Holds := by
  w_on; o_law
  refine HandSHeadRun.head_imp (r := OpenLaw.row PySem.Challenge.rw_joinpast_k89_sum_notes) (q := view (OpenLaw.row PySem.Challenge.rw_joinpast_k89_sum_notes).prog [0, 70]) (H := RJ.hkJ) (ob := RJ.obJ) (M := 20000) (loose := RJ.looseAll) (d := HandSHeadRun.topDef (OpenLaw.row PySem.Challenge.rw_joinpast_k89_sum_notes).prog 70) (kwd := []) RJ.obJ_eq
    RJ.run (by kernel_rfl) (by kernel_rfl) (by kernel_rfl) (by rfl) (by first | assumption | decide +kernel) (by decide +kernel) ⟨rfl, rfl, rfl, rfl, rfl, by decide +kernel⟩ ?hw ?hc
  case hw => w_witness2
  case hc =>
    refine RJ.walk_ofEB (l := PySem.Challenge.rw_joinpast_k89_sum_notes) (n := 63) (k := RJ.fnLvl .f_law) (x := "script") rfl (by decide) (by kernel_rfl) ⟨rfl, by decide, by decide⟩ ?F
    intro w mg fa h Y G hmg0
    obtain ⟨K, KX, c, ex⟩ := Y
    have hmg : mg ("law" : PySem.Str) = some (.ref fa) := by
      have e : (HandSHeadRun.topDef (OpenLaw.row PySem.Challenge.rw_joinpast_k89_sum_notes).prog 70).name = ("law" : PySem.Str) := by kernel_rfl
      rw [← e]
      exact hmg0
    obtain ⟨fd, hb, hF⟩ := RJ.law_fn (P := (PySem.Challenge.rw_joinpast_k89_sum_notes).prog) (w := w) KX G hmg c ex
    refine ⟨K, fd, RJ.spOf ⟨K, mg⟩ RJ.d_law, KX, hb, fun H a ns hl hbits _ hS => ?_, hF⟩
    refine ⟨[.scr ns], H, L2.Same.refl _, .cons (.scr hS) .nil, ?_⟩
    rw [RJ.law_true ns hl hbits]
    intro G' H' x v r
    cases r
    rfl
