import PyProof.Rows.All
import Wide.All
import OpenK.AllK
import Wide.FinOn
import HandS.ForMost
import HandS.ForExc
import HandS.Wide
import HandS.Gcd
import HandS.IsInst
import HandS.Deep
import HandS.Style
import HandS.TupAny
import HandS.TupMul
import HandS.TupLe
import HandS.Zip
import HandS.Rev
import HandS.WideBits
import KE.GoesMore
import PyProof.ListStr
import PyProof.StrOps2
import PyProof.Rows.SortShellAny
import HandS.SortInts
import HandS.Lambda
import HandS.ExcIs
import HandS.ExcValue
import HandS.EndTab
import HandS.TupSets
import HandS.SetTxt0
import HandS.Strs
import KE.KStateDown
import HandS.Defaults
import HandS.Head0
import HandS.Head1
import HandS.Head2
import HandS.Head3
import HandS.HeadEnd
import HandS.HeadHook1
import HandS.HeadHook2
import HandS.HeadHook3
import HandS.HeadHook4
import HandS.HeadWalk
import HandS.NestedK
import HandS.ExcInit
import KE.KExcSuper
import KE.KSuper
import HandS.ExcField
import KE.KExcIs
import HandS.Text
import KE.KDictDisplayH
import PySem.Challenge.RW_onedraw_k00_words_and_ratios
set_option Elab.async false
set_option linter.all false
set_option maxRecDepth 100000
set_option maxHeartbeats 3900000
set_option autoImplicit false
/-! data by value, over the hand layer -/
namespace DL
open L2 PySem PyProof.Rows PySem.Spec

inductive D where
  | non
  | bl (b : Bool)
  | int (i : Int)
  | str (s : Str)
  | tup (l : List D)
  | lst (l : List D)
  | dct (l : List (D × D))
  | frl (l : List D)
  | opq
  | exc (c : Str) (fs : List D)
  | ty (n : String)
  | cls (c : Str)
  | tok (n : Nat)
  deriving Inhabited

structure Ex where
  name : Str
  fs : List (Str × D)

/-- what a description of values leans on: the written part, the values of the tokens, the classes of errors -/
structure Rp where
  K : PySem.W.Frag
  tk : Nat → V
  cls : Str → Option Addr

def kD : Key → D
  | .inl i => .int i
  | .inr s => .str s

/-- the object at a is a caught exception of the class at C, its own dict at dd -/
def ExcAt (a C : Addr) (dd : Option Addr) : HO := .ext fun h => ∃ o vs, h.get? a = some o ∧ Zc (.ref C) dd o ∧ o.data = .fields vs

mutual
inductive R (p : Rp) (F : Hp) : V → D → Prop
  | non : R p F .non .non
  | bl (b : Bool) : R p F (.bl b) (.bl b)
  | int (i : Int) : R p F (.int i) (.int i)
  | str (s : Str) : R p F (.str s) (.str s)
  | tup {a : Addr} {xs : List V} {ds : List D} : SqT p.K F a xs → RA p F xs ds → R p F (.ref a) (.tup ds)
  | lst {a : Addr} {xs : List V} {ds : List D} : F a = some (.lst xs) → RA p F xs ds → R p F (.ref a) (.lst ds)
  | frl {a : Addr} {xs : List V} {ds : List D} : SqL p.K F a xs → RA p F xs ds → R p F (.ref a) (.frl ds)
  | dct {a : Addr} {kvs : List (Key × V)} {l : List (D × D)} : F a = some (.dK kvs) → RK p F kvs l → R p F (.ref a) (.dct l)
  | opq {a : Addr} {kvs : List (List Key × V)} : F a = some (.dT kvs) → R p F (.ref a) .opq
  | exc0 {a C : Addr} {c : Str} : p.cls c = some C → F a = some (ExcAt a C none) → R p F (.ref a) (.exc c [])
  | exc1 {a C dd : Addr} {c f : Str} {v : V} {d : D} : p.cls c = some C → F a = some (ExcAt a C (some dd)) → F dd = some (.xd [(f, v)]) → R p F v d → R p F (.ref a) (.exc c [.str f, d])
  | ty (n : String) : R p F (.ty n) (.ty n)
  | cls {c : Str} {C : Addr} : p.cls c = some C → R p F (.ref C) (.cls c)
  | tok (n : Nat) : R p F (p.tk n) (.tok n)
inductive RA (p : Rp) (F : Hp) : List V → List D → Prop
  | nil : RA p F [] []
  | cons {v : V} {vs : List V} {d : D} {ds : List D} : R p F v d → RA p F vs ds → RA p F (v :: vs) (d :: ds)
inductive RK (p : Rp) (F : Hp) : List (Key × V) → List (D × D) → Prop
  | nil : RK p F [] []
  | cons {k : Key} {v : V} {kvs : List (Key × V)} {d : D} {l : List (D × D)} : R p F v d → RK p F kvs l → RK p F ((k, v) :: kvs) ((kD k, d) :: l)
end

/-- what is tracked stays, but the tables of code -/
def Le (F F' : Hp) : Prop := ∀ b o, F b = some o → (∀ ps, o ≠ .tbl ps) → F' b = some o
theorem Le.refl (F : Hp) : Le F F := fun _ _ h _ => h
theorem Le.trans {F F1 F2 : Hp} (a : Le F F1) (b : Le F1 F2) : Le F F2 := fun c o h n => b c o (a c o h n) n
theorem Le.of_same {F F' : Hp} (h : Same F F') : Le F F' := fun b o e _ => h b o e
theorem Le.rd {F F' : Hp} (h : Le F F') {a : Addr} {u : HO} (hu : ∀ ps, u ≠ .tbl ps) (r : Rd F a u) : Rd F' a u := by
  rcases r with r | ⟨o, r⟩
  · exact .inl (h _ _ r hu)
  · exact .inr ⟨o, h _ _ r (fun _ z => nomatch z)⟩
theorem Le.seq {K : PySem.W.Frag} {F F' : Hp} (h : Le F F') {a : Addr} {xs : List V} (r : SqL K F a xs) : SqL K F' a xs := by
  rcases r with r | r
  · exact .inl (h.rd (fun _ z => nomatch z) r)
  · exact .inr r
theorem Le.seqT {K : PySem.W.Frag} {F F' : Hp} (h : Le F F') {a : Addr} {xs : List V} (r : SqT K F a xs) : SqT K F' a xs := by
  rcases r with r | r
  · exact .inl (h.rd (fun _ z => nomatch z) r)
  · exact .inr r

section
variable {p : Rp} {F F' : Hp}
mutual
theorem R.mono (h : Le F F') : ∀ {v : V} {d : D}, R p F v d → R p F' v d
  | _, _, .non => .non
  | _, _, .bl b => .bl b
  | _, _, .int b => .int b
  | _, _, .str b => .str b
  | _, _, .tup s r => .tup (h.seqT s) (RA.mono h r)
  | _, _, .lst s r => .lst (h _ _ s (fun _ z => nomatch z)) (RA.mono h r)
  | _, _, .frl s r => .frl (h.seq s) (RA.mono h r)
  | _, _, .dct e r => .dct (h _ _ e (fun _ z => nomatch z)) (RK.mono h r)
  | _, _, .opq e => .opq (h _ _ e (fun _ z => nomatch z))
  | _, _, .exc0 c e => .exc0 c (h _ _ e (fun _ z => nomatch z))
  | _, _, .exc1 c e e2 r => .exc1 c (h _ _ e (fun _ z => nomatch z)) (h _ _ e2 (fun _ z => nomatch z)) (R.mono h r)
  | _, _, .ty n => .ty n
  | _, _, .cls e => .cls e
  | _, _, .tok n => .tok n
theorem RA.mono (h : Le F F') : ∀ {v : List V} {d : List D}, RA p F v d → RA p F' v d
  | _, _, .nil => .nil
  | _, _, .cons a b => .cons (R.mono h a) (RA.mono h b)
theorem RK.mono (h : Le F F') : ∀ {v : List (Key × V)} {d : List (D × D)}, RK p F v d → RK p F' v d
  | _, _, .nil => .nil
  | _, _, .cons a b => .cons (R.mono h a) (RK.mono h b)
end
theorem RA.length : ∀ {v : List V} {d : List D}, RA p F v d → v.length = d.length
  | _, _, .nil => rfl
  | _, _, .cons _ b => by rw [List.length_cons, List.length_cons, RA.length b]
theorem RA.append : ∀ {v w : List V} {d e : List D}, RA p F v d → RA p F w e → RA p F (v ++ w) (d ++ e)
  | _, _, _, _, .nil, r => r
  | _, _, _, _, .cons a b, r => .cons a (RA.append b r)
theorem RA.get : ∀ {v : List V} {d : List D} {i : Nat} {x : V}, RA p F v d → v[i]? = some x → ∃ y, d[i]? = some y ∧ R p F x y
  | _, _, _, _, .nil, e => by simp at e
  | _, _, 0, _, .cons a _, e => by simp at e; subst e; exact ⟨_, rfl, a⟩
  | _, _, i + 1, x, .cons _ b, e => by
    obtain ⟨y, h1, h2⟩ := RA.get (i := i) (x := x) b (by simpa using e)
    exact ⟨y, by simpa using h1, h2⟩
theorem RA.getD : ∀ {v : List V} {d : List D} {i : Nat} {y : D}, RA p F v d → d[i]? = some y → ∃ x, v[i]? = some x ∧ R p F x y
  | _, _, _, _, .nil, e => by simp at e
  | _, _, 0, _, .cons a _, e => by simp at e; subst e; exact ⟨_, rfl, a⟩
  | _, _, i + 1, x, .cons _ b, e => by
    obtain ⟨y, h1, h2⟩ := RA.getD (i := i) (y := x) b (by simpa using e)
    exact ⟨y, by simpa using h1, h2⟩
theorem RA.drop : ∀ {v : List V} {d : List D} (n : Nat), RA p F v d → RA p F (v.drop n) (d.drop n)
  | _, _, 0, r => r
  | _, _, _ + 1, .nil => .nil
  | _, _, n + 1, .cons _ b => RA.drop n b
theorem RA.take : ∀ {v : List V} {d : List D} (n : Nat), RA p F v d → RA p F (v.take n) (d.take n)
  | _, _, 0, _ => .nil
  | _, _, _ + 1, .nil => .nil
  | _, _, n + 1, .cons a b => .cons a (RA.take n b)
theorem RA.rev : ∀ {v : List V} {d : List D}, RA p F v d → RA p F v.reverse d.reverse
  | _, _, .nil => .nil
  | _, _, .cons a b => by rw [List.reverse_cons, List.reverse_cons]; exact RA.append (RA.rev b) (.cons a .nil)
theorem RA.set {x : V} {y : D} (r : R p F x y) : ∀ {v : List V} {d : List D} (i : Nat), RA p F v d → RA p F (v.set i x) (d.set i y)
  | _, _, _, .nil => .nil
  | _, _, 0, .cons _ b => .cons r b
  | _, _, i + 1, .cons a b => .cons a (RA.set r i b)
end

/-! ### the world that a def's calls may turn -/
def Wr (o : HO) : Prop := (∃ xs, o = .lst xs) ∨ (∃ kvs, o = .dK kvs)
theorem Wr.notbl {o : HO} (h : Wr o) : ∀ ps, o ≠ .tbl ps := by
  rintro ps rfl
  rcases h with ⟨_, h⟩ | ⟨_, h⟩ <;> cases h
theorem Wr.mut {o : HO} (h : Wr o) : Mut (some o) := by
  rcases h with ⟨_, rfl⟩ | ⟨_, rfl⟩ <;> trivial

structure GW where
  A : Type
  U : Addr → Prop
  tb : Bool
  rel : A → Hp → Prop
  same : ∀ {w H H'}, rel w H → Same H H' → rel w H'
  upd : ∀ {w H b o o'}, rel w H → H b = some o → Wr o → ¬ U b → rel w (L2.upd H b o')

structure GW.fr (G : GW) (H H' : Hp) : Prop where
  keep : ∀ b o, H b = some o → ¬ G.U b → (G.tb = true → ∀ ps, o ≠ .tbl ps) → H' b = some o
  dom : ∀ b o, H b = some o → ∃ o', H' b = some o'
theorem GW.fr_refl (G : GW) (H : Hp) : G.fr H H := ⟨fun _ _ h _ _ => h, fun _ o h => ⟨o, h⟩⟩
theorem GW.fr_trans {G : GW} {H H1 H2 : Hp} (a : G.fr H H1) (b : G.fr H1 H2) : G.fr H H2 :=
  ⟨fun c o h n t => b.keep c o (a.keep c o h n t) n t, fun c o h => let ⟨u, e⟩ := a.dom c o h; b.dom c u e⟩
theorem GW.fr_same {G : GW} {H H' : Hp} (h : Same H H') : G.fr H H' := ⟨fun b o e _ _ => h b o e, fun b o e => ⟨o, h b o e⟩⟩
theorem GW.fr_upd {G : GW} {H0 H : Hp} {b : Addr} {o : HO} (h : G.fr H0 H) (hb : H0 b = none) : G.fr H0 (L2.upd H b o) := ⟨fun c u e n t => by
  rw [upd_ne (ne_of_none e hb)]
  exact h.keep c u e n t, fun c u e => by
  rw [upd_ne (ne_of_none e hb)]
  exact h.dom c u e⟩
theorem GW.fr.free {G : GW} {H H' : Hp} (h : G.fr H H') {b : Addr} (n : H' b = none) : H b = none := by
  cases q : H b with
  | none => rfl
  | some o => obtain ⟨u, e⟩ := h.dom b o q; rw [n] at e; cases e

/-- nothing but new objects -/
def pureW : GW := ⟨Unit, fun _ => False, false, fun _ _ => True, fun _ _ => True.intro, fun _ _ _ _ => True.intro⟩
theorem pureW_same {H H' : Hp} : pureW.fr H H' ↔ Same H H' := ⟨fun h b o e => h.keep b o e (fun z => z) (fun z => nomatch z), fun h => GW.fr_same h⟩

abbrev Env := List (Option D)
/-- none: not told; an error; a value -/
abbrev Rs (α A : Type) := Option (Except (Ex × A) (α × A))
/-- .. of what turns nothing -/
abbrev Rq (α : Type) := Option (Except Ex α)

/-- a def's call -/
structure Jc where
  G : GW
  p : Rp
  H0 : Hp
  S0 : Addr → Prop
  E : XK
  hS : ∀ b, S0 b → ∃ o, H0 b = some o
  hU : ∀ b, G.U b → S0 b

open Classical in
noncomputable def hide (S : Addr → Prop) (H : Hp) : Hp := fun b => if S b then none else H b
theorem hide_of {S : Addr → Prop} {H : Hp} {b : Addr} (h : ¬ S b) : hide S H b = H b := if_neg h
theorem hide_in {S : Addr → Prop} {H : Hp} {b : Addr} (h : S b) : hide S H b = none := if_pos h
theorem of_hide {S : Addr → Prop} {H : Hp} {b : Addr} {o : HO} (h : hide S H b = some o) : ¬ S b ∧ H b = some o := by
  by_cases q : S b
  · rw [hide_in q] at h; cases h
  · rw [hide_of q] at h; exact ⟨q, h⟩
theorem hide_le {S S' : Addr → Prop} {H H' : Hp} (h : ∀ b o, ¬ S b → H b = some o → (∀ ps, o ≠ .tbl ps) → H' b = some o ∧ ¬ S' b) : Le (hide S H) (hide S' H') := fun b o e n => by
  obtain ⟨q, e⟩ := of_hide e
  obtain ⟨e', q'⟩ := h b o q e n
  rw [hide_of q']; exact e'
theorem hide_le_self {S : Addr → Prop} {H : Hp} : Le (hide S H) H := fun b o e _ => (of_hide e).2

def SS (J : Jc) (O : List Nat) (σ : L2.St) (b : Addr) : Prop := J.S0 b ∨ ∃ i, i ∈ O ∧ σ[i]? = some (some (.ref b))
noncomputable abbrev Fz (J : Jc) (O : List Nat) (σ : L2.St) (H : Hp) : Hp := hide (SS J O σ) H

/-- the owned object at a holds d -/
def OwnIs (p : Rp) (F H : Hp) (a : Addr) (d : D) : Prop := match d with
  | .lst ds => ∃ xs, H a = some (.lst xs) ∧ RA p F xs ds
  | .dct l => ∃ kvs, H a = some (.dK kvs) ∧ RK p F kvs l ∧ (kvs.map (·.1)).Nodup
  | _ => False
theorem OwnIs.wr {p : Rp} {F H : Hp} {a : Addr} {d : D} (h : OwnIs p F H a d) : ∃ o, H a = some o ∧ Wr o := by
  cases d <;> first | exact h.elim | skip
  · obtain ⟨xs, e, _⟩ := h; exact ⟨_, e, .inl ⟨_, rfl⟩⟩
  · obtain ⟨xs, e, _⟩ := h; exact ⟨_, e, .inr ⟨_, rfl⟩⟩
theorem OwnIs.mono {p : Rp} {F F' H H' : Hp} {a : Addr} {d : D} (h : OwnIs p F H a d) (l : Le F F') (e : ∀ o, H a = some o → H' a = some o) : OwnIs p F' H' a d := by
  cases d <;> first | exact h.elim | skip
  · obtain ⟨xs, e1, r⟩ := h; exact ⟨xs, e _ e1, r.mono l⟩
  · obtain ⟨xs, e1, r, n⟩ := h; exact ⟨xs, e _ e1, r.mono l, n⟩

structure SR (J : Jc) (O : List Nat) (σ : L2.St) (H : Hp) (w : J.G.A) (ρ : Env) : Prop where
  fr : J.G.fr J.H0 H
  rel : J.G.rel w H
  len : ρ.length = σ.length
  val : ∀ i d, ρ[i]? = some (some d) → i ∉ O → ∃ v, σ[i]? = some (some v) ∧ R J.p (Fz J O σ H) v d
  own : ∀ i d, ρ[i]? = some (some d) → i ∈ O → ∃ a, σ[i]? = some (some (.ref a)) ∧ OwnIs J.p (Fz J O σ H) H a d
  fresh : ∀ i a, i ∈ O → σ[i]? = some (some (.ref a)) → J.H0 a = none ∧ ∃ o, H a = some o ∧ Wr o
  apart : ∀ i j a, i ∈ O → j ∈ O → σ[i]? = some (some (.ref a)) → σ[j]? = some (some (.ref a)) → i = j

section
variable {J : Jc} {O : List Nat} {σ : L2.St} {H H' : Hp} {w w' : J.G.A} {ρ : Env}
theorem SR.noU (x : SR J O σ H w ρ) {b : Addr} (h : ¬ SS J O σ b) : ¬ J.G.U b := fun z => h (.inl (J.hU b z))
/-- the world has gone on: what this call holds is there -/
theorem SR.le (x : SR J O σ H w ρ) (f : J.G.fr H H') : Le (Fz J O σ H) (Fz J O σ H') := hide_le fun b o n e t => ⟨f.keep b o e (x.noU n) fun _ => t, n⟩
theorem SR.ownKept (x : SR J O σ H w ρ) (f : J.G.fr H H') {i : Nat} {a : Addr} (hi : i ∈ O) (e : σ[i]? = some (some (.ref a))) {o : HO} (ho : H a = some o) : H' a = some o := by
  obtain ⟨h1, u, h2, wr⟩ := x.fresh i a hi e
  rw [h2] at ho; cases ho
  refine f.keep a _ h2 (fun z => ?_) fun _ => wr.notbl
  obtain ⟨q, e'⟩ := J.hS a (J.hU a z)
  rw [h1] at e'; cases e'
theorem SR.step (x : SR J O σ H w ρ) (f : J.G.fr H H') (r : J.G.rel w' H') : SR J O σ H' w' ρ where
  fr := GW.fr_trans x.fr f
  rel := r
  len := x.len
  val := fun i d e n => let ⟨v, h1, h2⟩ := x.val i d e n; ⟨v, h1, h2.mono (x.le f)⟩
  own := fun i d e n => let ⟨a, h1, h2⟩ := x.own i d e n; ⟨a, h1, h2.mono (x.le f) fun o ho => x.ownKept f n h1 ho⟩
  fresh := fun i a hi e => let ⟨h1, o, h2, h3⟩ := x.fresh i a hi e; ⟨h1, o, x.ownKept f hi e h2, h3⟩
  apart := x.apart
theorem SR.stepSame (x : SR J O σ H w ρ) (f : Same H H') : SR J O σ H' w ρ := x.step (GW.fr_same f) (J.G.same x.rel f)
/-- all that is hidden stands -/
theorem SR.hid (x : SR J O σ H w ρ) {b : Addr} (hn : H b = none) : ¬ SS J O σ b := by
  rintro (z | ⟨i, hi, e⟩)
  · obtain ⟨o, e⟩ := J.hS b z
    obtain ⟨u, e⟩ := x.fr.dom b o e
    rw [hn] at e; cases e
  · obtain ⟨_, o, h2, _⟩ := x.fresh i b hi e
    rw [hn] at h2; cases h2
end
end DL
namespace DL
open L2 PySem PyProof.Rows PySem.Spec

/-! ### what is asked of an exception, of a value -/
def RX (p : Rp) (F : Hp) (x : Ex) (cls : Value) (dd : Option Addr) : Prop :=
  ∃ C, p.cls x.name = some C ∧ cls = .ref C ∧ ((x.fs = [] ∧ dd = none) ∨ ∃ f d a v, x.fs = [(f, d)] ∧ dd = some a ∧ F a = some (.xd [(f, v)]) ∧ R p F v d)
theorem RX.mono {p : Rp} {F F' : Hp} {x : Ex} {cls : Value} {dd : Option Addr} (h : RX p F x cls dd) (l : Le F F') : RX p F' x cls dd := by
  obtain ⟨C, h1, h2, h3⟩ := h
  refine ⟨C, h1, h2, ?_⟩
  rcases h3 with h3 | ⟨f, d, a, v, e1, e2, e3, r⟩
  · exact .inl h3
  · exact .inr ⟨f, d, a, v, e1, e2, l _ _ e3 (fun _ z => nomatch z), r.mono l⟩
def ErrOk (J : Jc) (x : Ex × J.G.A) : Prop := ∀ cls dd H', J.G.fr J.H0 H' → J.G.rel x.2 H' → RX J.p (hide J.S0 H') x.1 cls dd → J.E cls dd H'

/-- what follows a partial function's answer: rel ties the machine's value to the function's -/
def PQ (J : Jc) {α β : Type} (H : Hp) (rel : β → α → Hp → Prop) (Q : β → Hp → Prop) (r : Rs α J.G.A) : Prop := match r with
  | none => False
  | some (.error x) => ErrOk J x
  | some (.ok (a, w)) => ∀ v H', J.G.fr H H' → J.G.rel w H' → rel v a H' → Q v H'
section
variable {J : Jc} {α β γ δ : Type} {H H1 : Hp}
theorem PQ.mono {rel : β → α → Hp → Prop} {Q Q' : β → Hp → Prop} {r : Rs α J.G.A} (h : PQ J H rel Q r) (hq : ∀ v H', Q v H' → Q' v H') : PQ J H rel Q' r := by
  unfold PQ at h ⊢
  split
  · exact h
  · exact h
  · exact fun v H' f g k => hq v H' (h v H' f g k)
theorem PQ.rel {rel rel' : β → α → Hp → Prop} {Q : β → Hp → Prop} {r : Rs α J.G.A} (h : PQ J H rel Q r) (hr : ∀ v a H', J.G.fr H H' → rel' v a H' → rel v a H') : PQ J H rel' Q r := by
  unfold PQ at h ⊢
  split
  · exact h
  · exact h
  · exact fun v H' f2 g k => h v H' f2 g (hr _ _ _ f2 k)
theorem PQ.from {rel : β → α → Hp → Prop} {Q : β → Hp → Prop} {r : Rs α J.G.A} (h : PQ J H rel Q r) (f : J.G.fr H H1) : PQ J H1 rel Q r := by
  unfold PQ at h ⊢
  split
  · exact h
  · exact h
  · exact fun v H' f2 g k => h v H' (GW.fr_trans f f2) g k
end

abbrev Fe (A : Type) := A → Env → Rs D A
abbrev Fl (A : Type) := A → Env → Rs (List D) A
def bindE {A α β : Type} (f : A → Env → Rs α A) (g : α → A → Env → Rs β A) : A → Env → Rs β A := fun w ρ => match f w ρ with
  | none => none
  | some (.error x) => some (.error x)
  | some (.ok (a, w')) => g a w' ρ
theorem PQ.bind {J : Jc} {α β γ δ : Type} {H : Hp} {f : J.G.A → Env → Rs α J.G.A} {g : α → J.G.A → Env → Rs γ J.G.A} {w : J.G.A} {ρ : Env} {rel1 : β → α → Hp → Prop} {rel2 : δ → γ → Hp → Prop} {Q : δ → Hp → Prop} (h : PQ J H rel2 Q (bindE f g w ρ))
    : PQ J H rel1 (fun v H1 => ∃ a w1, J.G.fr H H1 ∧ J.G.rel w1 H1 ∧ rel1 v a H1 ∧ PQ J H1 rel2 Q (g a w1 ρ)) (f w ρ) := by
  unfold bindE at h
  unfold PQ
  split
  · rename_i e; rw [e] at h; exact h
  · rename_i e; rw [e] at h; exact h
  · rename_i a w1 e; rw [e] at h; exact fun v H1 f1 r1 k => ⟨a, w1, f1, r1, k, h.from f1⟩

/-- the value v is d: frozen, or (peeked at) what an owned slot holds -/
def Rl (J : Jc) (O : List Nat) (σ : L2.St) (ρ : Env) (pk : Bool) (v : V) (d : D) (H : Hp) : Prop := R J.p (Fz J O σ H) v d ∨ (pk = true ∧ ∃ i, i ∈ O ∧ σ[i]? = some (some v) ∧ ρ[i]? = some (some d))
theorem Rl.plain {J : Jc} {O : List Nat} {σ : L2.St} {ρ : Env} {v : V} {d : D} {H : Hp} (h : Rl J O σ ρ false v d H) : R J.p (Fz J O σ H) v d := by
  rcases h with h | ⟨z, _⟩
  · exact h
  · cases z
def tM (J : Jc) (O : List Nat) (pk : Bool) (f : Fe J.G.A) : TE := fun σ H Q => ∃ w ρ, SR J O σ H w ρ ∧ PQ J H (Rl J O σ ρ pk) Q (f w ρ)
def Rls (J : Jc) (O : List Nat) (σ : L2.St) (ρ : Env) (pk : Bool) : List V → List D → Hp → Prop := fun vs ds H => Paired (fun v d => Rl J O σ ρ pk v d H) vs ds
def tMs (J : Jc) (O : List Nat) (pk : Bool) (f : Fl J.G.A) : TA := fun σ H Q => ∃ w ρ, SR J O σ H w ρ ∧ PQ J H (Rls J O σ ρ pk) Q (f w ρ)
/-- a test: the function's value is a bool -/
def tMT (J : Jc) (O : List Nat) (f : Fe J.G.A) : TT := fun σ H Q => ∃ w ρ, SR J O σ H w ρ ∧ PQ J H (fun (b : Bool) d _ => d = .bl b) Q (f w ρ)

structure EM (J : Jc) (O : List Nat) (X : Cx) (pk : Bool) (e : Expr) (f : Fe J.G.A) : Prop where
  pe : PE X e (tM J O pk f)
structure EMs (J : Jc) (O : List Nat) (X : Cx) (pk : Bool) (es : List Expr) (f : Fl J.G.A) : Prop where
  pa : PA X es (tMs J O pk f)
  len : ∀ w ρ ds w', f w ρ = some (.ok (ds, w')) → ds.length = es.length
structure TM (J : Jc) (O : List Nat) (X : Cx) (e : Expr) (f : Fe J.G.A) : Prop where
  pt : PT X e (tMT J O f)
structure TW (J : Jc) (O : List Nat) (X : Cx) (e : Expr) (f : Fe J.G.A) : Prop where
  pw : PW X e (tMT J O f)

theorem PE.imp {X : Cx} {e : Expr} {t t' : TE} (h : PE X e t) (k : ∀ σ H Q, t' σ H Q → t σ H Q) : PE X e t' := ⟨fun pins s σ H Q I q => h.run pins s σ H Q I (k σ H Q q)⟩
theorem PT.imp {X : Cx} {e : Expr} {t t' : TT} (h : PT X e t) (k : ∀ σ H Q, t' σ H Q → t σ H Q) : PT X e t' := ⟨fun pins s σ H Q I q => h.run pins s σ H Q I (k σ H Q q)⟩
theorem PW.imp {X : Cx} {e : Expr} {t t' : TT} (h : PW X e t) (k : ∀ σ H Q, t' σ H Q → t σ H Q) : PW X e t' := ⟨fun wh pins s σ H Q I q => h.run wh pins s σ H Q I (k σ H Q q)⟩
theorem PA.imp {X : Cx} {e : List Expr} {t t' : TA} (h : PA X e t) (k : ∀ σ H Q, t' σ H Q → t σ H Q) : PA X e t' := ⟨fun pos pins s σ H Q I q => h.run pos pins s σ H Q I (k σ H Q q)⟩

section
variable {J : Jc} {O : List Nat} {X : Cx} {pk pk1 pk2 pk3 : Bool} {σ : L2.St} {H H' : Hp} {w : J.G.A} {ρ : Env} {f f1 f2 f3 : Fe J.G.A} {fl : Fl J.G.A}
theorem SR.same_le (x : SR J O σ H w ρ) (s : Same H H') : Le (Fz J O σ H) (Fz J O σ H') := x.le (GW.fr_same s)
theorem Rl.step (x : SR J O σ H w ρ) (f : J.G.fr H H') {v : V} {d : D} (h : Rl J O σ ρ pk v d H) : Rl J O σ ρ pk v d H' := by
  rcases h with h | h
  · exact .inl (h.mono (x.le f))
  · exact .inr h
theorem Rls.step (x : SR J O σ H w ρ) (f : J.G.fr H H') : ∀ {vs : List V} {ds : List D}, Rls J O σ ρ pk vs ds H → Rls J O σ ρ pk vs ds H'
  | _, _, .nil => .nil
  | _, _, .cons a b => .cons (Rl.step x f a) (Rls.step x f b)

/-- the first of two expressions is reckoned -/
theorem em_seq {γ δ : Type} {g : D → J.G.A → Env → Rs γ J.G.A} {rel2 : δ → γ → Hp → Prop} {Q : δ → Hp → Prop} {k : V → Hp → Prop} (x : SR J O σ H w ρ) (h : PQ J H rel2 Q (bindE f g w ρ))
    (hk : ∀ v H1 a w1, SR J O σ H1 w1 ρ → J.G.fr H H1 → Rl J O σ ρ pk v a H1 → PQ J H1 rel2 Q (g a w1 ρ) → k v H1) : tM J O pk f σ H k :=
  ⟨w, ρ, x, PQ.mono (PQ.bind h) fun v H1 ⟨a, w1, f1, r1, rl, q⟩ => hk v H1 a w1 (x.step f1 r1) f1 rl q⟩
theorem ems_seq {γ δ : Type} {g : List D → J.G.A → Env → Rs γ J.G.A} {rel2 : δ → γ → Hp → Prop} {Q : δ → Hp → Prop} {k : List V → Hp → Prop} (x : SR J O σ H w ρ) (h : PQ J H rel2 Q (bindE fl g w ρ))
    (hk : ∀ v H1 a w1, SR J O σ H1 w1 ρ → J.G.fr H H1 → Rls J O σ ρ pk v a H1 → PQ J H1 rel2 Q (g a w1 ρ) → k v H1) : tMs J O pk fl σ H k :=
  ⟨w, ρ, x, PQ.mono (PQ.bind h) fun v H1 ⟨a, w1, f1, r1, rl, q⟩ => hk v H1 a w1 (x.step f1 r1) f1 rl q⟩
/-- a value comes -/
theorem PQ.ok {α β : Type} {rel : β → α → Hp → Prop} {Q : β → Hp → Prop} {a : α} {w1 : J.G.A} (h : PQ J H rel Q (some (.ok (a, w1)))) {v : β} (f : J.G.fr H H') (r : J.G.rel w1 H') (k : rel v a H') : Q v H' := h v H' f r k

/-! ### names, constants -/
def eVar {A : Type} (i : Nat) : Fe A := fun w ρ => match ρ[i]? with
  | some (some d) => some (.ok (d, w))
  | _ => none
def eC {A : Type} (d : D) : Fe A := fun w _ => some (.ok (d, w))
/-- anywhere that is never come to -/
def eNo {A α : Type} : A → Env → Rs α A := fun _ _ => none
theorem em_name {i : Nat} {e : Expr} (h : PE X e (tVar i)) (hO : O.contains i = false) : EM J O X false e (eVar i) := ⟨PE.imp h fun σ H Q => by
  rintro ⟨w, ρ, x, q⟩
  unfold eVar at q
  split at q
  · rename_i d e
    obtain ⟨v, e1, r⟩ := x.val i d e (by simpa using hO)
    exact ⟨v, e1, q.ok (GW.fr_refl _ _) x.rel (.inl r)⟩
  · exact q.elim⟩
theorem em_own {i : Nat} {e : Expr} (h : PE X e (tVar i)) (hO : O.contains i = true) : EM J O X true e (eVar i) := ⟨PE.imp h fun σ H Q => by
  rintro ⟨w, ρ, x, q⟩
  unfold eVar at q
  split at q
  · rename_i d e
    have hi : i ∈ O := by simpa using hO
    obtain ⟨a, e1, r⟩ := x.own i d e hi
    exact ⟨_, e1, q.ok (GW.fr_refl _ _) x.rel (.inr ⟨rfl, i, hi, e1, e⟩)⟩
  · exact q.elim⟩
theorem em_pk {e : Expr} (h : EM J O X false e f) : EM J O X true e f := ⟨PE.imp h.pe fun σ H Q => by
  rintro ⟨w, ρ, x, q⟩
  exact ⟨w, ρ, x, q.rel fun v a H' _ k => .inl k.plain⟩⟩
/-- a constant's value, whatever the heap -/
def Cst (p : Rp) (v : V) (d : D) : Prop := ∀ F, R p F v d
theorem em_const {e : Expr} {v : V} {d : D} (h : PE X e (tC v)) (c : Cst J.p v d) : EM J O X false e (eC d) := ⟨PE.imp h fun σ H Q => by
  rintro ⟨w, ρ, x, q⟩
  exact q.ok (GW.fr_refl _ _) x.rel (.inl (c _))⟩
theorem em_no {e : Expr} : EM J O X pk e eNo := ⟨⟨fun pins s σ H Q I h => by
  obtain ⟨w, ρ, x, q⟩ := h
  exact False.elim q⟩⟩
theorem tm_no {e : Expr} : TM J O X e eNo := ⟨⟨fun pins s σ H Q I h => by
  obtain ⟨w, ρ, x, q⟩ := h
  exact False.elim q⟩⟩

/-! ### argument lists -/
def fNil {A : Type} : Fl A := fun w _ => some (.ok ([], w))
def fCons {A : Type} (f : Fe A) (g : Fl A) : Fl A := bindE f fun d => bindE g fun ds w _ => some (.ok (d :: ds, w))
theorem ems_nil : EMs J O X pk [] fNil := ⟨PA.imp pa_nil fun σ H Q => by
  rintro ⟨w, ρ, x, q⟩
  exact q.ok (GW.fr_refl _ _) x.rel .nil, fun w ρ ds w' h => by
  unfold fNil at h; cases h; rfl⟩
theorem bindE_ok {A α β : Type} {f : A → Env → Rs α A} {g : α → A → Env → Rs β A} {w : A} {ρ : Env} {r : β × A} (h : bindE f g w ρ = some (.ok r)) : ∃ a w1, f w ρ = some (.ok (a, w1)) ∧ g a w1 ρ = some (.ok r) := by
  unfold bindE at h
  split at h
  · cases h
  · cases h
  · exact ⟨_, _, by assumption, h⟩
theorem ems_cons {e : Expr} {es : List Expr} (h1 : EM J O X pk e f) (h2 : EMs J O X pk es fl) (hs : starEach (e :: es) X.env = (false, eval e X.env) :: starEach es X.env := by rfl) : EMs J O X pk (e :: es) (fCons f fl) := ⟨PA.imp (pa_cons h1.pe h2.pa hs) fun σ H Q => by
  rintro ⟨w, ρ, x, q⟩
  refine em_seq x q fun v H1 d w1 x1 f1 r1 q1 => ?_
  refine ems_seq x1 q1 fun vs H2 ds w2 x2 f2 r2 q2 => ?_
  exact q2.ok (GW.fr_refl _ _) x2.rel (.cons (Rl.step x1 f2 r1) r2), fun w ρ ds w' h => by
  obtain ⟨d, w1, _, h⟩ := bindE_ok h
  obtain ⟨ds', w2, e, h⟩ := bindE_ok h
  cases h
  rw [List.length_cons, List.length_cons, h2.len _ _ _ _ e]⟩
end

/-! ### operators by values -/
/-- a value, frozen or owned, as an operator sees it -/
def RV (p : Rp) (F H : Hp) (v : V) (d : D) : Prop := R p F v d ∨ ∃ a, v = .ref a ∧ OwnIs p F H a d
/-- what may be told of new objects -/
def NewF (F H H' : Hp) : Hp := fun b => match H b with
  | none => H' b
  | some _ => F b
structure Sit (F H : Hp) : Prop where
  le : ∀ b o, F b = some o → H b = some o
theorem Sit.new {F H H' : Hp} (s : Sit F H) : Le F (NewF F H H') := fun b o e _ => by
  unfold NewF
  rw [s.le b o e]; exact e
theorem NewF.refl {F H : Hp} (s : Sit F H) : Le F (NewF F H H) := s.new
theorem newF_at {F H H' : Hp} {p : Addr} (h : H p = none) : NewF F H H' p = H' p := by unfold NewF; rw [h]
section
variable {J : Jc} {O : List Nat} {X : Cx} {pk pk1 pk2 pk3 : Bool} {σ : L2.St} {H H' : Hp} {w : J.G.A} {ρ : Env} {f f1 f2 f3 : Fe J.G.A} {fl : Fl J.G.A}
theorem sit : Sit (Fz J O σ H) H := ⟨fun _ _ e => (of_hide e).2⟩
theorem SR.newF (x : SR J O σ H w ρ) (s : Same H H') : Le (NewF (Fz J O σ H) H H') (Fz J O σ H') := fun b o e n => by
  unfold NewF at e
  split at e
  · rename_i hn
    show hide _ _ _ = _
    rw [hide_of (x.hid hn)]; exact e
  · exact x.same_le s b o e n
theorem Rl.rv (x : SR J O σ H w ρ) {v : V} {d : D} (h : Rl J O σ ρ pk v d H) : RV J.p (Fz J O σ H) H v d := by
  rcases h with h | ⟨_, i, hi, e1, e2⟩
  · exact .inl h
  · obtain ⟨a, e3, r⟩ := x.own i d e2 hi
    rw [e1] at e3; cases e3
    exact .inr ⟨a, rfl, r⟩
theorem Rls.rv (x : SR J O σ H w ρ) : ∀ {vs : List V} {ds : List D}, Rls J O σ ρ pk vs ds H → Paired (RV J.p (Fz J O σ H) H) vs ds
  | _, _, .nil => .nil
  | _, _, .cons a b => .cons (Rl.rv x a) (Rls.rv x b)

/-- r x y is answered by g -/
def Op2 (p : Rp) (r : R2) (g : D → D → Option D) : Prop := ∀ (F H : Hp) (x y : V) (d1 d2 d : D) (Q : VK), Sit F H → RV p F H x d1 → RV p F H y d2 → g d1 d2 = some d → (∀ v H', Same H H' → R p (NewF F H H') v d → Q v H') → r x y H Q
def Op1 (p : Rp) (r : V → Hp → VK → Prop) (g : D → Option D) : Prop := ∀ (F H : Hp) (x : V) (d1 d : D) (Q : VK), Sit F H → RV p F H x d1 → g d1 = some d → (∀ v H', Same H H' → R p (NewF F H H') v d → Q v H') → r x H Q
def OpN (p : Rp) (r : List V → Hp → VK → Prop) (g : List D → Option D) : Prop := ∀ (F H : Hp) (xs : List V) (ds : List D) (d : D) (Q : VK), Sit F H → Paired (RV p F H) xs ds → g ds = some d → (∀ v H', Same H H' → R p (NewF F H H') v d → Q v H') → r xs H Q
/-- a method's: the receiver, the arguments -/
def OpM (p : Rp) (r : V → List V → Hp → VK → Prop) (g : D → List D → Option D) : Prop := ∀ (F H : Hp) (x : V) (xs : List V) (d1 : D) (ds : List D) (d : D) (Q : VK), Sit F H → RV p F H x d1 → Paired (RV p F H) xs ds → g d1 ds = some d → (∀ v H', Same H H' → R p (NewF F H H') v d → Q v H') → r x xs H Q
def okE {A : Type} (r : Option D) (w : A) : Rs D A := match r with
  | none => none
  | some d => some (.ok (d, w))
def e1 {A : Type} (g : D → Option D) (f : Fe A) : Fe A := bindE f fun d w _ => okE (g d) w
def e2 {A : Type} (g : D → D → Option D) (f1 f2 : Fe A) : Fe A := bindE f1 fun a => bindE f2 fun b w _ => okE (g a b) w
def eN {A : Type} (g : List D → Option D) (fl : Fl A) : Fe A := bindE fl fun ds w _ => okE (g ds) w
def eMt {A : Type} (g : D → List D → Option D) (f : Fe A) (fl : Fl A) : Fe A := bindE f fun d => bindE fl fun ds w _ => okE (g d ds) w
theorem okE_some {α : Type} {o : Option D} {rel : α → D → Hp → Prop} {Q : α → Hp → Prop} (h : PQ J H rel Q (okE o w)) : ∃ d, o = some d ∧ PQ J H rel Q (some (.ok (d, w))) := by
  unfold okE at h
  split at h
  · exact h.elim
  · exact ⟨_, rfl, h⟩
theorem em_op2 {a b e : Expr} {r : R2} {g : D → D → Option D} (he : ∀ {ta tb : TE}, PE X a ta → PE X b tb → PE X e (tOp r ta tb)) (ho : Op2 J.p r g) (h1 : EM J O X pk1 a f1) (h2 : EM J O X pk2 b f2) : EM J O X false e (e2 g f1 f2) := ⟨PE.imp (he h1.pe h2.pe) fun σ H Q => by
  rintro ⟨w, ρ, x, q⟩
  refine em_seq x q fun v1 H1 d1 w1 x1 fr1 r1 q1 => ?_
  refine em_seq x1 q1 fun v2 H2 d2 w2 x2 fr2 r2 q2 => ?_
  obtain ⟨d, hd, q3⟩ := okE_some q2
  refine ho _ H2 v1 v2 d1 d2 d _ sit (Rl.rv x2 (Rl.step x1 fr2 r1)) (Rl.rv x2 r2) hd fun v H3 s r => ?_
  exact q3.ok (GW.fr_same s) (J.G.same x2.rel s) (.inl (r.mono (x2.newF s)))⟩
theorem em_op1 {a e : Expr} {r : V → Hp → VK → Prop} {g : D → Option D} (he : ∀ {ta : TE}, PE X a ta → PE X e (fun σ H Q => ta σ H fun x H1 => r x H1 Q)) (ho : Op1 J.p r g) (h1 : EM J O X pk1 a f1) : EM J O X false e (e1 g f1) := ⟨PE.imp (he h1.pe) fun σ H Q => by
  rintro ⟨w, ρ, x, q⟩
  refine em_seq x q fun v1 H1 d1 w1 x1 fr1 r1 q1 => ?_
  obtain ⟨d, hd, q3⟩ := okE_some q1
  refine ho _ H1 v1 d1 d _ sit (Rl.rv x1 r1) hd fun v H3 s r => ?_
  exact q3.ok (GW.fr_same s) (J.G.same x1.rel s) (.inl (r.mono (x1.newF s)))⟩
theorem em_opN {es : List Expr} {e : Expr} {r : List V → Hp → VK → Prop} {g : List D → Option D} (he : ∀ {ta : TA}, PA X es ta → PE X e (fun σ H Q => ta σ H fun x H1 => r x H1 Q)) (ho : OpN J.p r g) (h1 : EMs J O X pk1 es fl) : EM J O X false e (eN g fl) := ⟨PE.imp (he h1.pa) fun σ H Q => by
  rintro ⟨w, ρ, x, q⟩
  refine ems_seq x q fun v1 H1 d1 w1 x1 fr1 r1 q1 => ?_
  obtain ⟨d, hd, q3⟩ := okE_some q1
  refine ho _ H1 v1 d1 d _ sit (Rls.rv x1 r1) hd fun v H3 s r => ?_
  exact q3.ok (GW.fr_same s) (J.G.same x1.rel s) (.inl (r.mono (x1.newF s)))⟩
end
end DL
namespace DL
open L2 PySem PyProof.Rows PySem.Spec

section
variable {J : Jc} {O : List Nat} {X : Cx} {pk pk1 pk2 pk3 : Bool} {σ : L2.St} {H H' : Hp} {w : J.G.A} {ρ : Env} {f f1 f2 f3 : Fe J.G.A} {fl : Fl J.G.A}

/-! ### tests -/
theorem tm_seq {γ δ : Type} {g : D → J.G.A → Env → Rs γ J.G.A} {rel2 : δ → γ → Hp → Prop} {Q : δ → Hp → Prop} {k : Bool → Hp → Prop} (x : SR J O σ H w ρ) (h : PQ J H rel2 Q (bindE f g w ρ))
    (hk : ∀ b H1 w1, SR J O σ H1 w1 ρ → J.G.fr H H1 → PQ J H1 rel2 Q (g (.bl b) w1 ρ) → k b H1) : tMT J O f σ H k :=
  ⟨w, ρ, x, PQ.mono (PQ.bind h) fun b H1 ⟨a, w1, f1, r1, rl, q⟩ => hk b H1 w1 (x.step f1 r1) f1 (by subst rl; exact q)⟩
theorem R.blv {p : Rp} {F : Hp} {v : V} {b : Bool} (h : R p F v (.bl b)) : v = .bl b := by cases h; rfl
theorem R.intv {p : Rp} {F : Hp} {v : V} {b : Int} (h : R p F v (.int b)) : v = .int b := by cases h; rfl
theorem R.strv {p : Rp} {F : Hp} {v : V} {b : Str} (h : R p F v (.str b)) : v = .str b := by cases h; rfl
theorem R.nonv {p : Rp} {F : Hp} {v : V} (h : R p F v .non) : v = .non := by cases h; rfl
/-- the test of an expression whose value is a bool -/
def eB {A : Type} (f : Fe A) : Fe A := bindE f fun d w _ => match d with
  | .bl b => some (.ok (.bl b, w))
  | _ => none
theorem tm_val {e : Expr} (he : ∀ {te : TE}, PE X e te → PT X e (tB te)) (h : EM J O X false e f) : TM J O X e (eB f) := ⟨PT.imp (he h.pe) fun σ H Q => by
  rintro ⟨w, ρ, x, q⟩
  refine em_seq x q fun v H1 d w1 x1 f1 r1 q1 => ?_
  cases d <;> first | exact q1.elim | skip
  exact ⟨_, r1.plain.blv, q1.ok (GW.fr_refl _ _) x1.rel rfl⟩⟩
/-- a comparison as a test -/
theorem tm_op2 {a b e : Expr} {r : R2} {g : D → D → Option D} (he : ∀ {ta tb : TE}, PE X a ta → PE X b tb → PT X e (tTest (tOp r ta tb))) (ho : Op2 J.p r g) (h1 : EM J O X pk1 a f1) (h2 : EM J O X pk2 b f2) : TM J O X e (eB (e2 g f1 f2)) := ⟨PT.imp (he h1.pe h2.pe) fun σ H Q => by
  rintro ⟨w, ρ, x, q⟩
  obtain ⟨w0, ρ0, x0, q0⟩ : ∃ w ρ, SR J O σ H w ρ ∧ PQ J H (Rl J O σ ρ false) (fun z H' => ∃ k, z = .bl k ∧ Q k H') (e2 g f1 f2 w ρ) := by
    refine ⟨w, ρ, x, PQ.mono (PQ.bind q) fun v H1 ⟨d, w1, f1, r1, rl, q1⟩ => ?_⟩
    cases d <;> first | exact q1.elim | skip
    exact ⟨_, (Rl.plain rl).blv, q1.ok (GW.fr_refl _ _) r1 rfl⟩
  refine em_seq x0 q0 fun v1 H1 d1 w1 x1 fr1 r1 q1 => ?_
  refine em_seq x1 q1 fun v2 H2 d2 w2 x2 fr2 r2 q2 => ?_
  obtain ⟨d, hd, q3⟩ := okE_some q2
  refine ho _ H2 v1 v2 d1 d2 d _ sit (Rl.rv x2 (Rl.step x1 fr2 r1)) (Rl.rv x2 r2) hd fun v H3 s r => ?_
  exact q3.ok (GW.fr_same s) (J.G.same x2.rel s) (.inl (r.mono (x2.newF s)))⟩
def dNot : D → Option D
  | .bl b => some (.bl !b)
  | _ => none
theorem tm_not {a : Expr} {pos : Pos} (h : TM J O X a f) : TM J O X (.UnaryOp .Not a pos) (e1 dNot f) := ⟨PT.imp (pt_not h.pt) fun σ H Q => by
  rintro ⟨w, ρ, x, q⟩
  refine tm_seq x q fun b H1 w1 x1 f1 q1 => ?_
  obtain ⟨d, hd, q3⟩ := okE_some q1
  cases hd
  exact q3.ok (GW.fr_refl _ _) x1.rel rfl⟩
def eAnd {A : Type} (f1 f2 : Fe A) : Fe A := bindE f1 fun d => match d with
  | .bl true => f2
  | .bl false => eC (.bl false)
  | _ => eNo
def eOr {A : Type} (f1 f2 : Fe A) : Fe A := bindE f1 fun d => match d with
  | .bl true => eC (.bl true)
  | .bl false => f2
  | _ => eNo
def eIf {A : Type} (c f1 f2 : Fe A) : Fe A := bindE c fun d => match d with
  | .bl true => f1
  | .bl false => f2
  | _ => eNo
theorem tw_and1 {a : Expr} {pos : Pos} (h : TM J O X a f) : TW J O X (.BoolOp .And [a] pos) f := ⟨pw_and1 h.pt⟩
theorem tw_or1 {a : Expr} {pos : Pos} (h : TM J O X a f) : TW J O X (.BoolOp .Or [a] pos) f := ⟨pw_or1 h.pt⟩
theorem tw_and {a b : Expr} {rest : List Expr} {pos : Pos} (h1 : TM J O X a f1) (h2 : TW J O X (.BoolOp .And (b :: rest) pos) f2) : TW J O X (.BoolOp .And (a :: b :: rest) pos) (eAnd f1 f2) := ⟨PW.imp (pw_and h1.pt h2.pw) fun σ H Q => by
  rintro ⟨w, ρ, x, q⟩
  refine tm_seq x q fun b H1 w1 x1 f1 q1 => ?_
  cases b
  · exact PQ.ok (rel := fun (b : Bool) (d : D) _ => d = .bl b) q1 (GW.fr_refl _ _) x1.rel rfl
  · exact ⟨w1, ρ, x1, q1⟩⟩
theorem tw_or {a b : Expr} {rest : List Expr} {pos : Pos} (h1 : TM J O X a f1) (h2 : TW J O X (.BoolOp .Or (b :: rest) pos) f2) : TW J O X (.BoolOp .Or (a :: b :: rest) pos) (eOr f1 f2) := ⟨PW.imp (pw_or h1.pt h2.pw) fun σ H Q => by
  rintro ⟨w, ρ, x, q⟩
  refine tm_seq x q fun b H1 w1 x1 f1 q1 => ?_
  cases b
  · exact ⟨w1, ρ, x1, q1⟩
  · exact PQ.ok (rel := fun (b : Bool) (d : D) _ => d = .bl b) q1 (GW.fr_refl _ _) x1.rel rfl⟩
theorem tm_bool {e : Expr} (h : TW J O X e f) : TM J O X e f := ⟨h.pw.pt⟩

/-! ### and, or, not, if as values -/
theorem em_one {op} {a : Expr} {pos : Pos} (h : EM J O X pk a f) : EM J O X pk (.BoolOp op [a] pos) f := ⟨pe_one h.pe⟩
theorem em_and {a b : Expr} {rest : List Expr} {pos : Pos} (h1 : EM J O X false a f1) (h2 : EM J O X pk (.BoolOp .And (b :: rest) pos) f2) : EM J O X pk (.BoolOp .And (a :: b :: rest) pos) (eAnd f1 f2) := ⟨PE.imp (pe_and h1.pe h2.pe) fun σ H Q => by
  rintro ⟨w, ρ, x, q⟩
  refine em_seq x q fun v H1 d w1 x1 f1 r1 q1 => ?_
  cases d <;> first | exact q1.elim | skip
  rename_i b
  refine ⟨b, r1.plain.blv, ?_⟩
  cases b
  · exact PQ.ok (rel := Rl J O σ ρ pk) q1 (GW.fr_refl _ _) x1.rel (.inl (.bl _))
  · exact ⟨w1, ρ, x1, q1⟩⟩
theorem em_or {a b : Expr} {rest : List Expr} {pos : Pos} (h1 : EM J O X false a f1) (h2 : EM J O X pk (.BoolOp .Or (b :: rest) pos) f2) : EM J O X pk (.BoolOp .Or (a :: b :: rest) pos) (eOr f1 f2) := ⟨PE.imp (pe_or h1.pe h2.pe) fun σ H Q => by
  rintro ⟨w, ρ, x, q⟩
  refine em_seq x q fun v H1 d w1 x1 f1 r1 q1 => ?_
  cases d <;> first | exact q1.elim | skip
  rename_i b
  refine ⟨b, r1.plain.blv, ?_⟩
  cases b
  · exact ⟨w1, ρ, x1, q1⟩
  · exact PQ.ok (rel := Rl J O σ ρ pk) q1 (GW.fr_refl _ _) x1.rel (.inl (.bl _))⟩
theorem em_not {a : Expr} {pos : Pos} (h : EM J O X false a f) : EM J O X false (.UnaryOp .Not a pos) (e1 dNot f) := ⟨PE.imp (pe_not h.pe) fun σ H Q => by
  rintro ⟨w, ρ, x, q⟩
  refine em_seq x q fun v H1 d w1 x1 f1 r1 q1 => ?_
  cases d <;> first | exact q1.elim | skip
  exact ⟨_, r1.plain.blv, PQ.ok (rel := Rl J O σ ρ false) q1 (GW.fr_refl _ _) x1.rel (.inl (.bl _))⟩⟩
theorem em_if {c a b : Expr} {pos : Pos} (hc : TM J O X c f) (h1 : EM J O X pk a f1) (h2 : EM J O X pk b f2) : EM J O X pk (.IfExp c a b pos) (eIf f f1 f2) := ⟨PE.imp (pe_ifExp hc.pt h1.pe h2.pe) fun σ H Q => by
  rintro ⟨w, ρ, x, q⟩
  refine tm_seq x q fun b H1 w1 x1 f1 q1 => ?_
  cases b
  · exact ⟨w1, ρ, x1, q1⟩
  · exact ⟨w1, ρ, x1, q1⟩⟩
/-- a op b op' c: the middle is reckoned once -/
def eChain {A : Type} (g g' : D → D → Option D) (f1 f2 f3 : Fe A) : Fe A := bindE f1 fun a => bindE f2 fun b w ρ => match g a b with
  | some (.bl true) => bindE f3 (fun c w _ => okE (g' b c) w) w ρ
  | some (.bl false) => some (.ok (.bl false, w))
  | _ => none
theorem chain_core {a b c : Expr} {r r' : R2} {g g' : D → D → Option D} (ho : Op2 J.p r g) (ho' : Op2 J.p r' g') (h1 : EM J O X pk1 a f1) (h2 : EM J O X pk2 b f2) (h3 : EM J O X pk3 c f3) {Q : VK} (x : SR J O σ H w ρ)
    (q : PQ J H (Rl J O σ ρ false) Q (eChain g g' f1 f2 f3 w ρ)) : tChain r r' (tM J O pk1 f1) (tM J O pk2 f2) (tM J O pk3 f3) σ H Q := by
  refine em_seq x q fun v1 H1 d1 w1 x1 fr1 r1 q1 => ?_
  refine em_seq x1 q1 fun v2 H2 d2 w2 x2 fr2 r2 q2 => ?_
  cases hg : g d1 d2 with
  | none => rw [hg] at q2; exact q2.elim
  | some d =>
    rw [hg] at q2
    cases d <;> first | exact q2.elim | skip
    rename_i k
    refine ho _ H2 v1 v2 d1 d2 _ _ sit (Rl.rv x2 (Rl.step x1 fr2 r1)) (Rl.rv x2 r2) hg fun v H3 s r => ?_
    refine ⟨k, r.blv, ?_⟩
    have x3 := x2.stepSame s
    cases k
    · exact PQ.ok (rel := Rl J O σ ρ false) q2 (GW.fr_same s) x3.rel (.inl (.bl _))
    · refine em_seq x3 (PQ.from q2 (GW.fr_same s)) fun v3 H4 d3 w4 x4 fr4 r4 q4 => ?_
      obtain ⟨d, hd, q5⟩ := okE_some q4
      refine ho' _ H4 v2 v3 d2 d3 d _ sit (Rl.rv x4 (Rl.step x3 fr4 (Rl.step x2 (GW.fr_same s) r2))) (Rl.rv x4 r4) hd fun v H5 s r => ?_
      exact q5.ok (GW.fr_same s) (J.G.same x4.rel s) (.inl (r.mono (x4.newF s)))
theorem em_chain {a b c : Expr} {op op' : CmpOp} {r r' : R2} {g g' : D → D → Option D} {pos : Pos} (ho : Op2 J.p r g) (hr : OpR X (compareOp op) r) (ho' : Op2 J.p r' g') (hr' : OpR X (compareOp op') r') (h1 : EM J O X pk1 a f1) (h2 : EM J O X pk2 b f2) (h3 : EM J O X pk3 c f3)
    (hm : lastMarks [op, op'] [b, c] = false := by with_unfolding_all rfl) : EM J O X false (.Compare a [op, op'] [b, c] pos) (eChain g g' f1 f2 f3) := ⟨PE.imp (pe_chain hr hr' h1.pe h2.pe h3.pe hm) fun σ H Q => by
  rintro ⟨w, ρ, x, q⟩
  exact chain_core ho ho' h1 h2 h3 x q⟩
theorem tm_chain {a b c : Expr} {op op' : CmpOp} {r r' : R2} {g g' : D → D → Option D} {pos : Pos} (ho : Op2 J.p r g) (hr : OpR X (compareOp op) r) (ho' : Op2 J.p r' g') (hr' : OpR X (compareOp op') r') (h1 : EM J O X pk1 a f1) (h2 : EM J O X pk2 b f2) (h3 : EM J O X pk3 c f3)
    (hm : lastMarks [op, op'] [b, c] = false := by with_unfolding_all rfl) : TM J O X (.Compare a [op, op'] [b, c] pos) (eB (eChain g g' f1 f2 f3)) := ⟨PT.imp (pt_chain hr hr' h1.pe h2.pe h3.pe hm) fun σ H Q => by
  rintro ⟨w, ρ, x, q⟩
  refine chain_core ho ho' h1 h2 h3 x (PQ.mono (PQ.bind (rel1 := Rl J O σ ρ false) q) fun v H1 ⟨d, w1, f1, r1, rl, q1⟩ => ?_)
  cases d <;> first | exact q1.elim | skip
  exact ⟨_, (Rl.plain rl).blv, q1.ok (GW.fr_refl _ _) r1 rfl⟩⟩

/-! ### displays -/
theorem same_new {H : Hp} {p : Addr} {o : HO} (h : H p = none) : Same H (upd H p o) := fun b x e => by
  rw [upd_ne (ne_of_none e h)]
  exact e
theorem Rls.ra : ∀ {vs : List V} {ds : List D}, Rls J O σ ρ false vs ds H → RA J.p (Fz J O σ H) vs ds
  | _, _, .nil => .nil
  | _, _, .cons a b => .cons a.plain (Rls.ra b)
def eTup {A : Type} (fl : Fl A) : Fe A := bindE fl fun ds w _ => some (.ok (.tup ds, w))
def eLst {A : Type} (fl : Fl A) : Fe A := bindE fl fun ds w _ => some (.ok (.lst ds, w))
theorem ems_seqL {γ δ : Type} {es : List Expr} {g : List D → J.G.A → Env → Rs γ J.G.A} {rel2 : δ → γ → Hp → Prop} {Q : δ → Hp → Prop} {k : List V → Hp → Prop} (he : EMs J O X pk es fl) (x : SR J O σ H w ρ) (h : PQ J H rel2 Q (bindE fl g w ρ))
    (hk : ∀ v H1 a w1, a.length = es.length → SR J O σ H1 w1 ρ → J.G.fr H H1 → Rls J O σ ρ pk v a H1 → PQ J H1 rel2 Q (g a w1 ρ) → k v H1) : tMs J O pk fl σ H k := by
  refine ⟨w, ρ, x, ?_⟩
  unfold bindE at h
  unfold PQ
  split
  · rename_i e; rw [e] at h; exact h
  · rename_i e; rw [e] at h; exact h
  · rename_i a w1 e
    rw [e] at h
    exact fun v H1 f1 r1 k => hk v H1 a w1 (he.len _ _ _ _ e) (x.step f1 r1) f1 k (h.from f1)
theorem SR.at_new (x : SR J O σ H w ρ) {p : Addr} {o : HO} (h : H p = none) : Fz J O σ (upd H p o) p = some o := by
  show hide _ _ _ = _
  rw [hide_of (x.hid h), upd_same]
theorem em_tup {es : List Expr} {c : Nat} {pos : Pos} (h : EMs J O X false es fl) (hl : es.length ≤ 1000 := by decide) : EM J O X false (.Tuple es c pos) (eTup fl) := ⟨PE.imp (pe_tup h.pa) fun σ H Q => by
  rintro ⟨w, ρ, x, q⟩
  refine ems_seqL h x q fun vs H1 ds w1 hn x1 f1 r1 q1 => ?_
  have ra := Rls.ra r1
  refine ⟨by rw [ra.length, hn]; exact Nat.le_of_lt (small1000 hl), fun p hp => ?_⟩
  have s := same_new (o := .tup vs) hp
  exact q1.ok (GW.fr_same s) (J.G.same x1.rel s) (.inl (.tup (.inl (.inl (x1.at_new hp))) (ra.mono (x1.same_le s))))⟩
theorem em_lst {es : List Expr} {pos : Pos} (h : EMs J O X false es fl) (hl : es.length ≤ 1000 := by decide) : EM J O X false (.List es pos) (eLst fl) := ⟨PE.imp (pe_lst h.pa) fun σ H Q => by
  rintro ⟨w, ρ, x, q⟩
  refine ems_seqL h x q fun vs H1 ds w1 hn x1 f1 r1 q1 => ?_
  have ra := Rls.ra r1
  refine ⟨by rw [ra.length, hn]; exact Nat.le_of_lt (small1000 hl), fun p hp => ?_⟩
  have s := same_new (o := .lst vs) hp
  exact q1.ok (GW.fr_same s) (J.G.same x1.rel s) (.inl (.lst (x1.at_new hp) (ra.mono (x1.same_le s))))⟩

/-! ### what is new may be owned -/
def minus (F : Hp) (a : Addr) : Hp := fun b => if b = a then none else F b
theorem minus_le {F : Hp} {a : Addr} : Le (minus F a) F := fun b o e _ => by
  unfold minus at e
  split at e
  · cases e
  · exact e
theorem le_minus {F F' : Hp} {a : Addr} (h : Le F F') (n : F a = none) : Le F (minus F' a) := fun b o e t => by
  unfold minus
  have : b ≠ a := fun z => by subst z; rw [n] at e; cases e
  rw [if_neg this]
  exact h b o e t
/-- a new object, in a heap that has H in it -/
def RelF (J : Jc) (O : List Nat) (σ : L2.St) (H : Hp) (v : V) (d : D) (H' : Hp) : Prop := ∃ a, v = .ref a ∧ H a = none ∧ OwnIs J.p (minus (Fz J O σ H') a) H' a d
theorem RelF.from (f : J.G.fr H H') {v : V} {d : D} {H2 : Hp} (h : RelF J O σ H' v d H2) : RelF J O σ H v d H2 := by
  obtain ⟨a, e, n, o⟩ := h
  exact ⟨a, e, f.free n, o⟩
theorem OwnIs.r {p : Rp} {F H : Hp} {a : Addr} {d : D} (h : OwnIs p F H a d) {F' : Hp} (l : Le F F') (e : ∀ o, H a = some o → F' a = some o) : R p F' (.ref a) d := by
  cases d <;> first | exact h.elim | skip
  · obtain ⟨xs, e1, r⟩ := h
    exact .lst (e _ e1) (r.mono l)
  · obtain ⟨xs, e1, r, _⟩ := h
    exact .dct (e _ e1) (r.mono l)
def tF (J : Jc) (O : List Nat) (f : Fe J.G.A) : TE := fun σ H Q => ∃ w ρ, SR J O σ H w ρ ∧ PQ J H (RelF J O σ H) Q (f w ρ)
structure EF (J : Jc) (O : List Nat) (X : Cx) (e : Expr) (f : Fe J.G.A) : Prop where
  pe : PE X e (tF J O f)
theorem RelF.r (x : SR J O σ H w ρ) {v : V} {d : D} (f : J.G.fr H H') (h : RelF J O σ H v d H') : R J.p (Fz J O σ H') v d := by
  obtain ⟨a, e, n, o⟩ := h
  subst e
  exact o.r minus_le fun u hu => by
    show hide _ _ _ = _
    rw [hide_of (x.hid n)]; exact hu
theorem em_ef {e : Expr} (h : EF J O X e f) : EM J O X false e f := ⟨PE.imp h.pe fun σ H Q => by
  rintro ⟨w, ρ, x, q⟩
  exact ⟨w, ρ, x, q.rel fun v a H' f k => .inl (k.r x f)⟩⟩
theorem ef_lst {es : List Expr} {pos : Pos} (h : EMs J O X false es fl) (hl : es.length ≤ 1000 := by decide) : EF J O X (.List es pos) (eLst fl) := ⟨PE.imp (pe_lst h.pa) fun σ H Q => by
  rintro ⟨w, ρ, x, q⟩
  refine ems_seqL h x q fun vs H1 ds w1 hn x1 f1 r1 q1 => ?_
  have ra := Rls.ra r1
  refine ⟨by rw [ra.length, hn]; exact Nat.le_of_lt (small1000 hl), fun p hp => ?_⟩
  have s := same_new (o := .lst vs) hp
  refine q1.ok (GW.fr_same s) (J.G.same x1.rel s) ⟨p, rfl, f1.free hp, vs, upd_same, ra.mono (le_minus (x1.same_le s) ?_)⟩
  show hide _ _ _ = _
  rw [hide_of (x1.hid hp)]; exact hp⟩
/-- fresh operators by values: the new list's items stood before -/
def OpNF (p : Rp) (r : List V → Hp → VK → Prop) (g : List D → Option D) : Prop := ∀ (F H : Hp) (xs : List V) (ds : List D) (d : D) (Q : VK), Sit F H → Paired (RV p F H) xs ds → g ds = some d → (∀ a H', H a = none → Same H H' → OwnIs p F H' a d → Q (.ref a) H') → r xs H Q
theorem ef_opN {es : List Expr} {e : Expr} {r : List V → Hp → VK → Prop} {g : List D → Option D} (he : ∀ {ta : TA}, PA X es ta → PE X e (fun σ H Q => ta σ H fun x H1 => r x H1 Q)) (ho : OpNF J.p r g) (h1 : EMs J O X pk1 es fl) : EF J O X e (eN g fl) := ⟨PE.imp (he h1.pa) fun σ H Q => by
  rintro ⟨w, ρ, x, q⟩
  refine ems_seq x q fun v1 H1 d1 w1 x1 fr1 r1 q1 => ?_
  obtain ⟨d, hd, q3⟩ := okE_some q1
  refine ho _ H1 v1 d1 d _ sit (Rls.rv x1 r1) hd fun a H3 na s r => ?_
  refine q3.ok (GW.fr_same s) (J.G.same x1.rel s) ⟨a, rfl, fr1.free na, r.mono (le_minus (x1.same_le s) ?_) fun _ z => z⟩
  show hide _ _ _ = _
  rw [hide_of (x1.hid na)]; exact na⟩
def Op2F (p : Rp) (r : R2) (g : D → D → Option D) : Prop := ∀ (F H : Hp) (x y : V) (d1 d2 d : D) (Q : VK), Sit F H → RV p F H x d1 → RV p F H y d2 → g d1 d2 = some d → (∀ a H', H a = none → Same H H' → OwnIs p F H' a d → Q (.ref a) H') → r x y H Q
theorem ef_op2 {a b e : Expr} {r : R2} {g : D → D → Option D} (he : ∀ {ta tb : TE}, PE X a ta → PE X b tb → PE X e (tOp r ta tb)) (ho : Op2F J.p r g) (h1 : EM J O X pk1 a f1) (h2 : EM J O X pk2 b f2) : EF J O X e (e2 g f1 f2) := ⟨PE.imp (he h1.pe h2.pe) fun σ H Q => by
  rintro ⟨w, ρ, x, q⟩
  refine em_seq x q fun v1 H1 d1 w1 x1 fr1 r1 q1 => ?_
  refine em_seq x1 q1 fun v2 H2 d2 w2 x2 fr2 r2 q2 => ?_
  obtain ⟨d, hd, q3⟩ := okE_some q2
  refine ho _ H2 v1 v2 d1 d2 d _ sit (Rl.rv x2 (Rl.step x1 fr2 r1)) (Rl.rv x2 r2) hd fun a H3 na s r => ?_
  refine q3.ok (GW.fr_same s) (J.G.same x2.rel s) ⟨a, rfl, (GW.fr_trans fr1 fr2).free na, r.mono (le_minus (x2.same_le s) ?_) fun _ z => z⟩
  show hide _ _ _ = _
  rw [hide_of (x2.hid na)]; exact na⟩
theorem ef_if {c a b : Expr} {pos : Pos} (hc : TM J O X c f) (h1 : EF J O X a f1) (h2 : EF J O X b f2) : EF J O X (.IfExp c a b pos) (eIf f f1 f2) := ⟨PE.imp (pe_ifExp hc.pt h1.pe h2.pe) fun σ H Q => by
  rintro ⟨w, ρ, x, q⟩
  refine tm_seq x q fun b H1 w1 x1 f1 q1 => ?_
  have k : ∀ {g : Fe J.G.A}, PQ J H1 (RelF J O σ H) Q (g w1 ρ) → tF J O g σ H1 Q := fun {g} h => ⟨w1, ρ, x1, h.rel fun v a H' _ z => z.from f1⟩
  cases b
  · exact k q1
  · exact k q1⟩
theorem ef_no {e : Expr} : EF J O X e eNo := ⟨⟨fun pins s σ H Q I h => by
  obtain ⟨w, ρ, x, q⟩ := h
  exact False.elim q⟩⟩
end

/-! ### what a def promises -/
/-- the answer: frozen data, or a new object -/
def RetR (p : Rp) (S : Addr → Prop) (H : Hp) (fr : Bool) (v : V) (d : D) (H' : Hp) : Prop :=
  if fr = true then ∃ a, v = .ref a ∧ H a = none ∧ OwnIs p (minus (hide S H') a) H' a d else R p (hide S H') v d
def spM (G : GW) (p : Rp) (fr : Bool) (m : G.A → List D → Rs D G.A) : Sp := fun vs H Q E => ∃ (S : Addr → Prop) (ds : List D) (w : G.A), (∀ b, S b → ∃ o, H b = some o) ∧ (∀ b, G.U b → S b) ∧ G.rel w H ∧ RA p (hide S H) vs ds ∧ match m w ds with
  | none => False
  | some (.error x) => ∀ cls dd H', G.fr H H' → G.rel x.2 H' → RX p (hide S H') x.1 cls dd → E cls dd H'
  | some (.ok (d, w')) => ∀ v H', G.fr H H' → G.rel w' H' → RetR p S H fr v d H' → Q v H'
/-- a def that turns nothing -/
def mP (m : List D → Rq D) : Unit → List D → Rs D Unit := fun _ ds => match m ds with
  | none => none
  | some (.error x) => some (.error (x, ()))
  | some (.ok d) => some (.ok (d, ()))
abbrev spP (p : Rp) (fr : Bool) (m : List D → Rq D) : Sp := spM pureW p fr (mP m)

def eCallM {A : Type} (m : A → List D → Rs D A) (fl : Fl A) : Fe A := bindE fl fun ds w _ => m w ds
def eCall {A : Type} (m : List D → Rq D) (fl : Fl A) : Fe A := bindE fl fun ds w _ => match m ds with
  | none => none
  | some (.error x) => some (.error (x, w))
  | some (.ok d) => some (.ok (d, w))
section
variable {J : Jc} {O : List Nat} {X : Cx} {pk pk1 pk2 pk3 : Bool} {σ : L2.St} {H H' : Hp} {w : J.G.A} {ρ : Env} {f f1 f2 f3 : Fe J.G.A} {fl : Fl J.G.A} {fr : Bool} {es : List Expr} {e : Expr}
theorem SR.subS (x : SR J O σ H w ρ) : ∀ b, SS J O σ b → ∃ o, H b = some o := by
  rintro b (z | ⟨i, hi, e⟩)
  · obtain ⟨o, e⟩ := J.hS b z
    exact x.fr.dom b o e
  · obtain ⟨_, o, h2, _⟩ := x.fresh i b hi e
    exact ⟨o, h2⟩
theorem SR.err (x : SR J O σ H w ρ) {y : Ex × J.G.A} (h : ErrOk J y) {cls : Value} {dd : Option Addr} (f : J.G.fr H H') (r : J.G.rel y.2 H') (k : RX J.p (hide (SS J O σ) H') y.1 cls dd) : J.E cls dd H' :=
  h cls dd H' (GW.fr_trans x.fr f) r (k.mono (hide_le fun b o n e _ => ⟨e, fun z => n (.inl z)⟩))
/-- from what a caller holds: the callee's promise, in the same world -/
theorem call_sp {m : J.G.A → List D → Rs D J.G.A} {vs : List V} {ds : List D} {Q : VK} {rel : V → D → Hp → Prop} (x : SR J O σ H w ρ) (r : RA J.p (Fz J O σ H) vs ds) (q : PQ J H rel Q (m w ds))
    (hr : ∀ v d H', J.G.fr H H' → RetR J.p (SS J O σ) H fr v d H' → rel v d H') : spM J.G J.p fr m vs H Q J.E := by
  refine ⟨SS J O σ, ds, w, x.subS, fun b h => .inl (J.hU b h), x.rel, r, ?_⟩
  unfold PQ at q
  split
  · rename_i e; rw [e] at q; exact q
  · rename_i e; rw [e] at q; exact fun cls dd H' f r k => x.err q f r k
  · rename_i e; rw [e] at q; exact fun v H' f r k => q v H' f r (hr _ _ _ f k)
/-- .. a def that turns nothing -/
theorem callP_sp {m : List D → Rq D} {vs : List V} {ds : List D} {Q : VK} {rel : V → D → Hp → Prop} (x : SR J O σ H w ρ) (r : RA J.p (Fz J O σ H) vs ds)
    (q : PQ J H rel Q (match m ds with | none => none | some (.error x) => some (.error (x, w)) | some (.ok d) => some (.ok (d, w))))
    (hr : ∀ v d H', J.G.fr H H' → RetR J.p (SS J O σ) H fr v d H' → rel v d H') : spP J.p fr m vs H Q J.E := by
  refine ⟨SS J O σ, ds, (), x.subS, fun b h => h.elim, True.intro, r, ?_⟩
  unfold mP
  cases hm : m ds with
  | none => rw [hm] at q; exact q.elim
  | some y =>
    rw [hm] at q
    cases y with
    | error y => exact fun cls dd H' f _ k => x.err q (GW.fr_same (pureW_same.mp f)) (J.G.same x.rel (pureW_same.mp f)) k
    | ok d => exact fun v H' f _ k => q v H' (GW.fr_same (pureW_same.mp f)) (J.G.same x.rel (pureW_same.mp f)) (hr _ _ _ (GW.fr_same (pureW_same.mp f)) k)
theorem RetR.plain {p : Rp} {S : Addr → Prop} {v : V} {d : D} (h : RetR p S H false v d H') : R p (hide S H') v d := by
  unfold RetR at h
  rw [if_neg (by simp)] at h
  exact h
theorem RetR.new {p : Rp} {S : Addr → Prop} {v : V} {d : D} (h : RetR p S H true v d H') : ∃ a, v = .ref a ∧ H a = none ∧ OwnIs p (minus (hide S H') a) H' a d := by
  unfold RetR at h
  rw [if_pos rfl] at h
  exact h
/-- the call of a def, of its own world or of none; E is what is wished of exceptions -/
theorem em_callM {m : J.G.A → List D → Rs D J.G.A} (he : ∀ {ta : TA}, PA X es ta → PE X e (fun σ H Q => ta σ H fun vs H1 => spM J.G J.p fr m vs H1 Q J.E)) (h : EMs J O X false es fl) (hf : fr = false := by rfl) : EM J O X false e (eCallM m fl) := ⟨PE.imp (he h.pa) fun σ H Q => by
  rintro ⟨w, ρ, x, q⟩
  subst hf
  refine ems_seq x q fun vs H1 ds w1 x1 fr1 r1 q1 => ?_
  exact call_sp x1 (Rls.ra r1) q1 fun v d H' f k => .inl k.plain⟩
theorem ef_callM {m : J.G.A → List D → Rs D J.G.A} (he : ∀ {ta : TA}, PA X es ta → PE X e (fun σ H Q => ta σ H fun vs H1 => spM J.G J.p fr m vs H1 Q J.E)) (h : EMs J O X false es fl) (hf : fr = true := by rfl) : EF J O X e (eCallM m fl) := ⟨PE.imp (he h.pa) fun σ H Q => by
  rintro ⟨w, ρ, x, q⟩
  subst hf
  refine ems_seq x q fun vs H1 ds w1 x1 fr1 r1 q1 => ?_
  refine call_sp x1 (Rls.ra r1) q1 fun v d H' f k => ?_
  obtain ⟨a, e, n, o⟩ := k.new
  exact ⟨a, e, fr1.free n, o⟩⟩
theorem em_call {m : List D → Rq D} (he : ∀ {ta : TA}, PA X es ta → PE X e (fun σ H Q => ta σ H fun vs H1 => spP J.p fr m vs H1 Q J.E)) (h : EMs J O X false es fl) (hf : fr = false := by rfl) : EM J O X false e (eCall m fl) := ⟨PE.imp (he h.pa) fun σ H Q => by
  rintro ⟨w, ρ, x, q⟩
  subst hf
  refine ems_seq x q fun vs H1 ds w1 x1 fr1 r1 q1 => ?_
  exact callP_sp x1 (Rls.ra r1) q1 fun v d H' f k => .inl k.plain⟩
theorem ef_call {m : List D → Rq D} (he : ∀ {ta : TA}, PA X es ta → PE X e (fun σ H Q => ta σ H fun vs H1 => spP J.p fr m vs H1 Q J.E)) (h : EMs J O X false es fl) (hf : fr = true := by rfl) : EF J O X e (eCall m fl) := ⟨PE.imp (he h.pa) fun σ H Q => by
  rintro ⟨w, ρ, x, q⟩
  subst hf
  refine ems_seq x q fun vs H1 ds w1 x1 fr1 r1 q1 => ?_
  refine callP_sp x1 (Rls.ra r1) q1 fun v d H' f k => ?_
  obtain ⟨a, e, n, o⟩ := k.new
  exact ⟨a, e, fr1.free n, o⟩⟩
end
end DL
namespace DL
open L2 PySem PyProof.Rows PySem.Spec

/-! ### statements -/
inductive Out (A : Type) where
  | nx (w : A) (ρ : Env)
  | ret (d : D) (w : A)
  | brk (w : A) (ρ : Env)
  | ct (w : A) (ρ : Env)
  | exc (x : Ex × A)
abbrev Fs (A : Type) := A → Env → Option (Out A)

structure Ev (J : Jc) (O : List Nat) (σ : L2.St) (H : Hp) (σ' : L2.St) (H' : Hp) : Prop where
  keep : ∀ b o, H b = some o → ¬ SS J O σ b → (∀ ps, o ≠ .tbl ps) → H' b = some o ∧ ¬ SS J O σ' b
  len : σ'.length = σ.length
theorem Ev.refl {J : Jc} {O : List Nat} {σ : L2.St} {H : Hp} : Ev J O σ H σ H := ⟨fun _ _ e n _ => ⟨e, n⟩, rfl⟩
theorem Ev.trans {J : Jc} {O : List Nat} {σ σ1 σ2 : L2.St} {H H1 H2 : Hp} (a : Ev J O σ H σ1 H1) (b : Ev J O σ1 H1 σ2 H2) : Ev J O σ H σ2 H2 :=
  ⟨fun c o e n t => let ⟨e1, n1⟩ := a.keep c o e n t; b.keep c o e1 n1 t, b.len.trans a.len⟩
theorem Ev.le {J : Jc} {O : List Nat} {σ σ' : L2.St} {H H' : Hp} (a : Ev J O σ H σ' H') : Le (Fz J O σ H) (Fz J O σ' H') := hide_le fun b o n e t => a.keep b o e n t

def PO (J : Jc) (O : List Nat) (fr : Bool) (Z : Ends) (σ : L2.St) (H : Hp) (r : Option (Out J.G.A)) : Prop := match r with
  | none => False
  | some (.nx w ρ) => ∀ σ' H', Ev J O σ H σ' H' → SR J O σ' H' w ρ → Z.nx σ' H'
  | some (.ret d w) => ∀ v H', J.G.fr J.H0 H' → J.G.rel w H' → RetR J.p J.S0 J.H0 fr v d H' → Z.rt v H'
  | some (.brk w ρ) => ∀ σ' H', Ev J O σ H σ' H' → SR J O σ' H' w ρ → Z.bk σ' H'
  | some (.ct w ρ) => ∀ σ' H', Ev J O σ H σ' H' → SR J O σ' H' w ρ → Z.ct σ' H'
  | some (.exc x) => ErrOk J x
def tS (J : Jc) (O : List Nat) (fr : Bool) (f : Fs J.G.A) : TS := fun Z σ H => ∃ w ρ, SR J O σ H w ρ ∧ PO J O fr Z σ H (f w ρ)
structure SM (J : Jc) (O : List Nat) (fr : Bool) (X : Cx) (st : Stmt) (f : Fs J.G.A) : Prop where
  ps : PS X st (tS J O fr f)
structure SMs (J : Jc) (O : List Nat) (fr : Bool) (X : Cx) (st : List Stmt) (f : Fs J.G.A) : Prop where
  ps : PSs X st (tS J O fr f)
theorem PS.imp {X : Cx} {e : Stmt} {t t' : TS} (h : PS X e t) (k : ∀ Z σ H, t' Z σ H → t Z σ H) : PS X e t' := ⟨fun pins s σ H Z I q => h.run pins s σ H Z I (k Z σ H q)⟩
theorem PSs.imp {X : Cx} {e : List Stmt} {t t' : TS} (h : PSs X e t) (k : ∀ Z σ H, t' Z σ H → t Z σ H) : PSs X e t' := ⟨fun pins s σ H Z I q => h.run pins s σ H Z I (k Z σ H q)⟩

section
variable {J : Jc} {O : List Nat} {fr : Bool} {X : Cx} {pk : Bool} {σ σ1 : L2.St} {H H' H1 : Hp} {w : J.G.A} {ρ : Env} {f f1 f2 : Fe J.G.A} {fl : Fl J.G.A} {g g1 g2 : Fs J.G.A} {Z : Ends} {pos : Pos}
theorem PO.from {r : Option (Out J.G.A)} (h : PO J O fr Z σ H r) (e : Ev J O σ H σ1 H1) : PO J O fr Z σ1 H1 r := by
  unfold PO at h ⊢
  split <;> first | exact h | exact fun σ' H' e2 x => h σ' H' (e.trans e2) x
theorem SR.ev (x : SR J O σ H w ρ) (f : J.G.fr H H') : Ev J O σ H σ H' := ⟨fun b o e n t => ⟨f.keep b o e (x.noU n) fun _ => t, n⟩, rfl⟩
/-- an expression, then a statement's end -/
def seqE {A α : Type} (f : A → Env → Rs α A) (k : α → A → Env → Option (Out A)) : Fs A := fun w ρ => match f w ρ with
  | none => none
  | some (.error x) => some (.exc x)
  | some (.ok (a, w')) => k a w' ρ
theorem PQ.stmt {α β : Type} {f : J.G.A → Env → Rs α J.G.A} {k : α → J.G.A → Env → Option (Out J.G.A)} {rel : β → α → Hp → Prop} (h : PO J O fr Z σ H (seqE f k w ρ))
    : PQ J H rel (fun v H1 => ∃ a w1, J.G.fr H H1 ∧ J.G.rel w1 H1 ∧ rel v a H1 ∧ PO J O fr Z σ H (k a w1 ρ)) (f w ρ) := by
  unfold seqE at h
  unfold PQ
  split
  · rename_i e; rw [e] at h; exact h
  · rename_i e; rw [e] at h; exact h
  · rename_i a w1 e; rw [e] at h; exact fun v H1 f1 r1 k => ⟨a, w1, f1, r1, k, h⟩

def sNil {A : Type} : Fs A := fun w ρ => some (.nx w ρ)
def sCons {A : Type} (f g : Fs A) : Fs A := fun w ρ => match f w ρ with
  | some (.nx w' ρ') => g w' ρ'
  | r => r
def sNo {A : Type} : Fs A := fun _ _ => none
theorem sm_nil : SMs J O fr X [] sNil := ⟨PSs.imp pss_nil fun Z σ H => by
  rintro ⟨w, ρ, x, q⟩
  exact q σ H .refl x⟩
theorem sm_cons {st : Stmt} {sts : List Stmt} (h1 : SM J O fr X st g1) (h2 : SMs J O fr X sts g2) : SMs J O fr X (st :: sts) (sCons g1 g2) := ⟨PSs.imp (pss_cons h1.ps h2.ps) fun Z σ H => by
  rintro ⟨w, ρ, x, q⟩
  refine ⟨w, ρ, x, ?_⟩
  unfold sCons at q
  cases h : g1 w ρ with
  | none => rw [h] at q; exact q
  | some r =>
    rw [h] at q
    cases r with
    | nx w' ρ' => exact fun σ' H' e x' => ⟨w', ρ', x', PO.from q e⟩
    | ret d w' => exact q
    | brk w' ρ' => exact q
    | ct w' ρ' => exact q
    | exc y => exact q⟩
theorem sm_one {st : Stmt} (h1 : SM J O fr X st g1) : SMs J O fr X [st] g1 := ⟨pss_one h1.ps⟩
theorem sm_no {st : Stmt} : SM J O fr X st sNo := ⟨⟨fun pins s σ H Z I h => by
  obtain ⟨w, ρ, x, q⟩ := h
  exact False.elim q⟩⟩
theorem sms_no {sts : List Stmt} : SMs J O fr X sts sNo := ⟨⟨fun pins s σ H Z I h => by
  obtain ⟨w, ρ, x, q⟩ := h
  exact False.elim q⟩⟩
def sBrk {A : Type} : Fs A := fun w ρ => some (.brk w ρ)
def sCt {A : Type} : Fs A := fun w ρ => some (.ct w ρ)
theorem sm_pass : SM J O fr X (.Pass pos) sNil := ⟨PS.imp ps_pass fun Z σ H => by
  rintro ⟨w, ρ, x, q⟩
  exact q σ H .refl x⟩
theorem sm_break : SM J O fr X (.Break pos) sBrk := ⟨PS.imp ps_break fun Z σ H => by
  rintro ⟨w, ρ, x, q⟩
  exact q σ H .refl x⟩
theorem sm_continue : SM J O fr X (.Continue pos) sCt := ⟨PS.imp ps_continue fun Z σ H => by
  rintro ⟨w, ρ, x, q⟩
  exact q σ H .refl x⟩
def sDrop {A : Type} (f : Fe A) : Fs A := seqE f fun _ w ρ => some (.nx w ρ)
theorem sm_expr {e : Expr} (h : EM J O X pk e f) (hs : swapsWith e none pos.line X.env = pure false := by rfl) : SM J O fr X (.Expr e pos) (sDrop f) := ⟨PS.imp (ps_expr h.pe hs) fun Z σ H => by
  rintro ⟨w, ρ, x, q⟩
  refine ⟨w, ρ, x, PQ.mono (PQ.stmt q) fun v H1 ⟨a, w1, f1, r1, rl, q1⟩ => ?_⟩
  exact q1 σ H1 (x.ev f1) (x.step f1 r1)⟩
def sRet {A : Type} (f : Fe A) : Fs A := seqE f fun d w _ => some (.ret d w)
theorem hideS0 : Le (Fz J O σ H) (hide J.S0 H) := hide_le fun b o n e _ => ⟨e, fun z => n (.inl z)⟩
theorem sm_ret {e : Expr} (h : EM J O X false e f) (hf : fr = false := by rfl) : SM J O fr X (.Return (some e) pos) (sRet f) := ⟨PS.imp (ps_ret h.pe) fun Z σ H => by
  rintro ⟨w, ρ, x, q⟩
  subst hf
  refine ⟨w, ρ, x, PQ.mono (PQ.stmt q) fun v H1 ⟨a, w1, f1, r1, rl, q1⟩ => ?_⟩
  refine q1 v H1 (GW.fr_trans x.fr f1) r1 ?_
  unfold RetR
  rw [if_neg (by simp)]
  exact rl.plain.mono hideS0⟩
theorem minus_mono {F F' : Hp} {a : Addr} (h : Le F F') : Le (minus F a) (minus F' a) := fun b o e t => by
  unfold minus at e ⊢
  split at e
  · cases e
  · rename_i n; rw [if_neg n]; exact h b o e t
theorem sm_retF {e : Expr} (h : EF J O X e f) (hf : fr = true := by rfl) : SM J O fr X (.Return (some e) pos) (sRet f) := ⟨PS.imp (ps_ret h.pe) fun Z σ H => by
  rintro ⟨w, ρ, x, q⟩
  subst hf
  refine ⟨w, ρ, x, PQ.mono (PQ.stmt q) fun v H1 ⟨d, w1, f1, r1, rl, q1⟩ => ?_⟩
  refine q1 v H1 (GW.fr_trans x.fr f1) r1 ?_
  obtain ⟨a, e, n, o⟩ := rl
  unfold RetR
  rw [if_pos rfl]
  exact ⟨a, e, x.fr.free n, o.mono (minus_mono hideS0) fun _ z => z⟩⟩
/-- return of an owned name -/
theorem sm_retO {i : Nat} {e : Expr} (h : PE X e (tVar i)) (hO : O.contains i = true) : SM J O fr X (.Return (some e) pos) (sRet (eVar i)) := ⟨PS.imp (ps_ret h) fun Z σ H => by
  rintro ⟨w, ρ, x, q⟩
  unfold sRet seqE eVar at q
  cases hd : ρ[i]? with
  | none => rw [hd] at q; exact q.elim
  | some od =>
    rw [hd] at q
    cases od with
    | none => exact q.elim
    | some d =>
      have hi : i ∈ O := by simpa using hO
      obtain ⟨a, e1, o⟩ := x.own i d hd hi
      obtain ⟨h0, u, hu, wr⟩ := x.fresh i a hi e1
      refine ⟨_, e1, q _ H x.fr x.rel ?_⟩
      have na : Fz J O σ H a = none := hide_in (.inr ⟨i, hi, e1⟩)
      unfold RetR
      cases fr with
      | true =>
        rw [if_pos rfl]
        exact ⟨a, rfl, h0, o.mono (le_minus hideS0 na) fun _ z => z⟩
      | false =>
        rw [if_neg (by simp)]
        refine o.r hideS0 fun u hu => ?_
        rw [hide_of fun z => ?_]
        · exact hu
        · obtain ⟨u', z'⟩ := J.hS a z
          rw [h0] at z'; cases z'⟩
def sIf {A : Type} (c : Fe A) (g1 g2 : Fs A) : Fs A := seqE c fun d w ρ => match d with
  | .bl true => g1 w ρ
  | .bl false => g2 w ρ
  | _ => none
theorem sm_if {c : Expr} {a b : List Stmt} (hc : TM J O X c f) (h1 : SMs J O fr X a g1) (h2 : SMs J O fr X b g2) : SM J O fr X (.If c a b pos) (sIf f g1 g2) := ⟨PS.imp (ps_if hc.pt h1.ps h2.ps) fun Z σ H => by
  rintro ⟨w, ρ, x, q⟩
  refine ⟨w, ρ, x, PQ.mono (PQ.stmt q) fun b H1 ⟨d, w1, f1, r1, rl, q1⟩ => ?_⟩
  subst rl
  cases b
  · exact ⟨w1, ρ, x.step f1 r1, PO.from q1 (x.ev f1)⟩
  · exact ⟨w1, ρ, x.step f1 r1, PO.from q1 (x.ev f1)⟩⟩

/-! ### targets -/
theorem SS_set {i : Nat} {y : Option V} (hi : i ∉ O) {b : Addr} : SS J O (σ.set i y) b ↔ SS J O σ b := by
  unfold SS
  constructor
  · rintro (z | ⟨j, hj, e⟩)
    · exact .inl z
    · refine .inr ⟨j, hj, ?_⟩
      rw [List.getElem?_set_ne (fun z => hi (by rw [z]; exact hj))] at e
      exact e
  · rintro (z | ⟨j, hj, e⟩)
    · exact .inl z
    · refine .inr ⟨j, hj, ?_⟩
      rw [List.getElem?_set_ne (fun z => hi (by rw [z]; exact hj))]
      exact e
theorem hide_congr {S S' : Addr → Prop} {H : Hp} (h : ∀ b, S b ↔ S' b) : hide S H = hide S' H := by
  funext b
  unfold hide
  by_cases q : S b
  · rw [if_pos q, if_pos ((h b).mp q)]
  · rw [if_neg q, if_neg fun z => q ((h b).mpr z)]
theorem SR.store (x : SR J O σ H w ρ) {i : Nat} (hi : i ∉ O) {v : V} {d : D} (r : R J.p (Fz J O σ H) v d) : SR J O (σ.set i (some v)) H w (ρ.set i (some d)) := by
  have e : Fz J O (σ.set i (some v)) H = Fz J O σ H := hide_congr fun b => SS_set hi
  refine ⟨x.fr, x.rel, by simpa using x.len, fun j d' h n => ?_, fun j d' h n => ?_, fun j a hj h => ?_, fun j k a hj hk h1 h2 => ?_⟩
  · rw [e]
    by_cases z : i = j
    · subst z
      by_cases lt : i < ρ.length
      · rw [List.getElem?_set_self lt] at h
        cases h
        exact ⟨v, List.getElem?_set_self (by rw [← x.len]; exact lt), r⟩
      · rw [List.getElem?_eq_none (by simpa using lt)] at h; cases h
    · rw [List.getElem?_set_ne z] at h ⊢
      exact x.val j d' h n
  · have z : i ≠ j := fun z => hi (by rw [z]; exact n)
    rw [e, List.getElem?_set_ne z]
    rw [List.getElem?_set_ne z] at h
    exact x.own j d' h n
  · have z : i ≠ j := fun z => hi (by rw [z]; exact hj)
    rw [List.getElem?_set_ne z] at h
    exact x.fresh j a hj h
  · rw [List.getElem?_set_ne (fun z => hi (by rw [z]; exact hj))] at h1
    rw [List.getElem?_set_ne (fun z => hi (by rw [z]; exact hk))] at h2
    exact x.apart j k a hj hk h1 h2
theorem SR.storeEv {i : Nat} (hi : i ∉ O) {y : Option V} : Ev J O σ H (σ.set i y) H := ⟨fun b o e n _ => ⟨e, fun z => n ((SS_set hi).mp z)⟩, by simp⟩
/-- a target: what it makes of the names -/
abbrev Gt := D → Env → Option Env
def gN (i : Nat) : Gt := fun d ρ => some (ρ.set i (some d))
def tG (J : Jc) (O : List Nat) (sl : List Nat) (g : Gt) : TG := fun v σ H Q => ∃ d w ρ, SR J O σ H w ρ ∧ R J.p (Fz J O σ H) v d ∧ ∃ ρ', g d ρ = some ρ' ∧ ∀ σ', Ev J O σ H σ' H → (∀ j, j ∉ sl → σ'[j]? = σ[j]?) → SR J O σ' H w ρ' → Q σ' H
/-- a target, its slots, what it makes of the names -/
structure GM (J : Jc) (O : List Nat) (X : Cx) (tg : Expr) (sl : List Nat) (g : Gt) : Prop where
  pg : L2.PG X tg (tG J O sl g)
theorem gm_name {i : Nat} {e : Expr} (h : L2.PG X e (gName i)) (hO : O.contains i = false) : GM J O X e [i] (gN i) := ⟨⟨fun pins s σ H v u Q I r q => h.run pins s σ H v u Q I r (by
  obtain ⟨d, w, ρ, x, rv, ρ', e, q⟩ := q
  cases e
  have hi : i ∉ O := by simpa using hO
  exact q _ (SR.storeEv hi) (fun j hj => List.getElem?_set_ne (fun z => hj (by rw [z]; exact List.mem_singleton.mpr rfl))) (x.store hi rv))⟩⟩
/-- several -/
abbrev Gts := List D → Env → Option Env
def gsNil : Gts := fun ds ρ => match ds with
  | [] => some ρ
  | _ => none
def gsCons (g : Gt) (gs : Gts) : Gts := fun ds ρ => match ds with
  | [] => none
  | d :: ds => (g d ρ).bind fun ρ' => gs ds ρ'
def tGs (J : Jc) (O : List Nat) (sl : List Nat) (g : Gts) : TGs := fun vs σ H Q => ∃ ds w ρ, SR J O σ H w ρ ∧ RA J.p (Fz J O σ H) vs ds ∧ ∃ ρ', g ds ρ = some ρ' ∧ ∀ σ', Ev J O σ H σ' H → (∀ j, j ∉ sl → σ'[j]? = σ[j]?) → SR J O σ' H w ρ' → Q σ' H
structure GMs (J : Jc) (O : List Nat) (X : Cx) (tgs : List Expr) (n : Nat) (sl : List Nat) (g : Gts) : Prop where
  pg : PGs X tgs (tGs J O sl g)
  len : ∀ ds ρ ρ', g ds ρ = some ρ' → ds.length = n
theorem gms_nil : GMs J O X [] 0 [] gsNil := ⟨⟨fun pins s σ H vs us Q I r q => pgs_nil.run pins s σ H vs us Q I r (by
  obtain ⟨ds, w, ρ, x, rv, ρ', e, q⟩ := q
  unfold gsNil at e
  split at e
  · cases e
    cases rv
    exact ⟨rfl, q σ .refl (fun _ _ => rfl) x⟩
  · cases e)⟩, fun ds ρ ρ' e => by
  unfold gsNil at e
  split at e
  · rfl
  · cases e⟩
theorem gms_cons {e : Expr} {es : List Expr} {g : Gt} {gs : Gts} {n : Nat} {sl sl2 : List Nat} (h1 : GM J O X e sl g) (h2 : GMs J O X es n sl2 gs) (hs : (assignEach (e :: es) X.env).map (·.2) = assign e X.env :: (assignEach es X.env).map (·.2) := by rfl) : GMs J O X (e :: es) (n + 1) (sl ++ sl2) (gsCons g gs) :=
  ⟨⟨fun pins s σ H vs us Q I r q => (pgs_cons h1.pg h2.pg hs).run pins s σ H vs us Q I r (by
  obtain ⟨ds, w, ρ, x, rv, ρ', e, q⟩ := q
  unfold gsCons at e
  cases rv with
  | nil => cases e
  | cons a b =>
    rename_i v vs d ds
    obtain ⟨ρ1, e1, e2⟩ := Option.bind_eq_some_iff.mp e
    refine ⟨v, vs, rfl, d, w, ρ, x, a, ρ1, e1, fun σ1 ev1 k1 x1 => ⟨ds, w, ρ1, x1, b.mono ev1.le, ρ', e2, fun σ2 ev2 k2 x2 => q σ2 (ev1.trans ev2) (fun j hj => (k2 j fun z => hj (List.mem_append_right _ z)).trans (k1 j fun z => hj (List.mem_append_left _ z))) x2⟩⟩)⟩, fun ds ρ ρ' e => by
  unfold gsCons at e
  split at e
  · cases e
  · obtain ⟨ρ1, e1, e2⟩ := Option.bind_eq_some_iff.mp e
    rw [List.length_cons, h2.len _ _ _ e2]⟩
def gT (gs : Gts) : Gt := fun d ρ => match d with
  | .tup ds => gs ds ρ
  | _ => none
theorem gm_tup {es : List Expr} {k n : Nat} {gs : Gts} {sl : List Nat} (hc : X.calm = true) (h : GMs J O X es n sl gs) (hK : X.K = J.p.K := by rfl)
    (hn : (assignEach es X.env).length = n := by rfl) (hst : (assignEach es X.env).findIdx? (·.1) = none := by rfl) : GM J O X (.Tuple es k pos) sl (gT gs) := ⟨⟨fun pins s σ H v u Q I r q => (pg_tup hc h.pg hn hst).run pins s σ H v u Q I r (by
  obtain ⟨d, w, ρ, x, rv, ρ', e, q⟩ := q
  unfold gT at e
  split at e
  · rename_i ds
    cases rv with
    | tup sq ra =>
      rename_i a xs
      refine ⟨a, xs, rfl, ?_, ?_, ds, w, ρ, x, ra, ρ', e, q⟩
      · rw [hK]; exact hide_le_self.seqT sq
      · rw [ra.length]; exact h.len _ _ _ e
  · cases e)⟩⟩
def sAsg {A : Type} (f : Fe A) (g : Gt) : Fs A := seqE f fun d w ρ => match g d ρ with
  | none => none
  | some ρ' => some (.nx w ρ')
theorem sm_asg {tg e : Expr} {g : Gt} {st : Stmt} {sl : List Nat} (hp : ∀ {te : TE} {tg' : TG}, PE X e te → L2.PG X tg tg' → PS X st (tAsg te tg')) (h : EM J O X false e f) (hg : GM J O X tg sl g) : SM J O fr X st (sAsg f g) := ⟨PS.imp (hp h.pe hg.pg) fun Z σ H => by
  rintro ⟨w, ρ, x, q⟩
  refine ⟨w, ρ, x, PQ.mono (PQ.stmt q) fun v H1 ⟨d, w1, f1, r1, rl, q1⟩ => ?_⟩
  cases hg : g d ρ with
  | none => rw [hg] at q1; exact q1.elim
  | some ρ' =>
    rw [hg] at q1
    exact ⟨d, w1, ρ, x.step f1 r1, rl.plain, ρ', hg, fun σ' ev _ x' => q1 σ' H1 ((x.ev f1).trans ev) x'⟩⟩
theorem sm_set {i : Nat} {e : Expr} {st : Stmt} (hp : ∀ {te : TE}, PE X e te → PS X st (tAsg te (gName i))) (h : EM J O X false e f) (hO : O.contains i = false) : SM J O fr X st (sAsg f (gN i)) := ⟨PS.imp (hp h.pe) fun Z σ H => by
  rintro ⟨w, ρ, x, q⟩
  have hi : i ∉ O := by simpa using hO
  refine ⟨w, ρ, x, PQ.mono (PQ.stmt q) fun v H1 ⟨d, w1, f1, r1, rl, q1⟩ => ?_⟩
  exact q1 _ H1 ((x.ev f1).trans (SR.storeEv hi)) ((x.step f1 r1).store hi rl.plain)⟩

/-! ### an owned name -/
section
variable {a : Addr} {i : Nat} {d : D} {w' : J.G.A}
theorem SS_own {b : Addr} (h : SS J O (σ.set i (some (.ref a))) b) : SS J O σ b ∨ b = a := by
  rcases h with z | ⟨j, hj, e⟩
  · exact .inl (.inl z)
  · by_cases z : i = j
    · subst z
      by_cases lt : i < σ.length
      · rw [List.getElem?_set_self lt] at e
        cases e
        exact .inr rfl
      · rw [List.getElem?_eq_none (by simpa using lt)] at e; cases e
    · rw [List.getElem?_set_ne z] at e
      exact .inl (.inr ⟨j, hj, e⟩)
theorem SR.evO (x : SR J O σ H w ρ) (f : J.G.fr H H') (n : H a = none) : Ev J O σ H (σ.set i (some (.ref a))) H' := ⟨fun b o e nb t =>
  ⟨f.keep b o e (x.noU nb) fun _ => t, fun z => (SS_own z).elim nb fun z => by rw [z, n] at e; cases e⟩, by simp⟩
theorem SR.storeO (x : SR J O σ H w ρ) (f : J.G.fr H H') (r : J.G.rel w' H') (hi : i ∈ O) (n : H a = none) (o : OwnIs J.p (minus (Fz J O σ H') a) H' a d) : SR J O (σ.set i (some (.ref a))) H' w' (ρ.set i (some d)) := by
  have le := (x.evO (i := i) f n).le
  have le2 : Le (minus (Fz J O σ H') a) (Fz J O (σ.set i (some (.ref a))) H') := fun b u e t => by
    unfold minus at e
    split at e
    · cases e
    · rename_i nb
      obtain ⟨nz, e⟩ := of_hide e
      show hide _ _ _ = _
      rw [hide_of fun z => (SS_own z).elim nz nb]
      exact e
  have lt_of : ∀ {j : Nat} {y : V}, (σ.set i (some (.ref a)))[j]? = some (some y) → j < σ.length := fun e => by
    have := (List.getElem?_eq_some_iff.mp e).1
    simpa using this
  have na : ∀ {j : Nat}, j ∈ O → σ[j]? = some (some (.ref a)) → False := fun hj e => by
    obtain ⟨_, u, e2, _⟩ := x.fresh _ a hj e
    rw [n] at e2; cases e2
  refine ⟨GW.fr_trans x.fr f, r, by simpa using x.len, fun j d' h nj => ?_, fun j d' h nj => ?_, fun j b hj h => ?_, fun j k b hj hk h1 h2 => ?_⟩
  · have z : i ≠ j := fun z => nj (by rw [← z]; exact hi)
    rw [List.getElem?_set_ne z] at h ⊢
    obtain ⟨v, e, rv⟩ := x.val j d' h nj
    exact ⟨v, e, rv.mono le⟩
  · by_cases z : i = j
    · subst z
      by_cases lt : i < ρ.length
      · rw [List.getElem?_set_self lt] at h
        cases h
        exact ⟨a, List.getElem?_set_self (by rw [← x.len]; exact lt), o.mono le2 fun _ z => z⟩
      · rw [List.getElem?_eq_none (by simpa using lt)] at h; cases h
    · rw [List.getElem?_set_ne z] at h ⊢
      obtain ⟨b, e, ob⟩ := x.own j d' h nj
      exact ⟨b, e, ob.mono le fun u hu => x.ownKept f nj e hu⟩
  · by_cases z : i = j
    · subst z
      rw [List.getElem?_set_self (lt_of h)] at h
      cases h
      obtain ⟨u, hu, wr⟩ := o.wr
      exact ⟨x.fr.free n, u, hu, wr⟩
    · rw [List.getElem?_set_ne z] at h
      obtain ⟨h0, u, hu, wr⟩ := x.fresh j b hj h
      exact ⟨h0, u, x.ownKept f hj h hu, wr⟩
  · by_cases z1 : i = j
    · by_cases z2 : i = k
      · exact z1.symm.trans z2
      · subst z1
        rw [List.getElem?_set_self (lt_of h1)] at h1
        cases h1
        rw [List.getElem?_set_ne z2] at h2
        exact (na hk h2).elim
    · by_cases z2 : i = k
      · subst z2
        rw [List.getElem?_set_self (lt_of h2)] at h2
        cases h2
        rw [List.getElem?_set_ne z1] at h1
        exact (na hj h1).elim
      · rw [List.getElem?_set_ne z1] at h1
        rw [List.getElem?_set_ne z2] at h2
        exact x.apart j k b hj hk h1 h2
/-- the owned object of slot i is written -/
theorem SR.write (x : SR J O σ H w ρ) (hi : i ∈ O) (e : σ[i]? = some (some (.ref a))) {o : HO} (ho : OwnIs J.p (Fz J O σ H) (upd H a o) a d) : SR J O σ (upd H a o) w (ρ.set i (some d)) ∧ Ev J O σ H σ (upd H a o) := by
  obtain ⟨h0, u, hu, wr⟩ := x.fresh i a hi e
  have hid : SS J O σ a := .inr ⟨i, hi, e⟩
  have le : Le (Fz J O σ H) (Fz J O σ (upd H a o)) := hide_le fun b u e n _ => ⟨by rw [upd_ne (fun z => e (by rw [z]; exact hid))]; exact n, e⟩
  refine ⟨⟨GW.fr_upd x.fr h0, J.G.upd x.rel hu wr fun z => ?_, by simpa using x.len, fun j d' h nj => ?_, fun j d' h nj => ?_, fun j b hj h => ?_, x.apart⟩, ⟨fun b u e n _ => ⟨by rw [upd_ne (fun z => n (by rw [z]; exact hid))]; exact e, n⟩, rfl⟩⟩
  · obtain ⟨q, e'⟩ := J.hS a (J.hU a z)
    rw [h0] at e'; cases e'
  · have z : i ≠ j := fun z => nj (by rw [← z]; exact hi)
    rw [List.getElem?_set_ne z] at h
    obtain ⟨v, e, rv⟩ := x.val j d' h nj
    exact ⟨v, e, rv.mono le⟩
  · by_cases z : i = j
    · subst z
      by_cases lt : i < ρ.length
      · rw [List.getElem?_set_self lt] at h
        cases h
        exact ⟨a, e, ho.mono le fun _ z => z⟩
      · rw [List.getElem?_eq_none (by simpa using lt)] at h; cases h
    · rw [List.getElem?_set_ne z] at h
      obtain ⟨b, e', ob⟩ := x.own j d' h nj
      refine ⟨b, e', ob.mono le fun u hu => ?_⟩
      rw [upd_ne fun zb => z (x.apart i j a hi nj e (by rw [← zb]; exact e'))]
      exact hu
  · by_cases zb : b = a
    · subst zb
      obtain ⟨u', hu', wr'⟩ := ho.wr
      exact ⟨h0, u', hu', wr'⟩
    · obtain ⟨h0', u', hu', wr'⟩ := x.fresh j b hj h
      exact ⟨h0', u', by rw [upd_ne zb]; exact hu', wr'⟩
end
theorem sm_setO {i : Nat} {e : Expr} {st : Stmt} (hp : ∀ {te : TE}, PE X e te → PS X st (tAsg te (gName i))) (h : EF J O X e f) (hO : O.contains i = true) : SM J O fr X st (sAsg f (gN i)) := ⟨PS.imp (hp h.pe) fun Z σ H => by
  rintro ⟨w, ρ, x, q⟩
  have hi : i ∈ O := by simpa using hO
  refine ⟨w, ρ, x, PQ.mono (PQ.stmt q) fun v H1 ⟨d, w1, f1, r1, rl, q1⟩ => ?_⟩
  obtain ⟨a, e, n, o⟩ := rl
  subst e
  exact q1 _ H1 (x.evO f1 n) (x.storeO f1 r1 hi n o)⟩
end

/-! ### loops -/
/-- what a for walks: these items, in whatever heap that keeps what was -/
structure ItOk (p : Rp) (F0 : Hp) (C : Hp → Prop) (ds : List D) (it : It) : Prop where
  go : ∀ F H (i : Nat), Le F0 F → Sit F H → C H → i < ds.length → it.go i H
  yld : ∀ F H (i : Nat) x H', Le F0 F → Sit F H → C H → i < ds.length → it.yld i H x H' → Same H H' ∧ ∃ d, ds[i]? = some d ∧ R p (NewF F H H') x d
  stop : ∀ F H (i : Nat), Le F0 F → Sit F H → C H → i = ds.length → it.stop i H
/-- what is owned stands as at H -/
def OwnSame (O : List Nat) (σ : L2.St) (H H' : Hp) : Prop := ∀ i a o, i ∈ O → σ[i]? = some (some (V.ref a)) → H a = some o → H' a = some o
def ItC (pk : Bool) (O : List Nat) (σ : L2.St) (H : Hp) : Hp → Prop := fun H' => pk = true → OwnSame O σ H H'
def tI (J : Jc) (O : List Nat) (pk : Bool) (f : Fl J.G.A) : TI := fun σ H Q => ∃ w ρ, SR J O σ H w ρ ∧ PQ J H (fun it ds H' => ItOk J.p (Fz J O σ H') (ItC pk O σ H') ds it) Q (f w ρ)
structure EI (J : Jc) (O : List Nat) (X : Cx) (pk : Bool) (tg iter : Expr) (f : Fl J.G.A) : Prop where
  pi : PI X tg iter (tI J O pk f)
def forL {A : Type} (g : Gt) (b : Fs A) : List D → Fs A
  | [], w, ρ => some (.nx w ρ)
  | d :: ds, w, ρ => match g d ρ with
    | none => none
    | some ρ1 => match b w ρ1 with
      | some (.nx w' ρ') => forL g b ds w' ρ'
      | some (.ct w' ρ') => forL g b ds w' ρ'
      | some (.brk w' ρ') => some (.nx w' ρ')
      | r => r
def sFor {A : Type} (f : Fl A) (g : Gt) (b : Fs A) : Fs A := seqE f fun ds => forL g b ds
section
variable {J : Jc} {O : List Nat} {fr : Bool} {X : Cx} {pk : Bool} {σ σ1 : L2.St} {H H' H1 : Hp} {w : J.G.A} {ρ : Env} {f f1 f2 : Fe J.G.A} {fl : Fl J.G.A} {b g1 g2 : Fs J.G.A} {Z : Ends} {pos : Pos} {g : Gt}
theorem sm_for {tg iter : Expr} {body : List Stmt} {sl : List Nat} (hp : PassesOwn (model X.prog X.w) X.A X.env X.xe) (hc : X.calm = true) (hi : EI J O X false tg iter fl) (hg : GM J O X tg sl g) (hb : SMs J O fr X body b)
    (hs : ∀ x, foldedSetIterable iter X.env x = pure x := by intro _; rfl) : SM J O fr X (.For tg iter body [] pos) (sFor fl g b) := ⟨PS.imp (ps_for hp hc hi.pi hg.pg hb.ps hs) fun Z σ H => by
  rintro ⟨w, ρ, x, q⟩
  refine ⟨w, ρ, x, PQ.mono (PQ.stmt q) fun it H1 ⟨ds, w1, f1, r1, rl, q1⟩ => ?_⟩
  have x1 := x.step f1 r1
  have q1 := PO.from q1 (x.ev f1)
  refine ⟨fun i m σ' H' => m = ds.length - i ∧ i ≤ ds.length ∧ Ev J O σ H1 σ' H' ∧ ∃ w' ρ', SR J O σ' H' w' ρ' ∧ PO J O fr Z σ' H' (forL g b (ds.drop i) w' ρ'), ⟨_, rfl, Nat.zero_le _, .refl, w1, ρ, x1, by simpa using q1⟩, ?_⟩
  rintro i m σ' H' ⟨rfl, hl, ev, w', ρ', x', q'⟩
  by_cases lt : i < ds.length
  · refine .inr ⟨rl.go _ H' i ev.le sit (fun z => nomatch z) lt, fun σ2 H2 => Ev J O σ H1 σ2 H2 ∧ ∃ w' ρ', SR J O σ2 H2 w' ρ' ∧ PO J O fr Z σ2 H2 (forL g b (ds.drop (i + 1)) w' ρ'), fun σ2 H2 ⟨e2, n2⟩ => ⟨_, by omega, rfl, lt, e2, n2⟩, fun y H2 hy => ?_⟩
    obtain ⟨s, d, hd, ry⟩ := rl.yld _ H' i y H2 ev.le sit (fun z => nomatch z) lt hy
    replace ry := ry.mono (x'.newF s)
    have x2 := x'.stepSame s
    have ev2 := x'.ev (GW.fr_same s)
    have ed : ds.drop i = d :: ds.drop (i + 1) := by
      rw [List.getElem?_eq_getElem lt] at hd
      cases hd
      exact List.drop_eq_getElem_cons lt
    rw [ed] at q'
    have q' := PO.from q' ev2
    unfold forL at q'
    cases hg : g d ρ' with
    | none => rw [hg] at q'; exact q'.elim
    | some ρ1 =>
      rw [hg] at q'
      refine ⟨d, w', ρ', x2, ry, ρ1, hg, fun σ3 ev3 _ x3 => ⟨w', ρ1, x3, ?_⟩⟩
      have e03 := (ev.trans ev2).trans ev3
      dsimp only at q'
      cases hb : b w' ρ1 with
      | none => rw [hb] at q'; exact q'
      | some r =>
        rw [hb] at q'
        cases r with
        | nx w4 ρ4 => exact fun σ4 H4 ev4 x4 => ⟨e03.trans ev4, w4, ρ4, x4, PO.from q' (ev3.trans ev4)⟩
        | ct w4 ρ4 => exact fun σ4 H4 ev4 x4 => ⟨e03.trans ev4, w4, ρ4, x4, PO.from q' (ev3.trans ev4)⟩
        | brk w4 ρ4 => exact fun σ4 H4 ev4 x4 => q' σ4 H4 (ev3.trans ev4) x4
        | ret d4 w4 => exact q'
        | exc y => exact q'
  · have e : i = ds.length := by omega
    refine .inl ⟨rl.stop _ H' i ev.le sit (fun z => nomatch z) (by omega), ?_⟩
    rw [e, List.drop_length] at q'
    exact q' σ' H' .refl x'⟩

/-! ### while -/
def whileN {A : Type} (c : Fe A) (b : Fs A) : Nat → Fs A
  | 0, _, _ => none
  | n + 1, w, ρ => match c w ρ with
    | some (.ok (.bl true, w1)) => match b w1 ρ with
      | some (.nx w' ρ') => whileN c b n w' ρ'
      | some (.ct w' ρ') => whileN c b n w' ρ'
      | some (.brk w' ρ') => some (.nx w' ρ')
      | r => r
    | some (.ok (.bl false, w1)) => some (.nx w1 ρ)
    | some (.error x) => some (.exc x)
    | _ => none
open Classical in
noncomputable def sWhile {A : Type} (c : Fe A) (b : Fs A) : Fs A := fun w ρ => if h : ∃ n, (whileN c b n w ρ).isSome = true then whileN c b (Classical.choose h) w ρ else none
theorem sm_while {c : Expr} {body : List Stmt} (hp : PassesOwn (model X.prog X.w) X.A X.env X.xe) (hc : TM J O X c f) (hb : SMs J O fr X body b) : SM J O fr X (.While c body [] pos) (sWhile f b) := ⟨PS.imp (ps_while hp hc.pt hb.ps) fun Z σ H => by
  rintro ⟨w, ρ, x, q⟩
  obtain ⟨n, q⟩ : ∃ n, PO J O fr Z σ H (whileN f b n w ρ) := by
    unfold sWhile at q
    split at q
    · exact ⟨_, q⟩
    · exact q.elim
  refine ⟨fun m σ' H' => ∃ w' ρ', SR J O σ' H' w' ρ' ∧ PO J O fr Z σ' H' (whileN f b m w' ρ'), ⟨n, w, ρ, x, q⟩, ?_⟩
  rintro m σ' H' ⟨w', ρ', x', q'⟩
  cases m with
  | zero => exact q'.elim
  | succ m =>
    unfold whileN at q'
    refine ⟨w', ρ', x', ?_⟩
    unfold PQ
    cases hf : f w' ρ' with
    | none => rw [hf] at q'; exact q'
    | some r =>
      rw [hf] at q'
      cases r with
      | error y => exact q'
      | ok r =>
        obtain ⟨d, w1⟩ := r
        rintro k H1 f1 r1 rfl
        have x1 := x'.step f1 r1
        have ev1 := x'.ev f1
        cases k
        · exact q' σ' H1 ev1 x1
        · rw [if_pos rfl]
          dsimp only at q'
          refine ⟨fun σ2 H2 => ∃ w' ρ', SR J O σ2 H2 w' ρ' ∧ PO J O fr Z σ2 H2 (whileN f b m w' ρ'), fun σ2 H2 n2 => ⟨m, Nat.lt_succ_self m, n2⟩, w1, ρ', x1, ?_⟩
          cases hb : b w1 ρ' with
          | none => rw [hb] at q'; exact q'
          | some r =>
            rw [hb] at q'
            cases r with
            | nx w4 ρ4 => exact fun σ4 H4 ev4 x4 => ⟨w4, ρ4, x4, PO.from q' (ev1.trans ev4)⟩
            | ct w4 ρ4 => exact fun σ4 H4 ev4 x4 => ⟨w4, ρ4, x4, PO.from q' (ev1.trans ev4)⟩
            | brk w4 ρ4 => exact fun σ4 H4 ev4 x4 => q' σ4 H4 (ev1.trans ev4) x4
            | ret d4 w4 => exact q'
            | exc y => exact q'⟩
end
end DL
namespace DL
open L2 PySem PyProof.Rows PySem.Spec

/-! ### comprehensions -/
def wipeE (ρ : Env) : List Nat → Env
  | [] => ρ
  | v :: vs => (wipeE ρ vs).set v none
def compL {A : Type} (g : Gt) (tt te : Fe A) : List D → A → Env → Rs (List D) A
  | [], w, _ => some (.ok ([], w))
  | d :: ds, w, ρ => match g d ρ with
    | none => none
    | some ρ1 => match tt w ρ1 with
      | some (.ok (.bl true, w1)) => match te w1 ρ1 with
        | some (.ok (y, w2)) => match compL g tt te ds w2 ρ with
          | some (.ok (ys, w3)) => some (.ok (y :: ys, w3))
          | _ => none
        | _ => none
      | some (.ok (.bl false, w1)) => compL g tt te ds w1 ρ
      | _ => none
def eComp {A : Type} (fl : Fl A) (vs : List Nat) (g : Gt) (tt te : Fe A) : Fe A := bindE fl fun ds w ρ => match compL g tt te ds w (wipeE ρ vs) with
  | some (.ok (ys, w')) => if ys.length < 16000000 then some (.ok (.lst ys, w')) else none
  | _ => none
/-- within a comprehension's block: more is hidden, nothing is let out -/
abbrev Jc.sub (J : Jc) (H0 : Hp) (S0 : Addr → Prop) (hS : ∀ b, S0 b → ∃ o, H0 b = some o) (hU : ∀ b, J.G.U b → S0 b) : Jc := { G := J.G, p := J.p, H0 := H0, S0 := S0, E := fun _ _ _ => False, hS := hS, hU := hU }
structure TMs (J : Jc) (O : List Nat) (X : Cx) (ifs : List Expr) (f : Fe J.G.A) : Prop where
  pt : PTs X ifs (tMT J O f)
theorem wipe_of {σ σ' : L2.St} {vs : List Nat} (hl : σ'.length = σ.length) (h : ∀ j, j ∉ vs → σ'[j]? = σ[j]?) : wipe σ' vs = wipe σ vs := by
  have go : ∀ (vs ws : List Nat), (∀ j, j ∉ vs → j ∉ ws → σ'[j]? = σ[j]?) → (∀ j, j ∉ ws → (wipe σ' vs)[j]? = (wipe σ vs)[j]?) := by
    intro vs
    induction vs with
    | nil => intro ws h j hj; exact h j (by simp) hj
    | cons v vs ih =>
      intro ws h j hj
      unfold wipe
      by_cases e : v = j
      · subst e
        by_cases lt : v < σ.length
        · rw [List.getElem?_set_self (by rw [wipe_length, hl]; exact lt), List.getElem?_set_self (by rw [wipe_length]; exact lt)]
        · rw [List.getElem?_eq_none (by simp [wipe_length]; omega), List.getElem?_eq_none (by simp [wipe_length]; omega)]
      · rw [List.getElem?_set_ne e, List.getElem?_set_ne e]
        refine ih (v :: ws) (fun j h1 h2 => h j ?_ (fun z => h2 (List.mem_cons_of_mem _ z))) j (by simp only [List.mem_cons, not_or]; exact ⟨fun z => e z.symm, hj⟩)
        simp only [List.mem_cons, not_or]
        exact ⟨fun z => h2 (by rw [z]; exact List.mem_cons_self), h1⟩
  refine List.ext_getElem? fun j => ?_
  by_cases hj : j ∈ vs
  · have key : ∀ (τ : L2.St) (vs : List Nat), j ∈ vs → (wipe τ vs)[j]? = if j < τ.length then some none else none := by
      intro τ vs
      induction vs with
      | nil => intro h; cases h
      | cons v vs ih =>
        intro h
        unfold wipe
        by_cases e : v = j
        · subst e
          by_cases lt : v < τ.length
          · rw [List.getElem?_set_self (by rw [wipe_length]; exact lt), if_pos lt]
          · rw [List.getElem?_eq_none (by simp [wipe_length]; omega), if_neg lt]
        · rw [List.getElem?_set_ne e]
          exact ih ((List.mem_cons.mp h).resolve_left fun z => e z.symm)
    rw [key _ _ hj, key _ _ hj, hl]
  · exact go vs vs (fun j h1 _ => h j h1) j hj
theorem wipe_at {σ : L2.St} {j : Nat} : ∀ {vs : List Nat}, j ∉ vs → (L2.wipe σ vs)[j]? = σ[j]?
  | [], _ => rfl
  | v :: vs, h => by
    simp only [List.mem_cons, not_or] at h
    unfold L2.wipe
    rw [List.getElem?_set_ne (fun z => h.1 z.symm)]
    exact wipe_at h.2
section
variable {J : Jc} {O : List Nat} {fr : Bool} {X : Cx} {pk : Bool} {σ σ1 : L2.St} {H H' H1 : Hp} {w : J.G.A} {ρ : Env} {f tt te : Fe J.G.A} {fl : Fl J.G.A} {b g1 g2 : Fs J.G.A} {Z : Ends} {pos : Pos} {g : Gt}
theorem SR.wipe (x : SR J O σ H w ρ) : ∀ {vs : List Nat}, (∀ i, i ∈ vs → i ∉ O) → SR J O (L2.wipe σ vs) H w (wipeE ρ vs)
  | [], _ => x
  | v :: vs, h => by
    have x := SR.wipe x (vs := vs) fun i hi => h i (List.mem_cons_of_mem _ hi)
    have hv := h v List.mem_cons_self
    unfold L2.wipe wipeE
    have e : Fz J O ((L2.wipe σ vs).set v none) H = Fz J O (L2.wipe σ vs) H := hide_congr fun b => SS_set hv
    refine ⟨x.fr, x.rel, by simpa using x.len, fun j d' h n => ?_, fun j d' h n => ?_, fun j a hj h => ?_, fun j k a hj hk h1 h2 => ?_⟩
    · rw [e]
      by_cases z : v = j
      · subst z
        by_cases lt : v < (wipeE ρ vs).length
        · rw [List.getElem?_set_self lt] at h
          cases h
        · rw [List.getElem?_eq_none (by simpa using lt)] at h; cases h
      · rw [List.getElem?_set_ne z] at h ⊢
        exact x.val j d' h n
    · have z : v ≠ j := fun z => hv (by rw [z]; exact n)
      rw [e, List.getElem?_set_ne z]
      rw [List.getElem?_set_ne z] at h
      exact x.own j d' h n
    · have z : v ≠ j := fun z => hv (by rw [z]; exact hj)
      rw [List.getElem?_set_ne z] at h
      exact x.fresh j a hj h
    · rw [List.getElem?_set_ne (fun z => hv (by rw [z]; exact hj))] at h1
      rw [List.getElem?_set_ne (fun z => hv (by rw [z]; exact hk))] at h2
      exact x.apart j k a hj hk h1 h2
theorem wipe_own {vs : List Nat} (h : ∀ i, i ∈ vs → i ∉ O) (b : Addr) : SS J O (L2.wipe σ vs) b ↔ SS J O σ b := by
  induction vs with
  | nil => exact Iff.rfl
  | cons v vs ih =>
    unfold L2.wipe
    exact (SS_set (h v List.mem_cons_self)).trans (ih fun i hi => h i (List.mem_cons_of_mem _ hi))

/-- the state within a block: the new list at D is hidden -/
theorem SR.block (x : SR J O σ H1 w ρ) {w' : J.G.A} {L : Addr} {acc : List V} (hL : H1 L = none) (f : J.G.fr H1 H) (r : J.G.rel w' H) (e : H L = some (.lst acc))
    (hS : ∀ b, (J.S0 b ∨ b = L) → ∃ o, upd J.H0 L (.lst acc) b = some o) (hU : ∀ b, J.G.U b → (J.S0 b ∨ b = L)) : SR (J.sub (upd J.H0 L (.lst acc)) (fun b => J.S0 b ∨ b = L) hS hU) O σ H w' ρ := by
  have h0 : J.H0 L = none := x.fr.free hL
  have ss : ∀ b, SS (J.sub (upd J.H0 L (.lst acc)) (fun b => J.S0 b ∨ b = L) hS hU) O σ b ↔ SS J O σ b ∨ b = L := fun b => by
    unfold SS
    constructor
    · rintro ((z | z) | z)
      · exact .inl (.inl z)
      · exact .inr z
      · exact .inl (.inr z)
    · rintro ((z | z) | z)
      · exact .inl (.inl z)
      · exact .inr z
      · exact .inl (.inr z)
  have le : Le (Fz J O σ H1) (Fz (J.sub (upd J.H0 L (.lst acc)) (fun b => J.S0 b ∨ b = L) hS hU) O σ H) := hide_le fun b o n e t =>
    ⟨f.keep b o e (x.noU n) fun _ => t, fun z => ((ss b).mp z).elim n fun z => by rw [z, hL] at e; cases e⟩
  refine ⟨⟨fun b o eb nu t => ?_, fun b o eb => ?_⟩, r, x.len, fun i d h n => ?_, fun i d h n => ?_, fun i a hi h => ?_, x.apart⟩
  · have eb : upd J.H0 L (.lst acc) b = some o := eb
    by_cases z : b = L
    · subst z
      rw [upd_same] at eb
      cases eb
      exact e
    · rw [upd_ne z] at eb
      exact (GW.fr_trans x.fr f).keep b o eb nu t
  · have eb : upd J.H0 L (.lst acc) b = some o := eb
    by_cases z : b = L
    · subst z
      exact ⟨_, e⟩
    · rw [upd_ne z] at eb
      exact (GW.fr_trans x.fr f).dom b o eb
  · obtain ⟨v, e, rv⟩ := x.val i d h n
    exact ⟨v, e, rv.mono le⟩
  · obtain ⟨a, e, o⟩ := x.own i d h n
    exact ⟨a, e, o.mono le fun u hu => x.ownKept f n e hu⟩
  · obtain ⟨q, u, hu, wr⟩ := x.fresh i a hi h
    have na : a ≠ L := fun z => by rw [z, hL] at hu; cases hu
    refine ⟨?_, u, x.ownKept f hi h hu, wr⟩
    show upd J.H0 L (.lst acc) a = none
    rw [upd_ne na]
    exact q

theorem ef_compCore {tg iter elt : Expr} {ifs : List Expr} {scope : Scope} {own : List (Str × Nat)} {sl : List Nat} (hi : EI J O X pk tg iter fl)
    (hv : ∀ i, i ∈ own.map (·.2) → O.contains i = false) (hsl : ∀ i, i ∈ sl → i ∈ own.map (·.2))
    (hg : ∀ H0 S0 hS hU (s : Shared) (H : Hp) (C : Addr) (cl : List (Str × Addr)) (fp : List Addr), GM (J.sub H0 S0 hS hU) O (X.blk s H scope (compEnvC scope cl C X.env) fp) tg sl g)
    (ht : ∀ H0 S0 hS hU (s : Shared) (H : Hp) (C : Addr) (cl : List (Str × Addr)) (fp : List Addr), TMs (J.sub H0 S0 hS hU) O (X.blk s H scope (compEnvC scope cl C X.env) fp) ifs tt)
    (he : ∀ H0 S0 hS hU (s : Shared) (H : Hp) (C : Addr) (cl : List (Str × Addr)) (fp : List Addr), EM (J.sub H0 S0 hS hU) O (X.blk s H scope (compEnvC scope cl C X.env) fp) false elt te) :
    ∃ (g' : TG) (tt' : TT) (te' : TE), (∀ (s : Shared) (H : Hp) (C : Addr) (cl : List (Str × Addr)) (fp : List Addr), L2.PG (X.blk s H scope (compEnvC scope cl C X.env) fp) tg g') ∧
      (∀ (s : Shared) (H : Hp) (C : Addr) (cl : List (Str × Addr)) (fp : List Addr), PTs (X.blk s H scope (compEnvC scope cl C X.env) fp) ifs tt') ∧
      (∀ (s : Shared) (H : Hp) (C : Addr) (cl : List (Str × Addr)) (fp : List Addr), PE (X.blk s H scope (compEnvC scope cl C X.env) fp) elt te') ∧
      ∀ σ H Q, tF J O (eComp fl (own.map (·.2)) g tt te) σ H Q → tLc (tI J O pk fl) g' tt' te' (own.map (·.2)) σ H Q := by
  refine ⟨fun v σ H Q => ∃ H0 S0 hS hU, tG (J.sub H0 S0 hS hU) O sl g v σ H Q, fun σ H Q => ∃ H0 S0 hS hU, tMT (J.sub H0 S0 hS hU) O tt σ H Q, fun σ H Q => ∃ H0 S0 hS hU, tM (J.sub H0 S0 hS hU) O false te σ H Q,
    fun s H C cl fp => ⟨fun pins s1 σ H1 v u Q I r q => ?_⟩, fun s H C cl fp => ⟨fun pins s1 σ H1 Q I q => ?_⟩, fun s H C cl fp => ⟨fun pins s1 σ H1 Q I q => ?_⟩, fun σ H Q => ?_⟩
  · obtain ⟨H0, S0, hS, hU, q⟩ := q
    exact (hg H0 S0 hS hU s H C cl fp).pg.run pins s1 σ H1 v u Q I r q
  · obtain ⟨H0, S0, hS, hU, q⟩ := q
    exact (ht H0 S0 hS hU s H C cl fp).pt.run pins s1 σ H1 Q I q
  · obtain ⟨H0, S0, hS, hU, q⟩ := q
    exact (he H0 S0 hS hU s H C cl fp).pe.run pins s1 σ H1 Q I q
  · rintro ⟨w, ρ, x, q⟩
    refine ⟨w, ρ, x, PQ.mono (PQ.bind q) fun it H1 ⟨ds, w1, f1, r1, rl, q1⟩ L hL => ?_⟩
    have x1 := x.step f1 r1
    have hO : ∀ i, i ∈ own.map (·.2) → i ∉ O := fun i hi => by simpa using hv i hi
    obtain ⟨ys0, w0, hc0, hz0, q0⟩ : ∃ ys w3, compL g tt te ds w1 (wipeE ρ (own.map (·.2))) = some (.ok (ys, w3)) ∧ ys.length < 16000000 ∧ PQ J H1 (RelF J O σ H) Q (some (.ok (.lst ys, w3))) := by
      cases hc : compL g tt te ds w1 (wipeE ρ (own.map (·.2))) with
      | none => rw [hc] at q1; exact q1.elim
      | some r =>
        rw [hc] at q1
        cases r with
        | error y => exact q1.elim
        | ok r =>
          obtain ⟨ys, w3⟩ := r
          dsimp only at q1
          split at q1
          · exact ⟨ys, w3, rfl, by assumption, q1⟩
          · exact q1.elim
    have nF1 : Fz J O σ H1 L = none := by
      show hide _ _ _ = _
      rw [hide_of (x1.hid hL)]; exact hL
    refine ⟨fun i m H' => m = ds.length - i ∧ i ≤ ds.length ∧ J.G.fr H1 H' ∧ ∃ (w' : J.G.A) (acc : List V) (dacc ys : List D) (w3 : J.G.A), J.G.rel w' H' ∧ H' L = some (.lst acc) ∧ RA J.p (minus (Fz J O σ H') L) acc dacc ∧
      compL g tt te (ds.drop i) w' (wipeE ρ (own.map (·.2))) = some (.ok (ys, w3)) ∧ (dacc ++ ys).length < 16000000 ∧ PQ J H1 (RelF J O σ H) Q (some (.ok (.lst (dacc ++ ys), w3))),
      ⟨_, rfl, Nat.zero_le _, GW.fr_same (same_new hL), w1, [], [], ys0, w0, J.G.same x1.rel (same_new hL), upd_same, .nil, by simpa using hc0, by simpa using hz0, by simpa using q0⟩, ?_⟩
    rintro i m H' ⟨rfl, hl, fr', w', acc, dacc, ys, w3, rel', eL, ra, hc, hz, qz⟩
    have x' := x1.step fr' rel'
    have own' : ItC pk O σ H1 H' := fun _ i a o hi e ho => x1.ownKept fr' hi e ho
    -- within the block
    have hS : ∀ b, (J.S0 b ∨ b = L) → ∃ o, upd J.H0 L (.lst acc) b = some o := fun b hb => by
      by_cases z : b = L
      · subst z; exact ⟨_, upd_same⟩
      · rw [upd_ne z]; exact J.hS b (hb.resolve_right z)
    have hU : ∀ b, J.G.U b → (J.S0 b ∨ b = L) := fun b hb => .inl (J.hU b hb)
    have xb := (x1.block hL fr' rel' eL hS hU).wipe hO
    have leb : Le (Fz J O σ H1) (Fz (J.sub (upd J.H0 L (.lst acc)) (fun b => J.S0 b ∨ b = L) hS hU) O (L2.wipe σ (own.map (·.2))) H') := by
      have e : Fz (J.sub (upd J.H0 L (.lst acc)) (fun b => J.S0 b ∨ b = L) hS hU) O (L2.wipe σ (own.map (·.2))) H' = Fz (J.sub (upd J.H0 L (.lst acc)) (fun b => J.S0 b ∨ b = L) hS hU) O σ H' := hide_congr fun b => wipe_own hO b
      rw [e]
      refine hide_le fun b o n e t => ⟨fr'.keep b o e (x1.noU n) fun _ => t, ?_⟩
      rintro ((z | z) | z)
      · exact n (.inl z)
      · rw [z, hL] at e; cases e
      · exact n (.inr z)
    by_cases lt : i < ds.length
    · have ed : ds.drop i = ds[i] :: ds.drop (i + 1) := List.drop_eq_getElem_cons lt
      rw [ed] at hc
      unfold compL at hc
      refine .inr ⟨rl.go _ H' i leb sit own' lt, fun H2 => i + 1 ≤ ds.length ∧ J.G.fr H1 H2 ∧ ∃ (w' : J.G.A) (acc : List V) (dacc ys : List D) (w3 : J.G.A), J.G.rel w' H2 ∧ H2 L = some (.lst acc) ∧ RA J.p (minus (Fz J O σ H2) L) acc dacc ∧
        compL g tt te (ds.drop (i + 1)) w' (wipeE ρ (own.map (·.2))) = some (.ok (ys, w3)) ∧ (dacc ++ ys).length < 16000000 ∧ PQ J H1 (RelF J O σ H) Q (some (.ok (.lst (dacc ++ ys), w3))), fun H2 n2 => ⟨ds.length - (i + 1), by omega, rfl, n2⟩, fun y H2 hy => ?_⟩
      obtain ⟨s, d, hd, ry⟩ := rl.yld _ H' i y H2 leb sit own' lt hy
      replace ry := ry.mono (xb.newF s)
      have ed' : d = ds[i] := by
        rw [List.getElem?_eq_getElem lt] at hd
        exact (Option.some.inj hd).symm
      subst ed'
      cases hg1 : g ds[i] (wipeE ρ (own.map (·.2))) with
      | none => rw [hg1] at hc; cases hc
      | some ρ1 =>
        rw [hg1] at hc
        dsimp only at hc
        have xb2 := xb.stepSame s
        refine ⟨_, _, hS, hU, ds[i], w', wipeE ρ (own.map (·.2)), xb2, ry, ρ1, hg1, fun σ2 ev2 k2 x2 => ⟨?_, _, _, hS, hU, w', ρ1, x2, ?_⟩⟩
        · have h1 : wipe σ2 (own.map (·.2)) = wipe (L2.wipe σ (own.map (·.2))) (own.map (·.2)) := wipe_of ev2.len fun j hj => k2 j fun z => hj (hsl j z)
          rw [h1]
          exact wipe_of (wipe_length _ _) fun j hj => wipe_at hj
        · -- what the block keeps of the new list
          have kL : ∀ {H3 H4 : Hp}, (J.sub (upd J.H0 L (.lst acc)) (fun b => J.S0 b ∨ b = L) hS hU).G.fr H3 H4 → H3 L = some (.lst acc) → H4 L = some (.lst acc) := fun {H3 H4} f e => by
            refine f.keep L _ e (fun z => ?_) fun _ ps z => nomatch z
            obtain ⟨o, e0⟩ := J.hS L (J.hU L z)
            rw [x1.fr.free hL] at e0; cases e0
          have grown : ∀ {H3 : Hp} {w4 : J.G.A}, J.G.fr H2 H3 → J.G.rel w4 H3 → Le (minus (Fz J O σ H') L) (minus (Fz J O σ H3) L) := fun {H3 w4} f r => minus_mono ((x'.le (GW.fr_same s)).trans ((x'.stepSame s).le f))
          have frA : ∀ {H3 : Hp}, J.G.fr H2 H3 → J.G.fr H1 H3 := fun {H3} f => GW.fr_trans fr' (GW.fr_trans (GW.fr_same s) f)
          cases ht1 : tt w' ρ1 with
          | none => rw [ht1] at hc; cases hc
          | some r =>
            rw [ht1] at hc
            cases r with
            | error y => cases hc
            | ok r =>
              obtain ⟨dk, wk⟩ := r
              rintro k H3 f3 r3 rfl
              have f3 : J.G.fr H2 H3 := f3
              have e3 : H3 L = some (.lst acc) := kL f3 (s L _ eL)
              cases k with
              | false =>
                rw [if_neg Bool.false_ne_true]
                dsimp only at hc
                exact ⟨lt, frA f3, wk, acc, dacc, ys, w3, r3, e3, ra.mono (grown f3 r3), hc, hz, qz⟩
              | true =>
                rw [if_pos rfl]
                dsimp only at hc
                refine ⟨_, _, hS, hU, wk, ρ1, x2.step f3 r3, ?_⟩
                cases he1 : te wk ρ1 with
                | none => rw [he1] at hc; cases hc
                | some r =>
                  rw [he1] at hc
                  cases r with
                  | error y => cases hc
                  | ok r =>
                    obtain ⟨dy, wy⟩ := r
                    dsimp only at hc
                    cases hc2 : compL g tt te (ds.drop (i + 1)) wy (wipeE ρ (own.map (·.2))) with
                    | none => rw [hc2] at hc; cases hc
                    | some r =>
                      rw [hc2] at hc
                      cases r with
                      | error y => cases hc
                      | ok r =>
                        obtain ⟨ys2, w5⟩ := r
                        cases hc
                        intro yv H4 f4 r4 ry4
                        have f4 : J.G.fr H3 H4 := f4
                        have e4 : H4 L = some (.lst acc) := kL f4 e3
                        have lz : acc.length < sizeLine := by
                          rw [ra.length]
                          rw [List.length_append] at hz
                          rw [sizeLine_eq]
                          omega
                        have f24 : J.G.fr H2 H4 := GW.fr_trans f3 f4
                        have lw : Le (Fz (J.sub (upd J.H0 L (.lst acc)) (fun b => J.S0 b ∨ b = L) hS hU) O σ2 H4) (minus (Fz J O σ (upd H4 L (.lst (acc ++ [yv])))) L) := fun b u e t => by
                          obtain ⟨nb, e⟩ := of_hide e
                          have nL : b ≠ L := fun z => nb (.inl (.inr z))
                          unfold minus
                          rw [if_neg nL]
                          show hide _ _ _ = _
                          rw [hide_of fun z => ?_, upd_ne nL]
                          · exact e
                          · refine nb ?_
                            rcases z with z | ⟨j, hj, z⟩
                            · exact .inl (.inl z)
                            · refine .inr ⟨j, hj, ?_⟩
                              have j1 : j ∉ own.map (·.2) := fun q => hO j q hj
                              rw [k2 j fun q => j1 (hsl j q), wipe_at j1]
                              exact z
                        have nUL : ¬ J.G.U L := fun z => by
                          obtain ⟨o, e0⟩ := J.hS L (J.hU L z)
                          rw [x1.fr.free hL] at e0; cases e0
                        have ups : ∀ b u, b ≠ L → H4 b = some u → upd H4 L (.lst (acc ++ [yv])) b = some u := fun b u nb e => by rw [upd_ne nb]; exact e
                        refine ⟨acc, e4, lz, lt, ⟨fun b u e nu t => ?_, fun b u e => ?_⟩, wy, acc ++ [yv], dacc ++ [dy], ys2, w3, ?_, upd_same, (ra.mono ((grown f24 r4).trans ?_)).append (.cons (ry4.plain.mono lw) .nil), hc2, by simpa using hz, by simpa using qz⟩
                        · exact ups b u (fun z => by rw [z, hL] at e; cases e) ((frA f24).keep b u e nu t)
                        · obtain ⟨u', e'⟩ := (frA f24).dom b u e
                          exact ⟨u', ups b u' (fun z => by rw [z, hL] at e; cases e) e'⟩
                        · exact J.G.upd r4 e4 (.inl ⟨_, rfl⟩) nUL
                        · intro b u e t
                          unfold minus at e ⊢
                          split at e
                          · cases e
                          · rename_i nb
                            rw [if_neg nb]
                            obtain ⟨n1, e⟩ := of_hide e
                            show hide _ _ _ = _
                            rw [hide_of n1]
                            exact ups b u nb e
    · have e : i = ds.length := by omega
      rw [e, List.drop_length] at hc
      unfold compL at hc
      cases hc
      refine .inl ⟨rl.stop _ H' i leb sit own' (by omega), ?_⟩
      rw [List.append_nil] at qz
      exact qz (.ref L) H' fr' rel' ⟨L, rfl, f1.free hL, acc, eL, ra⟩

variable {tg iter elt : Expr} {ifs : List Expr} {scope : Scope} {own : List (Str × Nat)} {sl : List Nat}
theorem ef_comp (hc : X.calm = true) (hN : X.N.Nodup) (ok : BlkOk X.N X.env.scope scope own) (hi : EI J O X pk tg iter fl)
    (hg : ∀ H0 S0 hS hU (s : Shared) (H : Hp) (C : Addr) (cl : List (Str × Addr)) (fp : List Addr), GM (J.sub H0 S0 hS hU) O (X.blk s H scope (compEnvC scope cl C X.env) fp) tg sl g)
    (ht : ∀ H0 S0 hS hU (s : Shared) (H : Hp) (C : Addr) (cl : List (Str × Addr)) (fp : List Addr), TMs (J.sub H0 S0 hS hU) O (X.blk s H scope (compEnvC scope cl C X.env) fp) ifs tt)
    (he : ∀ H0 S0 hS hU (s : Shared) (H : Hp) (C : Addr) (cl : List (Str × Addr)) (fp : List Addr), EM (J.sub H0 S0 hS hU) O (X.blk s H scope (compEnvC scope cl C X.env) fp) false elt te)
    (hv : (own.map (·.2)).all (fun i => !O.contains i) = true := by decide) (hsl : sl.all (fun i => (own.map (·.2)).contains i) = true := by decide)
    (hs : ∀ x, foldedSetIterable iter X.env x = pure x := by intro _; rfl) : EF J O X (.ListComp elt [⟨tg, iter, ifs, 0⟩] scope pos) (eComp fl (own.map (·.2)) g tt te) := by
  obtain ⟨g', tt', te', h1, h2, h3, h4⟩ := ef_compCore hi (fun i hi => by simpa using List.all_eq_true.mp hv i hi) (fun i hi => by simpa using List.all_eq_true.mp hsl i hi) hg ht he
  exact ⟨PE.imp (pe_lc hc hN hi.pi ok h1 h2 h3 hs) h4⟩
/-- name = [..] on one line -/
theorem sm_setComp {i : Nat} {y : Str} {py spos : Pos} (hc : X.calm = true) (hN : X.N.Nodup) (hy : X.N[i]? = some y) (hyl : X.env.scope.names.lookup y = some .local)
    (hsw : swapsWith (.ListComp elt [⟨tg, iter, ifs, 0⟩] scope pos) (some (.Name y py)) spos.line X.env = pure true) (ok : BlkOk X.N X.env.scope scope own) (hi : EI J O X pk tg iter fl)
    (hg : ∀ H0 S0 hS hU (s : Shared) (H : Hp) (C : Addr) (cl : List (Str × Addr)) (fp : List Addr), GM (J.sub H0 S0 hS hU) O (X.blk s H scope (compEnvC scope cl C X.env) fp) tg sl g)
    (ht : ∀ H0 S0 hS hU (s : Shared) (H : Hp) (C : Addr) (cl : List (Str × Addr)) (fp : List Addr), TMs (J.sub H0 S0 hS hU) O (X.blk s H scope (compEnvC scope cl C X.env) fp) ifs tt)
    (he : ∀ H0 S0 hS hU (s : Shared) (H : Hp) (C : Addr) (cl : List (Str × Addr)) (fp : List Addr), EM (J.sub H0 S0 hS hU) O (X.blk s H scope (compEnvC scope cl C X.env) fp) false elt te)
    (hv : (own.map (·.2)).all (fun i => !O.contains i) = true := by decide) (hsl : sl.all (fun i => (own.map (·.2)).contains i) = true := by decide)
    (hs : ∀ x, foldedSetIterable iter X.env x = pure x := by intro _; rfl) : SM J O fr X (.Assign [.Name y py] (.ListComp elt [⟨tg, iter, ifs, 0⟩] scope pos) spos) (sAsg (eComp fl (own.map (·.2)) g tt te) (gN i)) := by
  obtain ⟨g', tt', te', h1, h2, h3, h4⟩ := ef_compCore hi (fun i hi => by simpa using List.all_eq_true.mp hv i hi) (fun i hi => by simpa using List.all_eq_true.mp hsl i hi) hg ht he
  refine ⟨PS.imp (ps_setLc hc hN hy hyl hsw hi.pi ok h1 h2 h3 hs) fun Z σ H => ?_⟩
  rintro ⟨w, ρ, x, q⟩
  refine h4 σ H _ ⟨w, ρ, x, PQ.mono (PQ.stmt q) fun v H1 ⟨d, w1, f1, r1, rl, q1⟩ => ?_⟩
  by_cases hi : i ∈ O
  · obtain ⟨a, e, n, o⟩ := rl
    subst e
    exact q1 _ H1 (x.evO f1 n) (x.storeO f1 r1 hi n o)
  · exact q1 _ H1 ((x.ev f1).trans (SR.storeEv hi)) ((x.step f1 r1).store hi (rl.r x f1))
theorem tms_nil : TMs J O X [] (eC (.bl true)) := ⟨⟨fun pins s σ H Q I q => pts_nil.run pins s σ H Q I (by
  obtain ⟨w, ρ, x, q⟩ := q
  exact PQ.ok (rel := fun (b : Bool) (d : D) _ => d = .bl b) q (GW.fr_refl _ _) x.rel rfl)⟩⟩
theorem tms_one {c : Expr} (h : TM J O X c tt) : TMs J O X [c] tt := ⟨pts_one h.pt⟩
end

/-! ### a def of the text -/
/-- what a body makes of its arguments -/
def runB {A : Type} (fr : Bool) (n np : Nat) (b : Fs A) : A → List D → Rs D A := fun w ds => if ds.length = np then
    match b w (ds.map some ++ List.replicate (n - np) none) with
    | some (.ret d w') => some (.ok (d, w'))
    | some (.nx w' _) => if fr = true then none else some (.ok (.non, w'))
    | some (.exc x) => some (.error x)
    | _ => none
  else none
/-- .. a def that turns nothing -/
def runP (fr : Bool) (n np : Nat) (b : Fs Unit) : List D → Rq D := fun ds => match runB fr n np b () ds with
  | some (.ok (d, _)) => some (.ok d)
  | some (.error x) => some (.error x.1)
  | none => none
theorem mP_runP {fr : Bool} {n np : Nat} {b : Fs Unit} : mP (runP fr n np b) = runB fr n np b := by
  funext w ds
  unfold mP runP
  cases runB fr n np b () ds with
  | none => rfl
  | some r => cases r <;> rfl
section
variable {P : Program} {w0 : World} {K : PySem.W.Frag} {mg : Str → Option Value} {base : Heap}
/-- the context of a def's body -/
abbrev cxB (P : Program) (w0 : World) (K : PySem.W.Frag) (mg : Str → Option Value) (base : Heap) (N : List Str) (qual : Str) (st : Stmt) (f : Addr) (cdv : Value) (A : Around) (outer : List PySem.Env) (s : Shared) (H : Hp) (E : XK) : Cx :=
  cxOf (L2.CX P w0) P w0 K mg base N qual (defScope st) f cdv A outer s H E
theorem start_len {N ps : List Str} {sc : Scope} (S : FnScope N ps sc) {vs : List V} (h : vs.length = ps.length) : (L2.start N vs).length = N.length := by
  have := congrArg List.length S.pre
  rw [List.length_take] at this
  unfold L2.start
  rw [List.length_append, List.length_map, List.length_replicate]
  omega
theorem ra_get {p : Rp} {F : Hp} : ∀ {vs : List V} {ds : List D} {i : Nat} {d : D}, RA p F vs ds → ds[i]? = some d → ∃ v, vs[i]? = some v ∧ R p F v d := fun h e => RA.getD h e
theorem fn_ok {x qual : Str} {st : Stmt} {f : Addr} {fd : FuncData} {N ps : List Str} {k : Nat} {G : GW} {p : Rp} {fr : Bool} {O : List Nat} {b : Fs G.A} (F : Fun K x qual st f fd) (S : FnScope N ps (defScope st))
    (hO : O.all (fun i => decide (ps.length ≤ i)) = true)
    (hb : ∀ (cdv : Value) (A : Around) (outer : List PySem.Env) (s : Shared) (H : Hp) (E : XK) (S0 : Addr → Prop) (hS : ∀ b, S0 b → ∃ o, H b = some o) (hU : ∀ b, G.U b → S0 b), Room k (A.deeper (envOfC qual (defScope st) s.heap.objs.size f cdv)) →
      SMs ⟨G, p, H, S0, E, hS, hU⟩ O fr (cxB P w0 K mg base N qual st f cdv A outer s H E) (defBody st) b) :
    FnOk P w0 K mg base (L2.CX P w0) (k + 1) f fd ps (spM G p fr (runB fr N.length ps.length b)) := by
  have np := congrArg List.length S.pre
  rw [List.length_take] at np
  refine F.okX S (fun vs H Q E h => ?_) fun cdv A outer s H vs Q E hr h => ?_
  · obtain ⟨S0, ds, w, _, _, _, ra, q⟩ := h
    unfold runB at q
    by_cases e : ds.length = ps.length
    · rw [ra.length, e]
    · rw [if_neg e] at q
      exact q.elim
  · obtain ⟨S0, ds, w, hS, hU, rel, ra, q⟩ := h
    refine ⟨_, (hb cdv A outer s H E S0 hS hU hr).ps, w, ds.map some ++ List.replicate (N.length - ps.length) none, ?_, ?_⟩
    · unfold runB at q
      by_cases e : ds.length = ps.length
      · have el : vs.length = ps.length := by rw [ra.length, e]
        have noO : ∀ i, i ∈ O → ∀ v, (L2.start N vs)[i]? ≠ some (some v) := fun i hi v z => by
          have := of_decide_eq_true (List.all_eq_true.mp hO i hi)
          unfold L2.start at z
          rw [List.getElem?_append_right (by simpa [el] using this), List.getElem?_replicate] at z
          split at z <;> cases z
        have eF : Fz ⟨G, p, H, S0, E, hS, hU⟩ O (L2.start N vs) H = hide S0 H := hide_congr fun b => ⟨fun z => z.elim (fun z => z) fun ⟨i, hi, z⟩ => (noO i hi _ z).elim, .inl⟩
        refine ⟨GW.fr_refl _ _, rel, ?_, fun i d h n => ?_, fun i d h n => ?_, fun i a hi h => (noO i hi _ h).elim, fun i j a hi hj h => (noO i hi _ h).elim⟩
        · rw [start_len S el, List.length_append, List.length_map, List.length_replicate]
          omega
        · rw [eF]
          by_cases lt : i < ds.length
          · rw [List.getElem?_append_left (by simpa using lt), List.getElem?_map] at h
            obtain ⟨d', e1, e2⟩ := Option.map_eq_some_iff.mp h
            cases e2
            obtain ⟨v, e3, r⟩ := ra.getD e1
            refine ⟨v, ?_, r⟩
            unfold L2.start
            rw [List.getElem?_append_left (by rw [List.length_map, ra.length]; exact lt), List.getElem?_map, e3]
            rfl
          · rw [List.getElem?_append_right (by simpa using lt), List.getElem?_replicate] at h
            split at h <;> cases h
        · exfalso
          have := of_decide_eq_true (List.all_eq_true.mp hO i n)
          rw [List.getElem?_append_right (by simp [e]; exact this), List.getElem?_replicate] at h
          split at h <;> cases h
      · rw [if_neg e] at q
        exact q.elim
    · unfold runB at q
      by_cases e : ds.length = ps.length
      · rw [if_pos e] at q
        unfold PO
        cases hb1 : b w (ds.map some ++ List.replicate (N.length - ps.length) none) with
        | none => rw [hb1] at q; exact q
        | some r =>
          rw [hb1] at q
          cases r with
          | ret d w' => exact fun v H' f r k => q v H' f r k
          | nx w' ρ' =>
            dsimp only at q
            intro σ' H' ev x'
            cases fr with
            | true => rw [if_pos rfl] at q; exact q.elim
            | false =>
              rw [if_neg (by simp)] at q
              refine q .non H' x'.fr x'.rel ?_
              unfold RetR
              rw [if_neg (by simp)]
              exact .non
          | brk w' ρ' => exact q.elim
          | ct w' ρ' => exact q.elim
          | exc y => exact fun cls dd H' f r k => q cls dd H' f r k
      · rw [if_neg e] at q
        exact q.elim
/-- .. that turns nothing -/
theorem fn_okP {x qual : Str} {st : Stmt} {f : Addr} {fd : FuncData} {N ps : List Str} {k : Nat} {p : Rp} {fr : Bool} {O : List Nat} {b : Fs Unit} (F : Fun K x qual st f fd) (S : FnScope N ps (defScope st))
    (hO : O.all (fun i => decide (ps.length ≤ i)) = true)
    (hb : ∀ (cdv : Value) (A : Around) (outer : List PySem.Env) (s : Shared) (H : Hp) (E : XK) (S0 : Addr → Prop) (hS : ∀ b, S0 b → ∃ o, H b = some o) (hU : ∀ b, pureW.U b → S0 b), Room k (A.deeper (envOfC qual (defScope st) s.heap.objs.size f cdv)) →
      SMs ⟨pureW, p, H, S0, E, hS, hU⟩ O fr (cxB P w0 K mg base N qual st f cdv A outer s H E) (defBody st) b) :
    FnOk P w0 K mg base (L2.CX P w0) (k + 1) f fd ps (spP p fr (runP fr N.length ps.length b)) := by
  unfold spP
  rw [mP_runP]
  exact fn_ok F S hO hb
theorem passB {N : List Str} {qual : Str} {st : Stmt} {f : Addr} {cdv : Value} {A : Around} {outer : List PySem.Env} {s : Shared} {H : Hp} {E : XK} : Passes (L2.CX P w0) (cxB P w0 K mg base N qual st f cdv A outer s H E) E :=
  passes_call (takes_of rfl rfl rfl rfl) fun _ _ _ _ h => h
theorem takesB {N : List Str} {qual : Str} {st : Stmt} {f : Addr} {cdv : Value} {A : Around} {outer : List PySem.Env} {s : Shared} {H : Hp} {E : XK} : Takes (cxB P w0 K mg base N qual st f cdv A outer s H E) (fun cls d _ H => E cls d H) := takes_of rfl rfl rfl rfl
theorem ownB {N : List Str} {qual : Str} {st : Stmt} {f : Addr} {cdv : Value} {A : Around} {outer : List PySem.Env} {s : Shared} {H : Hp} {E : XK} : PassesOwn (model P w0) (cxB P w0 K mg base N qual st f cdv A outer s H E).A (cxB P w0 K mg base N qual st f cdv A outer s H E).env (cxB P w0 K mg base N qual st f cdv A outer s H E).xe := passes_of rfl
end
end DL
namespace DL
open L2 PySem PyProof.Rows PySem.Spec

/-! ### equality by values -/
mutual
def toPy : D → PyData
  | .non => .none
  | .bl b => .bool b
  | .int i => .int i
  | .str s => .str s
  | .tup l => .tuple (toPys l)
  | .lst l => .list (toPys l)
  | .frl l => .list (toPys l)
  | _ => .dict []
def toPys : List D → List PyData
  | [] => []
  | d :: l => toPy d :: toPys l
end
/-! data of lists, tuples, texts, numbers, truths, None, nested at most n deep -/
mutual
def shD : Nat → D → Bool
  | _, .non => true
  | _, .bl _ => true
  | _, .int _ => true
  | _, .str s => PyData.strOk s
  | 0, _ => false
  | n + 1, .tup l => shDs n l
  | n + 1, .lst l => shDs n l
  | n + 1, .frl l => shDs n l
  | _, _ => false
def shDs : Nat → List D → Bool
  | _, [] => true
  | n, d :: l => shD n d && shDs n l
end
mutual
theorem shD_ok : ∀ (n : Nat) (d : D), shD n d = true → (toPy d).canLay0 = true ∧ (toPy d).depth ≤ n
  | n, .non, _ => by simp [toPy, PyData.canLay0, PyData.depth]
  | n, .bl _, _ => by simp [toPy, PyData.canLay0, PyData.depth]
  | n, .int _, _ => by simp [toPy, PyData.canLay0, PyData.depth]
  | n, .str s, h => by
    have h : PyData.strOk s = true := by cases n <;> simpa [shD] using h
    simp [toPy, PyData.canLay0, PyData.depth, h]
  | n + 1, .tup l, h => by
    have h := shDs_ok n l (by simpa [shD] using h)
    simp only [toPy, PyData.canLay0, PyData.depth]
    exact ⟨h.1, by omega⟩
  | n + 1, .lst l, h => by
    have h := shDs_ok n l (by simpa [shD] using h)
    simp only [toPy, PyData.canLay0, PyData.depth]
    exact ⟨h.1, by omega⟩
  | n + 1, .frl l, h => by
    have h := shDs_ok n l (by simpa [shD] using h)
    simp only [toPy, PyData.canLay0, PyData.depth]
    exact ⟨h.1, by omega⟩
  | 0, .tup l, h => by simp [shD] at h
  | 0, .lst l, h => by simp [shD] at h
  | 0, .frl l, h => by simp [shD] at h
  | n, .dct _, h => by cases n <;> simp [shD] at h
  | n, .opq, h => by cases n <;> simp [shD] at h
  | n, .exc _ _, h => by cases n <;> simp [shD] at h
  | n, .ty _, h => by cases n <;> simp [shD] at h
  | n, .cls _, h => by cases n <;> simp [shD] at h
  | n, .tok _, h => by cases n <;> simp [shD] at h
theorem shDs_ok : ∀ (n : Nat) (l : List D), shDs n l = true → PyData.canLayAll0 (toPys l) = true ∧ PyData.depthAll (toPys l) ≤ n
  | n, [], _ => by simp [toPys, PyData.canLayAll0, PyData.depthAll]
  | n, d :: l, h => by
    rw [shDs, Bool.and_eq_true] at h
    have h1 := shD_ok n d h.1
    have h2 := shDs_ok n l h.2
    simp only [toPys, PyData.canLayAll0, PyData.depthAll, Bool.and_eq_true]
    exact ⟨⟨h1.1, h2.1⟩, by omega⟩
end
theorem shaped_of {d : D} (h : shD 60 d = true) : SeqAt.shaped (toPy d) = true := by
  have h := shD_ok 60 d h
  unfold SeqAt.shaped
  rw [Bool.and_eq_true]
  exact ⟨h.1, by simpa using Nat.le_trans h.2 (by decide)⟩
section
variable {p : Rp} {F H : Hp}
theorem sitT (s : Sit F H) {a : Addr} {xs : List V} (h : SqT p.K F a xs) : SqT p.K H a xs := by
  rcases h with (h | ⟨o, h⟩) | h
  · exact .inl (.inl (s.le _ _ h))
  · exact .inl (.inr ⟨o, s.le _ _ h⟩)
  · exact .inr h
theorem sitL (s : Sit F H) {a : Addr} {xs : List V} (h : SqL p.K F a xs) : SqL p.K H a xs := by
  rcases h with (h | ⟨o, h⟩) | h
  · exact .inl (.inl (s.le _ _ h))
  · exact .inl (.inr ⟨o, s.le _ _ h⟩)
  · exact .inr h
mutual
theorem R.dp (s : Sit F H) : ∀ {v : V} {d : D} (n : Nat), shD n d = true → R p F v d → Dp p.K H v (toPy d)
  | _, _, _, _, .non => by simp only [toPy]; exact .non
  | _, _, _, _, .bl b => by simp only [toPy]; exact .bl b
  | _, _, _, _, .int b => by simp only [toPy]; exact .int b
  | _, _, _, _, .str b => by simp only [toPy]; exact .str b
  | _, _, n, h, .tup sq r => by
    cases n with
    | zero => simp [shD] at h
    | succ n => simp only [toPy]; exact .tup (sitT s sq) (RA.dp s n (by simpa [shD] using h) r)
  | _, _, n, h, .lst sq r => by
    cases n with
    | zero => simp [shD] at h
    | succ n => simp only [toPy]; exact .lst (.inl (.inl (s.le _ _ sq))) (RA.dp s n (by simpa [shD] using h) r)
  | _, _, n, h, .frl sq r => by
    cases n with
    | zero => simp [shD] at h
    | succ n => simp only [toPy]; exact .lst (sitL s sq) (RA.dp s n (by simpa [shD] using h) r)
  | _, _, n, h, .dct _ _ => by cases n <;> simp [shD] at h
  | _, _, n, h, .opq _ => by cases n <;> simp [shD] at h
  | _, _, n, h, .exc0 _ _ => by cases n <;> simp [shD] at h
  | _, _, n, h, .exc1 _ _ _ _ => by cases n <;> simp [shD] at h
  | _, _, n, h, .ty _ => by cases n <;> simp [shD] at h
  | _, _, n, h, .cls _ => by cases n <;> simp [shD] at h
  | _, _, n, h, .tok _ => by cases n <;> simp [shD] at h
theorem RA.dp (s : Sit F H) : ∀ {v : List V} {d : List D} (n : Nat), shDs n d = true → RA p F v d → DpAll p.K H v (toPys d)
  | _, _, _, _, .nil => by simp only [toPys]; exact .nil
  | _, _, n, h, .cons a b => by
    rw [shDs, Bool.and_eq_true] at h
    simp only [toPys]
    exact .cons (R.dp s n h.1 a) (RA.dp s n h.2 b)
end
theorem RV.dp (s : Sit F H) {v : V} {d : D} (h : shD 60 d = true) (r : RV p F H v d) : Dp p.K H v (toPy d) := by
  rcases r with r | ⟨a, e, o⟩
  · exact r.dp s 60 h
  · subst e
    cases d <;> first | exact o.elim | skip
    · obtain ⟨xs, e, r⟩ := o
      simp only [toPy]
      exact .lst (.inl (.inl e)) (r.dp s 59 (by simpa [shD] using h))
    · simp [shD] at h
theorem RV.intv {v : V} {i : Int} (h : RV p F H v (.int i)) : v = .int i := by
  rcases h with h | ⟨a, _, o⟩
  · exact h.intv
  · exact o.elim
theorem RV.strv {v : V} {i : Str} (h : RV p F H v (.str i)) : v = .str i := by
  rcases h with h | ⟨a, _, o⟩
  · exact h.strv
  · exact o.elim
theorem RV.blv {v : V} {i : Bool} (h : RV p F H v (.bl i)) : v = .bl i := by
  rcases h with h | ⟨a, _, o⟩
  · exact h.blv
  · exact o.elim
theorem RV.nonv {v : V} (h : RV p F H v .non) : v = .non := by
  rcases h with h | ⟨a, _, o⟩
  · exact h.nonv
  · exact o.elim
theorem RV.lstv (s : Sit F H) {v : V} {ds : List D} (h : RV p F H v (.lst ds)) : ∃ a xs, v = .ref a ∧ H a = some (.lst xs) ∧ RA p F xs ds := by
  rcases h with h | ⟨a, e, o⟩
  · cases h with
    | lst e r => exact ⟨_, _, rfl, s.le _ _ e, r⟩
  · obtain ⟨xs, e2, r⟩ := o
    exact ⟨a, xs, e, e2, r⟩
theorem RV.frlv (s : Sit F H) {v : V} {ds : List D} (h : RV p F H v (.frl ds)) : ∃ a xs, v = .ref a ∧ SqL p.K H a xs ∧ RA p F xs ds := by
  rcases h with h | ⟨a, e, o⟩
  · cases h with
    | frl e r => exact ⟨_, _, rfl, sitL s e, r⟩
  · exact o.elim
theorem RV.tupv (s : Sit F H) {v : V} {ds : List D} (h : RV p F H v (.tup ds)) : ∃ a xs, v = .ref a ∧ SqT p.K H a xs ∧ RA p F xs ds := by
  rcases h with h | ⟨a, e, o⟩
  · cases h with
    | tup e r => exact ⟨_, _, rfl, sitT s e, r⟩
  · exact o.elim
theorem newF_new {H' : Hp} {a : Addr} {o : HO} (n : H a = none) (e : H' a = some o) : NewF F H H' a = some o := by
  unfold NewF; rw [n]; exact e
theorem R.newT (s : Sit F H) {a : Addr} {xs : List V} {ds : List D} (n : H a = none) (r : RA p F xs ds) : R p (NewF F H (upd H a (.tup xs))) (.ref a) (.tup ds) :=
  .tup (.inl (.inl (newF_new n upd_same))) (r.mono s.new)
theorem R.newL (s : Sit F H) {a : Addr} {xs : List V} {ds : List D} (n : H a = none) (r : RA p F xs ds) : R p (NewF F H (upd H a (.lst xs))) (.ref a) (.lst ds) :=
  .lst (newF_new n upd_same) (r.mono s.new)
end

/-! ### operators of data -/
/-- == -/
def dEq (a b : D) : Option D := match a, b with
  | .int i, .int j => some (.bl (decide (i = j)))
  | .str i, .str j => some (.bl (decide (i = j)))
  | .bl i, .bl j => some (.bl (decide (i = j)))
  | a, b => if shD 60 a && shD 60 b then some (.bl (PyData.eqv (toPy a) (toPy b))) else none
def dNe (a b : D) : Option D := match a, b with
  | .int i, .int j => some (.bl (!decide (i = j)))
  | .str i, .str j => some (.bl (!decide (i = j)))
  | .bl i, .bl j => some (.bl (!decide (i = j)))
  | a, b => if shD 60 a && shD 60 b then some (.bl (!PyData.eqv (toPy a) (toPy b))) else none
def rEqA (K : PySem.W.Frag) : R2 := fun x y H Q => rEq x y H Q ∨ rEqD K x y H Q
def rNeA (K : PySem.W.Frag) : R2 := fun x y H Q => rNe x y H Q ∨ rNeD K x y H Q
theorem op_eqA {X : Cx} {k : Nat} (hr : Room k X.A) : OpR X (compareOp .Eq) (rEqA X.K) := op_eq.or (op_eqD hr.units)
theorem op_neA {X : Cx} {k : Nat} (hr : Room k X.A) : OpR X (compareOp .NotEq) (rNeA X.K) := op_ne.or (op_neD hr.units)
section
variable {p : Rp}
theorem fin {F H : Hp} {d : D} {v : V} {Q : VK} (s : Sit F H) (r : R p F v d) (q : ∀ v H', Same H H' → R p (NewF F H H') v d → Q v H') : Q v H := q v H (Same.refl H) (r.mono s.new)
theorem eq_deep {a b d : D} {g : D → D → Bool} (h : (if shD 60 a && shD 60 b then some (D.bl (g a b)) else none) = some d) : shD 60 a = true ∧ shD 60 b = true ∧ d = .bl (g a b) := by
  split at h
  · rename_i c
    rw [Bool.and_eq_true] at c
    exact ⟨c.1, c.2, (Option.some.inj h).symm⟩
  · cases h
theorem o_eq : Op2 p (rEqA p.K) dEq := fun F H x y d1 d2 d Q s r1 r2 h q => by
  unfold dEq at h
  split at h
  · cases h
    rw [r1.intv, r2.intv] at *
    exact .inl ⟨rfl, by
      rename_i i j
      have e : decide (V.int i = V.int j) = decide (i = j) := decide_eq_decide.mpr ⟨fun z => V.int.inj z, fun z => by rw [z]⟩
      rw [e]; exact fin s (.bl _) q⟩
  · cases h
    rw [r1.strv, r2.strv] at *
    exact .inl ⟨rfl, by
      rename_i i j
      have e : decide (V.str i = V.str j) = decide (i = j) := decide_eq_decide.mpr ⟨fun z => V.str.inj z, fun z => by rw [z]⟩
      rw [e]; exact fin s (.bl _) q⟩
  · cases h
    rw [r1.blv, r2.blv] at *
    exact .inl ⟨rfl, by
      rename_i i j
      have e : decide (V.bl i = V.bl j) = decide (i = j) := decide_eq_decide.mpr ⟨fun z => V.bl.inj z, fun z => by rw [z]⟩
      rw [e]; exact fin s (.bl _) q⟩
  · obtain ⟨h1, h2, e⟩ := eq_deep (g := fun a b => PyData.eqv (toPy a) (toPy b)) h
    subst e
    exact .inr ⟨_, _, r1.dp s h1, r2.dp s h2, shaped_of h1, shaped_of h2, fin s (.bl _) q⟩
theorem o_ne : Op2 p (rNeA p.K) dNe := fun F H x y d1 d2 d Q s r1 r2 h q => by
  unfold dNe at h
  split at h
  · cases h
    rw [r1.intv, r2.intv] at *
    exact .inl ⟨rfl, by
      rename_i i j
      have e : decide (V.int i = V.int j) = decide (i = j) := decide_eq_decide.mpr ⟨fun z => V.int.inj z, fun z => by rw [z]⟩
      rw [e]; exact fin s (.bl _) q⟩
  · cases h
    rw [r1.strv, r2.strv] at *
    exact .inl ⟨rfl, by
      rename_i i j
      have e : decide (V.str i = V.str j) = decide (i = j) := decide_eq_decide.mpr ⟨fun z => V.str.inj z, fun z => by rw [z]⟩
      rw [e]; exact fin s (.bl _) q⟩
  · cases h
    rw [r1.blv, r2.blv] at *
    exact .inl ⟨rfl, by
      rename_i i j
      have e : decide (V.bl i = V.bl j) = decide (i = j) := decide_eq_decide.mpr ⟨fun z => V.bl.inj z, fun z => by rw [z]⟩
      rw [e]; exact fin s (.bl _) q⟩
  · obtain ⟨h1, h2, e⟩ := eq_deep (g := fun a b => !PyData.eqv (toPy a) (toPy b)) h
    subst e
    exact .inr ⟨_, _, r1.dp s h1, r2.dp s h2, shaped_of h1, shaped_of h2, fin s (.bl _) q⟩

/-! numbers -/
/-- + -/
def dAdd (a b : D) : Option D := match a, b with
  | .int i, .int j => some (.int (i + j))
  | .str i, .str j => if i.length + j.length ≤ 16000000 then some (.str (i ++ j)) else none
  | .tup i, .tup j => if i.length + j.length ≤ 16000000 then some (.tup (i ++ j)) else none
  | .lst i, .lst j => if i.length + j.length ≤ 16000000 then some (.lst (i ++ j)) else none
  | _, _ => none
def rAddA (K : PySem.W.Frag) : R2 := fun x y H Q => rI0 (fun i j => .int (i + j)) x y H Q ∨ ((∃ i j, x = .str i ∧ y = .str j ∧ i.length + j.length ≤ sizeLine ∧ Q (.str (i ++ j)) H) ∨ (rCatA K x y H Q ∨ rCat x y H Q))
theorem op_addA {X : Cx} : OpR X (binaryOp .Add) (rAddA X.K) := op_add.or (op_add_str.or (op_catA.or op_cat))
theorem le_line {n : Nat} (h : n ≤ 16000000) : n ≤ sizeLine := by rw [sizeLine_eq]; omega
theorem o_add : Op2 p (rAddA p.K) dAdd := fun F H x y d1 d2 d Q s r1 r2 h q => by
  unfold dAdd at h
  split at h
  · cases h
    exact .inl ⟨_, _, r1.intv, r2.intv, fin s (.int _) q⟩
  · split at h
    · cases h
      exact .inr (.inl ⟨_, _, r1.strv, r2.strv, le_line (by assumption), fin s (.str _) q⟩)
    · cases h
  · split at h
    · rename_i i j hz
      cases h
      obtain ⟨a, xs, e1, s1, ra1⟩ := r1.tupv s
      obtain ⟨b, ys, e2, s2, ra2⟩ := r2.tupv s
      have l1 := ra1.length
      have l2 := ra2.length
      refine .inr (.inr (.inl ⟨a, b, xs, ys, e1, e2, s1, s2, by rw [l1, l2]; exact le_line hz, fun z => ?_, fun z z2 => ?_, fun z z2 t ht => q _ _ (same_new ht) (R.newT s ht (ra1.append ra2))⟩))
      · subst z
        cases ra1
        rw [List.nil_append] at q
        rcases r2 with r2 | ⟨_, _, o⟩
        · rw [e2] at r2; exact fin s r2 q
        · exact o.elim
      · subst z2
        cases ra2
        rw [List.append_nil] at q
        rcases r1 with r1 | ⟨_, _, o⟩
        · rw [e1] at r1; exact fin s r1 q
        · exact o.elim
    · cases h
  · split at h
    · rename_i i j hz
      cases h
      obtain ⟨a, xs, e1, s1, ra1⟩ := r1.lstv s
      obtain ⟨b, ys, e2, s2, ra2⟩ := r2.lstv s
      refine .inr (.inr (.inr ⟨a, b, xs, ys, e1, e2, s1, s2, by rw [ra1.length, ra2.length]; exact le_line hz, fun t ht => q _ _ (same_new ht) (R.newL s ht (ra1.append ra2))⟩))
    · cases h
  · cases h
def dAddL (a b : D) : Option D := match a, b with
  | .lst i, .lst j => if i.length + j.length ≤ 16000000 then some (.lst (i ++ j)) else none
  | _, _ => none
theorem o_addL : Op2F p rCat dAddL := fun F H x y d1 d2 d Q s r1 r2 h q => by
  unfold dAddL at h
  split at h
  · split at h
    · rename_i i j hz
      cases h
      obtain ⟨a, xs, e1, s1, ra1⟩ := r1.lstv s
      obtain ⟨b, ys, e2, s2, ra2⟩ := r2.lstv s
      exact ⟨a, b, xs, ys, e1, e2, s1, s2, by rw [ra1.length, ra2.length]; exact le_line hz, fun t ht => q _ _ ht (same_new ht) ⟨_, upd_same, ra1.append ra2⟩⟩
    · cases h
  · cases h
def dInt2 (g : Int → Int → D) (a b : D) : Option D := match a, b with
  | .int i, .int j => some (g i j)
  | _, _ => none
/-- ints in, what does not hang on the heap out -/
theorem o_int2 {g : Int → Int → V} {gd : Int → Int → D} (hg : ∀ i j F, R p F (g i j) (gd i j)) : Op2 p (rI0 g) (dInt2 gd) := fun F H x y d1 d2 d Q s r1 r2 h q => by
  unfold dInt2 at h
  split at h
  · cases h
    exact ⟨_, _, r1.intv, r2.intv, fin s (hg _ _ _) q⟩
  · cases h
def dIntC2 (c : Int → Int → Bool) (g : Int → Int → D) (a b : D) : Option D := match a, b with
  | .int i, .int j => if c i j then some (g i j) else none
  | _, _ => none
theorem o_intC2 {C : Int → Int → Prop} {c : Int → Int → Bool} {g : Int → Int → V} {gd : Int → Int → D} (hc : ∀ i j, c i j = true → C i j) (hg : ∀ i j F, R p F (g i j) (gd i j)) : Op2 p (rI C g) (dIntC2 c gd) := fun F H x y d1 d2 d Q s r1 r2 h q => by
  unfold dIntC2 at h
  split at h
  · split at h
    · cases h
      exact ⟨_, _, r1.intv, r2.intv, hc _ _ (by assumption), fin s (hg _ _ _) q⟩
    · cases h
  · cases h
def dSub : D → D → Option D := dInt2 fun i j => .int (i - j)
theorem o_sub : Op2 p (rI0 fun i j => .int (i - j)) dSub := o_int2 fun _ _ _ => .int _
/-- a product whose bits are few enough -/
def mulOk (i j : Int) : Bool := decide (i.natAbs.log2 + j.natAbs.log2 ≤ 100000000)
theorem mulOk_ok {i j : Int} (h : mulOk i j = true) : CMulX i j := by
  have b : ∀ x : Int, Builtin.Int.intBits x ≤ x.natAbs.log2 + 1 := fun x => by
    unfold Builtin.Int.intBits
    split <;> omega
  have h := of_decide_eq_true h
  have h1 := b i
  have h2 := b j
  unfold CMulX
  omega
def dMulI : D → D → Option D := dIntC2 mulOk fun i j => .int (i * j)
theorem o_mulI : Op2 p (rI CMulX fun i j => .int (i * j)) dMulI := o_intC2 (fun _ _ h => mulOk_ok h) fun _ _ _ => .int _
/-- a divisor that C divides by itself -/
def divOk (j : Int) : Bool := decide (j ≠ 0) && decide (j.natAbs.log2 < 9000)
def CDivA (_ j : Int) : Prop := j ≠ 0 ∧ j.natAbs.log2 < 9000
theorem op_fdivA {X : Cx} : OpR X (binaryOp .FloorDiv) (rI CDivA fun i j => .int (i.fdiv j)) := opI fun i j _ _ _ _ _ hc q => floordiv_int hc.1 q (.inl (PyProof.noPylong_of_log2 hc.2))
def dFdiv : D → D → Option D := dIntC2 (fun _ j => divOk j) fun i j => .int (i.fdiv j)
theorem o_fdiv : Op2 p (rI CDivA fun i j => .int (i.fdiv j)) dFdiv := o_intC2 (fun _ _ h => by
  unfold divOk at h
  rw [Bool.and_eq_true] at h
  exact ⟨of_decide_eq_true h.1, of_decide_eq_true h.2⟩) fun _ _ _ => .int _
def dMod : D → D → Option D := dIntC2 (fun _ j => decide (j ≠ 0)) fun i j => .int (i.fmod j)
theorem o_mod : Op2 p (rI (fun _ j => j ≠ 0) fun i j => .int (i.fmod j)) dMod := o_intC2 (fun _ _ h => of_decide_eq_true h) fun _ _ _ => .int _
def powOk (i j : Int) : Bool := decide (0 ≤ j) && decide ((Builtin.Int.intBits i : Int) * j ≤ 2 ^ 27)
def CPowB (i j : Int) : Prop := 0 ≤ j ∧ (Builtin.Int.intBits i : Int) * j ≤ 2 ^ 27
theorem op_powB {X : Cx} : OpR X (binaryOp .Pow) (rI CPowB fun i j => .int (i ^ j.toNat)) := opI fun _ _ _ _ _ _ _ hc q => PyProof.Rows.pow_int hc.1 hc.2 q
def dPow : D → D → Option D := dIntC2 powOk fun i j => .int (i ^ j.toNat)
theorem o_pow : Op2 p (rI CPowB fun i j => .int (i ^ j.toNat)) dPow := o_intC2 (fun _ _ h => by
  unfold powOk at h
  rw [Bool.and_eq_true] at h
  exact ⟨of_decide_eq_true h.1, of_decide_eq_true h.2⟩) fun _ _ _ => .int _
def dNeg : D → Option D
  | .int i => some (.int (-i))
  | _ => none
theorem o_neg : Op1 p (rU fun i => .int (-i)) dNeg := fun F H x d1 d Q s r h q => by
  unfold dNeg at h
  split at h
  · cases h; exact ⟨_, r.intv, fin s (.int _) q⟩
  · cases h

/-! comparisons -/
def strLt (a b : Str) : Bool := decide (a.cps.toList < b.cps.toList)
def dLt (a b : D) : Option D := match a, b with
  | .int i, .int j => some (.bl (decide (i < j)))
  | .str i, .str j => some (.bl (strLt i j))
  | _, _ => none
def dLe (a b : D) : Option D := match a, b with
  | .int i, .int j => some (.bl (decide (i ≤ j)))
  | .str i, .str j => some (.bl (!strLt j i))
  | _, _ => none
def dGt (a b : D) : Option D := match a, b with
  | .int i, .int j => some (.bl (decide (j < i)))
  | .str i, .str j => some (.bl (strLt j i))
  | _, _ => none
def dGe (a b : D) : Option D := match a, b with
  | .int i, .int j => some (.bl (decide (j ≤ i)))
  | .str i, .str j => some (.bl (!strLt i j))
  | _, _ => none
def rCmp (g : Int → Int → Bool) (gs : Str → Str → Bool) : R2 := fun x y H Q => rI0 (fun i j => .bl (g i j)) x y H Q ∨ ∃ i j, x = .str i ∧ y = .str j ∧ Q (.bl (gs i j)) H
theorem o_cmp {g : Int → Int → Bool} {gs : Str → Str → Bool} {gd : D → D → Option D} (h0 : ∀ a b d, gd a b = some d → (∃ i j, a = .int i ∧ b = .int j ∧ d = .bl (g i j)) ∨ ∃ i j, a = .str i ∧ b = .str j ∧ d = .bl (gs i j)) : Op2 p (rCmp g gs) gd := fun F H x y d1 d2 d Q s r1 r2 h q => by
  rcases h0 _ _ _ h with ⟨i, j, rfl, rfl, rfl⟩ | ⟨i, j, rfl, rfl, rfl⟩
  · exact .inl ⟨_, _, r1.intv, r2.intv, fin s (.bl _) q⟩
  · exact .inr ⟨_, _, r1.strv, r2.strv, fin s (.bl _) q⟩
theorem op_ltA {X : Cx} : OpR X (compareOp .Lt) (rCmp (fun i j => decide (i < j)) strLt) := op_lt.or op_lt_str
theorem op_leA {X : Cx} : OpR X (compareOp .LtE) (rCmp (fun i j => decide (i ≤ j)) fun a b => !strLt b a) := op_le.or op_le_str
theorem op_gtA {X : Cx} : OpR X (compareOp .Gt) (rCmp (fun i j => decide (j < i)) fun a b => strLt b a) := op_gt.or op_gt_str
theorem op_geA {X : Cx} : OpR X (compareOp .GtE) (rCmp (fun i j => decide (j ≤ i)) fun a b => !strLt a b) := op_ge.or op_ge_str
theorem o_lt : Op2 p (rCmp (fun i j => decide (i < j)) strLt) dLt := o_cmp fun a b d h => by
  unfold dLt at h
  split at h <;> cases h
  · exact .inl ⟨_, _, rfl, rfl, rfl⟩
  · exact .inr ⟨_, _, rfl, rfl, rfl⟩
theorem o_le : Op2 p (rCmp (fun i j => decide (i ≤ j)) fun a b => !strLt b a) dLe := o_cmp fun a b d h => by
  unfold dLe at h
  split at h <;> cases h
  · exact .inl ⟨_, _, rfl, rfl, rfl⟩
  · exact .inr ⟨_, _, rfl, rfl, rfl⟩
theorem o_gt : Op2 p (rCmp (fun i j => decide (j < i)) fun a b => strLt b a) dGt := o_cmp fun a b d h => by
  unfold dGt at h
  split at h <;> cases h
  · exact .inl ⟨_, _, rfl, rfl, rfl⟩
  · exact .inr ⟨_, _, rfl, rfl, rfl⟩
theorem o_ge : Op2 p (rCmp (fun i j => decide (j ≤ i)) fun a b => !strLt a b) dGe := o_cmp fun a b d h => by
  unfold dGe at h
  split at h <;> cases h
  · exact .inl ⟨_, _, rfl, rfl, rfl⟩
  · exact .inr ⟨_, _, rfl, rfl, rfl⟩
end
end DL
namespace DL
open L2 PySem PyProof.Rows PySem.Spec

section
variable {p : Rp}
/-! ### is -/
def isNon : D → Option Bool
  | .non => some true
  | .tok _ => none
  | _ => some false
def dIs (a b : D) : Option D := match b with
  | .non => (isNon a).map .bl
  | .bl j => match a with
    | .bl i => some (.bl (decide (i = j)))
    | _ => none
  | _ => none
def dIsNot (a b : D) : Option D := match b with
  | .non => (isNon a).map fun k => .bl (!k)
  | .bl j => match a with
    | .bl i => some (.bl (!decide (i = j)))
    | _ => none
  | _ => none
theorem RV.isNon {F H : Hp} {v : V} {d : D} {k : Bool} (h : RV p F H v d) (e : isNon d = some k) : decide (v = .non) = k := by
  rcases h with h | ⟨a, e2, o⟩
  · cases h <;> simp [DL.isNon] at e <;> subst e <;> simp
  · subst e2
    cases d <;> first | exact o.elim | (simp [DL.isNon] at e; subst e; simp)
def rIsA : R2 := fun x y H Q => (y = .non ∧ Q (.bl (decide (x = .non))) H) ∨ rIsB x y H Q
def rIsNotA : R2 := fun x y H Q => (y = .non ∧ Q (.bl (!decide (x = .non))) H) ∨ rNotB x y H Q
theorem op_isA {X : Cx} : OpR X (compareOp .Is) rIsA := op_isN.or op_isBl
theorem op_isNotA {X : Cx} : OpR X (compareOp .IsNot) rIsNotA := op_notN.or op_notBl
theorem o_is : Op2 p rIsA dIs := fun F H x y d1 d2 d Q s r1 r2 h q => by
  unfold dIs at h
  split at h
  · obtain ⟨k, e, rfl⟩ := Option.map_eq_some_iff.mp h
    exact .inl ⟨r2.nonv, by rw [r1.isNon e]; exact fin s (.bl _) q⟩
  · split at h
    · cases h
      exact .inr ⟨_, _, r1.blv, r2.blv, fin s (.bl _) q⟩
    · cases h
  · cases h
theorem o_isNot : Op2 p rIsNotA dIsNot := fun F H x y d1 d2 d Q s r1 r2 h q => by
  unfold dIsNot at h
  split at h
  · obtain ⟨k, e, rfl⟩ := Option.map_eq_some_iff.mp h
    exact .inl ⟨r2.nonv, by rw [r1.isNon e]; exact fin s (.bl _) q⟩
  · split at h
    · cases h
      exact .inr ⟨_, _, r1.blv, r2.blv, fin s (.bl _) q⟩
    · cases h
  · cases h

/-! ### in -/
def rInS : R2 := fun x y H Q => ∃ (c : Nat) (z : Str), x = .str ⟨#[c]⟩ ∧ y = .str z ∧ Q (.bl (decide (c ∈ z.cps.toList))) H
def rNotInS : R2 := fun x y H Q => ∃ (c : Nat) (z : Str), x = .str ⟨#[c]⟩ ∧ y = .str z ∧ Q (.bl (!decide (c ∈ z.cps.toList))) H
def dIn (a b : D) : Option D := match a, b with
  | .str ⟨⟨[c]⟩⟩, .str z => some (.bl (decide (c ∈ z.cps.toList)))
  | a, .lst l => if shD 60 a && shD 60 (.lst l) then some (.bl (l.any fun z => PyData.eqv (toPy z) (toPy a))) else none
  | _, _ => none
def dNotIn (a b : D) : Option D := match dIn a b with
  | some (.bl k) => some (.bl (!k))
  | _ => none
def rInA (K : PySem.W.Frag) : R2 := fun x y H Q => rInS x y H Q ∨ rInD K x y H Q
def rNotInA (K : PySem.W.Frag) : R2 := fun x y H Q => rNotInS x y H Q ∨ rNotInD K x y H Q
theorem Room.units65 {k : Nat} {A : Around} (r : Room k A) : A.units + 65 < cLine := by have := r.un; omega
theorem op_inA {X : Cx} {k : Nat} (hr : Room k X.A) : OpR X (compareOp .In) (rInA X.K) := OpR.or (r := rInS) op_in_sign (op_inD (Room.units65 hr))
theorem op_notInA {X : Cx} {k : Nat} (hr : Room k X.A) : OpR X (compareOp .NotIn) (rNotInA X.K) := OpR.or (r := rNotInS) op_notIn_sign (op_notInD (Room.units65 hr))
theorem any_toPys (a : D) : ∀ l : List D, (toPys l).any (fun z => PyData.eqv z (toPy a)) = l.any fun z => PyData.eqv (toPy z) (toPy a)
  | [] => by simp [toPys]
  | d :: l => by simp only [toPys, List.any_cons, any_toPys a l]
theorem in_cases {a b d : D} (h : dIn a b = some d) : (∃ c z, a = .str ⟨#[c]⟩ ∧ b = .str z ∧ d = .bl (decide (c ∈ z.cps.toList))) ∨
    ∃ l, b = .lst l ∧ shD 60 a = true ∧ shD 60 (.lst l) = true ∧ d = .bl (l.any fun z => PyData.eqv (toPy z) (toPy a)) := by
  unfold dIn at h
  split at h
  · cases h
    exact .inl ⟨_, _, rfl, rfl, rfl⟩
  · split at h
    · rename_i c
      rw [Bool.and_eq_true] at c
      cases h
      exact .inr ⟨_, rfl, c.1, c.2, rfl⟩
    · cases h
  · cases h
theorem o_in : Op2 p (rInA p.K) dIn := fun F H x y d1 d2 d Q s r1 r2 h q => by
  rcases in_cases h with ⟨c, z, rfl, rfl, rfl⟩ | ⟨l, rfl, h1, h2, rfl⟩
  · exact .inl ⟨c, z, r1.strv, r2.strv, fin s (.bl _) q⟩
  · have e2 := r2.dp s h2
    simp only [toPy] at e2
    have e3 := shaped_of h2
    simp only [toPy] at e3
    exact .inr ⟨_, _, r1.dp s h1, e2, shaped_of h1, e3, by rw [any_toPys]; exact fin s (.bl _) q⟩
theorem o_notIn : Op2 p (rNotInA p.K) dNotIn := fun F H x y d1 d2 d Q s r1 r2 h q => by
  unfold dNotIn at h
  split at h
  · rename_i k hk
    cases h
    rcases in_cases hk with ⟨c, z, rfl, rfl, e⟩ | ⟨l, rfl, h1, h2, e⟩
    · cases e
      exact .inl ⟨c, z, r1.strv, r2.strv, fin s (.bl _) q⟩
    · cases e
      have e2 := r2.dp s h2
      simp only [toPy] at e2
      have e3 := shaped_of h2
      simp only [toPy] at e3
      exact .inr ⟨_, _, r1.dp s h1, e2, shaped_of h1, e3, by rw [any_toPys]; exact fin s (.bl _) q⟩
  · cases h

/-! ### subscripts -/
theorem R.tup_inv {F : Hp} {v : V} {ds : List D} (h : R p F v (.tup ds)) : ∃ a xs, v = .ref a ∧ SqT p.K F a xs ∧ RA p F xs ds := by
  cases h with
  | tup e r => exact ⟨_, _, rfl, e, r⟩
def dIdx (a b : D) : Option D := match a, b with
  | .lst l, .int i => atI l i
  | .tup l, .int i => atI l i
  | .frl l, .int i => atI l i
  | .str z, .int i => if z.length ≤ 16000000 then (atI z.cps.toList i).map fun c => .str ⟨#[c]⟩ else none
  | _, _ => none
theorem RA.atI {F : Hp} {xs : List V} {ds : List D} {i : Int} {d : D} (r : RA p F xs ds) (h : L2.atI ds i = some d) : ∃ v, L2.atI xs i = some v ∧ R p F v d := by
  unfold L2.atI at h ⊢
  rw [r.length]
  cases e : ixN ds.length i with
  | none => rw [e] at h; cases h
  | some j => rw [e] at h; exact r.getD h
theorem o_idx : Op2 p (rIx p.K) dIdx := fun F H x y d1 d2 d Q s r1 r2 h q => by
  unfold dIdx at h
  split at h
  · obtain ⟨a, xs, e, e1, ra⟩ := r1.lstv s
    obtain ⟨v, hv, r⟩ := ra.atI h
    exact .inl ⟨a, xs, _, v, e, r2.intv, .inl (.inl e1), hv, fin s r q⟩
  · obtain ⟨a, xs, e, e1, ra⟩ := r1.tupv s
    obtain ⟨v, hv, r⟩ := ra.atI h
    exact .inr (.inl ⟨a, xs, _, v, e, r2.intv, e1, hv, fin s r q⟩)
  · obtain ⟨a, xs, e, e1, ra⟩ := r1.frlv s
    obtain ⟨v, hv, r⟩ := ra.atI h
    exact .inl ⟨a, xs, _, v, e, r2.intv, e1, hv, fin s r q⟩
  · split at h
    · obtain ⟨c, hc, rfl⟩ := Option.map_eq_some_iff.mp h
      exact .inr (.inr ⟨_, _, c, r1.strv, r2.intv, le_line (by assumption), hc, fin s (.str _) q⟩)
    · cases h
  · cases h
def cutD (xs : List D) (lo hi : Option Int) : List D := (xs.drop (HT.sIx xs.length 0 lo)).take (HT.sIx xs.length xs.length hi - HT.sIx xs.length 0 lo)
theorem RA.cut {F : Hp} {xs : List V} {ds : List D} (r : RA p F xs ds) (lo hi : Option Int) : RA p F (cutV xs lo hi) (cutD ds lo hi) := by
  unfold cutV cutD
  rw [r.length]
  exact (r.drop _).take _
def dCut (a : D) (lo hi : Option Int) : Option D := match a with
  | .lst l => some (.lst (cutD l lo hi))
  | .tup l => some (.tup (cutD l lo hi))
  | .str z => if z.length ≤ 16000000 then some (.str (cutS z lo hi)) else none
  | _ => none
def rSlX (K : PySem.W.Frag) : V → Option Int → Option Int → Hp → VK → Prop := fun x lo hi H Q => rSlL K x lo hi H Q ∨ (rSlA K x lo hi H Q ∨ rSlS x lo hi H Q)
theorem sl_A {X : Cx} : SlR X (rSlX X.K) := sl_list.or (sl_tupA.or sl_str)
theorem cutV_all {xs : List V} {lo hi : Option Int} (h : HT.sIx xs.length 0 lo = 0 ∧ HT.sIx xs.length xs.length hi = xs.length) : cutV xs lo hi = xs := by
  unfold cutV
  rw [h.1, h.2]
  simp
theorem o_cut {F H : Hp} {x : V} {d1 d : D} {lo hi : Option Int} {Q : VK} (s : Sit F H) (r1 : RV p F H x d1) (h : dCut d1 lo hi = some d) (q : ∀ v H', Same H H' → R p (NewF F H H') v d → Q v H') : rSlX p.K x lo hi H Q := by
  unfold dCut at h
  split at h
  · cases h
    obtain ⟨a, xs, e, e1, ra⟩ := r1.lstv s
    exact .inl ⟨a, xs, e, .inl (.inl e1), fun t ht => q _ _ (same_new ht) (R.newL s ht (ra.cut lo hi))⟩
  · cases h
    obtain ⟨a, xs, e, e1, ra⟩ := r1.tupv s
    refine .inr (.inl ⟨a, xs, e, e1, fun z => ?_, fun z t ht => q _ _ (same_new ht) (R.newT s ht (ra.cut lo hi))⟩)
    rcases r1 with r1 | ⟨_, _, o⟩
    · obtain ⟨a', xs', e', sq, ra'⟩ := r1.tup_inv
      have rc := ra'.cut lo hi
      have z' : HT.sIx xs'.length 0 lo = 0 ∧ HT.sIx xs'.length xs'.length hi = xs'.length := by
        rw [ra'.length, ← ra.length]; exact z
      rw [cutV_all z'] at rc
      rw [e] at e'
      cases e'
      exact fin s (.tup sq rc) q
    · exact o.elim
  · split at h
    · cases h
      exact .inr (.inr ⟨_, r1.strv, le_line (by assumption), fin s (.str _) q⟩)
    · cases h
  · cases h
/-- a part of a slice -/
abbrev Fp (A : Type) := A → Env → Rs (Option Int) A
def tMO (J : Jc) (O : List Nat) (f : Fp J.G.A) : TO := fun σ H Q => ∃ w ρ, SR J O σ H w ρ ∧ PQ J H (fun o d _ => o = d) Q (f w ρ)
structure EP (J : Jc) (O : List Nat) (X : Cx) (e : Option Expr) (f : Fp J.G.A) : Prop where
  po : L2.PO X e (tMO J O f)
def fPn {A : Type} : Fp A := fun w _ => some (.ok (none, w))
def fPs {A : Type} (f : Fe A) : Fp A := bindE f fun d w _ => match d with
  | .int i => some (.ok (some i, w))
  | _ => none
end
section
variable {J : Jc} {O : List Nat} {X : Cx} {pk pk1 pk2 : Bool} {f : Fe J.G.A} {pos p2 : Pos}
theorem PO.imp {X : Cx} {e : Option Expr} {t t' : TO} (h : L2.PO X e t) (k : ∀ σ H Q, t' σ H Q → t σ H Q) : L2.PO X e t' := ⟨fun pins s σ H Q I q => h.run pins s σ H Q I (k σ H Q q)⟩
theorem ep_none : EP J O X none fPn := ⟨PO.imp po_none fun σ H Q => by
  rintro ⟨w, ρ, x, q⟩
  exact PQ.ok (rel := fun (o : Option Int) d _ => o = d) q (GW.fr_refl _ _) x.rel rfl⟩
theorem ep_some {e : Expr} (h : EM J O X false e f) : EP J O X (some e) (fPs f) := ⟨PO.imp (po_some h.pe) fun σ H Q => by
  rintro ⟨w, ρ, x, q⟩
  refine em_seq x q fun v H1 d w1 x1 f1 r1 q1 => ?_
  cases d <;> first | exact q1.elim | skip
  exact ⟨_, r1.plain.intv, PQ.ok (rel := fun (o : Option Int) d _ => o = d) q1 (GW.fr_refl _ _) x1.rel rfl⟩⟩
def eCut {A : Type} (f : Fe A) (l h : Fp A) : Fe A := bindE f fun d => bindE l fun lo => bindE h fun hi w _ => okE (dCut d lo hi) w
theorem part_seq {γ δ : Type} {fp : Fp J.G.A} {g : Option Int → J.G.A → Env → Rs γ J.G.A} {rel2 : δ → γ → Hp → Prop} {Q : δ → Hp → Prop} {k : Option Int → Hp → Prop} {σ : L2.St} {H : Hp} {w : J.G.A} {ρ : Env} (x : SR J O σ H w ρ) (h : PQ J H rel2 Q (bindE fp g w ρ))
    (hk : ∀ b H1 w1, SR J O σ H1 w1 ρ → J.G.fr H H1 → PQ J H1 rel2 Q (g b w1 ρ) → k b H1) : tMO J O fp σ H k :=
  ⟨w, ρ, x, PQ.mono (PQ.bind h) fun b H1 ⟨a, w1, f1, r1, rl, q⟩ => hk b H1 w1 (x.step f1 r1) f1 (by subst rl; exact q)⟩
theorem em_cut {e : Expr} {lo hi : Option Expr} {fl fh : Fp J.G.A} (h : EM J O X pk e f) (hl : EP J O X lo fl) (hh : EP J O X hi fh) (hK : X.K = J.p.K := by rfl) : EM J O X false (.Subscript e (.Slice lo hi none p2) pos) (eCut f fl fh) := ⟨PE.imp (pe_slice sl_A h.pe hl.po hh.po) fun σ H Q => by
  rintro ⟨w, ρ, x, q⟩
  refine em_seq x q fun v H1 d w1 x1 f1 r1 q1 => ?_
  refine part_seq x1 q1 fun l H2 w2 x2 f2 q2 => ?_
  refine part_seq x2 q2 fun u H3 w3 x3 f3 q3 => ?_
  obtain ⟨d', hd, q4⟩ := okE_some q3
  rw [hK]
  refine o_cut sit (Rl.rv x3 (Rl.step x2 f3 (Rl.step x1 f2 r1))) hd fun v H4 s r => ?_
  exact q4.ok (GW.fr_same s) (J.G.same x3.rel s) (.inl (r.mono (x3.newF s)))⟩
/-- xs[lo:hi] of a list may be owned -/
def dCutL (a : D) (lo hi : Option Int) : Option D := match a with
  | .lst l => some (.lst (cutD l lo hi))
  | _ => none
def eCutL {A : Type} (f : Fe A) (l h : Fp A) : Fe A := bindE f fun d => bindE l fun lo => bindE h fun hi w _ => okE (dCutL d lo hi) w
theorem ef_cut {e : Expr} {lo hi : Option Expr} {fl fh : Fp J.G.A} (h : EM J O X pk e f) (hl : EP J O X lo fl) (hh : EP J O X hi fh) (hK : X.K = J.p.K := by rfl) : EF J O X (.Subscript e (.Slice lo hi none p2) pos) (eCutL f fl fh) := ⟨PE.imp (pe_slice sl_A h.pe hl.po hh.po) fun σ H Q => by
  rintro ⟨w, ρ, x, q⟩
  refine em_seq x q fun v H1 d w1 x1 f1 r1 q1 => ?_
  refine part_seq x1 q1 fun l H2 w2 x2 f2 q2 => ?_
  refine part_seq x2 q2 fun u H3 w3 x3 f3 q3 => ?_
  obtain ⟨d', hd, q4⟩ := okE_some q3
  unfold dCutL at hd
  split at hd
  · cases hd
    obtain ⟨a, xs, e, e1, ra⟩ := RV.lstv sit (Rl.rv x3 (Rl.step x2 f3 (Rl.step x1 f2 r1)))
    refine .inl ⟨a, xs, e, .inl (.inl e1), fun t ht => ?_⟩
    refine q4.ok (GW.fr_same (same_new ht)) (J.G.same x3.rel (same_new ht)) ⟨t, rfl, (GW.fr_trans f1 (GW.fr_trans f2 f3)).free ht, _, upd_same, (ra.cut l u).mono (le_minus (x3.same_le (same_new ht)) ?_)⟩
    show hide _ _ _ = _
    rw [hide_of (x3.hid ht)]; exact ht
  · cases hd⟩
end

/-! ### calls of what is built in -/
section
variable {p : Rp}
theorem p1 {F H : Hp} {xs : List V} {d : D} (h : Paired (RV p F H) xs [d]) : ∃ x, xs = [x] ∧ RV p F H x d := by
  cases h with
  | cons a b => cases b; exact ⟨_, rfl, a⟩
theorem p2 {F H : Hp} {xs : List V} {d e : D} (h : Paired (RV p F H) xs [d, e]) : ∃ x y, xs = [x, y] ∧ RV p F H x d ∧ RV p F H y e := by
  cases h with
  | cons a b =>
    obtain ⟨y, e, r⟩ := p1 b
    exact ⟨_, y, by rw [e], a, r⟩
/-- len -/
def dLen : List D → Option D
  | [.lst l] => some (.int l.length)
  | [.tup l] => some (.int l.length)
  | [.frl l] => some (.int l.length)
  | [.str z] => if z.length ≤ 16000000 then some (.int z.length) else none
  | _ => none
def rLenA (K : PySem.W.Frag) : List V → Hp → VK → Prop := fun xs H Q => (∃ p ys, xs = [.ref p] ∧ (SqL K H p ys ∨ SqT K H p ys) ∧ Q (.int ys.length) H) ∨ ∃ z, xs = [.str z] ∧ z.length ≤ sizeLine ∧ Q (.int z.length) H
theorem cl_len {X : Cx} : CallR X (.builtin "len") (rLenA X.K) := call_len_seq.or call_len_str
theorem o_len : OpN p (rLenA p.K) dLen := fun F H xs ds d Q s rs h q => by
  unfold dLen at h
  split at h
  · cases h
    obtain ⟨x, rfl, r⟩ := p1 rs
    obtain ⟨a, ys, e, e1, ra⟩ := r.lstv s
    exact .inl ⟨a, ys, by rw [e], .inl (.inl (.inl e1)), by rw [ra.length]; exact fin s (.int _) q⟩
  · cases h
    obtain ⟨x, rfl, r⟩ := p1 rs
    obtain ⟨a, ys, e, e1, ra⟩ := r.tupv s
    exact .inl ⟨a, ys, by rw [e], .inr e1, by rw [ra.length]; exact fin s (.int _) q⟩
  · cases h
    obtain ⟨x, rfl, r⟩ := p1 rs
    obtain ⟨a, ys, e, e1, ra⟩ := r.frlv s
    exact .inl ⟨a, ys, by rw [e], .inl e1, by rw [ra.length]; exact fin s (.int _) q⟩
  · split at h
    · cases h
      obtain ⟨x, rfl, r⟩ := p1 rs
      exact .inr ⟨_, by rw [r.strv], le_line (by assumption), fin s (.int _) q⟩
    · cases h
  · cases h
def dAbs : List D → Option D
  | [.int i] => some (.int (if i < 0 then -i else i))
  | _ => none
theorem o_abs : OpN p (fun xs H Q => ∃ i, xs = [.int i] ∧ Q (.int (if i < 0 then -i else i)) H) dAbs := fun F H xs ds d Q s rs h q => by
  unfold dAbs at h
  split at h
  · cases h
    obtain ⟨x, rfl, r⟩ := p1 rs
    exact ⟨_, by rw [r.intv], fin s (.int _) q⟩
  · cases h
def dInt : List D → Option D
  | [.int i] => some (.int i)
  | _ => none
theorem o_int : OpN p (fun xs H Q => (∃ i, xs = [.int i] ∧ Q (.int i) H) ∨ ∃ k, xs = [.bl k] ∧ Q (.int (if k then 1 else 0)) H) dInt := fun F H xs ds d Q s rs h q => by
  unfold dInt at h
  split at h
  · cases h
    obtain ⟨x, rfl, r⟩ := p1 rs
    exact .inl ⟨_, by rw [r.intv], fin s (.int _) q⟩
  · cases h
/-- the ints of a list -/
def intsOf : List D → Option (List Int)
  | [] => some []
  | .int i :: l => (intsOf l).map (i :: ·)
  | _ :: _ => none
def blsOf : List D → Option (List Bool)
  | [] => some []
  | .bl i :: l => (blsOf l).map (i :: ·)
  | _ :: _ => none
def strsOf : List D → Option (List Str)
  | [] => some []
  | .str i :: l => (strsOf l).map (i :: ·)
  | _ :: _ => none
theorem intsOf_ra {F : Hp} : ∀ {xs : List V} {ds : List D} {ns : List Int}, RA p F xs ds → intsOf ds = some ns → xs = ns.map V.int
  | _, _, _, .nil, h => by simp [intsOf] at h; subst h; rfl
  | _, d :: ds, ns, .cons a b, h => by
    cases d <;> simp only [intsOf] at h <;> first | cases h | skip
    obtain ⟨r, e, rfl⟩ := Option.map_eq_some_iff.mp h
    rw [a.intv, intsOf_ra b e]; rfl
theorem blsOf_ra {F : Hp} : ∀ {xs : List V} {ds : List D} {ns : List Bool}, RA p F xs ds → blsOf ds = some ns → xs = ns.map V.bl
  | _, _, _, .nil, h => by simp [blsOf] at h; subst h; rfl
  | _, d :: ds, ns, .cons a b, h => by
    cases d <;> simp only [blsOf] at h <;> first | cases h | skip
    obtain ⟨r, e, rfl⟩ := Option.map_eq_some_iff.mp h
    rw [a.blv, blsOf_ra b e]; rfl
theorem strsOf_ra {F : Hp} : ∀ {xs : List V} {ds : List D} {ns : List Str}, RA p F xs ds → strsOf ds = some ns → xs = ns.map V.str
  | _, _, _, .nil, h => by simp [strsOf] at h; subst h; rfl
  | _, d :: ds, ns, .cons a b, h => by
    cases d <;> simp only [strsOf] at h <;> first | cases h | skip
    obtain ⟨r, e, rfl⟩ := Option.map_eq_some_iff.mp h
    rw [a.strv, strsOf_ra b e]; rfl
/-- a call of one list -/
def onLst (g : List D → Option D) : List D → Option D
  | [.lst l] => g l
  | _ => none
def dSum : List D → Option D := onLst fun l => (intsOf l).map fun ns => .int ns.sum
def dAll : List D → Option D := onLst fun l => (blsOf l).map fun ns => .bl (ns.all id)
def dAny : List D → Option D := onLst fun l => (blsOf l).map fun ns => .bl (ns.any id)
theorem onLst_some {g : List D → Option D} {ds : List D} {d : D} (h : onLst g ds = some d) : ∃ l, ds = [.lst l] ∧ g l = some d := by
  unfold onLst at h
  split at h
  · exact ⟨_, rfl, h⟩
  · cases h
theorem o_sum : OpN p (rSum p.K) dSum := fun F H xs ds d Q s rs h q => by
  obtain ⟨l, rfl, h⟩ := onLst_some h
  obtain ⟨ns, e, rfl⟩ := Option.map_eq_some_iff.mp h
  obtain ⟨x, rfl, r⟩ := p1 rs
  obtain ⟨a, ys, e2, e1, ra⟩ := r.lstv s
  have ei := intsOf_ra ra e
  subst ei
  exact ⟨a, ns, by rw [e2], .inl (.inl e1), fin s (.int _) q⟩
theorem o_all : OpN p (rAll p.K) dAll := fun F H xs ds d Q s rs h q => by
  obtain ⟨l, rfl, h⟩ := onLst_some h
  obtain ⟨ns, e, rfl⟩ := Option.map_eq_some_iff.mp h
  obtain ⟨x, rfl, r⟩ := p1 rs
  obtain ⟨a, ys, e2, e1, ra⟩ := r.lstv s
  have ei := blsOf_ra ra e
  subst ei
  exact ⟨a, ns, by rw [e2], .inl (.inl e1), fin s (.bl _) q⟩
theorem o_any : OpN p (rAny p.K) dAny := fun F H xs ds d Q s rs h q => by
  obtain ⟨l, rfl, h⟩ := onLst_some h
  obtain ⟨ns, e, rfl⟩ := Option.map_eq_some_iff.mp h
  obtain ⟨x, rfl, r⟩ := p1 rs
  obtain ⟨a, ys, e2, e1, ra⟩ := r.lstv s
  have ei := blsOf_ra ra e
  subst ei
  exact ⟨a, ns, by rw [e2], .inl (.inl e1), fin s (.bl _) q⟩
def dMin2 : List D → Option D
  | [.int i, .int j] => some (.int (if j < i then j else i))
  | _ => none
def dMax2 : List D → Option D
  | [.int i, .int j] => some (.int (if j > i then j else i))
  | _ => none
theorem o_min2 : OpN p (fun xs H Q => ∃ i j, xs = [.int i, .int j] ∧ Q (.int (if j < i then j else i)) H) dMin2 := fun F H xs ds d Q s rs h q => by
  unfold dMin2 at h
  split at h
  · cases h
    obtain ⟨x, y, rfl, r1, r2⟩ := p2 rs
    exact ⟨_, _, by rw [r1.intv, r2.intv], fin s (.int _) q⟩
  · cases h
theorem o_max2 : OpN p (fun xs H Q => ∃ i j, xs = [.int i, .int j] ∧ Q (.int (if j > i then j else i)) H) dMax2 := fun F H xs ds d Q s rs h q => by
  unfold dMax2 at h
  split at h
  · cases h
    obtain ⟨x, y, rfl, r1, r2⟩ := p2 rs
    exact ⟨_, _, by rw [r1.intv, r2.intv], fin s (.int _) q⟩
  · cases h
def dGcd : List D → Option D
  | [.int i, .int j] => some (.int ((Nat.gcd i.natAbs j.natAbs : Nat) : Int))
  | _ => none
theorem o_gcd : OpN p rGcd dGcd := fun F H xs ds d Q s rs h q => by
  unfold dGcd at h
  split at h
  · cases h
    obtain ⟨x, y, rfl, r1, r2⟩ := p2 rs
    exact ⟨_, _, by rw [r1.intv, r2.intv], fin s (.int _) q⟩
  · cases h
/-- list(x), tuple(x) -/
def dList : List D → Option D
  | [.lst l] => some (.lst l)
  | [.tup l] => some (.lst l)
  | _ => none
def dTuple : List D → Option D
  | [.lst l] => some (.tup l)
  | [.tup l] => some (.tup l)
  | _ => none
def rListA (K : PySem.W.Frag) : List V → Hp → VK → Prop := fun xs H Q => ∃ p ys, xs = [.ref p] ∧ (SqL K H p ys ∨ SqT K H p ys) ∧ ∀ l, H l = none → Q (.ref l) (upd H l (.lst ys))
def rTupleA (K : PySem.W.Frag) : List V → Hp → VK → Prop := fun xs H Q => ∃ p ys, xs = [.ref p] ∧ ((SqL K H p ys ∧ ∀ l, H l = none → Q (.ref l) (upd H l (.tup ys))) ∨ (SqT K H p ys ∧ Q (.ref p) H))
theorem o_list : OpNF p (rListA p.K) dList := fun F H xs ds d Q s rs h q => by
  unfold dList at h
  split at h
  · cases h
    obtain ⟨x, rfl, r⟩ := p1 rs
    obtain ⟨a, ys, e2, e1, ra⟩ := r.lstv s
    exact ⟨a, ys, by rw [e2], .inl (.inl (.inl e1)), fun t ht => q t _ ht (same_new ht) ⟨_, upd_same, ra⟩⟩
  · cases h
    obtain ⟨x, rfl, r⟩ := p1 rs
    obtain ⟨a, ys, e2, e1, ra⟩ := r.tupv s
    exact ⟨a, ys, by rw [e2], .inr e1, fun t ht => q t _ ht (same_new ht) ⟨_, upd_same, ra⟩⟩
  · cases h
theorem o_tuple : OpN p (rTupleA p.K) dTuple := fun F H xs ds d Q s rs h q => by
  unfold dTuple at h
  split at h
  · cases h
    obtain ⟨x, rfl, r⟩ := p1 rs
    obtain ⟨a, ys, e2, e1, ra⟩ := r.lstv s
    exact ⟨a, ys, by rw [e2], .inl ⟨.inl (.inl e1), fun t ht => q _ _ (same_new ht) (R.newT s ht ra)⟩⟩
  · cases h
    obtain ⟨x, rfl, r⟩ := p1 rs
    obtain ⟨a, ys, e2, e1, ra⟩ := r.tupv s
    refine ⟨a, ys, by rw [e2], .inr ⟨e1, ?_⟩⟩
    rcases r with r | ⟨_, _, o⟩
    · rw [e2] at r; exact fin s r q
    · exact o.elim
  · cases h

/-! isinstance -/
/-- a value's type's name -/
def tyN : D → Option String
  | .non => some "NoneType"
  | .bl _ => some "bool"
  | .int _ => some "int"
  | .str _ => some "str"
  | .tup _ => some "tuple"
  | .lst _ => some "list"
  | .frl _ => some "list"
  | .dct _ => some "dict"
  | .opq => some "dict"
  | _ => none
/-- is one of the type named a one of the type b -/
def isTy (a b : String) : Option Bool := match b with
  | "int" => some (a == "int" || a == "bool")
  | "bool" => some (a == "bool")
  | "str" => some (a == "str")
  | "tuple" => some (a == "tuple")
  | "list" => some (a == "list")
  | "dict" => some (a == "dict")
  | _ => none
theorem isTy_kit {d : D} {a b : String} {r : Bool} {K : PySem.W.Frag} (ha : tyN d = some a) (h : isTy a b = some r) : PySem.W.kitOne K (.type a) (.type b) = some r := by
  refine kit_ty ?_
  have ea : a = "NoneType" ∨ a = "bool" ∨ a = "int" ∨ a = "str" ∨ a = "tuple" ∨ a = "list" ∨ a = "dict" := by
    cases d <;> simp [tyN] at ha <;> subst ha <;> simp
  unfold isTy at h
  split at h <;> first | cases h | skip
  all_goals
    rcases ea with rfl | rfl | rfl | rfl | rfl | rfl | rfl <;> decide +kernel
theorem RV.tyx {F H : Hp} {v : V} {d : D} {a : String} (s : Sit F H) (r : RV p F H v d) (h : tyN d = some a) : TyX p.K H v (.type a) := by
  have hL : ∀ {b : Addr} {xs : List V}, SqL p.K H b xs → TyX p.K H (.ref b) (.type "list") := fun {b xs} q => by
    rcases q with (q | ⟨o, q⟩) | ⟨o, _, _, e, c, _⟩
    · exact .base (.lst q)
    · exact .base (.frz q)
    · exact .kList e c
  have hT : ∀ {b : Addr} {xs : List V}, SqT p.K H b xs → TyX p.K H (.ref b) (.type "tuple") := fun {b xs} q => by
    rcases q with (q | ⟨o, q⟩) | ⟨o, _, _, e, c, _⟩
    · exact .base (.tup q)
    · exact .fTuple q
    · exact .kTuple e c
  rcases r with r | ⟨b, e, o⟩
  · cases r with
    | non => cases h; exact .base .non
    | bl b => cases h; exact .base (.bl b)
    | int b => cases h; exact .base (.int b)
    | str b => cases h; exact .base (.str b)
    | tup sq _ => cases h; exact hT (sitT s sq)
    | lst sq _ => cases h; exact hL (.inl (.inl (s.le _ _ sq)))
    | frl sq _ => cases h; exact hL (sitL s sq)
    | dct e _ => cases h; exact .base (.dK (s.le _ _ e))
    | opq e => cases h; exact .base (.dT (s.le _ _ e))
    | _ => cases h
  · subst e
    cases d <;> first | exact o.elim | skip
    · cases h
      obtain ⟨xs, e, _⟩ := o
      exact hL (.inl (.inl e))
    · cases h
      obtain ⟨xs, e, _⟩ := o
      exact .base (.dK e)
def isAnyTy (a : String) : List String → Option Bool
  | [] => some false
  | b :: l => match isTy a b, isAnyTy a l with
    | some k, some r => some (k || r)
    | _, _ => none
def dIsi : List D → Option D
  | [d, .ty b] => (tyN d).bind fun a => (isTy a b).map .bl
  | _ => none
def dIsiT (tys : List String) (d : D) : Option D := (tyN d).bind fun a => (isAnyTy a tys).map .bl
theorem isAny_kit {d : D} {a : String} {K : PySem.W.Frag} (ha : tyN d = some a) : ∀ {l : List String} {r : Bool}, isAnyTy a l = some r → PySem.W.kitAny K (.type a) (l.map Value.type) = some r
  | [], r, h => by
    cases h
    exact kitAny_nil
  | b :: l, r, h => by
    simp only [isAnyTy] at h
    cases e1 : isTy a b with
    | none => rw [e1] at h; cases h
    | some k =>
      cases e2 : isAnyTy a l with
      | none => rw [e1, e2] at h; cases h
      | some r2 =>
        rw [e1, e2] at h
        cases h
        have kk := isAny_kit (K := K) ha e2
        refine kitAny_cons (isTy_kit ha e1) (fun z => ?_) fun z => ?_
        · rw [kk, z]; rfl
        · rw [z]; rfl
theorem o_isi : OpN p (rIsi p.K) dIsi := fun F H xs ds d Q s rs h q => by
  unfold dIsi at h
  split at h
  · obtain ⟨a, ha, h⟩ := Option.bind_eq_some_iff.mp h
    obtain ⟨k, hk, rfl⟩ := Option.map_eq_some_iff.mp h
    obtain ⟨x, y, rfl, r1, r2⟩ := p2 rs
    rcases r2 with r2 | ⟨_, _, o⟩
    · cases r2
      exact ⟨x, _, _, _, k, rfl, .ty _, r1.tyx s ha, isTy_kit ha hk, fin s (.bl _) q⟩
    · exact o.elim
  · cases h
theorem clsV_tys : ∀ tys : List String, Paired ClsV (tys.map V.ty) (tys.map Value.type)
  | [] => .nil
  | t :: l => .cons (.ty t) (clsV_tys l)
end
section
variable {J : Jc} {O : List Nat} {X : Cx} {pk : Bool} {f : Fe J.G.A}
/-- isinstance(e, (T, ..)) of written types -/
theorem em_isiT {e : Expr} {es : List Expr} {c : Nat} {tpos p0 pos : Pos} {tys : List String} {ta : TA} (h : EM J O X pk e f) (ht : PA X es ta) (hta : ∀ σ H Q, ta σ H Q = Q (tys.map V.ty) H) (hg : Gl X "isinstance") (hm : X.mg "isinstance" = none) (hl : tys.length ≤ 1000 := by decide) (hK : X.K = J.p.K := by rfl)
    (hs : starEach [e, .Tuple es c tpos] X.env = (false, eval e X.env) :: starEach [.Tuple es c tpos] X.env := by rfl) (hs2 : starEach [.Tuple es c tpos] X.env = (false, eval (.Tuple es c tpos) X.env) :: starEach [] X.env := by rfl) (hpl : (backTo pos (starEach [.Tuple es c tpos] X.env)).any (·.1) = false := by rfl) :
    EM J O X false (.Call (.Name "isinstance" p0) [e, .Tuple es c tpos] [] pos) (e1 (dIsiT tys) f) := ⟨PE.imp (pe_callB call_isiT hg hm PyProof.Rows.boot_isinstance (pa_cons h.pe (pa_cons (pe_tup ht) pa_nil hs2) hs) (by decide) (by decide) hs hpl) fun σ H Q => by
  rintro ⟨w, ρ, x, q⟩
  refine em_seq x q fun v H1 d w1 x1 f1 r1 q1 => ?_
  obtain ⟨d', hd, q2⟩ := okE_some q1
  show ta σ H1 _
  rw [hta]
  refine ⟨Nat.le_of_lt (small1000 (by rw [List.length_map]; exact hl)), fun t ht => ?_⟩
  obtain ⟨a, ha, hd⟩ := Option.bind_eq_some_iff.mp hd
  obtain ⟨k, hk, rfl⟩ := Option.map_eq_some_iff.mp hd
  have s := same_new (o := .tup (tys.map V.ty)) ht
  have x2 := x1.stepSame s
  refine ⟨v, t, _, _, _, k, rfl, upd_same, clsV_tys tys, ?_, isAny_kit ha hk, ?_⟩
  · rw [hK]
    exact (Rl.rv x2 (Rl.step x1 (GW.fr_same s) r1)).tyx sit ha
  · exact q2.ok (GW.fr_same s) x2.rel (.inl (.bl _))⟩
end
end DL
namespace DL
open L2 PySem PyProof.Rows PySem.Spec

/-! ### what is walked -/
section
variable {p : Rp} {F0 : Hp} {C : Hp → Prop}
theorem same_eq {H H' : Hp} (h : H' = H) : Same H H' := by subst h; exact Same.refl _
theorem it_list {F H0 : Hp} {a : Addr} {xs : List V} {ds : List D} (h : SqL p.K F0 a xs) (ra : RA p F0 xs ds) : ItOk p F0 C ds (Itl p.K a) where
  go := fun F H i le s _ lt => by
    obtain ⟨x, e, _⟩ := ra.getD (List.getElem?_eq_getElem lt)
    exact ⟨xs, x, sitL s (le.seq h), e⟩
  yld := fun F H i x H' le s _ lt y => by
    obtain ⟨e, y⟩ := y
    obtain ⟨x', e', r⟩ := ra.getD (List.getElem?_eq_getElem lt)
    have := y xs (sitL s (le.seq h))
    rw [e'] at this
    cases this
    subst e
    exact ⟨Same.refl _, _, List.getElem?_eq_getElem lt, (r.mono le).mono s.new⟩
  stop := fun F H i le s _ lt => ⟨xs, sitL s (le.seq h), by rw [ra.length]; exact Nat.le_of_eq lt.symm⟩
theorem it_tup {a : Addr} {xs : List V} {ds : List D} (h : SqT p.K F0 a xs) (ra : RA p F0 xs ds) : ItOk p F0 C ds (Itt p.K a) where
  go := fun F H i le s _ lt => by
    obtain ⟨x, e, _⟩ := ra.getD (List.getElem?_eq_getElem lt)
    exact ⟨xs, x, sitT s (le.seqT h), e⟩
  yld := fun F H i x H' le s _ lt y => by
    obtain ⟨e, y⟩ := y
    obtain ⟨x', e', r⟩ := ra.getD (List.getElem?_eq_getElem lt)
    have := y xs (sitT s (le.seqT h))
    rw [e'] at this
    cases this
    subst e
    exact ⟨Same.refl _, _, List.getElem?_eq_getElem lt, (r.mono le).mono s.new⟩
  stop := fun F H i le s _ lt => ⟨xs, sitT s (le.seqT h), by rw [ra.length]; exact Nat.le_of_eq lt.symm⟩
/-- an owned list, while it stays -/
theorem it_own {H1 : Hp} {a : Addr} {xs : List V} {ds : List D} (h : ∀ H, C H → H a = some (.lst xs)) (ra : RA p F0 xs ds) : ItOk p F0 C ds (Itl p.K a) where
  go := fun F H i le s c lt => by
    obtain ⟨x, e, _⟩ := ra.getD (List.getElem?_eq_getElem lt)
    exact ⟨xs, x, .inl (.inl (h H c)), e⟩
  yld := fun F H i x H' le s c lt y => by
    obtain ⟨e, y⟩ := y
    obtain ⟨x', e', r⟩ := ra.getD (List.getElem?_eq_getElem lt)
    have := y xs (.inl (.inl (h H c)))
    rw [e'] at this
    cases this
    subst e
    exact ⟨Same.refl _, _, List.getElem?_eq_getElem lt, (r.mono le).mono s.new⟩
  stop := fun F H i le s c lt => ⟨xs, .inl (.inl (h H c)), by rw [ra.length]; exact Nat.le_of_eq lt.symm⟩
/-- lo, lo + 1, .. -/
def rangeD (lo : Int) (n : Nat) : List D := (List.range n).map fun i => D.int (lo + (i : Nat))
theorem rangeD_length {lo : Int} {n : Nat} : (rangeD lo n).length = n := by simp [rangeD]
theorem rangeD_get {lo : Int} {n i : Nat} (h : i < n) : (rangeD lo n)[i]? = some (.int (lo + (i : Nat))) := by
  unfold rangeD
  rw [List.getElem?_map, List.getElem?_range h]
  rfl
theorem it_range {lo : Int} {n : Nat} : ItOk p F0 C (rangeD lo n) (Itr lo n) where
  go := fun F H i le s _ lt => by rw [rangeD_length] at lt; exact lt
  yld := fun F H i x H' le s _ lt y => by
    obtain ⟨e, y⟩ := y
    rw [rangeD_length] at lt
    subst e y
    exact ⟨Same.refl _, _, rangeD_get lt, .int _⟩
  stop := fun F H i le s _ lt => by rw [rangeD_length] at lt; exact Nat.le_of_eq lt.symm
theorem it_str {x : Str} : ItOk p F0 C (x.cps.toList.map fun c => D.str ⟨#[c]⟩) (Its x) where
  go := fun F H i le s _ lt => by
    have lt : i < x.cps.size := by simpa using lt
    exact lt
  yld := fun F H i v H' le s _ lt y => by
    obtain ⟨e, c, h, y⟩ := y
    subst e y
    refine ⟨Same.refl _, .str ⟨#[c]⟩, ?_, .str _⟩
    rw [List.getElem?_map, Array.getElem?_toList, h]
    rfl
  stop := fun F H i le s _ lt => by
    have lt : i = x.cps.size := by simpa using lt
    exact Nat.le_of_eq lt.symm
/-- pairs -/
def zipD : List D → List D → List D
  | a :: as, b :: bs => .tup [a, b] :: zipD as bs
  | _, _ => []
theorem zipD_get : ∀ (as bs : List D) (i : Nat), (zipD as bs)[i]? = (as[i]?).bind fun a => (bs[i]?).map fun b => .tup [a, b]
  | [], _, i => by simp [zipD]
  | a :: as, [], i => by cases h : (a :: as)[i]? <;> simp [zipD]
  | a :: as, b :: bs, 0 => by simp [zipD]
  | a :: as, b :: bs, i + 1 => by simp [zipD, zipD_get as bs i]
theorem zipD_length : ∀ (as bs : List D), (zipD as bs).length = min as.length bs.length
  | [], _ => by simp [zipD]
  | a :: as, [] => by simp [zipD]
  | a :: as, b :: bs => by simp only [zipD, List.length_cons, zipD_length as bs]; omega
theorem it_zip {a b : Addr} {xs ys : List V} {ds es : List D} (h1 : SqL p.K F0 a xs) (h2 : SqL p.K F0 b ys) (r1 : RA p F0 xs ds) (r2 : RA p F0 ys es) : ItOk p F0 C (zipD ds es) (Itz p.K a b) where
  go := fun F H i le s _ lt => by
    rw [zipD_length] at lt
    obtain ⟨x, e, _⟩ := r1.getD (List.getElem?_eq_getElem (show i < ds.length by omega))
    obtain ⟨y, e', _⟩ := r2.getD (List.getElem?_eq_getElem (show i < es.length by omega))
    exact ⟨xs, ys, x, y, sitL s (le.seq h1), sitL s (le.seq h2), e, e'⟩
  yld := fun F H i v H' le s _ lt y => by
    rw [zipD_length] at lt
    obtain ⟨T, x, y, rfl, nT, rfl, f1, f2⟩ := y
    obtain ⟨x', e, rx⟩ := r1.getD (List.getElem?_eq_getElem (show i < ds.length by omega))
    obtain ⟨y', e', ry⟩ := r2.getD (List.getElem?_eq_getElem (show i < es.length by omega))
    have g1 := f1 xs (sitL s (le.seq h1))
    have g2 := f2 ys (sitL s (le.seq h2))
    rw [e] at g1; cases g1
    rw [e'] at g2; cases g2
    refine ⟨same_new nT, _, ?_, R.newT s nT (.cons (rx.mono le) (.cons (ry.mono le) .nil))⟩
    rw [zipD_get, List.getElem?_eq_getElem (show i < ds.length by omega), List.getElem?_eq_getElem (show i < es.length by omega)]
    rfl
  stop := fun F H i le s _ lt => by
    rw [zipD_length] at lt
    refine ⟨xs, ys, sitL s (le.seq h1), sitL s (le.seq h2), ?_⟩
    rw [r1.length, r2.length]
    omega
theorem it_zipT {a b : Addr} {xs ys : List V} {ds es : List D} (h1 : SqT p.K F0 a xs) (h2 : SqT p.K F0 b ys) (r1 : RA p F0 xs ds) (r2 : RA p F0 ys es) : ItOk p F0 C (zipD ds es) (RZ.ItzT p.K a b) where
  go := fun F H i le s _ lt => by
    rw [zipD_length] at lt
    obtain ⟨x, e, _⟩ := r1.getD (List.getElem?_eq_getElem (show i < ds.length by omega))
    obtain ⟨y, e', _⟩ := r2.getD (List.getElem?_eq_getElem (show i < es.length by omega))
    exact ⟨xs, ys, x, y, sitT s (le.seqT h1), sitT s (le.seqT h2), e, e'⟩
  yld := fun F H i v H' le s _ lt y => by
    rw [zipD_length] at lt
    obtain ⟨T, x, y, rfl, nT, rfl, f1, f2⟩ := y
    obtain ⟨x', e, rx⟩ := r1.getD (List.getElem?_eq_getElem (show i < ds.length by omega))
    obtain ⟨y', e', ry⟩ := r2.getD (List.getElem?_eq_getElem (show i < es.length by omega))
    have g1 := f1 xs (sitT s (le.seqT h1))
    have g2 := f2 ys (sitT s (le.seqT h2))
    rw [e] at g1; cases g1
    rw [e'] at g2; cases g2
    refine ⟨same_new nT, _, ?_, R.newT s nT (.cons (rx.mono le) (.cons (ry.mono le) .nil))⟩
    rw [zipD_get, List.getElem?_eq_getElem (show i < ds.length by omega), List.getElem?_eq_getElem (show i < es.length by omega)]
    rfl
  stop := fun F H i le s _ lt => by
    rw [zipD_length] at lt
    refine ⟨xs, ys, sitT s (le.seqT h1), sitT s (le.seqT h2), ?_⟩
    rw [r1.length, r2.length]
    omega
end
/-- the items of what is walked as it stands -/
def itemsOf : D → Option (List D)
  | .lst l => some l
  | .tup l => some l
  | .frl l => some l
  | .str z => some (z.cps.toList.map fun c => .str ⟨#[c]⟩)
  | _ => none
def okL {A : Type} (r : Option (List D)) (w : A) : Rs (List D) A := match r with
  | none => none
  | some d => some (.ok (d, w))
def fIt {A : Type} (f : Fe A) : Fl A := bindE f fun d w _ => okL (itemsOf d) w
section
variable {J : Jc} {O : List Nat} {X : Cx} {pk pk1 pk2 : Bool} {f f1 f2 : Fe J.G.A} {fl : Fl J.G.A} {pos p2 p0 : Pos} {tg : Expr}
theorem okL_some {w : J.G.A} {α : Type} {H : Hp} {o : Option (List D)} {rel : α → List D → Hp → Prop} {Q : α → Hp → Prop} (h : PQ J H rel Q (okL o w)) : ∃ d, o = some d ∧ PQ J H rel Q (some (.ok (d, w))) := by
  unfold okL at h
  split at h
  · exact h.elim
  · exact ⟨_, rfl, h⟩
/-- a list, a tuple or a text, as a value -/
def iAny (K : PySem.W.Frag) (t : TE) : TI := fun σ H R => t σ H fun v H1 => (∃ a, v = .ref a ∧ (∃ xs, SqL K H1 a xs) ∧ R (Itl K a) H1) ∨ (∃ a, v = .ref a ∧ (∃ xs, SqT K H1 a xs) ∧ R (Itt K a) H1) ∨ ∃ x, v = .str x ∧ R (Its x) H1
theorem pi_any {e : Expr} {t : TE} (he : PE X e t) : PI X tg e (iAny X.K t) := by
  refine ⟨fun pins s σ H R I h => thn (he.run pins s σ H _ I h) fun v s1 ⟨x, H1, I1, r1, q1⟩ => ?_⟩
  have fresh : ∀ b, b ∈ [s1.heap.objs.size] → FpOk X pins H1 b := fun b hb => by
    have e : b = s1.heap.objs.size := by simpa using hb
    subst e
    exact I1.fpOk (Nat.le_refl _) (I1.hok.fresh (Nat.le_refl _))
  rcases q1 with ⟨a, e, ⟨xs, hq⟩, q⟩ | ⟨a, e, ⟨xs, hq⟩, q⟩ | ⟨z, e, q⟩
  · subst e
    cases r1
    obtain ⟨its, rv, p, hz⟩ := I1.list hq
    exact wpAny_pyIter_list p.isList ⟨_, _, _, _, H1, rfl, I1.kept (t' := s1.toks) fun b o e => Heap.get?_push_of_some _ e, turn_list a _, ⟨_, Heap.get?_push_size _ rfl, rfl, rfl⟩, fresh, q⟩
  · subst e
    cases r1
    obtain ⟨its, rv, p, hz⟩ := I1.tuple hq
    exact wpAny_pyIter_tuple (show s1.heap.IsTuple a its.toArray from p) ⟨_, _, _, _, H1, rfl, I1.kept (t' := s1.toks) fun b o e => Heap.get?_push_of_some _ e, turn_tuple a _, ⟨_, Heap.get?_push_size _ rfl, rfl, rfl⟩, fresh, q⟩
  · subst e
    obtain ⟨t, rfl⟩ := r1
    cases ha : z.cps.all (· < 128)
    · exact wpAny_pyIter_wide ha (pi_one (tk := s1.toks) I1 _ (turn_str _ z t "str_iterator" (.inr rfl)) ⟨_, Heap.get?_push_size _ rfl, rfl, rfl⟩ q)
    · exact wpAny_pyIter_ascii ha (pi_one (tk := s1.toks) I1 _ (turn_str _ z t "str_ascii_iterator" (.inl rfl)) ⟨_, Heap.get?_push_size _ rfl, rfl, rfl⟩ q)
theorem PI.imp {e : Expr} {t t' : TI} (h : PI X tg e t) (k : ∀ σ H Q, t' σ H Q → t σ H Q) : PI X tg e t' := ⟨fun pins s σ H Q I q => h.run pins s σ H Q I (k σ H Q q)⟩
theorem ei_val {e : Expr} (h : EM J O X pk e f) (hK : X.K = J.p.K := by rfl) : EI J O X pk tg e (fIt f) := ⟨PI.imp (pi_any h.pe) fun σ H Q => by
  rintro ⟨w, ρ, x, q⟩
  refine em_seq x q fun v H1 d w1 x1 f1 r1 q1 => ?_
  obtain ⟨ds, hd, q2⟩ := okL_some q1
  have go : ∀ {it : It}, ItOk J.p (Fz J O σ H1) (ItC pk O σ H1) ds it → Q it H1 := fun {it} k => PQ.ok (rel := fun (it : It) ds H' => ItOk J.p (Fz J O σ H') (ItC pk O σ H') ds it) q2 (GW.fr_refl _ _) x1.rel k
  rw [hK]
  rcases r1 with r | ⟨hpk, i, hi, e1, e2⟩
  · unfold itemsOf at hd
    split at hd <;> cases hd
    · cases r with
      | lst e ra => exact .inl ⟨_, rfl, ⟨_, .inl (.inl ((of_hide e).2))⟩, go (it_list (H0 := H1) (F := Fz J O σ H1) (.inl (.inl e)) ra)⟩
    · cases r with
      | tup e ra => exact .inr (.inl ⟨_, rfl, ⟨_, sitT sit e⟩, go (it_tup e ra)⟩)
    · cases r with
      | frl e ra => exact .inl ⟨_, rfl, ⟨_, sitL sit e⟩, go (it_list (H0 := H1) (F := Fz J O σ H1) e ra)⟩
    · cases r with
      | str z => exact .inr (.inr ⟨_, rfl, go it_str⟩)
  · obtain ⟨a, e3, o⟩ := x1.own i d e2 hi
    rw [e1] at e3; cases e3
    cases d <;> first | exact o.elim | skip
    · obtain ⟨xs, e4, ra⟩ := o
      cases hd
      exact .inl ⟨a, rfl, ⟨xs, .inl (.inl e4)⟩, go (it_own (H1 := H1) (fun H' c => c hpk i a _ hi e1 e4) ra)⟩
    · cases hd⟩
def fRange1 {A : Type} (f : Fe A) : Fl A := bindE f fun d w _ => match d with
  | .int j => if decide (-(2 ^ 62) ≤ j) && decide (j < 2 ^ 62) then some (.ok (rangeD 0 j.toNat, w)) else none
  | _ => none
theorem ei_range1 {a : Expr} (h : EM J O X false a f) (hg : Gl X "range") (hm : X.mg "range" = none) (hs : starEach [a] X.env = [(false, eval a X.env)] := by rfl) (hs2 : starEach [a] X.env = (false, eval a X.env) :: starEach [] X.env := by rfl) : EI J O X pk tg (.Call (.Name "range" p0) [a] [] pos) (fRange1 f) := ⟨PI.imp (pi_range1 hg hm (pa_cons h.pe pa_nil hs2) hs) fun σ H Q => by
  rintro ⟨w, ρ, x, q⟩
  refine em_seq x q fun v H1 d w1 x1 f1 r1 q1 => ?_
  cases d <;> first | exact q1.elim | skip
  dsimp only at q1
  split at q1
  · rename_i j c
    rw [Bool.and_eq_true] at c
    exact ⟨j, by rw [r1.plain.intv], of_decide_eq_true c.1, of_decide_eq_true c.2, PQ.ok (rel := fun (it : It) ds H' => ItOk J.p (Fz J O σ H') (ItC pk O σ H') ds it) q1 (GW.fr_refl _ _) x1.rel it_range⟩
  · exact q1.elim⟩
def fRange2 {A : Type} (f g : Fe A) : Fl A := bindE f fun c => bindE g fun d w _ => match c, d with
  | .int i, .int j => if decide (-(2 ^ 62) ≤ i) && decide (i < 2 ^ 62) && decide (-(2 ^ 62) ≤ j) && decide (j < 2 ^ 62) then some (.ok (rangeD i (j - i).toNat, w)) else none
  | _, _ => none
theorem ei_range2 {a b : Expr} (h : EM J O X false a f1) (h' : EM J O X false b f2) (hg : Gl X "range") (hm : X.mg "range" = none) (hs : starEach [a, b] X.env = [(false, eval a X.env), (false, eval b X.env)] := by rfl) (hs2 : starEach [b] X.env = [(false, eval b X.env)] := by rfl)
    (hs3 : starEach [a, b] X.env = (false, eval a X.env) :: starEach [b] X.env := by rfl) (hs4 : starEach [b] X.env = (false, eval b X.env) :: starEach [] X.env := by rfl) : EI J O X pk tg (.Call (.Name "range" p0) [a, b] [] pos) (fRange2 f1 f2) := ⟨PI.imp (pi_range2 hg hm (pa_cons h.pe (pa_cons h'.pe pa_nil hs4) hs3) hs hs2) fun σ H Q => by
  rintro ⟨w, ρ, x, q⟩
  refine em_seq x q fun v H1 c w1 x1 fr1 r1 q1 => ?_
  refine em_seq x1 q1 fun u H2 d w2 x2 fr2 r2 q2 => ?_
  cases c <;> first | exact q2.elim | skip
  cases d <;> first | exact q2.elim | skip
  dsimp only at q2
  split at q2
  · rename_i i j c
    rw [Bool.and_eq_true, Bool.and_eq_true, Bool.and_eq_true] at c
    obtain ⟨⟨⟨c1, c2⟩, c3⟩, c4⟩ := c
    exact ⟨i, j, by rw [r1.plain.intv, r2.plain.intv], ⟨of_decide_eq_true c1, of_decide_eq_true c2, of_decide_eq_true c3, of_decide_eq_true c4⟩, PQ.ok (rel := fun (it : It) ds H' => ItOk J.p (Fz J O σ H') (ItC pk O σ H') ds it) q2 (GW.fr_refl _ _) x2.rel it_range⟩
  · exact q2.elim⟩
/-- zip of two lists or of two tuples -/
def zipOf (a b : D) : Option (List D) := match a, b with
  | .lst l, .lst m => some (zipD l m)
  | .tup l, .tup m => some (zipD l m)
  | _, _ => none
def fZip {A : Type} (f g : Fe A) : Fl A := bindE f fun c => bindE g fun d w _ => okL (zipOf c d) w
theorem R.lst_inv {p : Rp} {F : Hp} {v : V} {ds : List D} (h : R p F v (.lst ds)) : ∃ a xs, v = .ref a ∧ F a = some (.lst xs) ∧ RA p F xs ds := by
  cases h with
  | lst e r => exact ⟨_, _, rfl, e, r⟩
theorem ei_zip {a b : Expr} {elts : List Expr} {kk : Nat} {tpos : Pos} (h : EM J O X false a f1) (h' : EM J O X false b f2) (hg : Gl X "zip") (hm : X.mg "zip" = none) (hK : X.K = J.p.K := by rfl) (hs : starEach [a, b] X.env = (false, eval a X.env) :: starEach [b] X.env := by rfl)
    (hs4 : starEach [b] X.env = (false, eval b X.env) :: starEach [] X.env := by rfl) (hpl : (backTo pos (starEach [b] X.env)).any (·.1) = false := by rfl) : EI J O X pk (.Tuple elts kk tpos) (.Call (.Name "zip" p0) [a, b] [] pos) (fZip f1 f2) := ⟨PI.imp (RZ.pi_zipA hg hm (pa_cons h.pe (pa_cons h'.pe pa_nil hs4) hs) hs hpl) fun σ H Q => by
  rintro ⟨w, ρ, x, q⟩
  refine em_seq x q fun v H1 c w1 x1 fr1 r1 q1 => ?_
  refine em_seq x1 q1 fun u H2 d w2 x2 fr2 r2 q2 => ?_
  obtain ⟨ds, hd, q3⟩ := okL_some q2
  have go : ∀ {it : It}, ItOk J.p (Fz J O σ H2) (ItC pk O σ H2) ds it → Q it H2 := fun {it} k => PQ.ok (rel := fun (it : It) ds H' => ItOk J.p (Fz J O σ H') (ItC pk O σ H') ds it) q3 (GW.fr_refl _ _) x2.rel k
  have r1 := (Rl.step x1 fr2 r1).plain
  have r2 := r2.plain
  rw [hK]
  unfold zipOf at hd
  split at hd
  · cases hd
    obtain ⟨a1, xs, rfl, s1, ra1⟩ := r1.lst_inv
    obtain ⟨b1, ys, rfl, s2, ra2⟩ := r2.lst_inv
    exact ⟨a1, b1, xs, ys, rfl, .inl ⟨.inl (.inl (sit.le _ _ s1)), .inl (.inl (sit.le _ _ s2)), go (it_zip (.inl (.inl s1)) (.inl (.inl s2)) ra1 ra2)⟩⟩
  · cases hd
    obtain ⟨a1, xs, rfl, s1, ra1⟩ := r1.tup_inv
    obtain ⟨b1, ys, rfl, s2, ra2⟩ := r2.tup_inv
    exact ⟨a1, b1, xs, ys, rfl, .inr ⟨sitT sit s1, sitT sit s2, go (it_zipT s1 s2 ra1 ra2)⟩⟩
  · cases hd⟩
end

/-! ### raising, turning owned lists, name op= e -/
section
variable {J : Jc} {O : List Nat} {fr : Bool} {X : Cx} {pk pk1 pk2 : Bool} {f f1 f2 : Fe J.G.A} {fl : Fl J.G.A} {pos p2 p0 : Pos} {tg : Expr}
def sRaise {A : Type} (x : Ex) : Fs A := fun w _ => some (.exc (x, w))
/-- raise X('..'): an own class without __init__ -/
theorem sm_raise {e : Expr} {c : Str} {C : Addr} (hc : X.calm = true) (tk : Takes X (fun cls d _ H => J.E cls d H)) (he : PMk X e (fun _ H Q => Q (.ref C) none H)) (hC : J.p.cls c = some C) : SM J O fr X (.Raise (some e) none pos) (sRaise ⟨c, []⟩) := ⟨PS.imp (ps_raise hc tk he) fun Z σ H => by
  rintro ⟨w, ρ, x, q⟩
  exact q (.ref C) none H x.fr x.rel ⟨C, hC, rfl, .inl ⟨rfl, rfl⟩⟩⟩
/-- name op= e -/
def sAug {A : Type} (i : Nat) (g : D → D → Option D) (f : Fe A) : Fs A := fun w ρ => match ρ[i]? with
  | some (some a) => seqE f (fun b w ρ => match g a b with
    | none => none
    | some d => some (.nx w (ρ.set i (some d)))) w ρ
  | _ => none
def dAddI : D → D → Option D := dInt2 fun i j => .int (i + j)
def dSubI : D → D → Option D := dInt2 fun i j => .int (i - j)
theorem sm_aug {i : Nat} {e : Expr} {st : Stmt} {g : Int → Int → Int} (hp : ∀ {te : TE}, PE X e te → PS X st (tAug i te (ipI g))) (h : EM J O X false e f) (hO : O.contains i = false) : SM J O fr X st (sAug i (dInt2 fun i j => .int (g i j)) f) := ⟨PS.imp (hp h.pe) fun Z σ H => by
  rintro ⟨w, ρ, x, q⟩
  have hi : i ∉ O := by simpa using hO
  unfold sAug at q
  split at q
  · rename_i a ha
    obtain ⟨v, hv, rv⟩ := x.val i a ha hi
    refine ⟨v, hv, w, ρ, x, PQ.mono (PQ.stmt q) fun u H1 ⟨b, w1, f1, r1, rl, q1⟩ => ?_⟩
    unfold dInt2 at q1
    cases a <;> first | exact q1.elim | skip
    cases b <;> first | exact q1.elim | skip
    exact ⟨_, _, rv.intv, rl.plain.intv, q1 _ H1 ((x.ev f1).trans (SR.storeEv hi)) ((x.step f1 r1).store hi (.int _))⟩
  · exact q.elim⟩
theorem lt_line {n : Nat} (h : n < 16000000) : n < sizeLine := by rw [sizeLine_eq]; omega
end
end DL
namespace DL
open L2 PySem PyProof.Rows PySem.Spec

/-! ### expressions that turn owned lists -/
abbrev Rx (A : Type) := Option (Except (Ex × A) (D × (A × Env)))
abbrev Fx (A : Type) := A → Env → Rx A
def PX (J : Jc) (O : List Nat) (σ : L2.St) (H : Hp) (Q : VK) (r : Rx J.G.A) : Prop := match r with
  | none => False
  | some (.error x) => ErrOk J x
  | some (.ok (d, w, ρ)) => ∀ v H', Ev J O σ H σ H' → SR J O σ H' w ρ → R J.p (Fz J O σ H') v d → Q v H'
structure EX (J : Jc) (O : List Nat) (X : Cx) (e : Expr) (f : Fx J.G.A) : Prop where
  pe : PE X e (fun σ H Q => ∃ w ρ, SR J O σ H w ρ ∧ PX J O σ H Q (f w ρ))
abbrev Opw := List D → List D → Option (D × List D)
/-- xs.m(..), xs owned -/
def xOwn {A : Type} (i : Nat) (op : Opw) (fl : Fl A) : Fx A := fun w ρ => match ρ[i]? with
  | some (some (.lst l)) => match fl w ρ with
    | none => none
    | some (.error x) => some (.error x)
    | some (.ok (ds, w')) => match op l ds with
      | none => none
      | some (d, l') => some (.ok (d, w', ρ.set i (some (.lst l'))))
  | _ => none
/-- .. whose argument turns owned lists -/
def xOwnX {A : Type} (i : Nat) (op : Opw) (f : Fx A) : Fx A := fun w ρ => match ρ[i]? with
  | some (some (.lst _)) => match f w ρ with
    | none => none
    | some (.error x) => some (.error x)
    | some (.ok (b, w', ρ')) => match ρ'[i]? with
      | some (some (.lst l)) => match op l [b] with
        | none => none
        | some (d, l') => some (.ok (d, w', ρ'.set i (some (.lst l'))))
      | _ => none
  | _ => none
def OwnM (p : Rp) (r : V → List V → Hp → VK → Prop) (op : Opw) : Prop := ∀ (F H : Hp) (a : Addr) (xs : List V) (l : List D) (vs : List V) (ds : List D) (d : D) (l' : List D) (Q : VK), Sit F H → H a = some (.lst xs) → RA p F xs l → RA p F vs ds → op l ds = some (d, l') →
  (∀ v xs', RA p F xs' l' → R p F v d → Q v (upd H a (.lst xs'))) → r (.ref a) vs H Q
section
variable {J : Jc} {O : List Nat} {fr : Bool} {X : Cx} {pk pk1 pk2 : Bool} {f f1 f2 : Fe J.G.A} {fl : Fl J.G.A} {fx : Fx J.G.A} {pos p2 p0 apos : Pos} {tg : Expr}
theorem own_fin {σ : L2.St} {H H1 : Hp} {w1 : J.G.A} {ρ1 : Env} {i : Nat} {a : Addr} {xs' : List V} {l' : List D} {v : V} {d : D} {Q : VK} (ev : Ev J O σ H σ H1) (x1 : SR J O σ H1 w1 ρ1) (hi : i ∈ O) (ea : σ[i]? = some (some (.ref a)))
    (r1 : RA J.p (Fz J O σ H1) xs' l') (r2 : R J.p (Fz J O σ H1) v d) (q : PX J O σ H Q (some (.ok (d, w1, ρ1.set i (some (.lst l')))))) : Q v (upd H1 a (.lst xs')) := by
  obtain ⟨x2, ev2⟩ := x1.write hi ea (d := .lst l') ⟨_, upd_same, r1⟩
  exact q v _ (ev.trans ev2) x2 (r2.mono ev2.le)
theorem ex_own {i : Nat} {es : List Expr} {e : Expr} {r : V → List V → Hp → VK → Prop} {op : Opw} (he : ∀ {ta : TA}, PA X es ta → PE X e (tBM X.K "list" r (tVar i) ta)) (ho : OwnM J.p r op) (h : EMs J O X false es fl) (hO : O.contains i = true) : EX J O X e (xOwn i op fl) := ⟨PE.imp (he h.pa) fun σ H Q => by
  rintro ⟨w, ρ, x, q⟩
  have hi : i ∈ O := by simpa using hO
  unfold xOwn at q
  split at q
  · rename_i l hd
    obtain ⟨a, ea, xs, el, ra⟩ := x.own i _ hd hi
    refine ⟨_, ea, .inl ⟨rfl, _, .inl (.inl el)⟩, w, ρ, x, ?_⟩
    unfold PQ
    split
    · rename_i e; rw [e] at q; exact q
    · rename_i e; rw [e] at q; exact q
    · rename_i ds w1 e
      rw [e] at q
      dsimp only at q
      intro vs H1 f1 r1 rl
      have x1 := x.step f1 r1
      split at q
      · exact q.elim
      · rename_i d l' ho1
        exact ho _ H1 a xs l vs ds d l' _ sit (x.ownKept f1 hi ea el) (ra.mono (x.le f1)) rl.ra ho1 fun v xs' ra' rd => own_fin (x.ev f1) x1 hi ea ra' rd q
  · exact q.elim⟩
theorem ex_own0 {i : Nat} {e : Expr} {r : V → List V → Hp → VK → Prop} {op : Opw} (he : PE X e (tBM0 X.K "list" r (tVar i))) (ho : OwnM J.p r op) (hO : O.contains i = true) : EX J O X e (xOwn i op fNil) := ⟨PE.imp he fun σ H Q => by
  rintro ⟨w, ρ, x, q⟩
  have hi : i ∈ O := by simpa using hO
  unfold xOwn at q
  split at q
  · rename_i l hd
    obtain ⟨a, ea, xs, el, ra⟩ := x.own i _ hd hi
    refine ⟨_, ea, .inl ⟨rfl, _, .inl (.inl el)⟩, ?_⟩
    unfold fNil at q
    dsimp only at q
    split at q
    · exact q.elim
    · rename_i d l' ho1
      exact ho _ H a xs l [] [] d l' _ sit el ra .nil ho1 fun v xs' ra' rd => own_fin .refl x hi ea ra' rd q
  · exact q.elim⟩
theorem ex_ownX {i : Nat} {e e1 : Expr} {r : V → List V → Hp → VK → Prop} {op : Opw} (he : ∀ {te : TE}, PE X e1 te → PE X e (tBM X.K "list" r (tVar i) (tCons te tNil))) (ho : OwnM J.p r op) (h : EX J O X e1 fx) (hO : O.contains i = true) : EX J O X e (xOwnX i op fx) := ⟨PE.imp (he h.pe) fun σ H Q => by
  rintro ⟨w, ρ, x, q⟩
  have hi : i ∈ O := by simpa using hO
  unfold xOwnX at q
  split at q
  · rename_i l hd
    obtain ⟨a, ea, xs, el, ra⟩ := x.own i _ hd hi
    refine ⟨_, ea, .inl ⟨rfl, _, .inl (.inl el)⟩, w, ρ, x, ?_⟩
    unfold PX
    split
    · rename_i e; rw [e] at q; exact q
    · rename_i e; rw [e] at q; exact q
    · rename_i b w1 ρ1 e
      rw [e] at q
      dsimp only at q
      intro v H1 ev x1 rv
      split at q
      · rename_i l1 hd1
        obtain ⟨a1, ea1, xs1, el1, ra1⟩ := x1.own i _ hd1 hi
        rw [ea] at ea1
        cases ea1
        split at q
        · exact q.elim
        · rename_i d l' ho1
          exact ho _ H1 a xs1 l1 [v] [b] d l' _ sit el1 ra1 (.cons rv .nil) ho1 fun v xs' ra' rd => own_fin ev x1 hi ea ra' rd q
      · exact q.elim
  · exact q.elim⟩
/-- as a statement; as what is stored -/
def sX {A : Type} (f : Fx A) : Fs A := fun w ρ => match f w ρ with
  | none => none
  | some (.error x) => some (.exc x)
  | some (.ok (_, w', ρ')) => some (.nx w' ρ')
def sAsgX {A : Type} (f : Fx A) (g : Gt) : Fs A := fun w ρ => match f w ρ with
  | none => none
  | some (.error x) => some (.exc x)
  | some (.ok (d, w', ρ')) => match g d ρ' with
    | none => none
    | some ρ2 => some (.nx w' ρ2)
theorem sm_exprX {e : Expr} (h : EX J O X e fx) (hs : swapsWith e none pos.line X.env = pure false := by rfl) : SM J O fr X (.Expr e pos) (sX fx) := ⟨PS.imp (ps_expr h.pe hs) fun Z σ H => by
  rintro ⟨w, ρ, x, q⟩
  refine ⟨w, ρ, x, ?_⟩
  unfold sX at q
  unfold PX
  split
  · rename_i e; rw [e] at q; exact q
  · rename_i e; rw [e] at q; exact q
  · rename_i d w1 ρ1 e
    rw [e] at q
    exact fun v H' ev x1 rv => q σ H' ev x1⟩
theorem sm_asgX {tg e : Expr} {g : Gt} {st : Stmt} {sl : List Nat} (hp : ∀ {te : TE} {tg' : TG}, PE X e te → L2.PG X tg tg' → PS X st (tAsg te tg')) (h : EX J O X e fx) (hg : GM J O X tg sl g) : SM J O fr X st (sAsgX fx g) := ⟨PS.imp (hp h.pe hg.pg) fun Z σ H => by
  rintro ⟨w, ρ, x, q⟩
  refine ⟨w, ρ, x, ?_⟩
  unfold sAsgX at q
  unfold PX
  split
  · rename_i e; rw [e] at q; exact q
  · rename_i e; rw [e] at q; exact q
  · rename_i d w1 ρ1 e
    rw [e] at q
    dsimp only at q
    intro v H1 ev x1 rv
    split at q
    · exact q.elim
    · rename_i ρ2 hg
      exact ⟨d, w1, ρ1, x1, rv, ρ2, hg, fun σ' ev' _ x' => q σ' H1 (ev.trans ev') x'⟩⟩
end
/-! the methods -/
def opApp : Opw := fun l ds => match ds with
  | [b] => if l.length < 16000000 then some (.non, l ++ [b]) else none
  | _ => none
def opExt : Opw := fun l ds => match ds with
  | [.lst m] => if l.length + m.length ≤ 16000000 then some (.non, l ++ m) else none
  | _ => none
def opPop : Opw := fun l ds => match ds with
  | [] => match l[l.length - 1]? with
    | none => none
    | some d => some (d, l.dropLast)
  | _ => none
def opPopAt : Opw := fun l ds => match ds with
  | [.int i] => if decide (-(2 ^ 63) ≤ i) && decide (i < 2 ^ 63) then match seqIndex? i l.length with
    | none => none
    | some k => match l[k]? with
      | none => none
      | some d => some (d, l.eraseIdx k)
    else none
  | _ => none
section
variable {p : Rp}
theorem RA.dropLast {F : Hp} : ∀ {v : List V} {d : List D}, RA p F v d → RA p F v.dropLast d.dropLast
  | _, _, .nil => .nil
  | _, _, .cons a .nil => .nil
  | _, _, .cons a (.cons b c) => .cons a (RA.dropLast (.cons b c))
theorem RA.eraseIdx {F : Hp} : ∀ {v : List V} {d : List D} (i : Nat), RA p F v d → RA p F (v.eraseIdx i) (d.eraseIdx i)
  | _, _, _, .nil => .nil
  | _, _, 0, .cons a b => b
  | _, _, i + 1, .cons a b => .cons a (RA.eraseIdx i b)
theorem ra1 {F : Hp} {vs : List V} {d : D} (h : RA p F vs [d]) : ∃ v, vs = [v] ∧ R p F v d := by
  cases h with
  | cons a b => cases b; exact ⟨_, rfl, a⟩
theorem o_app : OwnM p rAppend opApp := fun F H a xs l vs ds d l' Q s el ra rs h q => by
  unfold opApp at h
  split at h
  · rename_i b
    obtain ⟨v, rfl, r⟩ := ra1 rs
    split at h
    · rename_i hz
      cases h
      exact ⟨a, xs, v, rfl, rfl, el, by rw [ra.length]; exact lt_line hz, q .non _ (ra.append (.cons r .nil)) .non⟩
    · cases h
  · cases h
theorem o_ext : OwnM p rExtend opExt := fun F H a xs l vs ds d l' Q s el ra rs h q => by
  unfold opExt at h
  split at h
  · rename_i b
    obtain ⟨v, rfl, r⟩ := ra1 rs
    split at h
    · rename_i hz
      cases h
      obtain ⟨b1, zs, rfl, e2, r2⟩ := r.lst_inv
      exact ⟨a, b1, xs, zs, rfl, rfl, el, s.le _ _ e2, by rw [ra.length, r2.length]; exact le_line hz, q .non _ (ra.append r2) .non⟩
    · cases h
  · cases h
theorem o_pop : OwnM p rPop opPop := fun F H a xs l vs ds d l' Q s el ra rs h q => by
  unfold opPop at h
  split at h
  · split at h
    · cases h
    · rename_i d0 hd
      cases h
      cases rs
      obtain ⟨y, hy, ry⟩ := ra.getD hd
      exact ⟨a, xs, y, rfl, rfl, el, by rw [ra.length]; exact hy, q y _ ra.dropLast ry⟩
  · cases h
theorem o_popAt : OwnM p rPopAt opPopAt := fun F H a xs l vs ds d l' Q s el ra rs h q => by
  unfold opPopAt at h
  split at h
  · rename_i i
    obtain ⟨v, rfl, r⟩ := ra1 rs
    split at h
    · rename_i c
      rw [Bool.and_eq_true] at c
      split at h
      · cases h
      · rename_i k hk
        split at h
        · cases h
        · rename_i d0 hd
          cases h
          obtain ⟨y, hy, ry⟩ := ra.getD hd
          exact ⟨a, xs, i, k, y, rfl, by rw [r.intv], el, of_decide_eq_true c.1, of_decide_eq_true c.2, by rw [ra.length]; exact hk, hy, q y _ (ra.eraseIdx k) ry⟩
    · cases h
  · cases h
end
section
variable {J : Jc} {O : List Nat} {fr : Bool} {X : Cx} {i : Nat} {o e : Expr} {f : Fe J.G.A} {fx : Fx J.G.A} {apos cpos : Pos}
theorem ex_append (ho : PE X o (tVar i)) (h : EM J O X false e f) (hO : O.contains i = true) (hbase : attributeBase o "append" X.env (eval o X.env) = eval o X.env := by rfl)
    (hfew : ((backTo cpos (starEach [e] X.env)).all (fun x => !x.1) && (backToKw cpos (keywordEach [] X.env)).all (fun x => x.1.isSome) && decide (([e] : List Expr).length + ([] : List Keyword).length + (if ([] : List Keyword).isEmpty then 0 else 1) < 30)) = true := by rfl)
    (hline : (apos.endLine == cpos.line) = true := by rfl) (hs : starEach [e] X.env = (false, eval e X.env) :: starEach [] X.env := by rfl) (hplain : (backTo cpos (starEach [] X.env)).any (·.1) = false := by rfl) :
    EX J O X (.Call (.Attribute o "append" apos) [e] [] cpos) (xOwn i opApp (fCons f fNil)) :=
  ex_own (fun ha => pe_bm PySem.F.plainAttrs_list PySem.F.slot_list_append PySem.F.type_list_append mt_append ho ha hbase hfew hline hs hplain) o_app (ems_cons h ems_nil hs) hO
theorem ex_appendX (ho : PE X o (tVar i)) (h : EX J O X e fx) (hO : O.contains i = true) (hbase : attributeBase o "append" X.env (eval o X.env) = eval o X.env := by rfl)
    (hfew : ((backTo cpos (starEach [e] X.env)).all (fun x => !x.1) && (backToKw cpos (keywordEach [] X.env)).all (fun x => x.1.isSome) && decide (([e] : List Expr).length + ([] : List Keyword).length + (if ([] : List Keyword).isEmpty then 0 else 1) < 30)) = true := by rfl)
    (hline : (apos.endLine == cpos.line) = true := by rfl) (hs : starEach [e] X.env = (false, eval e X.env) :: starEach [] X.env := by rfl) (hplain : (backTo cpos (starEach [] X.env)).any (·.1) = false := by rfl) :
    EX J O X (.Call (.Attribute o "append" apos) [e] [] cpos) (xOwnX i opApp fx) :=
  ex_ownX (fun he => pe_bm PySem.F.plainAttrs_list PySem.F.slot_list_append PySem.F.type_list_append mt_append ho (pa_cons he pa_nil hs) hbase hfew hline hs hplain) o_app h hO
theorem ex_extend (ho : PE X o (tVar i)) (h : EM J O X false e f) (hO : O.contains i = true) (hbase : attributeBase o "extend" X.env (eval o X.env) = eval o X.env := by rfl)
    (hfew : ((backTo cpos (starEach [e] X.env)).all (fun x => !x.1) && (backToKw cpos (keywordEach [] X.env)).all (fun x => x.1.isSome) && decide (([e] : List Expr).length + ([] : List Keyword).length + (if ([] : List Keyword).isEmpty then 0 else 1) < 30)) = true := by rfl)
    (hline : (apos.endLine == cpos.line) = true := by rfl) (hs : starEach [e] X.env = (false, eval e X.env) :: starEach [] X.env := by rfl) (hplain : (backTo cpos (starEach [] X.env)).any (·.1) = false := by rfl) :
    EX J O X (.Call (.Attribute o "extend" apos) [e] [] cpos) (xOwn i opExt (fCons f fNil)) :=
  ex_own (fun ha => pe_bm PySem.F.plainAttrs_list PySem.F.slot_list_extend PySem.F.type_list_extend mt_extend ho ha hbase hfew hline hs hplain) o_ext (ems_cons h ems_nil hs) hO
theorem ex_popAt (ho : PE X o (tVar i)) (h : EM J O X false e f) (hO : O.contains i = true) (hbase : attributeBase o "pop" X.env (eval o X.env) = eval o X.env := by rfl)
    (hfew : ((backTo cpos (starEach [e] X.env)).all (fun x => !x.1) && (backToKw cpos (keywordEach [] X.env)).all (fun x => x.1.isSome) && decide (([e] : List Expr).length + ([] : List Keyword).length + (if ([] : List Keyword).isEmpty then 0 else 1) < 30)) = true := by rfl)
    (hline : (apos.endLine == cpos.line) = true := by rfl) (hs : starEach [e] X.env = (false, eval e X.env) :: starEach [] X.env := by rfl) (hplain : (backTo cpos (starEach [] X.env)).any (·.1) = false := by rfl) :
    EX J O X (.Call (.Attribute o "pop" apos) [e] [] cpos) (xOwn i opPopAt (fCons f fNil)) :=
  ex_own (fun ha => pe_bm PySem.F.plainAttrs_list PySem.F.slot_list_pop PySem.F.type_list_pop mt_popAt ho ha hbase hfew hline hs hplain) o_popAt (ems_cons h ems_nil hs) hO
theorem ex_pop (ho : PE X o (tVar i)) (hO : O.contains i = true) (hbase : attributeBase o "pop" X.env (eval o X.env) = eval o X.env := by rfl) (hline : (apos.endLine == cpos.line) = true := by rfl) :
    EX J O X (.Call (.Attribute o "pop" apos) [] [] cpos) (xOwn i opPop fNil) :=
  ex_own0 (pe_bm0 PySem.F.plainAttrs_list PySem.F.slot_list_pop PySem.F.type_list_pop mt_pop ho hbase hline) o_pop hO
end
end DL
namespace DL
open L2 PySem PyProof.Rows PySem.Spec

/-! ### several targets at once -/
/-- these new objects are held apart -/
def hidH (T : List Addr) (H' H0 : Hp) : Hp := fun b => if b ∈ T then H' b else H0 b
structure Held (J : Jc) (T : List Addr) (H H' : Hp) : Prop where
  fr : J.G.fr H H'
  off : ∀ a, a ∈ T → H a = none
  on : ∀ a, a ∈ T → ∃ o, H' a = some o ∧ Wr o
abbrev Jc.hid (J : Jc) (T : List Addr) (H' : Hp) (hS : ∀ b, (J.S0 b ∨ b ∈ T) → ∃ o, hidH T H' J.H0 b = some o) (hU : ∀ b, J.G.U b → (J.S0 b ∨ b ∈ T)) : Jc := { G := J.G, p := J.p, H0 := hidH T H' J.H0, S0 := fun b => J.S0 b ∨ b ∈ T, E := J.E, hS := hS, hU := hU }
theorem hidH_in {T : List Addr} {H' H0 : Hp} {b : Addr} (h : b ∈ T) : hidH T H' H0 b = H' b := if_pos h
theorem hidH_out {T : List Addr} {H' H0 : Hp} {b : Addr} (h : ¬ b ∈ T) : hidH T H' H0 b = H0 b := if_neg h
section
variable {J : Jc} {O : List Nat} {fr : Bool} {X : Cx} {σ : L2.St} {H H' H1 H2 : Hp} {w w' : J.G.A} {ρ : Env} {T : List Addr}
theorem hid_hS (hT : ∀ a, a ∈ T → ∃ o, H' a = some o) : ∀ b, (J.S0 b ∨ b ∈ T) → ∃ o, hidH T H' J.H0 b = some o := fun b hb => by
  by_cases z : b ∈ T
  · rw [hidH_in z]; exact hT b z
  · rw [hidH_out z]; exact J.hS b (hb.resolve_right z)
theorem hid_hU : ∀ b, J.G.U b → (J.S0 b ∨ b ∈ T) := fun b hb => .inl (J.hU b hb)
theorem hid_ss {hS hU} (b : Addr) : SS (J.hid T H' hS hU) O σ b ↔ SS J O σ b ∨ b ∈ T := by
  unfold SS
  constructor
  · rintro ((z | z) | z)
    · exact .inl (.inl z)
    · exact .inr z
    · exact .inl (.inr z)
  · rintro ((z | z) | z)
    · exact .inl (.inl z)
    · exact .inr z
    · exact .inl (.inr z)
/-- the frame under what is held -/
theorem SR.hold (x : SR J O σ H w ρ) (h : Held J T H H') (r : J.G.rel w' H') {hS hU} : SR (J.hid T H' hS hU) O σ H' w' ρ := by
  have le : Le (Fz J O σ H) (Fz (J.hid T H' hS hU) O σ H') := hide_le fun b o n e t =>
    ⟨h.fr.keep b o e (x.noU n) fun _ => t, fun z => ((hid_ss b).mp z).elim n fun z => by rw [h.off b z] at e; cases e⟩
  refine ⟨⟨fun b o eb nu t => ?_, fun b o eb => ?_⟩, r, x.len, fun i d h n => ?_, fun i d hh n => ?_, fun i a hi hh => ?_, x.apart⟩
  · have eb : hidH T H' J.H0 b = some o := eb
    by_cases z : b ∈ T
    · rw [hidH_in z] at eb; exact eb
    · rw [hidH_out z] at eb
      exact (GW.fr_trans x.fr h.fr).keep b o eb nu t
  · have eb : hidH T H' J.H0 b = some o := eb
    by_cases z : b ∈ T
    · rw [hidH_in z] at eb; exact ⟨_, eb⟩
    · rw [hidH_out z] at eb
      exact (GW.fr_trans x.fr h.fr).dom b o eb
  · obtain ⟨v, e, rv⟩ := x.val i d h n
    exact ⟨v, e, rv.mono le⟩
  · obtain ⟨a, e, o⟩ := x.own i d hh n
    exact ⟨a, e, o.mono le fun u hu => x.ownKept h.fr n e hu⟩
  · obtain ⟨q, u, hu, wr⟩ := x.fresh i a hi hh
    refine ⟨?_, u, x.ownKept h.fr hi hh hu, wr⟩
    show hidH T H' J.H0 a = none
    rw [hidH_out fun z => by rw [h.off a z] at hu; cases hu]
    exact q
theorem SR.unhold {hS hU} (x : SR (J.hid [] H' hS hU) O σ H w ρ) : SR J O σ H w ρ := by
  have e0 : (J.hid [] H' hS hU) = J := by
    cases J
    simp only [Jc.hid, Jc.mk.injEq, heq_eq_eq, true_and, and_true]
    refine ⟨?_, ?_⟩
    · funext b; exact hidH_out (by simp)
    · funext b; simp
  have : ∀ (J' : Jc), J' = J → ∀ (w' : J'.G.A), HEq w' w → SR J' O σ H w' ρ → SR J O σ H w ρ := by
    rintro _ rfl w' e x; cases e; exact x
  exact this _ e0 _ HEq.rfl x
/-- one that was held apart is stored in an owned slot -/
theorem SR.adopt {a : Addr} {i : Nat} {d : D} {hS hU hS' hU'} (x : SR (J.hid (a :: T) H1 hS hU) O σ H w ρ) (hi : i ∈ O) (na : a ∉ T) (h0 : J.H0 a = none) (hT : ∀ b, b ∈ T → H1 b = H b) (o : OwnIs J.p (Fz (J.hid (a :: T) H1 hS hU) O σ H) H a d) :
    SR (J.hid T H1 hS' hU') O (σ.set i (some (.ref a))) H w (ρ.set i (some d)) := by
  have ss : ∀ b, SS (J.hid T H1 hS' hU') O (σ.set i (some (.ref a))) b → SS (J.hid (a :: T) H1 hS hU) O σ b := fun b z => by
    rcases SS_own z with z | z
    · exact (hid_ss b).mpr (((hid_ss b).mp z).imp_right fun z => List.mem_cons_of_mem _ z)
    · exact .inl (.inr (by rw [z]; exact List.mem_cons_self))
  have le : Le (Fz (J.hid (a :: T) H1 hS hU) O σ H) (Fz (J.hid T H1 hS' hU') O (σ.set i (some (.ref a))) H) := hide_le fun b o n e t => ⟨e, fun z => n (ss b z)⟩
  have hidA : SS (J.hid (a :: T) H1 hS hU) O σ a := .inl (.inr List.mem_cons_self)
  have lt_of : ∀ {j : Nat} {y : V}, (σ.set i (some (.ref a)))[j]? = some (some y) → j < σ.length := fun e => by
    have := (List.getElem?_eq_some_iff.mp e).1
    simpa using this
  have na2 : ∀ {j : Nat}, j ∈ O → σ[j]? = some (some (.ref a)) → False := fun hj e => by
    obtain ⟨z, _⟩ := x.fresh _ a hj e
    have z : hidH (a :: T) H1 J.H0 a = none := z
    obtain ⟨u, hu⟩ := hS a (.inr List.mem_cons_self)
    rw [z] at hu; cases hu
  refine ⟨⟨fun b u eb nu t => ?_, fun b u eb => ?_⟩, x.rel, by simpa using x.len, fun j d' h nj => ?_, fun j d' h nj => ?_, fun j b hj h => ?_, fun j k b hj hk h1 h2 => ?_⟩
  · refine x.fr.keep b u ?_ nu t
    have eb : hidH T H1 J.H0 b = some u := eb
    show hidH (a :: T) H1 J.H0 b = some u
    by_cases z : b ∈ T
    · rw [hidH_in z] at eb; rw [hidH_in (List.mem_cons_of_mem _ z)]; exact eb
    · rw [hidH_out z] at eb
      rw [hidH_out (by simp only [List.mem_cons, not_or]; exact ⟨fun y => (by rw [y, h0] at eb; cases eb), z⟩)]
      exact eb
  · refine x.fr.dom b u ?_
    have eb : hidH T H1 J.H0 b = some u := eb
    show hidH (a :: T) H1 J.H0 b = some u
    by_cases z : b ∈ T
    · rw [hidH_in z] at eb; rw [hidH_in (List.mem_cons_of_mem _ z)]; exact eb
    · rw [hidH_out z] at eb
      rw [hidH_out (by simp only [List.mem_cons, not_or]; exact ⟨fun y => (by rw [y, h0] at eb; cases eb), z⟩)]
      exact eb
  · have z : i ≠ j := fun z => nj (by rw [← z]; exact hi)
    rw [List.getElem?_set_ne z] at h ⊢
    obtain ⟨v, e, rv⟩ := x.val j d' h nj
    exact ⟨v, e, rv.mono le⟩
  · by_cases z : i = j
    · subst z
      by_cases lt : i < ρ.length
      · rw [List.getElem?_set_self lt] at h
        cases h
        exact ⟨a, List.getElem?_set_self (by rw [← x.len]; exact lt), o.mono le fun _ z => z⟩
      · rw [List.getElem?_eq_none (by simpa using lt)] at h; cases h
    · rw [List.getElem?_set_ne z] at h ⊢
      obtain ⟨b, e, ob⟩ := x.own j d' h nj
      exact ⟨b, e, ob.mono le fun u hu => hu⟩
  · by_cases z : i = j
    · subst z
      rw [List.getElem?_set_self (lt_of h)] at h
      cases h
      obtain ⟨u, hu, wr⟩ := o.wr
      refine ⟨?_, u, hu, wr⟩
      show hidH T H1 J.H0 a = none
      rw [hidH_out na]; exact h0
    · rw [List.getElem?_set_ne z] at h
      obtain ⟨h0', u, hu, wr⟩ := x.fresh j b hj h
      have h0' : hidH (a :: T) H1 J.H0 b = none := h0'
      refine ⟨?_, u, hu, wr⟩
      show hidH T H1 J.H0 b = none
      by_cases y : b ∈ T
      · rw [hidH_in (List.mem_cons_of_mem _ y)] at h0'; rw [hidH_in y]; exact h0'
      · rw [hidH_out y]
        by_cases yy : b = a
        · rw [yy]; exact h0
        · rw [hidH_out (by simp only [List.mem_cons, not_or]; exact ⟨yy, y⟩)] at h0'; exact h0'
  · by_cases z1 : i = j
    · by_cases z2 : i = k
      · exact z1.symm.trans z2
      · subst z1
        rw [List.getElem?_set_self (lt_of h1)] at h1
        cases h1
        rw [List.getElem?_set_ne z2] at h2
        exact (na2 hk h2).elim
    · by_cases z2 : i = k
      · subst z2
        rw [List.getElem?_set_self (lt_of h2)] at h2
        cases h2
        rw [List.getElem?_set_ne z1] at h1
        exact (na2 hj h1).elim
      · rw [List.getElem?_set_ne z1] at h1
        rw [List.getElem?_set_ne z2] at h2
        exact x.apart j k b hj hk h1 h2
end
/-- what is told beside the held ones -/
noncomputable abbrev FT (J : Jc) (O : List Nat) (σ : L2.St) (T : List Addr) (H : Hp) : Hp := hide (fun b => SS J O σ b ∨ b ∈ T) H
inductive Its (p : Rp) (F H : Hp) : List Bool → List Addr → List V → List D → Prop
  | nil : Its p F H [] [] [] []
  | val {ks : List Bool} {T : List Addr} {vs : List V} {ds : List D} {v : V} {d : D} : R p F v d → Its p F H ks T vs ds → Its p F H (false :: ks) T (v :: vs) (d :: ds)
  | own {ks : List Bool} {T : List Addr} {vs : List V} {ds : List D} {a : Addr} {d : D} : OwnIs p F H a d → Its p F H ks T vs ds → Its p F H (true :: ks) (a :: T) (.ref a :: vs) (d :: ds)
theorem Its.mono {p : Rp} {F F' H H' : Hp} (l : Le F F') (e : ∀ a o, H a = some o → H' a = some o) : ∀ {ks : List Bool} {T : List Addr} {vs : List V} {ds : List D}, Its p F H ks T vs ds → Its p F' H' ks T vs ds
  | _, _, _, _, .nil => .nil
  | _, _, _, _, .val r i => .val (r.mono l) (i.mono l e)
  | _, _, _, _, .own r i => .own (r.mono l fun o h => e _ o h) (i.mono l e)
theorem Its.lens {p : Rp} {F H : Hp} : ∀ {ks : List Bool} {T : List Addr} {vs : List V} {ds : List D}, Its p F H ks T vs ds → vs.length = ds.length
  | _, _, _, _, .nil => rfl
  | _, _, _, _, .val _ i => by rw [List.length_cons, List.length_cons, i.lens]
  | _, _, _, _, .own _ i => by rw [List.length_cons, List.length_cons, i.lens]
theorem Its.on {p : Rp} {F H : Hp} : ∀ {ks : List Bool} {T : List Addr} {vs : List V} {ds : List D}, Its p F H ks T vs ds → ∀ a, a ∈ T → ∃ o, H a = some o ∧ Wr o
  | _, _, _, _, .nil, _, h => by cases h
  | _, _, _, _, .val _ i, a, h => i.on a h
  | _, _, _, _, .own o i, a, h => by
    rcases List.mem_cons.mp h with h | h
    · subst h; exact o.wr
    · exact i.on a h
def RelK (J : Jc) (O : List Nat) (σ : L2.St) (H : Hp) (ks : List Bool) (vs : List V) (ds : List D) (H' : Hp) : Prop := ∃ T : List Addr, T.Nodup ∧ Held J T H H' ∧ Its J.p (FT J O σ T H') H' ks T vs ds
def tK (J : Jc) (O : List Nat) (ks : List Bool) (f : Fl J.G.A) : TA := fun σ H Q => ∃ w ρ, SR J O σ H w ρ ∧ PQ J H (RelK J O σ H ks) Q (f w ρ)
structure EK (J : Jc) (O : List Nat) (X : Cx) (es : List Expr) (ks : List Bool) (f : Fl J.G.A) : Prop where
  pa : PA X es (tK J O ks f)
def setL (σ : L2.St) : List Nat → List V → L2.St
  | i :: is, v :: vs => setL (σ.set i (some v)) is vs
  | _, _ => σ
def setE (ρ : Env) : List Nat → List D → Env
  | i :: is, d :: ds => setE (ρ.set i (some d)) is ds
  | _, _ => ρ
def sPar {A : Type} (is : List Nat) (fl : Fl A) : Fs A := seqE fl fun ds w ρ => if ds.length = is.length then some (.nx w (setE ρ is ds)) else none
def tParN (is : List Nat) (ta : TA) : TS := fun D σ H => ta σ H fun vs H1 => vs.length = is.length ∧ ∀ H2, Same H1 H2 → D.nx (setL σ is vs) H2
section
variable {J : Jc} {O : List Nat} {fr : Bool} {X : Cx} {σ : L2.St} {H H' H1 H2 : Hp} {w w' : J.G.A} {ρ : Env} {T : List Addr} {f : Fe J.G.A} {fl : Fl J.G.A} {ks : List Bool} {e : Expr} {es : List Expr}
theorem Held.le (x : SR J O σ H w ρ) (h : Held J T H H') : Le (Fz J O σ H) (FT J O σ T H') := hide_le fun b o n e t =>
    ⟨h.fr.keep b o e (x.noU n) fun _ => t, fun z => z.elim n fun z => by rw [h.off b z] at e; cases e⟩
theorem ek_nil : EK J O X [] [] fNil := ⟨PA.imp pa_nil fun σ H Q => by
  rintro ⟨w, ρ, x, q⟩
  exact PQ.ok (rel := RelK J O σ H []) q (GW.fr_refl _ _) x.rel ⟨[], List.nodup_nil, ⟨GW.fr_refl _ _, fun _ h => (nomatch h), fun _ h => (nomatch h)⟩, .nil⟩⟩
theorem ek_val (h1 : EM J O X false e f) (h2 : EK J O X es ks fl) (hs : starEach (e :: es) X.env = (false, eval e X.env) :: starEach es X.env := by rfl) : EK J O X (e :: es) (false :: ks) (fCons f fl) := ⟨PA.imp (pa_cons h1.pe h2.pa hs) fun σ H Q => by
  rintro ⟨w, ρ, x, q⟩
  refine em_seq x q fun v H1 d w1 x1 f1 r1 q1 => ?_
  refine ⟨w1, ρ, x1, PQ.mono (PQ.bind q1) fun vs H2 ⟨ds, w2, f2, r2, ⟨T, nd, hd, its⟩, q2⟩ => ?_⟩
  refine q2.ok (GW.fr_refl _ _) r2 ⟨T, nd, ⟨GW.fr_trans f1 f2, fun a h => f1.free (hd.off a h), hd.on⟩, .val (r1.plain.mono (hd.le x1)) its⟩⟩
theorem ErrOk.hid {y : Ex × J.G.A} {hS hU} (h0 : ∀ a, a ∈ T → J.H0 a = none) (h : ErrOk J y) : ErrOk (J.hid T H' hS hU) y := fun cls dd H2 f r rx => by
  refine h cls dd H2 ⟨fun b o e n t => ?_, fun b o e => ?_⟩ r (rx.mono ?_)
  · refine f.keep b o ?_ n t
    show hidH T H' J.H0 b = some o
    rw [hidH_out fun z => by rw [h0 b z] at e; cases e]; exact e
  · refine f.dom b o ?_
    show hidH T H' J.H0 b = some o
    rw [hidH_out fun z => by rw [h0 b z] at e; cases e]; exact e
  · exact hide_le fun b o n e t => ⟨e, fun z => n (.inl z)⟩
theorem PQ.hid {α β : Type} {hS hU} {rel : β → α → Hp → Prop} {Q : β → Hp → Prop} {r : Rs α J.G.A} (h0 : ∀ a, a ∈ T → J.H0 a = none) (h : PQ J H rel Q r) : PQ (J.hid T H' hS hU) H rel Q r := by
  unfold PQ at h ⊢
  split
  · exact h
  · exact ErrOk.hid h0 h
  · exact h
theorem ek_own (h1 : EF J O X e f) (h2 : ∀ H0 S0 hS hU, EK { G := J.G, p := J.p, H0 := H0, S0 := S0, E := J.E, hS := hS, hU := hU } O X es ks fl) (hs : starEach (e :: es) X.env = (false, eval e X.env) :: starEach es X.env := by rfl) : EK J O X (e :: es) (true :: ks) (fCons f fl) := ⟨by
  have key : PA X es (fun σ H Q => ∃ H0 S0 hS hU, tK { G := J.G, p := J.p, H0 := H0, S0 := S0, E := J.E, hS := hS, hU := hU } O ks fl σ H Q) := ⟨fun pos pins s σ H Q I q => by
    obtain ⟨H0, S0, hS, hU, q⟩ := q
    exact (h2 H0 S0 hS hU).pa.run pos pins s σ H Q I q⟩
  refine PA.imp (pa_cons h1.pe key hs) fun σ H Q => ?_
  rintro ⟨w, ρ, x, q⟩
  refine ⟨w, ρ, x, PQ.mono (PQ.bind q) fun v H1 ⟨d, w1, f1, r1, ⟨a, ev, na, oa⟩, q1⟩ => ?_⟩
  subst ev
  obtain ⟨u, hu, wr⟩ := oa.wr
  have h0 : ∀ b, b ∈ [a] → J.H0 b = none := fun b hb => by
    rw [List.mem_singleton.mp hb]; exact x.fr.free na
  have hd1 : Held J [a] H H1 := ⟨f1, fun b hb => by rw [List.mem_singleton.mp hb]; exact na, fun b hb => by rw [List.mem_singleton.mp hb]; exact ⟨u, hu, wr⟩⟩
  have hS := hid_hS (J := J) (T := [a]) (H' := H1) fun b hb => by rw [List.mem_singleton.mp hb]; exact ⟨u, hu⟩
  have xh := x.hold (hS := hS) (hU := hid_hU) hd1 r1
  refine ⟨_, _, hS, hid_hU, w1, ρ, xh, ?_⟩
  refine PQ.mono (PQ.bind (PQ.hid (J := J) (T := [a]) (H' := H1) (hS := hS) (hU := hid_hU) h0 q1)) fun vs H2 ⟨ds, w2, f2, r2, ⟨T, nd, hd, its⟩, q2⟩ => ?_
  have ka : H2 a = some u := f2.keep a u hu (fun z => by
    obtain ⟨o, e0⟩ := J.hS a (J.hU a z)
    rw [h0 a (by simp)] at e0; cases e0) fun _ => wr.notbl
  have naT : a ∉ T := fun z => by
    have := hd.off a z
    rw [hu] at this; cases this
  have eF : hide (fun b => SS (J.hid [a] H1 hS hid_hU) O σ b ∨ b ∈ T) H2 = FT J O σ (a :: T) H2 := hide_congr fun b => by
    rw [hid_ss]
    simp only [List.mem_singleton, List.mem_cons, List.not_mem_nil, or_false, or_assoc]
  have its : Its J.p (FT J O σ (a :: T) H2) H2 ks T vs ds := by rw [← eF]; exact its
  have hT : Held J (a :: T) H H2 := by
    refine ⟨GW.fr_trans f1 f2, fun b hb => ?_, fun b hb => ?_⟩
    · rcases List.mem_cons.mp hb with hb | hb
      · rw [hb]; exact na
      · exact f1.free (hd.off b hb)
    · rcases List.mem_cons.mp hb with hb | hb
      · rw [hb]; exact ⟨u, ka, wr⟩
      · exact hd.on b hb
  refine PQ.ok (J := J) (rel := RelK J O σ H (true :: ks)) (q2.rel (rel' := fun vs ds H' => RelK J O σ H (true :: ks) vs ds H') ?_) (GW.fr_refl _ _) r2 ⟨a :: T, List.nodup_cons.mpr ⟨naT, nd⟩, hT, .own (oa.mono ?_ fun o ho => by rw [hu] at ho; cases ho; exact ka) its⟩
  · exact fun _ _ _ _ h => h
  · intro b o e t
    unfold minus at e
    split at e
    · cases e
    · rename_i nb
      obtain ⟨n, e⟩ := of_hide e
      have nU : ¬ J.G.U b := fun z => n (.inl (J.hU b z))
      show hide _ _ _ = _
      rw [hide_of fun z => z.elim n fun z => (List.mem_cons.mp z).elim nb fun z => by rw [hd.off b z] at e; cases e]
      exact f2.keep b o e nU fun _ => t⟩
/-- all are stored -/
theorem SR.many : ∀ (is : List Nat) {T : List Addr} {vs : List V} {ds : List D} {σ : L2.St} {ρ : Env} {hS hU}, SR (J.hid T H2 hS hU) O σ H2 w ρ → T.Nodup → (∀ a, a ∈ T → J.H0 a = none) → Its J.p (Fz (J.hid T H2 hS hU) O σ H2) H2 (is.map fun i => O.contains i) T vs ds →
    ∃ hS' hU', SR (J.hid [] H2 hS' hU') O (setL σ is vs) H2 w (setE ρ is ds) ∧ (∀ b, SS J O (setL σ is vs) b → SS J O σ b ∨ b ∈ T) ∧ (setL σ is vs).length = σ.length
  | [], T, vs, ds, σ, ρ, hS, hU, x, nd, h0, its => by
    cases its
    exact ⟨hS, hU, x, fun b z => .inl z, rfl⟩
  | i :: is, T, vs, ds, σ, ρ, hS, hU, x, nd, h0, its => by
    rw [List.map_cons] at its
    cases hk : O.contains i with
    | false =>
      rw [hk] at its
      cases its with
      | val r it =>
        have hi : i ∉ O := by simpa using hk
        have e : ∀ y, Fz (J.hid T H2 hS hU) O (σ.set i y) H2 = Fz (J.hid T H2 hS hU) O σ H2 := fun y => hide_congr fun b => SS_set hi
        obtain ⟨h1, h2, h3, h4, h5⟩ := SR.many (hS := hS) (hU := hU) is (x.store hi r) nd h0 (by rw [e]; exact it)
        exact ⟨h1, h2, h3, fun b z => (h4 b z).imp_left (SS_set hi).mp, by rw [setL, h5, List.length_set]⟩
    | true =>
      rw [hk] at its
      cases its with
      | own o it =>
        rename_i T vs ds a d
        have hi : i ∈ O := by simpa using hk
        have nd' := List.nodup_cons.mp nd
        have hS' : ∀ b, (J.S0 b ∨ b ∈ T) → ∃ o, hidH T H2 J.H0 b = some o := hid_hS fun b hb => let ⟨o, e, _⟩ := it.on b hb; ⟨o, e⟩
        have x2 := x.adopt (hS' := hS') (hU' := hid_hU) hi nd'.1 (h0 a List.mem_cons_self) (fun b _ => rfl) o
        have ss : ∀ b, SS (J.hid T H2 hS' hid_hU) O (σ.set i (some (.ref a))) b → SS (J.hid (a :: T) H2 hS hU) O σ b := fun b z => by
          rcases SS_own z with z | z
          · exact (hid_ss b).mpr (((hid_ss b).mp z).imp_right fun z => List.mem_cons_of_mem _ z)
          · exact .inl (.inr (by rw [z]; exact List.mem_cons_self))
        obtain ⟨h1, h2, h3, h4, h5⟩ := SR.many is x2 nd'.2 (fun b hb => h0 b (List.mem_cons_of_mem _ hb)) (it.mono (hide_le fun b o n e t => ⟨e, fun z => n (ss b z)⟩) fun _ _ h => h)
        refine ⟨h1, h2, h3, fun b z => ?_, by rw [setL, h5, List.length_set]⟩
        rcases h4 b z with z | z
        · rcases SS_own z with z | z
          · exact .inl z
          · exact .inr (by rw [z]; exact List.mem_cons_self)
        · exact .inr (List.mem_cons_of_mem _ z)
theorem tK_mono {Q Q' : List V → Hp → Prop} (h : tK J O ks fl σ H Q) (k : ∀ vs H', Q vs H' → Q' vs H') : tK J O ks fl σ H Q' := let ⟨w, ρ, x, q⟩ := h; ⟨w, ρ, x, q.mono k⟩
theorem sm_par {st : Stmt} {is : List Nat} (hp : PS X st (tParN is (tK J O (is.map fun i => O.contains i) fl))) : SM J O fr X st (sPar is fl) := ⟨PS.imp hp fun Z σ H => by
  rintro ⟨w, ρ, x, q⟩
  refine ⟨w, ρ, x, PQ.mono (PQ.stmt q) fun vs H1 ⟨ds, w1, f1, r1, ⟨T, nd, hd, its⟩, q1⟩ => ?_⟩
  split at q1
  · rename_i hl
    refine ⟨its.lens.trans hl, fun H2 s => ?_⟩
    have hd2 : Held J T H H2 := ⟨GW.fr_trans f1 (GW.fr_same s), hd.off, fun a ha => let ⟨o, e, wr⟩ := hd.on a ha; ⟨o, s _ _ e, wr⟩⟩
    have h0 : ∀ a, a ∈ T → J.H0 a = none := fun a ha => x.fr.free (hd.off a ha)
    have hS : ∀ b, (J.S0 b ∨ b ∈ T) → ∃ o, hidH T H2 J.H0 b = some o := hid_hS fun a ha => let ⟨o, e, _⟩ := hd2.on a ha; ⟨o, e⟩
    have xh := x.hold (hS := hS) (hU := hid_hU) hd2 (J.G.same r1 s)
    have eF : Fz (J.hid T H2 hS hid_hU) O σ H2 = FT J O σ T H2 := hide_congr fun b => hid_ss b
    obtain ⟨_, _, x3, ss, ln⟩ := SR.many (hS := hS) (hU := hid_hU) is xh nd h0 (by
      rw [eF]
      exact its.mono (hide_le fun b o n e t => ⟨s _ _ e, n⟩) fun a o e => s _ _ e)
    refine q1 _ H2 ⟨fun b o e n t => ⟨hd2.fr.keep b o e (x.noU n) fun _ => t, fun z => (ss b z).elim n fun z => by rw [hd.off b z] at e; cases e⟩, ln⟩ x3.unhold
  · exact q1.elim⟩
end
section
variable {J : Jc} {O : List Nat} {fr : Bool} {X : Cx} {a b c : Expr} {fl : Fl J.G.A} {px py pz pt pos : Pos} {kt k2 pt2} {i j l : Nat} {x y z : Str}
theorem sm_par2 (hc : X.calm = true) (hN : X.N.Nodup) (hi : X.N[i]? = some x) (hj : X.N[j]? = some y) (hij : i ≠ j) (hx : X.env.scope.names.lookup x = some .local) (hy : X.env.scope.names.lookup y = some .local)
    (h : EK J O X [a, b] [O.contains i, O.contains j] fl) (hw : swappedStores [.Tuple [.Name x px, .Name y py] kt pt] (.Tuple [a, b] k2 pt2) X.env = pure (some [x, y]))
    (hs : swapsWithSole [.Tuple [.Name x px, .Name y py] kt pt] (.Tuple [a, b] k2 pt2) pos.line X.env = pure false := by rfl) :
    SM J O fr X (.Assign [.Tuple [.Name x px, .Name y py] kt pt] (.Tuple [a, b] k2 pt2) pos) (sPar [i, j] fl) := sm_par (PS.imp (ps_par hc hN hi hj hij hx hy h.pa hw hs) fun Z σ H q => tK_mono q fun vs H' k => by
  obtain ⟨hl, k⟩ := k
  match vs, hl with
  | [v, w], _ => exact ⟨v, w, rfl, k H' (Same.refl _)⟩)
theorem sm_par3 (hc : X.calm = true) (hN : X.N.Nodup) (hi : X.N[i]? = some x) (hj : X.N[j]? = some y) (hl : X.N[l]? = some z) (hij : i ≠ j) (hil : i ≠ l) (hjl : j ≠ l)
    (hx : X.env.scope.names.lookup x = some .local) (hy : X.env.scope.names.lookup y = some .local) (hz : X.env.scope.names.lookup z = some .local)
    (h : EK J O X [a, b, c] [O.contains i, O.contains j, O.contains l] fl)
    (hw : swappedStores [.Tuple [.Name x px, .Name y py, .Name z pz] kt pt] (.Tuple [a, b, c] k2 pt2) X.env = pure (some [x, y, z]))
    (hs : swapsWithSole [.Tuple [.Name x px, .Name y py, .Name z pz] kt pt] (.Tuple [a, b, c] k2 pt2) pos.line X.env = pure false := by rfl) :
    SM J O fr X (.Assign [.Tuple [.Name x px, .Name y py, .Name z pz] kt pt] (.Tuple [a, b, c] k2 pt2) pos) (sPar [i, j, l] fl) := sm_par (PS.imp (ps_par3 hc hN hi hj hl hij hil hjl hx hy hz h.pa hw hs) fun Z σ H q => tK_mono q fun vs H' k => by
  obtain ⟨hl, k⟩ := k
  match vs, hl with
  | [v, w, u], _ => exact ⟨v, w, u, rfl, k H' (Same.refl _)⟩)
end
/-! four and more: through a tuple -/
def gNames : List Nat → TGs
  | [] => gNil
  | i :: is => gCons (gName i) (gNames is)
theorem gNames_ok : ∀ {is : List Nat} {vs : List V} {σ : L2.St} {H : Hp} {Q : L2.St → Hp → Prop}, vs.length = is.length → Q (setL σ is vs) H → gNames is vs σ H Q
  | [], [], _, _, _, _, q => ⟨rfl, q⟩
  | i :: is, v :: vs, σ, H, Q, hl, q => ⟨v, vs, rfl, gNames_ok (is := is) (by simpa using hl) q⟩
theorem sm_parT {J : Jc} {O : List Nat} {fr : Bool} {X : Cx} {es tgs : List Expr} {fl : Fl J.G.A} {k1 k2 : Nat} {p1 p2 pos : Pos} {is : List Nat} (hc : X.calm = true) (hg : PGs X tgs (gNames is)) (h : EK J O X es (is.map fun i => O.contains i) fl)
    (hn : (assignEach tgs X.env).length = is.length := by rfl) (hst : (assignEach tgs X.env).findIdx? (·.1) = none := by rfl) (hlen : is.length ≤ 1000 := by decide)
    (hs : swapsWithSole [.Tuple tgs k1 p1] (.Tuple es k2 p2) pos.line X.env = pure false := by rfl) (hw : swappedStores [.Tuple tgs k1 p1] (.Tuple es k2 p2) X.env = pure none := by rfl) (h1 : (assignEach [.Tuple tgs k1 p1] X.env).map (·.2) = [assign (.Tuple tgs k1 p1) X.env] := by rfl) :
    SM J O fr X (.Assign [.Tuple tgs k1 p1] (.Tuple es k2 p2) pos) (sPar is fl) := sm_par (PS.imp (ps_asg (pe_tup h.pa) (pg_tup hc hg hn hst) hs hw h1) fun Z σ H q => tK_mono q fun vs H' k => by
  obtain ⟨hl, k⟩ := k
  refine ⟨by rw [hl]; exact Nat.le_of_lt (small1000 hlen), fun t ht => ⟨t, vs, rfl, .inl (.inl upd_same), hl, gNames_ok hl (k _ (same_new ht))⟩⟩)
end DL
namespace DL
open L2 PySem PyProof.Rows PySem.Spec

/-! ### zip of three, each a list or a tuple; zip of a list and a tuple -/
/-- a list's (false) or a tuple's (true) address -/
abbrev Zk := Bool × Addr
def ZcOk (K : PySem.W.Frag) (H : Hp) (c : Zk) (xs : List V) : Prop := match c with
  | (false, a) => SqL K H a xs
  | (true, a) => SqT K H a xs
def ZcSt (c : Zk) (it : Addr) (i : Nat) (h : Heap) : Prop := match c with
  | (false, a) => h.IsListIter it a i
  | (true, a) => h.IsTupleIter it a i
def ZcIs (c : Zk) (h : Heap) (items : Array Value) : Prop := match c with
  | (false, a) => h.IsList a items
  | (true, a) => h.IsTuple a items
def zcObj (c : Zk) : Obj := match c with
  | (false, a) => { cls := .type "list_iterator", data := .fields #[.ref a, .int 0 0] }
  | (true, a) => { cls := .type "tuple_iterator", data := .fields #[.ref a, .int 0 0] }
theorem zc_obj {c : Zk} {it : Addr} {h : Heap} (e : h.get? it = some (zcObj c)) : ZcSt c it 0 h := by
  rcases c with ⟨k, a⟩
  cases k
  · exact ⟨_, e, rfl, rfl⟩
  · exact ⟨_, e, rfl, rfl⟩
theorem zc_begins (c : Zk) (items : Array Value) : Begins (.ref c.2) (zcObj c) fun h => ZcIs c h items := by
  rcases c with ⟨k, a⟩
  cases k
  · exact begins_list a items
  · exact begins_tuple a items
theorem zc_draws {prog : Program} {w : World} {A : Around} (c : Zk) (hh : A.handled = none) (it : Addr) (hne : c.2 ≠ it) (items : Array Value) :
    Draws prog w A it [it, c.2] items.size (fun i v => items[i]? = some v) (fun i h => ZcSt c it i h ∧ ZcIs c h items) := by
  rcases c with ⟨k, a⟩
  cases k
  · exact Draws.list hh it a hne items
  · exact Draws.tuple hh it a hne items
theorem ZcSt.at {c : Zk} {it : Addr} {i : Nat} {h h' : Heap} (s : ZcSt c it i h) (k : ∀ o, h.get? it = some o → h'.get? it = some o) : ZcSt c it i h' := by
  rcases c with ⟨b, a⟩
  cases b
  · exact Heap.IsListIter.at s k
  · exact Heap.IsTupleIter.at s k
theorem ZcSt.obj {c : Zk} {it : Addr} {i : Nat} {h : Heap} (s : ZcSt c it i h) : ∃ o, h.get? it = some o ∧ ∀ v, o.data ≠ .cell v := by
  rcases c with ⟨b, a⟩
  cases b
  · obtain ⟨o, e, _, d⟩ := s
    exact ⟨o, e, fun v q => by rw [d] at q; cases q⟩
  · obtain ⟨o, e, _, d⟩ := s
    exact ⟨o, e, fun v q => by rw [d] at q; cases q⟩
section
variable {X : Cx} {pins : List (Addr × Obj)} {σ : L2.St} {H : Hp} {s : Shared} {c : Zk} {xs ys : List V}
theorem ZcOk.is (I : Inv X pins σ H s) (h : ZcOk X.K H c xs) : ∃ its : List Value, Vals xs its ∧ ZcIs c s.heap its.toArray ∧ c.2 < s.heap.objs.size := by
  rcases c with ⟨b, a⟩
  cases b
  · obtain ⟨its, rv, p, _⟩ := I.list h
    exact ⟨its, rv, p.isList, p.lt⟩
  · obtain ⟨its, rv, p, _⟩ := I.tuple h
    obtain ⟨o, e, _⟩ := id p
    exact ⟨its, rv, p, Heap.lt_size e⟩
theorem ZcOk.inj (I : Inv X pins σ H s) (h : ZcOk X.K H c xs) (g : ZcOk X.K H c ys) : xs = ys := by
  rcases c with ⟨b, a⟩
  cases b
  · exact I.list_inj h g
  · exact I.tuple_inj h g
end
def Itz3 (K : PySem.W.Frag) (c1 c2 c3 : Zk) : It :=
  ⟨fun i H => ∃ xs ys zs x y z, ZcOk K H c1 xs ∧ ZcOk K H c2 ys ∧ ZcOk K H c3 zs ∧ xs[i]? = some x ∧ ys[i]? = some y ∧ zs[i]? = some z,
    fun i H v H' => ∃ T x y z, v = .ref T ∧ H T = none ∧ H' = upd H T (.tup [x, y, z]) ∧ (∀ xs, ZcOk K H c1 xs → xs[i]? = some x) ∧ (∀ xs, ZcOk K H c2 xs → xs[i]? = some y) ∧ ∀ xs, ZcOk K H c3 xs → xs[i]? = some z,
    fun i H => ∃ xs ys zs, ZcOk K H c1 xs ∧ ZcOk K H c2 ys ∧ ZcOk K H c3 zs ∧ i ≤ xs.length ∧ i ≤ ys.length ∧ i ≤ zs.length ∧ (i = xs.length ∨ i = ys.length ∨ i = zs.length)⟩
theorem sep3 {n a b c : Nat} (ha : a < n) (hb : b < n) (hc : c < n) : ZipSep3 (n + 5) (n + 3) (n + 4) n (n + 1) (n + 2) [n, a] [n + 1, b] [n + 2, c] where
  TIz := fun h => by have h : (n + 3 : Nat) = n + 5 := h; omega
  TOz := fun h => by have h : (n + 4 : Nat) = n + 5 := h; omega
  TITO := fun h => by have h : (n + 3 : Nat) = n + 4 := h; omega
  TIi1 := fun h => by have h : (n + 3 : Nat) = n := h; omega
  mem1 := List.mem_cons_self
  zf1 := fun h => ((List.mem_cons.mp h).elim (fun h => by have h : (n + 5 : Nat) = n := h; omega) fun h => by have h : (n + 5 : Nat) = a := List.mem_singleton.mp h; omega)
  Tf1 := fun h => ((List.mem_cons.mp h).elim (fun h => by have h : (n + 4 : Nat) = n := h; omega) fun h => by have h : (n + 4 : Nat) = a := List.mem_singleton.mp h; omega)
  TIi2 := fun h => by have h : (n + 3 : Nat) = n + 1 := h; omega
  mem2 := List.mem_cons_self
  zf2 := fun h => ((List.mem_cons.mp h).elim (fun h => by have h : (n + 5 : Nat) = n + 1 := h; omega) fun h => by have h : (n + 5 : Nat) = b := List.mem_singleton.mp h; omega)
  Tf2 := fun h => ((List.mem_cons.mp h).elim (fun h => by have h : (n + 4 : Nat) = n + 1 := h; omega) fun h => by have h : (n + 4 : Nat) = b := List.mem_singleton.mp h; omega)
  TIi3 := fun h => by have h : (n + 3 : Nat) = n + 2 := h; omega
  mem3 := List.mem_cons_self
  zf3 := fun h => ((List.mem_cons.mp h).elim (fun h => by have h : (n + 5 : Nat) = n + 2 := h; omega) fun h => by have h : (n + 5 : Nat) = c := List.mem_singleton.mp h; omega)
  Tf3 := fun h => ((List.mem_cons.mp h).elim (fun h => by have h : (n + 4 : Nat) = n + 2 := h; omega) fun h => by have h : (n + 4 : Nat) = c := List.mem_singleton.mp h; omega)
  sep1_2 := fun h => ((List.mem_cons.mp h).elim (fun h => by have h : (n : Nat) = n + 1 := h; omega) fun h => by have h : (n : Nat) = b := List.mem_singleton.mp h; omega)
  sep1_3 := fun h => ((List.mem_cons.mp h).elim (fun h => by have h : (n : Nat) = n + 2 := h; omega) fun h => by have h : (n : Nat) = c := List.mem_singleton.mp h; omega)
  sep2_1 := fun h => ((List.mem_cons.mp h).elim (fun h => by have h : (n + 1 : Nat) = n := h; omega) fun h => by have h : (n + 1 : Nat) = a := List.mem_singleton.mp h; omega)
  sep2_3 := fun h => ((List.mem_cons.mp h).elim (fun h => by have h : (n + 1 : Nat) = n + 2 := h; omega) fun h => by have h : (n + 1 : Nat) = c := List.mem_singleton.mp h; omega)
  sep3_1 := fun h => ((List.mem_cons.mp h).elim (fun h => by have h : (n + 2 : Nat) = n := h; omega) fun h => by have h : (n + 2 : Nat) = a := List.mem_singleton.mp h; omega)
  sep3_2 := fun h => ((List.mem_cons.mp h).elim (fun h => by have h : (n + 2 : Nat) = n + 1 := h; omega) fun h => by have h : (n + 2 : Nat) = b := List.mem_singleton.mp h; omega)
theorem sep2 {n a b : Nat} (ha : a < n) (hb : b < n) : ZipSep2 (n + 4) (n + 2) (n + 3) n (n + 1) [n, a] [n + 1, b] where
  TIz := fun h => by have h : (n + 2 : Nat) = n + 4 := h; omega
  TOz := fun h => by have h : (n + 3 : Nat) = n + 4 := h; omega
  TITO := fun h => by have h : (n + 2 : Nat) = n + 3 := h; omega
  TIi1 := fun h => by have h : (n + 2 : Nat) = n := h; omega
  mem1 := List.mem_cons_self
  zf1 := fun h => ((List.mem_cons.mp h).elim (fun h => by have h : (n + 4 : Nat) = n := h; omega) fun h => by have h : (n + 4 : Nat) = a := List.mem_singleton.mp h; omega)
  Tf1 := fun h => ((List.mem_cons.mp h).elim (fun h => by have h : (n + 3 : Nat) = n := h; omega) fun h => by have h : (n + 3 : Nat) = a := List.mem_singleton.mp h; omega)
  TIi2 := fun h => by have h : (n + 2 : Nat) = n + 1 := h; omega
  mem2 := List.mem_cons_self
  zf2 := fun h => ((List.mem_cons.mp h).elim (fun h => by have h : (n + 4 : Nat) = n + 1 := h; omega) fun h => by have h : (n + 4 : Nat) = b := List.mem_singleton.mp h; omega)
  Tf2 := fun h => ((List.mem_cons.mp h).elim (fun h => by have h : (n + 3 : Nat) = n + 1 := h; omega) fun h => by have h : (n + 3 : Nat) = b := List.mem_singleton.mp h; omega)
  sep1_2 := fun h => ((List.mem_cons.mp h).elim (fun h => by have h : (n : Nat) = n + 1 := h; omega) fun h => by have h : (n : Nat) = b := List.mem_singleton.mp h; omega)
  sep2_1 := fun h => ((List.mem_cons.mp h).elim (fun h => by have h : (n + 1 : Nat) = n := h; omega) fun h => by have h : (n + 1 : Nat) = a := List.mem_singleton.mp h; omega)
theorem ane {x y : Nat} (h : x < y ∨ y < x) : x ≠ y := by omega
theorem turn_zip3 {P : Program} {w : World} {K : PySem.W.Frag} {elts : List Expr} {kk : Nat} {tpos : Pos} {n : Nat} {c1 c2 c3 : Zk} (l1 : @LT.lt Nat _ c1.2 n) (l2 : @LT.lt Nat _ c2.2 n) (l3 : @LT.lt Nat _ c3.2 n) :
    Turn P w K (.Tuple elts kk tpos) (Itz3 K c1 c2 c3) [n + 5, n + 3, n + 4, n, n + 1, n + 2] (n + 5) (fun i h => IsZip h (n + 5) (n + 3) (n + 4) .none ∧ IsTupOf3 h (n + 3) (.ref n) (.ref (n + 1)) (.ref (n + 2)) ∧ (∃ x y z, IsTupOf3 h (n + 4) x y z) ∧ ZcSt c1 n i h ∧ ZcSt c2 (n + 1) i h ∧ ZcSt c3 (n + 2) i h) where
  mem := by simp
  obj := fun i h st c hc => by
    obtain ⟨hz, hTI, ⟨x, y, z, hTO⟩, h1, h2, h3⟩ := st
    have e' : c = n + 5 ∨ c = n + 3 ∨ c = n + 4 ∨ c = n ∨ c = n + 1 ∨ c = n + 2 := by simpa using hc
    rcases e' with q | q | q | q | q | q
    · rw [q]; exact ⟨_, hz, fun v q => nomatch q⟩
    · rw [q]; exact ⟨_, hTI, fun v q => nomatch q⟩
    · rw [q]; exact ⟨_, hTO, fun v q => nomatch q⟩
    · rw [q]; exact h1.obj
    · rw [q]; exact h2.obj
    · rw [q]; exact h3.obj
  keep := fun i h h' st k => by
    obtain ⟨hz, hTI, ⟨x, y, z, hTO⟩, h1, h2, h3⟩ := st
    exact ⟨k (n + 5) (by simp) _ hz, k (n + 3) (by simp) _ hTI, ⟨x, y, z, k (n + 4) (by simp) _ hTO⟩, h1.at (fun o q => k n (by simp) o q), h2.at (fun o q => k (n + 1) (by simp) o q), h3.at (fun o q => k (n + 2) (by simp) o q)⟩
  item := by
    intro X hP hw hK hc i pins s σ H E I hf st hg
    subst hP hw hK
    obtain ⟨hz, hTI, ⟨x0, y0, z0, hTO⟩, h1, h2, h3⟩ := st
    obtain ⟨xs, ys, zs, x, y, z, o1, o2, o3, hx, hy, hzz⟩ := hg
    obtain ⟨its1, r1, p1, _⟩ := o1.is I
    obtain ⟨its2, r2, p2, _⟩ := o2.is I
    obtain ⟨its3, r3, p3, _⟩ := o3.is I
    obtain ⟨u1, e1, q1⟩ := r1.get hx
    obtain ⟨u2, e2, q2⟩ := r2.get hy
    obtain ⟨u3, e3, q3⟩ := r3.get hzz
    have hh : X.A.in1.handled = none := I.ok.hd hc
    have lt1 : i < its1.toArray.size := by simpa using (List.getElem?_eq_some_iff.mp e1).1
    have lt2 : i < its2.toArray.size := by simpa using (List.getElem?_eq_some_iff.mp e2).1
    have lt3 : i < its3.toArray.size := by simpa using (List.getElem?_eq_some_iff.mp e3).1
    have hzl : n + 5 < s.heap.objs.size := Heap.lt_size hz
    refine wpAny_pyNext_zipD3_item (sep3 l1 l2 l3) (zc_draws c1 hh n (Nat.ne_of_lt l1) its1.toArray) (zc_draws c2 hh (n + 1) (ane (.inl (by omega))) its2.toArray) (zc_draws c3 hh (n + 2) (ane (.inl (by omega))) its3.toArray)
      hz hTI hTO ⟨h1, p1⟩ ⟨h2, p2⟩ ⟨h3, p3⟩ lt1 lt2 lt3 fun v1 v2 v3 h' tk f1 f2 f3 hz' hTO' g1 g2 g3 hT hsz hk => ?_
    have f1 : v1 = u1 := by rw [List.getElem?_toArray, e1] at f1; exact (Option.some.inj f1).symm
    have f2 : v2 = u2 := by rw [List.getElem?_toArray, e2] at f2; exact (Option.some.inj f2).symm
    have f3 : v3 = u3 := by rw [List.getElem?_toArray, e3] at f3; exact (Option.some.inj f3).symm
    subst f1 f2 f3
    refine ⟨_, rfl, wpAny_letOwnedTupleGo_zip (s := { s with heap := h', toks := tk }) hz' fun h'' z'' sb => ?_⟩
    have hT2 : h''.get? s.heap.objs.size = some { cls := .type "tuple", data := .seq #[v1, v2, v3] } := (sb.2 _ (Nat.ne_of_gt hzl)).trans hT
    have new : ObjOk X.prog X.w (upd H s.heap.objs.size (.tup [x, y, z])) h'' s.heap.objs.size (.tup [x, y, z]) :=
      ⟨by show 3 ≤ sizeLine; decide, [v1, v2, v3], .cons q1 (.cons q2 (.cons q3 .nil)), ⟨_, hT2, rfl, _, rfl⟩⟩
    have I1 : Inv X pins σ (upd H s.heap.objs.size (.tup [x, y, z])) { s with heap := h'', toks := tk } :=
      I.turnedNew (t' := tk) (ch := [n + 5, n + 3, n + 4, n, n + 1, n + 2]) (fun c o hb q => (sb.2 c (fun q' => hb (by simp [q']))).trans (hk c o (fun q' => hb (by simp [q'])) (fun q' => hb (by simp [q'])) (fun q' => hb (by simp [q'])) (fun q' => hb (by simp [q'])) (fun q' => hb (by simp [q'])) q)) hf (Nat.le_refl _) new
    refine ⟨.ref s.heap.objs.size, _, I1, rfl, ⟨_, x, y, z, rfl, I.hok.fresh (Nat.le_refl _), rfl, fun l hl => by rw [ZcOk.inj I hl o1]; exact hx, fun l hl => by rw [ZcOk.inj I hl o2]; exact hy, fun l hl => by rw [ZcOk.inj I hl o3]; exact hzz⟩, ⟨z'', ?_, ⟨v1, v2, v3, ?_⟩, ?_, ?_, ?_⟩, fun c hcm => ?_⟩
    · exact (sb.2 _ (ane (by omega))).trans (hk _ _ (ane (by omega)) (ane (by omega)) (ane (by omega)) (ane (by omega)) (ane (by omega)) hTI)
    · exact (sb.2 _ (ane (by omega))).trans hTO'
    · exact g1.1.at fun o q => (sb.2 _ (ane (by omega))).trans q
    · exact g2.1.at fun o q => (sb.2 _ (ane (by omega))).trans q
    · exact g3.1.at fun o q => (sb.2 _ (ane (by omega))).trans q
    · have hlt : c < s.heap.objs.size := by
        have e' : @Eq Nat c (n + 5) ∨ @Eq Nat c (n + 3) ∨ @Eq Nat c (n + 4) ∨ @Eq Nat c n ∨ @Eq Nat c (n + 1) ∨ @Eq Nat c (n + 2) := by simpa using hcm
        show @LT.lt Nat _ c _
        omega
      rw [upd_ne (Nat.ne_of_lt hlt)]
      exact (hf c hcm).1
  done := by
    intro X hP hw hK hc i pins s σ H E I hf st hg
    subst hP hw hK
    obtain ⟨hz, hTI, ⟨x0, y0, z0, hTO⟩, h1, h2, h3⟩ := st
    obtain ⟨xs, ys, zs, o1, o2, o3, b1, b2, b3, hend⟩ := hg
    obtain ⟨its1, r1, p1, _⟩ := o1.is I
    obtain ⟨its2, r2, p2, _⟩ := o2.is I
    obtain ⟨its3, r3, p3, _⟩ := o3.is I
    have n1 := r1.length
    have n2 := r2.length
    have n3 := r3.length
    have hh : X.A.in1.handled = none := I.ok.hd hc
    exact wpAny_pyNext_zipD3_end (sep3 l1 l2 l3) (zc_draws c1 hh n (Nat.ne_of_lt l1) its1.toArray) (zc_draws c2 hh (n + 1) (ane (.inl (by omega))) its2.toArray) (zc_draws c3 hh (n + 2) (ane (.inl (by omega))) its3.toArray)
      hz hTI hTO ⟨h1, p1⟩ ⟨h2, p2⟩ ⟨h3, p3⟩ (by rw [List.size_toArray]; omega) (by rw [List.size_toArray]; omega) (by rw [List.size_toArray]; omega) (by simp only [List.size_toArray]; omega) fun h' tk hk => ⟨rfl, I.turnedL (t' := tk) (ch := [n + 5, n + 3, n + 4, n, n + 1, n + 2]) (fun c o hb q =>
      hk c o (fun q' => hb (by simp [q'])) (fun q' => hb (by simp [q'])) (fun q' => hb (by simp [q'])) (fun q' => hb (by simp [q'])) (fun q' => hb (by simp [q'])) q) hf⟩
  self := fun A i s Q E st h => wpAny_pyIter_zip st.1 h
def iZip3 (K : PySem.W.Frag) (ta : TA) : TI := fun σ H R => ta σ H fun vs H1 => ∃ c1 c2 c3 xs ys zs, vs = [.ref c1.2, .ref c2.2, .ref c3.2] ∧ ZcOk K H1 c1 xs ∧ ZcOk K H1 c2 ys ∧ ZcOk K H1 c3 zs ∧ R (Itz3 K c1 c2 c3) H1
theorem pi_zip3 {X : Cx} {e e2 e3 : Expr} {ta : TA} {p pos tpos : Pos} {elts : List Expr} {kk : Nat} (hg : Gl X "zip") (hm : X.mg "zip" = none) (ha : PA X [e, e2, e3] ta)
    (hs : starEach [e, e2, e3] X.env = (false, eval e X.env) :: starEach [e2, e3] X.env := by rfl) (hpl : (backTo pos (starEach [e2, e3] X.env)).any (·.1) = false := by rfl) :
    PI X (.Tuple elts kk tpos) (.Call (.Name "zip" p) [e, e2, e3] [] pos) (iZip3 X.K ta) := by
  refine ⟨fun pins s σ H R I h => ?_⟩
  refine Call_ (ld_blt I hg hm PyProof.Rows.boot_zip (PyProof.Rows.callWith_type1 (thn (ha.run pos pins s σ H _ I h) fun us s1 ⟨vs, H1, I1, r1, q1⟩ => ?_) hs hpl))
  obtain ⟨c1, c2, c3, xs, ys, zs, ex, o1, o2, o3, q⟩ := q1
  subst ex
  obtain ⟨rfl⟩ : us = [.ref c1.2, .ref c2.2, .ref c3.2] := by
    cases r1 with
    | cons r rr =>
      cases rr with
      | cons r' rr =>
        cases rr with
        | cons r'' rr =>
          cases rr
          cases r
          cases r'
          cases r''
          rfl
  obtain ⟨its1, _, p1, l1⟩ := o1.is I1
  obtain ⟨its2, _, p2, l2⟩ := o2.is I1
  obtain ⟨its3, _, p3, l3⟩ := o3.is I1
  have fresh6 : ∀ c, c ∈ [s1.heap.objs.size + 5, s1.heap.objs.size + 3, s1.heap.objs.size + 4, s1.heap.objs.size, s1.heap.objs.size + 1, s1.heap.objs.size + 2] → FpOk X pins H1 c := fun c hcm => by
    have e' : @Eq Nat c (s1.heap.objs.size + 5) ∨ @Eq Nat c (s1.heap.objs.size + 3) ∨ @Eq Nat c (s1.heap.objs.size + 4) ∨ @Eq Nat c s1.heap.objs.size ∨ @Eq Nat c (s1.heap.objs.size + 1) ∨ @Eq Nat c (s1.heap.objs.size + 2) := by simpa using hcm
    have hle : @LE.le Nat _ s1.heap.objs.size c := by omega
    exact I1.fpOk hle (I1.hok.fresh hle)
  refine zip_begins3 (zc_begins c1 its1.toArray) (zc_begins c2 its2.toArray) (zc_begins c3 its3.toArray) p1 p2 p3 fun h' hz hTI hTO g1 g2 g3 hsz hk => wpAny_pyIter_zip hz ?_
  have I2 : Inv X pins σ H1 { s1 with heap := h' } := I1.kept (t' := s1.toks) hk
  exact ⟨_, [s1.heap.objs.size + 5, s1.heap.objs.size + 3, s1.heap.objs.size + 4, s1.heap.objs.size, s1.heap.objs.size + 1, s1.heap.objs.size + 2], _, _, H1, rfl, I2, turn_zip3 l1 l2 l3, ⟨hz, hTI, ⟨_, _, _, hTO⟩, zc_obj g1, zc_obj g2, zc_obj g3⟩, fresh6, q⟩
def zip3D : List D → List D → List D → List D
  | a :: as, b :: bs, c :: cs => .tup [a, b, c] :: zip3D as bs cs
  | _, _, _ => []
theorem zip3D_length : ∀ (as bs cs : List D), (zip3D as bs cs).length = min as.length (min bs.length cs.length)
  | [], _, _ => by simp [zip3D]
  | a :: as, [], _ => by simp [zip3D]
  | a :: as, b :: bs, [] => by simp [zip3D]
  | a :: as, b :: bs, c :: cs => by simp only [zip3D, List.length_cons, zip3D_length as bs cs]; omega
theorem zip3D_get : ∀ (as bs cs : List D) (i : Nat) (a b c : D), as[i]? = some a → bs[i]? = some b → cs[i]? = some c → (zip3D as bs cs)[i]? = some (.tup [a, b, c])
  | [], _, _, i, _, _, _, h, _, _ => by simp at h
  | a :: as, [], _, i, _, _, _, _, h, _ => by simp at h
  | a :: as, b :: bs, [], i, _, _, _, _, _, h => by simp at h
  | a :: as, b :: bs, c :: cs, 0, _, _, _, h1, h2, h3 => by simp at h1 h2 h3; subst h1 h2 h3; rfl
  | a :: as, b :: bs, c :: cs, i + 1, _, _, _, h1, h2, h3 => by simpa [zip3D] using zip3D_get as bs cs i _ _ _ (by simpa using h1) (by simpa using h2) (by simpa using h3)
theorem ZcOk.up {p : Rp} {F0 F H : Hp} {c : Zk} {xs : List V} (le : Le F0 F) (s : Sit F H) (h : ZcOk p.K F0 c xs) : ZcOk p.K H c xs := by
  rcases c with ⟨b, a⟩
  cases b
  · exact sitL s (le.seq h)
  · exact sitT s (le.seqT h)
section
variable {p : Rp} {F0 : Hp} {C : Hp → Prop}
theorem it_zip3 {c1 c2 c3 : Zk} {xs ys zs : List V} {ds es fs : List D} (h1 : ZcOk p.K F0 c1 xs) (h2 : ZcOk p.K F0 c2 ys) (h3 : ZcOk p.K F0 c3 zs) (r1 : RA p F0 xs ds) (r2 : RA p F0 ys es) (r3 : RA p F0 zs fs) : ItOk p F0 C (zip3D ds es fs) (Itz3 p.K c1 c2 c3) where
  go := fun F H i le s _ lt => by
    rw [zip3D_length] at lt
    obtain ⟨x, e, _⟩ := r1.getD (List.getElem?_eq_getElem (show i < ds.length by omega))
    obtain ⟨y, e', _⟩ := r2.getD (List.getElem?_eq_getElem (show i < es.length by omega))
    obtain ⟨z, e'', _⟩ := r3.getD (List.getElem?_eq_getElem (show i < fs.length by omega))
    exact ⟨xs, ys, zs, x, y, z, h1.up le s, h2.up le s, h3.up le s, e, e', e''⟩
  yld := fun F H i v H' le s _ lt y => by
    rw [zip3D_length] at lt
    obtain ⟨T, x, y, z, rfl, nT, rfl, f1, f2, f3⟩ := y
    have l1 := List.getElem?_eq_getElem (show i < ds.length by omega)
    have l2 := List.getElem?_eq_getElem (show i < es.length by omega)
    have l3 := List.getElem?_eq_getElem (show i < fs.length by omega)
    obtain ⟨x', e, rx⟩ := r1.getD l1
    obtain ⟨y', e', ry⟩ := r2.getD l2
    obtain ⟨z', e'', rz⟩ := r3.getD l3
    have g1 := f1 xs (h1.up le s)
    have g2 := f2 ys (h2.up le s)
    have g3 := f3 zs (h3.up le s)
    rw [e] at g1; cases g1
    rw [e'] at g2; cases g2
    rw [e''] at g3; cases g3
    exact ⟨same_new nT, _, zip3D_get _ _ _ _ _ _ _ l1 l2 l3, R.newT s nT (.cons (rx.mono le) (.cons (ry.mono le) (.cons (rz.mono le) .nil)))⟩
  stop := fun F H i le s _ lt => by
    rw [zip3D_length] at lt
    exact ⟨xs, ys, zs, h1.up le s, h2.up le s, h3.up le s, by rw [r1.length]; omega, by rw [r2.length]; omega, by rw [r3.length]; omega, by rw [r1.length, r2.length, r3.length]; omega⟩
end
theorem R.tup_inv2 {p : Rp} {F : Hp} {v : V} {ds : List D} (h : R p F v (.tup ds)) : ∃ a xs, v = .ref a ∧ SqT p.K F a xs ∧ RA p F xs ds := by
  cases h with
  | tup e r => exact ⟨_, _, rfl, e, r⟩
/-- a list or a tuple as a component -/
def seqOf : D → Option (List D)
  | .lst l => some l
  | .tup l => some l
  | .frl l => some l
  | _ => none
theorem seqOf_zc {p : Rp} {F : Hp} {v : V} {d : D} {ds : List D} (r : R p F v d) (h : seqOf d = some ds) : ∃ (c : Zk) (xs : List V), v = .ref c.2 ∧ ZcOk p.K F c xs ∧ RA p F xs ds := by
  unfold seqOf at h
  split at h <;> cases h
  · obtain ⟨a, xs, rfl, e, ra⟩ := r.lst_inv
    exact ⟨(false, a), xs, rfl, .inl (.inl e), ra⟩
  · obtain ⟨a, xs, rfl, e, ra⟩ := r.tup_inv2
    exact ⟨(true, a), xs, rfl, e, ra⟩
  · cases r with
    | frl e ra => exact ⟨(false, _), _, rfl, e, ra⟩
def zip3Of (a b c : D) : Option (List D) := match seqOf a, seqOf b, seqOf c with
  | some l, some m, some n => some (zip3D l m n)
  | _, _, _ => none
def fZip3 {A : Type} (f g h : Fe A) : Fl A := bindE f fun c => bindE g fun d => bindE h fun e w _ => okL (zip3Of c d e) w
section
variable {J : Jc} {O : List Nat} {X : Cx} {pk : Bool} {f1 f2 f3 : Fe J.G.A} {pos p0 : Pos}
theorem ei_zip3 {a b c : Expr} {elts : List Expr} {kk : Nat} {tpos : Pos} (h1 : EM J O X false a f1) (h2 : EM J O X false b f2) (h3 : EM J O X false c f3) (hg : Gl X "zip") (hm : X.mg "zip" = none) (hK : X.K = J.p.K := by rfl) (hs : starEach [a, b, c] X.env = (false, eval a X.env) :: starEach [b, c] X.env := by rfl)
    (hs2 : starEach [b, c] X.env = (false, eval b X.env) :: starEach [c] X.env := by rfl) (hs4 : starEach [c] X.env = (false, eval c X.env) :: starEach [] X.env := by rfl) (hpl : (backTo pos (starEach [b, c] X.env)).any (·.1) = false := by rfl) : EI J O X pk (.Tuple elts kk tpos) (.Call (.Name "zip" p0) [a, b, c] [] pos) (fZip3 f1 f2 f3) := ⟨PI.imp (pi_zip3 hg hm (pa_cons h1.pe (pa_cons h2.pe (pa_cons h3.pe pa_nil hs4) hs2) hs) hs hpl) fun σ H Q => by
  rintro ⟨w, ρ, x, q⟩
  refine em_seq x q fun v1 H1 d1 w1 x1 fr1 r1 q1 => ?_
  refine em_seq x1 q1 fun v2 H2 d2 w2 x2 fr2 r2 q2 => ?_
  refine em_seq x2 q2 fun v3 H3 d3 w3 x3 fr3 r3 q3 => ?_
  obtain ⟨ds, hd, q4⟩ := okL_some q3
  have r1 := (Rl.step x2 fr3 (Rl.step x1 fr2 r1)).plain
  have r2 := (Rl.step x2 fr3 r2).plain
  have r3 := r3.plain
  unfold zip3Of at hd
  split at hd
  · rename_i l m n e1 e2 e3
    cases hd
    obtain ⟨c1, xs, rfl, o1, ra1⟩ := seqOf_zc r1 e1
    obtain ⟨c2, ys, rfl, o2, ra2⟩ := seqOf_zc r2 e2
    obtain ⟨c3, zs, rfl, o3, ra3⟩ := seqOf_zc r3 e3
    rw [hK]
    exact ⟨c1, c2, c3, xs, ys, zs, rfl, o1.up (Le.refl _) sit, o2.up (Le.refl _) sit, o3.up (Le.refl _) sit, PQ.ok (rel := fun (it : It) ds H' => ItOk J.p (Fz J O σ H') (ItC pk O σ H') ds it) q4 (GW.fr_refl _ _) x3.rel (it_zip3 o1 o2 o3 ra1 ra2 ra3)⟩
  · cases hd⟩
end
end DL
namespace DL
open L2 PySem PyProof.Rows PySem.Spec

/-! ### texts -/
/-- the signs of a text -/
def signs (x : Str) : List D := x.cps.toList.map fun c => .str ⟨#[c]⟩
theorem signs_ra {p : Rp} {F : Hp} (x : Str) : RA p F (x.cps.toList.map fun c => V.str ⟨#[c]⟩) (signs x) := by
  unfold signs
  induction x.cps.toList with
  | nil => exact .nil
  | cons a l ih => exact .cons (.str _) ih
theorem vals_signs (x : Str) {acc : Array Value} (h : ItemsOf (SignAt x) acc x.cps.size) : Vals (x.cps.toList.map fun c => V.str ⟨#[c]⟩) acc.toList := by
  have key : ∀ (l : List Nat) (vs : List Value), vs.length = l.length → (∀ (i : Nat) (v : Value), vs[i]? = some v → ∃ c u, l[i]? = some c ∧ v = .str ⟨#[c]⟩ u) → Vals (l.map fun c => V.str ⟨#[c]⟩) vs := by
    intro l
    induction l with
    | nil => intro vs hl _; cases vs with
      | nil => exact .nil
      | cons a b => cases hl
    | cons a l ih => intro vs hl h; cases vs with
      | nil => cases hl
      | cons v vs =>
        obtain ⟨c, u, e, e2⟩ := h 0 v rfl
        cases e
        exact .cons ⟨u, e2⟩ (ih vs (by simpa using hl) fun i w hi => by simpa using h (i + 1) w (by simpa using hi))
  refine key _ _ (by simpa using h.1) fun i v hv => ?_
  obtain ⟨c, u, e1, e2⟩ := h.2 i v (by simpa using hv)
  exact ⟨c, u, by simpa using e1, e2⟩
theorem cl_list_text {X : Cx} (hc : X.calm = true) : CallR X (.type "list") (fun xs H Q => ∃ x : Str, xs = [.str x] ∧ x.length ≤ sizeLine ∧ ∀ p, H p = none → Q (.ref p) (upd H p (.lst (x.cps.toList.map fun c => V.str ⟨#[c]⟩)))) := by
  intro pins s σ H xs us Q I r h
  obtain ⟨x, rfl, hz, q⟩ := h
  obtain ⟨u, rfl, t, rfl⟩ := r.one
  refine call_list_str (I.ok.hd hc) x t (fun h' tk acc' c' kp e hacc => ?_) hz
  exact ⟨.ref s.heap.objs.size, _, I.laid (t' := tk) kp (Nat.le_refl _) (show ObjOk X.prog X.w _ h' _ (.lst _) from ⟨by simpa [Str.length] using hz, acc'.toList, c', vals_signs x hacc, by simpa using e⟩), rfl, q _ (I.hok.fresh (Nat.le_refl _))⟩
/-- list(text) -/
def dListS : List D → Option D
  | [.str z] => if z.length ≤ 16000000 then some (.lst (signs z)) else none
  | _ => none
theorem o_listS {p : Rp} : OpNF p (fun xs H Q => ∃ x : Str, xs = [.str x] ∧ x.length ≤ sizeLine ∧ ∀ p, H p = none → Q (.ref p) (upd H p (.lst (x.cps.toList.map fun c => V.str ⟨#[c]⟩)))) dListS := fun F H xs ds d Q s rs h q => by
  unfold dListS at h
  split at h
  · split at h
    · rename_i z hz
      cases h
      obtain ⟨x, rfl, r⟩ := p1 rs
      exact ⟨z, by rw [r.strv], le_line hz, fun t ht => q t _ ht (same_new ht) ⟨_, upd_same, signs_ra z⟩⟩
    · cases h
  · cases h

/-- text * int -/
def repS (a : Str) (k : Int) : Str := ⟨(List.replicate k.toNat a.cps.toList).flatten.toArray⟩
theorem rep_foldl (x : Array Nat) : ∀ (n : Nat) (acc : Array Nat), ((List.replicate n x).foldl (· ++ ·) acc).toList = acc.toList ++ (List.replicate n x.toList).flatten
  | 0, acc => by simp
  | n + 1, acc => by rw [List.replicate_succ, List.foldl_cons, rep_foldl x n, List.replicate_succ, List.flatten_cons, Array.toList_append, List.append_assoc]
theorem str_ext {a b : Str} (h : a.cps.toList = b.cps.toList) : a = b := by
  cases a; cases b; simp only [Str.mk.injEq]; exact Array.toList_inj.mp h
theorem repS_cases (a : Str) (k : Int) : (k < 1 → repS a k = Str.empty) ∧ ((k == 1 || a.length == 0) = true → ¬ k < 1 → repS a k = a) ∧ repS a k = ⟨(List.replicate k.toNat a.cps).foldl (· ++ ·) #[]⟩ := by
  refine ⟨fun h => ?_, fun h h1 => ?_, ?_⟩
  · have e : k.toNat = 0 := by omega
    unfold repS
    rw [e]
    rfl
  · rw [Bool.or_eq_true] at h
    refine str_ext ?_
    unfold repS
    rcases h with h | h
    · have e : k = 1 := by simpa using h
      subst e
      simp
    · have e : a.cps.toList = [] := by
        have e : a.cps.size = 0 := by simpa [Str.length] using h
        exact List.length_eq_zero_iff.mp (by simpa using e)
      rw [e]
      simp
  · refine str_ext ?_
    unfold repS
    rw [rep_foldl]
    simp
theorem op_mulS {X : Cx} : OpR X (binaryOp .Mult) (fun x y H Q => ∃ a k, x = .str a ∧ y = .int k ∧ -1000000 ≤ k ∧ k ≤ 1000000 ∧ a.length * k.toNat ≤ 16000000 ∧ Q (.str (repS a k)) H) := by
  intro pins s σ H x y v u Q I rx ry h
  obtain ⟨a, k, rfl, rfl, h1, h2, hz, q⟩ := h
  obtain ⟨t, rfl⟩ := rx
  obtain ⟨t2, rfl⟩ := ry
  obtain ⟨c1, c2, c3⟩ := repS_cases a k
  have tl : Builtin.Str.tooLong (a.length * k.toNat) = false := by
    unfold Builtin.Str.tooLong
    exact decide_eq_false (by have := le_line hz; omega)
  refine P.mul_str (by rw [decide_eq_false (by omega), decide_eq_false (by omega)]; rfl) (fun g1 g2 => ?_) (fun _ _ => tl) ?_
  · have g3 : (1 : Int) ≤ k := by omega
    have : (a.length : Int) * k ≤ 16000000 := by
      have := Int.ofNat_le.mpr hz
      rw [Int.natCast_mul, Int.toNat_of_nonneg (by omega)] at this
      exact this
    have l : (a.length : Int) ≤ (2 ^ 63 - 1) / k := (Int.le_ediv_iff_mul_le (by omega)).mpr (by omega)
    omega
  · split
    · rename_i g
      exact ⟨by decide, .str (repS a k), H, I.tok _, ⟨_, by rw [c1 g]⟩, q⟩
    · rename_i g
      split
      · rename_i g2
        exact ⟨.str (repS a k), H, I, ⟨_, by rw [c2 g2 g]⟩, q⟩
      · rw [← c3]
        refine ⟨?_, .str (repS a k), H, I.tok _, ⟨_, rfl⟩, q⟩
        have e : (repS a k).length = a.length * k.toNat := by
          show (repS a k).cps.size = a.cps.size * k.toNat
          unfold repS
          simp [Nat.mul_comm]
        first
          | (rw [e]; exact tl)
          | (unfold Builtin.Str.tooLong at tl; rw [e]; have := of_decide_eq_false tl; omega)
def dMulS (a b : D) : Option D := match a, b with
  | .str a, .int k => if decide (-1000000 ≤ k) && decide (k ≤ 1000000) && decide (a.length * k.toNat ≤ 16000000) then some (.str (repS a k)) else none
  | _, _ => none
theorem o_mulS {p : Rp} : Op2 p (fun x y H Q => ∃ a k, x = .str a ∧ y = .int k ∧ -1000000 ≤ k ∧ k ≤ 1000000 ∧ a.length * k.toNat ≤ 16000000 ∧ Q (.str (repS a k)) H) dMulS := fun F H x y d1 d2 d Q s r1 r2 h q => by
  unfold dMulS at h
  split at h
  · split at h
    · rename_i a k c
      rw [Bool.and_eq_true, Bool.and_eq_true] at c
      cases h
      exact ⟨a, k, r1.strv, r2.intv, of_decide_eq_true c.1.1, of_decide_eq_true c.1.2, of_decide_eq_true c.2, fin s (.str _) q⟩
    · cases h
  · cases h
/-- a.join(xs) -/
def dJoin (a : Str) (b : D) : Option D := match b with
  | .lst l => match strsOf l with
    | some ys => if (ys.map (·.length)).sum + ys.length * a.length ≤ 16777216 then some (.str (Str.join a ys)) else none
    | none => none
  | _ => none
/-- a text's method of one argument -/
def eM1 {A : Type} (g : Str → D → Option D) (f1 f2 : Fe A) : Fe A := bindE f1 fun d => match d with
  | .str a => bindE f2 fun b w _ => okE (g a b) w
  | _ => eNo
section
variable {J : Jc} {O : List Nat} {X : Cx} {pk pk1 : Bool} {f1 f2 : Fe J.G.A} {o e : Expr} {apos pos : Pos}
theorem em_join (h1 : EM J O X pk o f1) (h2 : EM J O X pk1 e f2) (hs : starEach [e] X.env = [(false, eval e X.env)] := by rfl) (hbase : attributeBase o "join" X.env (eval o X.env) = eval o X.env := by rfl) (hline : (apos.endLine == pos.line) = true := by rfl) (hK : X.K = J.p.K := by rfl) :
    EM J O X false (.Call (.Attribute o "join" apos) [e] [] pos) (eM1 dJoin f1 f2) := ⟨PE.imp (pe_join h1.pe h2.pe hs hbase hline) fun σ H Q => by
  rintro ⟨w, ρ, x, q⟩
  refine em_seq x q fun v1 H1 d1 w1 x1 fr1 r1 q1 => ?_
  cases d1 <;> first | exact q1.elim | skip
  rename_i a
  refine ⟨⟨a, (Rl.rv x1 r1).strv⟩, ?_⟩
  refine em_seq x1 q1 fun v2 H2 d2 w2 x2 fr2 r2 q2 => ?_
  obtain ⟨d, hd, q3⟩ := okE_some q2
  unfold dJoin at hd
  split at hd
  · rename_i l
    split at hd
    · rename_i ys hy
      split at hd
      · rename_i hz
        cases hd
        obtain ⟨b, xs, e3, e4, ra⟩ := (Rl.rv x2 r2).lstv sit
        have ei := strsOf_ra ra hy
        subst ei
        refine ⟨a, b, ys, (Rl.rv x1 r1).strv, by rw [e3], .inl (.inl (.inl e4)), hz, ?_⟩
        have ej : Txt.join a ys = Str.join a ys := TL.join_eq a ys
        rw [ej]
        exact q3.ok (GW.fr_refl _ _) x2.rel (.inl (.str _))
      · cases hd
    · cases hd
  · cases hd⟩
end

/-! ### sorted -/
theorem ltCps_iff : ∀ a b : List Nat, ltCps a b = decide (a < b)
  | [], [] => by simp [ltCps]
  | [], b :: bs => by simp [ltCps]
  | a :: as, [] => by simp [ltCps]
  | a :: as, b :: bs => by
    simp only [ltCps, ltCps_iff as bs, List.cons_lt_cons_iff]
    by_cases h1 : a < b
    · simp [h1]
    · by_cases h2 : a = b
      · subst h2; simp
      · simp [h1, h2]
def sLe (a b : Str) : Bool := !strLt b a
theorem sLe_iff {a b : Str} : sLe a b = true ↔ a.cps.toList ≤ b.cps.toList := by
  unfold sLe strLt
  rw [Bool.not_eq_true', decide_eq_false_iff_not, List.not_lt]
theorem sLe_trans (a b c : Str) (h1 : sLe a b = true) (h2 : sLe b c = true) : sLe a c = true := by
  rw [sLe_iff] at *
  exact List.le_trans h1 h2
theorem sLe_total (a b : Str) : (sLe a b || sLe b a) = true := by
  rw [Bool.or_eq_true, sLe_iff, sLe_iff]
  exact List.le_total _ _
theorem sLe_antisymm (a b : Str) (h1 : sLe a b = true) (h2 : sLe b a = true) : a = b := by
  rw [sLe_iff] at *
  exact str_ext (List.le_antisymm h1 h2)
theorem pairwise_rising : ∀ (l : List Str) (p : Str), risingS p l = true → (p :: l).Pairwise (fun a b => sLe a b = true)
  | [], p, _ => by simp
  | x :: r, p, h => by
    unfold risingS at h
    rw [Bool.and_eq_true] at h
    have ih := pairwise_rising r x h.2
    have hp : sLe p x = true := by
      have := h.1
      rw [ltCps_iff] at this
      exact this
    refine List.pairwise_cons.mpr ⟨fun y hy => ?_, ih⟩
    rcases List.mem_cons.mp hy with hy | hy
    · subst hy; exact hp
    · exact sLe_trans _ _ _ hp (List.rel_of_pairwise_cons ih hy)
theorem pairwise_sortedS {l : List Str} (h : sortedS l = true) : l.Pairwise (fun a b => sLe a b = true) := by
  cases l with
  | nil => exact .nil
  | cons x r => exact pairwise_rising r x h
def sortS (l : List Str) : List Str := l.mergeSort sLe
def sortI (l : List Int) : List Int := l.mergeSort fun a b => decide (a ≤ b)
theorem sortS_uniq {l ys : List Str} (p : ys.Perm l) (h : sortedS ys = true) : ys = sortS l :=
  List.Perm.eq_of_pairwise (le := fun a b => sLe a b = true) (fun a b _ _ => sLe_antisymm a b) (pairwise_sortedS h) (List.pairwise_mergeSort sLe_trans sLe_total l) (p.trans (List.mergeSort_perm l sLe).symm)
theorem sortI_uniq {l ys : List Int} (p : ys.Perm l) (h : ys.Pairwise (· ≤ ·)) : ys = sortI l :=
  List.Perm.eq_of_pairwise (le := fun a b : Int => a ≤ b) (fun a b _ _ => Int.le_antisymm) h ((List.pairwise_mergeSort (le := fun a b : Int => decide (a ≤ b)) (fun a b c => by simp only [decide_eq_true_eq]; exact Int.le_trans) (fun a b => by simp only [Bool.or_eq_true, decide_eq_true_eq]; exact Int.le_total a b) l).imp fun h => of_decide_eq_true h) (p.trans (List.mergeSort_perm l _).symm)
/-- sorted(xs): a list of ints or one of texts -/
def dSorted : List D → Option D
  | [.lst l] => match intsOf l with
    | some ns => some (.lst ((sortI ns).map .int))
    | none => match strsOf l with
      | some ss => if ss.length ≤ 16000000 then some (.lst ((sortS ss).map .str)) else none
      | none => none
  | _ => none
def rSortedSA (K : PySem.W.Frag) : List V → Hp → VK → Prop := fun vs H Q => ∃ (a : Addr) (xs : List Str), vs = [V.ref a] ∧ SqL K H a (xs.map V.str) ∧
  ∀ (ys : List Str) (p : Addr), ys.Perm xs → sortedS ys = true → H p = none → Q (.ref p) (upd H p (.lst (ys.map V.str)))
theorem cl_sortedSA {X : Cx} : CallR X (.builtin "sorted") (rSortedSA X.K) := by
  intro pins s σ H vs us Q I r h
  obtain ⟨a, xs, rfl, hs, q⟩ := h
  obtain ⟨its, rv, hl, hz⟩ := I.list hs
  rw [Vals.ref1 r]
  have hlen0 := rv.length
  rw [List.length_map] at hlen0
  refine PyProof.Rows.sorted_strsAny hl.isList rv.strs (by rw [← hlen0]; simpa using hz) fun out ys h1 h2 h3 => ?_
  obtain ⟨ep, he'⟩ := PyProof.Rows.sortedAll_at s.heap its out
  have hlen : (ys.map V.str).length ≤ sizeLine := by rw [List.length_map, h2.length_eq]; simpa using hz
  exact ⟨.ref _, upd H (s.heap.objs.size + 1) (.lst (ys.map V.str)), I.laid (t' := s.toks) (fun _ _ => PyProof.Rows.sortedAll_old) (Nat.le_succ _) ⟨hlen, out.toList, ep, vals_of_strs h1, he'⟩, rfl, q ys _ h2 h3 (I.hok.fresh (Nat.le_succ _))⟩
theorem ra_ints {p : Rp} {F : Hp} : ∀ l : List Int, RA p F (l.map V.int) (l.map D.int)
  | [] => .nil
  | i :: l => .cons (.int i) (ra_ints l)
theorem ra_strs {p : Rp} {F : Hp} : ∀ l : List Str, RA p F (l.map V.str) (l.map D.str)
  | [] => .nil
  | i :: l => .cons (.str i) (ra_strs l)
theorem o_sorted {p : Rp} : OpNF p (fun xs H Q => rSortedI p.K xs H Q ∨ rSortedSA p.K xs H Q) dSorted := fun F H xs ds d Q s rs h q => by
  unfold dSorted at h
  split at h
  · rename_i l
    obtain ⟨x, rfl, r⟩ := p1 rs
    obtain ⟨a, ys, e2, e1, ra⟩ := r.lstv s
    split at h
    · rename_i ns hn
      cases h
      have ei := intsOf_ra ra hn
      subst ei
      refine .inl ⟨a, ns, by rw [e2], .inl (.inl e1), fun ns' t pm pw ht => ?_⟩
      rw [sortI_uniq pm pw]
      exact q t _ ht (same_new ht) ⟨_, upd_same, ra_ints _⟩
    · split at h
      · rename_i ss hn
        split at h
        · cases h
          have ei := strsOf_ra ra hn
          subst ei
          refine .inr ⟨a, ss, by rw [e2], .inl (.inl e1), fun ns' t pm pw ht => ?_⟩
          rw [sortS_uniq pm pw]
          exact q t _ ht (same_new ht) ⟨_, upd_same, ra_strs _⟩
        · cases h
      · cases h
  · cases h
theorem cl_sorted {X : Cx} : CallR X (.builtin "sorted") (fun xs H Q => rSortedI X.K xs H Q ∨ rSortedSA X.K xs H Q) := cr_sortedI.or cl_sortedSA
end DL
namespace DL
open L2 PySem PyProof.Rows PySem.Spec

/-! ### try: .. except X as n: .. with the caught error told behind it -/
def ExcV (a : Addr) (cls : Value) (dd : Option Addr) : HO := .ext fun h => ∃ o vs, h.get? a = some o ∧ Zc cls dd o ∧ o.data = .fields vs
section
variable {X : Cx} {pins : List (Addr × Obj)} {σ : L2.St} {H : Hp} {s : Shared}
/-- an object that stands, untracked, is told -/
theorem Inv.tell {a : Addr} {o : HO} (I : Inv X pins σ H s) (n0 : X.s_0.heap.get? a = none) (hn : H a = none) (nL : a ≠ X.env.locals) (nC : ∀ x c, X.env.cells.lookup x = some c → c ≠ a) (nP : ∀ p ∈ X.pn ++ pins, p.1 ≠ a) (new : ObjOk X.prog X.w (upd H a o) s.heap a o) :
    Inv X pins σ (upd H a o) s := by
  refine ⟨I.ok, I.os, I.bare, ⟨I.base.keep, I.base.slot, fun b u e n hx => ?_, I.base.there, fun b xs e => ?_, fun b u xs e => ?_, fun b ps e => ?_⟩, I.loc, I.cell, ?_, fun x c e => ?_, fun p hp => ?_, I.hok.laidN (fun _ _ e => e) hn new, I.len⟩
  · rw [upd_ne (fun z => by rw [z, n0] at e; cases e)]
    exact I.base.free b u e n hx
  · have q := I.base.tups b xs e
    rw [upd_ne (ne_of_none q hn)]; exact q
  · have q := I.base.frzs b u xs e
    rw [upd_ne (ne_of_none q hn)]; exact q
  · obtain ⟨m, q⟩ := I.base.tbls b ps e
    exact ⟨m, by rw [upd_ne (ne_of_none q hn)]; exact q⟩
  · rw [upd_ne nL.symm]; exact I.free
  · rw [upd_ne (nC x c e)]; exact I.freeC x c e
  · obtain ⟨h1, h2, h3, h4, h5⟩ := I.pin p hp
    exact ⟨h1, by rw [upd_ne (nP p hp)]; exact h2, h3, h4, h5⟩
end
/-- what the clause wishes of an exception of the body -/
def wAsT (K : PySem.W.Frag) (c : Value) (n : Nat) (i : Nat) (ts : Addr → Value → Option Addr → TS) (D : Ends) : WX := fun cls d σ H =>
  PySem.W.exmOne K cls c = some true ∧ ∀ a, σ.length = n → H a = none → ts a cls d { nx := fun σ' H' => D.nx (σ'.set i none) (upd H' a (ExcV a cls d)), rt := fun _ _ => False } (σ.set i (some (.ref a))) H
section
variable {X : Cx} {x n : Str} {c : Value} {i : Nat} {body suite : List Stmt} {b₀ : Stmt} {np pos pos' : Pos} {tb : WX → TS} {ts : Addr → Value → Option Addr → TS}
theorem ps_try_told (hs : X.stack = X.env :: X.outer) (hf : X.env.frame = some X.env.locals) (hN : X.N.Nodup) (hi : X.N[i]? = some n) (hln : X.env.kindOf n = some .local) (hc : Names X x c) (hex : X.ex = [])
    (hb : ∀ (W : WX) (pn : List (Addr × Obj)) (xe : Value → Shared → Prop), Takes (X.tr pn xe) W → PassesOwn (model X.prog X.w) X.A X.env xe → PSs (X.tr pn xe) body (tb W))
    (suiteOk : ∀ (a : Addr) (oe : Obj) (cls : Value) (d : Option Addr) (pn : List (Addr × Obj)), Zc cls d oe → (∃ vs, oe.data = .fields vs) → PSs (X.suite a ((a, oe) :: pn)) (b₀ :: suite) (ts a cls d)) :
    PS X (.Try body [.ExceptHandler (some (.Name x np)) (some n) (b₀ :: suite) pos'] [] [] pos) (fun D σ H => tb (wAsT X.K c X.N.length i ts D) D σ H) := by
  refine ⟨fun pins s σ H D I h => ?_⟩
  have ok := I.ok
  have fr0 : X.A.frames = some (X.env :: X.outer) := by rw [ok.frames, hs]
  have lc0 : Loc X.env.scope n := .inl hln
  refine wpAny_Try_except ?_
  refine wpAny_mono ((hb (wAsT X.K c X.N.length i ts D) (X.pn ++ pins) (fun e s₁ => wpAny (model X.prog X.w) X.A (noteFrame e X.env) (fun _ s₂ => wpAny (model X.prog X.w) X.A (setFlight e none) (fun _ s₃ =>
    wpAny (model X.prog X.w) X.A (handleBy e X.env [.ExceptHandler (some (.Name x np)) (some n) (b₀ :: suite) pos']) (SP X pins D) X.xe s₃) X.xe s₂) X.xe s₁) (fun u s' xx => ?_) PassesOwn.looking).run [] s σ H D (I.toTry _) h) (fun f s1 hs2 => ?_) (fun e s1 he => he)
  · obtain ⟨a, B, sI, pinsI, σI, HI, cls, d, rfl, jI, nb, up, skyO, na, os, ag, hb1, hyes⟩ := xx
    have j0 : Inv X pins σI HI sI := jI.ofTry ok
    have skyE : Sky B (X.env :: X.outer) a (Zc cls d) X.env.locals s'.heap := by rw [← hs]; exact skyO
    -- the error was not there at the entry
    have nB : B.get? a = none := by
      rcases skyO with h | h | h
      · exact h.2.1
      · exact h.2.1
      · exact h.2.1
    show wpAny (model X.prog X.w) X.A (noteFrame (.ref a) X.env) _ _ _
    refine Sky.land Zc.steady fr0 hf skyE fun h3 fA uA => ?_
    have jA : Inv X pins σI HI { s' with heap := h3 } := j0.landed nb fA.1 (up.trans uA) os ag
    obtain ⟨oA, wA, eA, zA, dA⟩ := fA.there
    have nfr : a ∉ frs (X.env :: X.outer) := fun hm => by
      obtain ⟨_, o', e', hnf⟩ := fA.2.2.1.mem hm
      rw [eA] at e'; cases e'
      exact hnf _ dA
    have nI : sI.heap.get? a = none := by
      cases e : sI.heap.get? a with
      | none => rfl
      | some o =>
        have := nb a o e (by rw [hs]; exact nfr)
        rw [nB] at this; cases this
    have nO : X.s_0.heap.get? a = none := by
      cases e : X.s_0.heap.get? a with
      | none => rfl
      | some o =>
        obtain ⟨o', e'⟩ := j0.base.there a o e (by rw [hex]; exact fun z => nomatch z)
        rw [nI] at e'; cases e'
    have nP : ∀ p ∈ X.pn ++ pins, p.1 ≠ a := fun p hp z => by
      obtain ⟨h1, _⟩ := j0.pin p hp
      rw [z, nI] at h1; cases h1
    have noL : a ≠ X.env.locals := fun z => nfr (List.mem_filterMap.mpr ⟨X.env, List.mem_cons_self, by rw [hf, z]⟩)
    have noF : a ∉ X.fs := fun hm => by
      obtain ⟨e, he, qq⟩ := List.mem_filterMap.mp hm
      exact nfr (List.mem_filterMap.mpr ⟨e, List.mem_cons_of_mem _ he, qq⟩)
    have sA := jA.suite eA dA na noL noF
    refine wpAny_handleBy_cons (codeAny_handlers_test ?_) (by intro qq; cases qq)
    have lT : PySem.W.Looks (model X.prog X.w) h3 (typeOf (.ref a)) cls := fun A Q E s k qq => wpAny_typeOf_ref (k _ _ eA) (by rw [zA.1]; exact qq)
    have lM := PySem.W.exm_one (M := model X.prog X.w) (jA.kIn) lT hb1
    have looked : ∀ {Q : Value → Shared → Prop} {E : Value → Shared → Prop}, Q c { s' with heap := h3 } → wpAny (model X.prog X.w) (X.A.mark (some (.ref a))) (eval (.Name x np) X.env) Q E { s' with heap := h3 } := fun {Q E} qq => by
      obtain ⟨hg, hdbg, hm | ⟨hm, hv, hnn⟩⟩ := hc
      · exact ld_glob (X := X.suite a ((a, oA) :: (X.pn ++ pins))) sA hg hm qq hdbg
      · exact ld_blt (X := X.suite a ((a, oA) :: (X.pn ++ pins))) sA hg hm hv qq hnn hdbg
    refine looked (lM.here ?_)
    refine codeAny_handlers_suite_as ?_
    refine HandSPX.lands_againZ fA fun h4 fB uB => ?_
    have jB : Inv X pins σI HI { s' with heap := h4 } := j0.landed nb fB.1 ((up.trans uA).trans uB) os ag
    obtain ⟨oB, wB, eB, zB, dB⟩ := fB.there
    have sB := jB.suite eB dB na noL noF
    refine store_ok (X := X.suite a ((a, oB) :: (X.pn ++ pins))) (v := .ref a) sB hN hi lc0 rfl (fun s5 sC => ?_) (.inr hln)
    refine wpAny_mono ((suiteOk a oB cls d (X.pn ++ pins) zB ⟨_, dB⟩).run [] s5 _ HI _ sC (hyes a j0.len na)) (fun f sb hs2 => ?_) (fun _ _ z => False.elim z)
    cases f with
    | next =>
      obtain ⟨τ, Hb, sD, qb⟩ := hs2
      have S6k : Inv X ((a, oB) :: pins) τ Hb sb := ⟨ok, sD.os, sD.bare, sD.base, sD.loc, sD.cell, sD.free, sD.freeC, fun p hp => sD.pin p (by
        rw [List.append_nil]
        show p ∈ (a, oB) :: (X.pn ++ pins)
        rcases List.mem_append.mp hp with h | h
        · exact List.mem_cons_of_mem _ (List.mem_append_left _ h)
        · rcases List.mem_cons.mp h with h | h
          · rw [h]; exact List.mem_cons_self
          · exact List.mem_cons_of_mem _ (List.mem_append_right _ h)), sD.hok, sD.len⟩
      refine gone_ok S6k hN hi hln fun s7 jC => ?_
      obtain ⟨g1, g2, g3, g4, g5⟩ := jC.pin (a, oB) (List.mem_append_right _ List.mem_cons_self)
      have jD : Inv X pins (τ.set i none) Hb s7 := ⟨ok, jC.os, jC.bare, jC.base, jC.loc, jC.cell, jC.free, jC.freeC, fun p hp => jC.pin p (by
        rcases List.mem_append.mp hp with h | h
        · exact List.mem_append_left _ h
        · exact List.mem_append_right _ (List.mem_cons_of_mem _ h)), jC.hok, jC.len⟩
      refine ⟨_, _, Inv.tell jD (o := ExcV a cls d) nO g2 noL (fun y c e z => ?_) nP ⟨⟨oB, wB, g1, zB, dB⟩, ⟨oB, g1⟩, fun h1 h2 ⟨o, vs, e1, e2, e3⟩ k => ⟨o, vs, k o e1, e2, e3⟩⟩, qb⟩
      obtain ⟨v, o, ho, hdc⟩ := jD.cell y c e
      rw [z, g1] at ho
      cases ho
      exact g5 v hdc
    | brk =>
      obtain ⟨τ, Hb, sD, qb⟩ := hs2
      exact qb.elim
    | cont =>
      obtain ⟨τ, Hb, sD, qb⟩ := hs2
      exact qb.elim
    | ret u =>
      obtain ⟨v6, τ, Hb, sD, r6, qb⟩ := hs2
      exact qb.elim
  · cases f with
    | next =>
      obtain ⟨σI, HI, jI, qq⟩ := hs2
      exact wpAny_execs_nil ⟨σI, HI, jI.ofTry ok, qq⟩
    | brk =>
      obtain ⟨σI, HI, jI, qq⟩ := hs2
      exact ⟨σI, HI, jI.ofTry ok, qq⟩
    | cont =>
      obtain ⟨σI, HI, jI, qq⟩ := hs2
      exact ⟨σI, HI, jI.ofTry ok, qq⟩
    | ret u =>
      obtain ⟨v, σI, HI, jI, r, qq⟩ := hs2
      exact ⟨v, σI, HI, jI.ofTry ok, r, qq⟩
end

/-! ### _law_caught -/
def caughtBody (p1 p2 p3 p4 p5 p6 p7 p8 p9 p10 p11 p12 p13 p14 : Pos) : List Stmt :=
  [.Assign [.Name "found" p1] (.Constant .none 0 p2) p3, .Try [.Expr (.Call (.Name "action" p4) [] [] p5) p6] [.ExceptHandler (some (.Name "TellError" p7)) (some "error") [.Assign [.Name "found" p8] (.Name "error" p9) p10] p11] [] [] p12, .Return (some (.Name "found" p13)) p14]
def caughtScope : Scope := { kind := .function, names := [("action", .local), ("found", .local), ("error", .local), ("TellError", .globalImplicit)], isGenerator := false, isCoroutine := false, more := [] }
def caughtN : List Str := ["action", "found", "error"]
def TTcaught (K : PySem.W.Frag) (CS : Addr) : (XK → Hp → VK → Prop) → Hp → VK → Prop := fun tl H Q =>
  tl (fun cls d H' => PySem.W.exmOne K cls (.ref CS) = some true ∧ ∀ a, H' a = none → Q (.ref a) (upd H' a (ExcV a cls d))) H (fun _ H' => ∃ v, some (some V.non) = some (some v) ∧ Q v H')
theorem caught_gives {X : Cx} {q x : Str} {g CS : Addr} {cdg : Value} {p1 p2 p3 p4 p5 p6 p7 p8 p9 p10 p11 p12 p13 p14 : Pos} (hme : X.mg "TellError" = some (.ref CS)) :
    LamX.GivesTo X caughtN x caughtScope g cdg (caughtBody p1 p2 p3 p4 p5 p6 p7 p8 p9 p10 p11 p12 p13 p14) "action" q (TTcaught X.K CS) := by
  intro f c' s H Q tl act hc h
  let Z : Cx := (cxOf C8.CX0 X.prog X.w X.K X.mg X.base caughtN x caughtScope g cdg X.A X.stack s H C8.E0).nox
  have nd : Z.N.Nodup := by show caughtN.Nodup; decide +kernel
  have s1 : PS Z (.Assign [.Name "found" p1] (.Constant .none 0 p2) p3) (tAsg (tC .non) (gName 1)) := ps_set (X := Z) (i := 1) nd rfl (.inl rfl) pe_non
  have s3 : PS Z (.Return (some (.Name "found" p13)) p14) (tRet (tVar 1)) := ps_ret (pe_var (X := Z) (i := 1) rfl (.inl rfl))
  have s2 := ps_try_told (X := Z) (x := "TellError") (n := "error") (c := .ref CS) (i := 2) (np := p7) (pos := p12) (pos' := p11) (body := [.Expr (.Call (.Name "action" p4) [] [] p5) p6]) (b₀ := .Assign [.Name "found" p8] (.Name "error" p9) p10) (suite := [])
    (tb := fun W D σ H => ∃ Ech : XK, (∀ cls d σ' H', Ech cls d H' → W cls d σ' H') ∧ σ[0]? = some (some (.ref f)) ∧ H c' = some (LamX.CodeO c' q) ∧ tl Ech H (fun _ H' => D.nx σ H'))
    (ts := fun _ _ _ => tAsg (tVar 2) (gName 1)) rfl rfl nd rfl rfl ⟨rfl, by decide, .inl hme⟩ rfl
    (fun W pn xe tk _ => ⟨fun pins s' σ H' D I h' => by
      obtain ⟨Ech, hW, h1, h2, h3⟩ := h'
      have hp := act W pn xe Ech p4 p5 tk hW
      exact (pss_one (ps_expr (pos := p6) hp)).run pins s' σ H' D I ⟨h1, h2, h3⟩⟩)
    (fun a oe cls d pn _ _ => pss_one (ps_set (i := 1) nd rfl (.inl rfl) (pe_var (i := 2) rfl (.inl rfl))))
  refine ⟨_, pss_cons s1 (pss_cons s2 (pss_one s3)), ?_⟩
  have e0 : L2.start caughtN [V.ref f] = [some (V.ref f), none, none] := rfl
  refine ⟨fun cls d H' => PySem.W.exmOne X.K cls (.ref CS) = some true ∧ ∀ a, H' a = none → Q (.ref a) (upd H' a (ExcV a cls d)), fun cls d σ' H' k => ⟨k.1, fun a hl na => ?_⟩, by rw [e0]; rfl, hc, ?_⟩
  · obtain ⟨x0, x1, x2, rfl⟩ : ∃ x0 x1 x2, σ' = [x0, x1, x2] := by
      have hl : σ'.length = 3 := hl
      match σ', hl with
      | [a, b, c], _ => exact ⟨a, b, c, rfl⟩
    exact ⟨_, rfl, _, rfl, k.2 a na⟩
  · exact h
end DL
namespace DL
open L2 PySem PyProof.Rows PySem.Spec
open LamX

/-! ### a lambda handed to _law_caught -/
section
variable {X : Cx} {pins : List (Addr × Obj)} {σ : L2.St} {H : Hp} {s : Shared}
/-- as in the library, and every address stays known -/
theorem lam_new {T : List (Addr × Str)} {c P : Addr} {params : Arguments} {body : Expr} {scope : Scope} {pos : Pos} {E : Value → Shared → Prop} {Q : Value → Shared → Prop} (I : Inv X pins σ H s) (TB : TabB X.base X.mg c P) (hcode : X.env.code = .ref c)
    (hm : (P, X.env.qual ++ "<lambda>") ∈ T) (hu : ∀ p ∈ T, p.1 = P → p.2 = X.env.qual ++ "<lambda>") (hT : Tabs T H) (df1 : defaultsOf params X.env = ([], [])) (fe1 : ∀ y ∈ scope.names, y.2 = .free → ∃ c, X.env.cells.lookup y.1 = some c)
    (h : ∀ (f c' : Addr) (pm cv1 : Value) (H1 : Hp) (s' : Shared), Inv X pins σ H1 s' → ExtN H H1 → (∀ b o, H b = some o → ∃ u, H1 b = some u) → Tabs T H1 →
      s'.heap.get? f = some (PySem.W.kla_obj "<lambda>" (X.env.qual ++ "<lambda>") params body scope (cloFrom X.env.cells scope.names []) pm c' cv1) → H1 f = none → f ∉ frs X.stack → H1 c' = some (CodeO c' (X.env.qual ++ "<lambda>")) → Q (.ref f) s') :
    wpAny (model X.prog X.w) X.A (eval (.Lambda params body scope pos) X.env) Q E s := by
  obtain ⟨ps, hP, ht, ha⟩ := hT _ hm
  refine PySem.W.kla_eval df1 ?_
  have bQ : s.heap.BuiltinsAt X.mg P := TB.bm.keeps I.bk
  have hQ' : s.heap.get? P = some { cls := .none, data := .fields ps } := I.hok P _ hP
  have nfr : ∀ f, s.heap.objs.size ≤ f → f ∉ frs X.stack := fun f hf z => by
    rcases List.mem_cons.mp (I.stkSub _ z) with e | e
    · have h1 := I.lt
      rw [← e] at h1
      exact Nat.lt_irrefl _ (Nat.lt_of_lt_of_le h1 hf)
    · exact I.nofs hf e
  cases hc : codeAmong pos ps.toList with
  | none =>
    refine PySem.W.kla_makeFunction (mg := X.mg) (c := c) (P := P) (ps := ps) (closure_ok fe1) I.ok.glob (I.mod.glob.keeps I.bk) hcode (TB.code.keeps I.bk) hQ' ht hc TB.gP bQ fun c' cv1 h' tk1 hx ge1 lt1 rc1 tb1 => ?_
    obtain ⟨c2, oc, vs, t, e2, oc1, hd, hv⟩ := rc1
    cases e2
    have sz1 : s.heap.objs.size ≤ h'.objs.size := Nat.le_trans ge1 (Nat.le_of_lt lt1)
    have nC : H c' = none := I.hok.fresh ge1
    have I1 := inv_table (t' := tk1) (more := #[rawInt pos.line, rawInt pos.col, .ref c']) (h' := h'.push (PySem.W.kla_obj "<lambda>" (X.env.qual ++ "<lambda>") params body scope (cloFrom X.env.cells scope.names []) ((X.mg "__name__").getD .none) c' cv1)) I hP
      (fun b o hb e => Heap.get?_push_of_some _ (hx b o hb e)) (Heap.get?_push_of_some _ tb1) ge1 ⟨oc, vs, t, Heap.get?_push_of_some _ oc1, hd, hv⟩
    have hE : ExtN H (upd (upd H P (.tbl (ps ++ #[rawInt pos.line, rawInt pos.col, .ref c']))) c' (CodeO c' (X.env.qual ++ "<lambda>"))) := fun b o e n => by
      rw [upd_ne (ne_of_none e nC), upd_ne (fun z => n ps (Option.some.inj (e.symm.trans (by rw [z]; exact hP))))]
      exact e
    have hD : ∀ b o, H b = some o → ∃ u, upd (upd H P (.tbl (ps ++ #[rawInt pos.line, rawInt pos.col, .ref c']))) c' (CodeO c' (X.env.qual ++ "<lambda>")) b = some u := fun b o e => by
      by_cases h1 : b = c'
      · exact ⟨_, by rw [h1, upd_same]⟩
      · by_cases h2 : b = P
        · exact ⟨_, by rw [upd_ne h1, h2, upd_same]⟩
        · exact ⟨o, by rw [upd_ne h1, upd_ne h2]; exact e⟩
    have eL : (ps ++ #[rawInt pos.line, rawInt pos.col, .ref c']).toList = ps.toList ++ [rawInt pos.line, rawInt pos.col, .ref c'] := by simp
    refine h h'.objs.size c' ((X.mg "__name__").getD .none) cv1 _ _ I1 hE hD (fun p hp => ?_) (Heap.get?_push_size _ rfl) ?_ (nfr _ sz1) upd_same
    · by_cases hb : p.1 = P
      · rw [hu p hp hb, hb]
        refine ⟨_, by rw [upd_ne (ne_of_none hP nC), upd_same], by rw [eL]; exact PySem.TriplesOk_snoc _ _ _ _ ht, fun p' cv cw => ?_⟩
        rw [eL] at cw
        rcases among_app _ ht cw with z | z
        · obtain ⟨c0, e1, e2⟩ := ha p' cv z
          exact ⟨c0, e1, hE _ _ e2 codeO_ne⟩
        · exact ⟨c', z, upd_same⟩
      · obtain ⟨ps', a1, a2, a3⟩ := hT p hp
        refine ⟨ps', by rw [upd_ne (ne_of_none a1 nC), upd_ne hb]; exact a1, a2, fun p' cv cw => ?_⟩
        obtain ⟨c0, e1, e2⟩ := a3 p' cv cw
        exact ⟨c0, e1, hE _ _ e2 codeO_ne⟩
    · have n1 : h'.objs.size ≠ c' := Nat.ne_of_gt lt1
      have n2 : h'.objs.size ≠ P := Nat.ne_of_gt (Nat.lt_of_lt_of_le (Heap.lt_size hQ') sz1)
      rw [upd_ne n1, upd_ne n2]
      exact I.hok.fresh sz1
  | some cv =>
    obtain ⟨c', e, co1⟩ := ha pos cv hc
    subst e
    refine PySem.W.kla_makeFunctionHit (mg := X.mg) (c := c) (P := P) (ps := ps) (closure_ok fe1) I.ok.glob (I.mod.glob.keeps I.bk) hcode (TB.code.keeps I.bk) hQ' ht hc bQ fun cv1 h' tk1 hx sz1 => ?_
    have I1 : Inv X pins σ H { s with heap := h'.push (PySem.W.kla_obj "<lambda>" (X.env.qual ++ "<lambda>") params body scope (cloFrom X.env.cells scope.names []) ((X.mg "__name__").getD .none) c' cv1), toks := tk1 } := I.kept fun b o e => Heap.get?_push_of_some _ (hx b o e)
    exact h h'.objs.size c' ((X.mg "__name__").getD .none) cv1 H _ I1 (ExtN.refl H) (fun b o e => ⟨o, e⟩) hT (Heap.get?_push_size _ rfl) (I.hok.fresh sz1) (nfr _ sz1) co1
end
def tLamD (T : List (Addr × Str)) (TT : (XK → Hp → VK → Prop) → Hp → VK → Prop) (t : XK → TE) : TE := fun σ H Q => Tabs T H ∧ ∀ H1, ExtN H H1 → (∀ b o, H b = some o → ∃ u, H1 b = some u) → Tabs T H1 → TT (fun E H' Q' => t E σ H' Q') H1 Q
section
variable {X : Cx}
/-- a def handed a lambda -/
theorem pe_lamD {T : List (Addr × Str)} {TT : (XK → Hp → VK → Prop) → Hp → VK → Prop} {x a : Str} {g c P : Addr} {k : Nat} {pg : Arguments} {bg : List Stmt} {sg : Scope} {dV kV doc pm cdv ct oc : Value} {an od : Option Addr} {osl : Array (Option Value)} {Ng : List Str}
    {params : Arguments} {body : Expr} {scope : Scope} {t : XK → TE} {p lpos pos : Pos} (hg : Gl X x) (hm : X.mg x = some (.ref g)) (hk : PySem.W.keepIn X.K (.ref g) = true)
    (lk : X.K.lookup g = some ⟨oc, od, .func (PySem.W.fnOf x x pg bg sg dV kV doc pm an cdv ct), osl⟩) (hcg : PySem.W.codeIn X.K cdv x = true) (hb : L2.Binds X.K (PySem.W.fnOf x x pg bg sg dV kV doc pm an cdv ct) [a] []) (Sg : FnScope Ng [a] sg) (ng1 : Ng[0]? = some a) (va1 : Vis sg a)
    (hG : GivesTo X Ng x sg g cdv bg a (X.env.qual ++ "<lambda>") TT)
    (TB : TabB X.base X.mg c P) (hcode : X.env.code = .ref c) (hmT : (P, X.env.qual ++ "<lambda>") ∈ T) (hu : ∀ p ∈ T, p.1 = P → p.2 = X.env.qual ++ "<lambda>") (hr : Room (k + 2) X.A) (L : LamS X.env.scope scope) (df1 : defaultsOf params X.env = ([], []))
    (bi1 : ∀ (q : Str) (cl : List (Str × Addr)) (pm cv cv1 : Value), bindArgs (PySem.W.kla_fn "<lambda>" q params body scope cl pm cv cv1) ⟨[], []⟩ = pure [])
    (bo1 : ∀ (A : Around) (outer : List PySem.Env) (s : Shared) (H : Hp) (E : XK) (f c' : Addr), Room k (A.deeper (lamEnv X scope s.heap.objs.size f c')) → PE (lamCx X A outer s H E scope f c') body (t E))
    (hdb : (x == ("__debug__" : Str)) = false := by decide) (hd : (a == ("__debug__" : Str)) = false := by decide) (hcd : (a == ("__classdict__" : Str)) = false := by decide) :
    PE X (.Call (.Name x p) [.Lambda params body scope lpos] [] pos) (tLamD T TT t) := by
  refine ⟨fun pins s σ H Q I h => ?_⟩
  obtain ⟨hT, h⟩ := h
  refine wpAny_Call_Name_kw (ld_glob I hg hm ?_ hdb)
  refine PySem.W.callWith_K (h₀ := X.base) I.ok.mod.kin hk ?_ (by rfl) (by rfl)
  show wpAny _ _ (spliced ((false, eval (.Lambda params body scope lpos) X.env) :: backTo pos (starEach [] X.env))) _ _ s
  refine Calls.spliced_cons (lam_new I TB hcode hmT hu hT df1 (L.has I.ok) fun f c' pm' cv1 H1 s' I1 eN dN T1 hf fn1 fr1 co1 => ?_)
  refine Calls.spliced_nil ⟨I1.kIn, ?_⟩
  have rc : codeAny (model X.prog X.w) X.A (.call (.ref g) ⟨[.ref f], []⟩) (CR C8.CX0 X.stack X.prog X.w H1 s' Q C8.E0) s' := by
    refine run_ofS (N := Ng) (ps := [a]) (us := [.ref f]) (vs := [.ref f]) lk hcg Sg hr I1.env0 (hb s' [.ref f] I1.kIn rfl) (.cons rfl .nil) rfl fun rr => ?_
    obtain ⟨t', ht', hq'⟩ := hG f c' s' H1 Q (fun E H' Q' => t E σ H' Q') (fun W pn xe E p1 p2 tk1 hW => pe_act (i := 0) I1 L hf fn1 fr1 (bi1 _ _ _ _ _) tk1 hW rr (fun A outer s H hr2 => bo1 A outer s H E f c' hr2) ng1 va1 hd hcd) co1 (h H1 eN dN T1)
    exact ⟨t', ht'.nox, hq'⟩
  refine wpAny_call (codeAny_mono rc fun r s2 hq => ?_)
  cases r with
  | error e => exact (show False from hq).elim
  | ok fl =>
    cases fl with
    | ret u => exact I1.after hq
    | next => exact False.elim hq
    | brk => exact False.elim hq
    | cont => exact False.elim hq
end
/-- what _law_caught(lambda: e) makes: None, or the error -/
def exD (x : Ex) : D := .exc x.name (match x.fs with
  | [(f, d)] => [.str f, d]
  | _ => [])
def maskE (O : List Nat) (ρ : Env) : Env := ρ.mapIdx fun i d => if O.contains i then none else d
theorem mask_get {O : List Nat} {ρ : Env} {i : Nat} {d : D} (h : (maskE O ρ)[i]? = some (some d)) : ρ[i]? = some (some d) ∧ i ∉ O := by
  unfold maskE at h
  rw [List.getElem?_mapIdx] at h
  obtain ⟨e, h1, h2⟩ := Option.map_eq_some_iff.mp h
  split at h2
  · cases h2
  · rename_i hk
    exact ⟨by rw [h1, h2], by simpa using hk⟩
def eCaught {A : Type} (O : List Nat) (f : Fe A) : Fe A := fun w ρ => match f w (maskE O ρ) with
  | none => none
  | some (.error (x, w')) => some (.ok (exD x, w'))
  | some (.ok (_, w')) => some (.ok (.non, w'))
/-- the world of laws whose errors are caught: it has tables of code -/
structure TabW (G : GW) (T : List (Addr × Str)) : Prop where
  tb : G.tb = true
  tabs : ∀ w H, G.rel w H → Tabs T H
  ext : ∀ w H H1, G.rel w H → ExtN H H1 → Tabs T H1 → G.rel w H1
theorem em_caught {J : Jc} {O : List Nat} {X : Cx} {T : List (Addr × Str)} {g c P CS : Addr} {k : Nat} {p1 p2 p3 p4 p5 p6 p7 p8 p9 p10 p11 p12 p13 p14 : Pos} {pg : Arguments} {dV kV doc pm cdv ct oc : Value} {an od : Option Addr} {osl : Array (Option Value)}
    {params : Arguments} {body : Expr} {scope : Scope} {p lpos pos : Pos} {f : Fe J.G.A} (hT : TabW J.G T) (hg : Gl X "_law_caught") (hm : X.mg "_law_caught" = some (.ref g)) (hk : PySem.W.keepIn X.K (.ref g) = true)
    (lk : X.K.lookup g = some ⟨oc, od, .func (PySem.W.fnOf "_law_caught" "_law_caught" pg (caughtBody p1 p2 p3 p4 p5 p6 p7 p8 p9 p10 p11 p12 p13 p14) caughtScope dV kV doc pm an cdv ct), osl⟩) (hcg : PySem.W.codeIn X.K cdv "_law_caught" = true)
    (hb : L2.Binds X.K (PySem.W.fnOf "_law_caught" "_law_caught" pg (caughtBody p1 p2 p3 p4 p5 p6 p7 p8 p9 p10 p11 p12 p13 p14) caughtScope dV kV doc pm an cdv ct) ["action"] [])
    (hme : X.mg "TellError" = some (.ref CS)) (hex : ∀ n C, J.p.cls n = some C → PySem.W.exmOne X.K (.ref C) (.ref CS) = some true)
    (TB : TabB X.base X.mg c P) (hcode : X.env.code = .ref c) (hmT : (P, X.env.qual ++ "<lambda>") ∈ T) (hu : ∀ p ∈ T, p.1 = P → p.2 = X.env.qual ++ "<lambda>") (hr : Room (k + 2) X.A) (L : LamS X.env.scope scope) (hdef : defaultsOf params X.env = ([], []))
    (hbind : ∀ (q : Str) (cl : List (Str × Addr)) (pm cv ctv : Value), bindArgs (PySem.W.kla_fn "<lambda>" q params body scope cl pm cv ctv) ⟨[], []⟩ = pure [])
    (hf : ∀ (A : Around) (outer : List PySem.Env) (s : Shared) (H : Hp) (E : XK) (f' c' : Addr) H0 S0 hS hU, Room k (A.deeper (lamEnv X scope s.heap.objs.size f' c')) → EM { G := J.G, p := J.p, H0 := H0, S0 := S0, E := E, hS := hS, hU := hU } [] (lamCx X A outer s H E scope f' c') false body f) :
    EM J O X false (.Call (.Name "_law_caught" p) [.Lambda params body scope lpos] [] pos) (eCaught O f) := ⟨PE.imp (pe_lamD (t := fun E σ H Q => ∃ H0 S0 hS hU, tM { G := J.G, p := J.p, H0 := H0, S0 := S0, E := E, hS := hS, hU := hU } [] false f σ H Q) hg hm hk lk hcg hb
    (⟨rfl, rfl, rfl, by decide +kernel, rfl, fun x hx => .inl (by rcases List.mem_singleton.mp hx with rfl; rfl), by decide⟩ : FnScope caughtN ["action"] caughtScope) rfl (.inl rfl) (caught_gives hme) TB hcode hmT hu hr L hdef hbind (fun A outer s H E f' c' hr' => ⟨fun pins s1 σ H1 Q I q => let ⟨H0, S0, hS, hU, q⟩ := q; (hf A outer s H E f' c' H0 S0 hS hU hr').pe.run pins s1 σ H1 Q I q⟩)) fun σ H Q => by
  rintro ⟨w, ρ, x, q⟩
  refine ⟨hT.tabs w H x.rel, fun H1 eN dN T1 => ?_⟩
  have fr1 : J.G.fr H H1 := ⟨fun b o e _ t => eN b o e (t hT.tb), dN⟩
  have x1 := x.step fr1 (hT.ext w H H1 x.rel eN T1)
  refine ⟨H1, SS J O σ, x1.subS, fun b h => .inl (J.hU b h), w, maskE O ρ, ?_, ?_⟩
  · have eF : hide (fun b => SS J O σ b ∨ ∃ i, i ∈ ([] : List Nat) ∧ σ[i]? = some (some (V.ref b))) H1 = Fz J O σ H1 := hide_congr fun b => ⟨fun z => z.elim (fun z => z) fun ⟨i, hi, _⟩ => (by simp at hi), .inl⟩
    refine ⟨GW.fr_refl _ _, x1.rel, ?_, fun i d h n => ?_, fun i d h n => (by simp at n), fun i a hi => (by simp at hi), fun i j a hi => (by simp at hi)⟩
    · show (ρ.mapIdx _).length = _
      rw [List.length_mapIdx]; exact x1.len
    · obtain ⟨h1, h2⟩ := mask_get h
      obtain ⟨v, e, r⟩ := x1.val i d h1 h2
      refine ⟨v, e, ?_⟩
      show R J.p (hide (fun b => SS J O σ b ∨ ∃ i, i ∈ ([] : List Nat) ∧ σ[i]? = some (some (V.ref b))) H1) v d
      rw [eF]; exact r
  · unfold eCaught at q
    unfold PQ
    cases hf1 : f w (maskE O ρ) with
    | none => rw [hf1] at q; exact q
    | some r =>
      rw [hf1] at q
      cases r with
      | error y =>
        obtain ⟨y, w'⟩ := y
        dsimp only at q
        intro cls dd H' f2 r2 rx
        have f2 : J.G.fr H1 H' := f2
        obtain ⟨C, hC, rfl, hy⟩ := rx
        refine ⟨hex _ _ hC, fun a na => ?_⟩
        have sm := same_new (o := ExcV a (.ref C) dd) na
        have x2 := x1.step f2 r2
        refine q.ok (GW.fr_trans (GW.fr_trans fr1 f2) (GW.fr_same sm)) (J.G.same r2 sm) (.inl ?_)
        have at_ : Fz J O σ (upd H' a (ExcV a (.ref C) dd)) a = some (ExcV a (.ref C) dd) := by
          show hide _ _ _ = _
          rw [hide_of (x2.hid na), upd_same]
        unfold exD
        rcases hy with ⟨e1, e2⟩ | ⟨fn, d, b, v, e1, e2, e3, rv⟩
        · subst e2
          rw [e1]
          exact .exc0 hC at_
        · subst e2
          rw [e1]
          have l : Le (hide (SS J O σ) H') (Fz J O σ (upd H' a (ExcV a (.ref C) (some b)))) := hide_le fun c o n e t => ⟨by rw [upd_ne (ne_of_none e na)]; exact e, n⟩
          exact .exc1 hC at_ (l _ _ e3 (fun _ z => nomatch z)) (rv.mono l)
      | ok r =>
        obtain ⟨d, w'⟩ := r
        exact fun v H' f2 r2 k => ⟨.non, rfl, q .non H' (GW.fr_trans fr1 f2) r2 (.inl .non)⟩⟩
end DL
namespace DL
open L2 PySem PyProof.Rows PySem.Spec

/-! ### isinstance(x, C), C an own class of errors -/
/-- what the error classes say -/
structure ErrK (p : Rp) : Prop where
  exc : ∀ c C, p.cls c = some C → ExcC p.K C
  one : ∀ c C c' C', p.cls c = some C → p.cls c' = some C' → PySem.W.kitOne p.K (.ref C) (.ref C') = some (decide (c = c'))
  ty : ∀ t, t ∈ ["NoneType", "bool", "int", "str", "tuple", "list", "dict"] → ∀ c C, p.cls c = some C → PySem.W.kitOne p.K (.type t) (.ref C) = some false
def rIsX (K : PySem.W.Frag) : List V → Hp → VK → Prop := fun xs H Q => ∃ (a C C' : Addr) (b : Bool), xs = [.ref a, .ref C'] ∧ ExcC K C ∧ Rd H a (ExcAt a C none) ∧ PySem.W.kitOne K (.ref C) (.ref C') = some b ∧ Q (.bl b) H
theorem Rd.excAt {X : Cx} {pins : List (Addr × Obj)} {σ : L2.St} {H : Hp} {s : Shared} {a C : Addr} {dd : Option Addr} (I : Inv X pins σ H s) (h : Rd H a (ExcAt a C dd)) : ∃ o vs, s.heap.get? a = some o ∧ L2.Zc (.ref C) dd o ∧ o.data = .fields vs := by
  rcases h with h | ⟨o, h⟩
  · exact (I.hok a _ h).1
  · exact (I.hok a _ h).2.1
theorem call_isX {X : Cx} : CallR X (.builtin "isinstance") (rIsX X.K) := by
  intro pins s σ H xs us Q I r h
  obtain ⟨a, C, C', b, rfl, E, hr, e, q⟩ := h
  obtain ⟨u1, u2, rfl, r1, r2⟩ := vals2 r
  cases (show u1 = Value.ref a from r1)
  cases (show u2 = Value.ref C' from r2)
  obtain ⟨o, vs, g, ⟨z1, z2⟩, hd⟩ := Rd.excAt I hr
  have at_ : PySem.W.InstAt s.heap a o C none := by
    obtain ⟨oc, od, oda, osl⟩ := o
    dsimp only at z1 z2 hd
    subst z1 z2 hd
    exact ⟨g, rfl, rfl, trivial⟩
  exact PySem.W.kia_one (PySem.W.handS_kitx_exc E.hg E.hk E.hs E.hd E.ha E.hn E.ht E.hm) I.kIn at_ e (fun z => nomatch z) fun tk => ⟨.bl b, H, I.kept (t' := tk) fun _ _ z => z, rfl, q⟩
/-- isinstance(x, an error class) -/
def dIsC : List D → Option D
  | [.exc c [], .cls c'] => some (.bl (decide (c = c')))
  | [d, .cls _] => (tyN d).map fun _ => .bl false
  | _ => none
theorem tyN_in {d : D} {t : String} (h : tyN d = some t) : t ∈ ["NoneType", "bool", "int", "str", "tuple", "list", "dict"] := by
  cases d <;> simp [tyN] at h <;> subst h <;> simp
theorem o_isC {p : Rp} (E : ErrK p) : OpN p (fun xs H Q => rIsi p.K xs H Q ∨ rIsX p.K xs H Q) dIsC := fun F H xs ds d Q s rs h q => by
  unfold dIsC at h
  split at h
  · cases h
    obtain ⟨x, y, rfl, r1, r2⟩ := p2 rs
    rcases r1 with r1 | ⟨_, _, o⟩
    · rcases r2 with r2 | ⟨_, _, o⟩
      · cases r2 with
        | cls hc' =>
          cases r1 with
          | exc0 hc e => exact .inr ⟨_, _, _, _, rfl, E.exc _ _ hc, .inl (s.le _ _ e), E.one _ _ _ _ hc hc', fin s (.bl _) q⟩
      · exact o.elim
    · exact o.elim
  · obtain ⟨t, ht, rfl⟩ := Option.map_eq_some_iff.mp h
    obtain ⟨x, y, rfl, r1, r2⟩ := p2 rs
    rcases r2 with r2 | ⟨_, _, o⟩
    · cases r2 with
      | cls hc' => exact .inl ⟨x, _, _, _, false, rfl, .own _, r1.tyx s ht, E.ty _ (tyN_in ht) _ _ hc', fin s (.bl _) q⟩
    · exact o.elim
  · cases h
theorem cl_isC {X : Cx} : CallR X (.builtin "isinstance") (fun xs H Q => rIsi X.K xs H Q ∨ rIsX X.K xs H Q) := call_isi.or call_isX
end DL
namespace DL
open L2 PySem PyProof.Rows PySem.Spec

/-! ### short names for the printed terms -/
theorem b_len : bootBuiltins "len" = some (.builtin "len") := by decide +kernel
theorem b_any : bootBuiltins "any" = some (.builtin "any") := by decide +kernel
/-- a def as its callers see it -/
structure Cal (P : Program) (w : World) (K : PySem.W.Frag) (mg : Str → Option Value) (base : Heap) (x : Str) (k : Nat) (ps : List Str) (kws : List (List Str × List Nat)) (sp : Sp) : Prop where
  ex : ∃ f fd, mg x = some (.ref f) ∧ PySem.W.keepIn K (.ref f) = true ∧ (∀ us : List Value, us.length = ps.length → bindArgs fd ⟨us, []⟩ = pure (ps.zip us)) ∧
    (∀ p ∈ kws, ∀ ws : List Value, ws.length = p.1.length → bindArgs fd ⟨[], p.1.zip ws⟩ = pure (ps.zip (p.2.filterMap fun j => ws[j]?))) ∧ FnOk P w K mg base (L2.CX P w) k f fd ps sp

section
variable {J : Jc} {O : List Nat} {fr : Bool} {X : Cx} {pk pk1 pk2 pk3 : Bool} {a b c : Expr} {es : List Expr} {f1 f2 f3 : Fe J.G.A} {fl : Fl J.G.A} {pos p0 : Pos}
theorem xN (i : Nat) {x : Str} (h : PE X (.Name x p0) (tVar i)) (hO : O.contains i = false := by rfl) : EM J O X false (.Name x p0) (eVar i) := em_name h hO
theorem xO (i : Nat) {x : Str} (h : PE X (.Name x p0) (tVar i)) (hO : O.contains i = true := by rfl) : EM J O X true (.Name x p0) (eVar i) := em_own h hO
theorem xI {i : Int} {j : Nat} : EM J O X false (.Constant (.int i) j p0) (eC (.int i)) := em_const pe_int fun _ => .int _
theorem xS {i : Str} {j : Nat} : EM J O X false (.Constant (.str i) j p0) (eC (.str i)) := em_const pe_str fun _ => .str _
theorem xB {i : Bool} {j : Nat} : EM J O X false (.Constant (.bool i) j p0) (eC (.bl i)) := em_const pe_bl fun _ => .bl _
theorem xZ {j : Nat} : EM J O X false (.Constant .none j p0) (eC .non) := em_const pe_non fun _ => .non
theorem xG {x : Str} {v : V} {d : D} {u : Value} (hm : X.mg x = some u) (r : RelV v u) (c : Cst J.p v d) (hg : Gl X x := by rfl) (hd : (x == ("__debug__" : Str)) = false := by decide) : EM J O X false (.Name x p0) (eC d) := em_const (pe_glob hg hm r hd) c
theorem xT {x : Str} {n : String} (hm : X.mg x = none) (hv : bootBuiltins x = some (.type n)) (hg : Gl X x := by rfl) (hn : x ≠ "__name__" := by decide) (hd : (x == ("__debug__" : Str)) = false := by decide) : EM J O X false (.Name x p0) (eC (.ty n)) := em_const (v := .ty n) (pe_bltn hg hm hv rfl hn hd) fun _ => .ty _
theorem xC {x c : Str} {C : Addr} (hm : X.mg x = some (.ref C)) (hc : J.p.cls c = some C) (hg : Gl X x := by rfl) (hd : (x == ("__debug__" : Str)) = false := by decide) : EM J O X false (.Name x p0) (eC (.cls c)) := em_const (v := .ref C) (pe_glob hg hm rfl hd) fun _ => .cls hc

theorem xAdd (h1 : EM J O X pk1 a f1) (h2 : EM J O X pk2 b f2) (hK : X.K = J.p.K := by rfl) : EM J O X false (.BinOp a .Add b pos) (e2 dAdd f1 f2) := em_op2 (fun ha hb => pe_op op_addA ha hb) (hK ▸ o_add) h1 h2
theorem xSub (h1 : EM J O X pk1 a f1) (h2 : EM J O X pk2 b f2) : EM J O X false (.BinOp a .Sub b pos) (e2 dSub f1 f2) := em_op2 (fun ha hb => pe_op op_sub ha hb) o_sub h1 h2
theorem xMul (h1 : EM J O X pk1 a f1) (h2 : EM J O X pk2 b f2) : EM J O X false (.BinOp a .Mult b pos) (e2 dMulI f1 f2) := em_op2 (fun ha hb => pe_op op_mulX ha hb) o_mulI h1 h2
theorem xMulS (h1 : EM J O X pk1 a f1) (h2 : EM J O X pk2 b f2) : EM J O X false (.BinOp a .Mult b pos) (e2 dMulS f1 f2) := em_op2 (fun ha hb => pe_op op_mulS ha hb) o_mulS h1 h2
theorem xFdiv (h1 : EM J O X pk1 a f1) (h2 : EM J O X pk2 b f2) : EM J O X false (.BinOp a .FloorDiv b pos) (e2 dFdiv f1 f2) := em_op2 (fun ha hb => pe_op op_fdivA ha hb) o_fdiv h1 h2
theorem xMod (h1 : EM J O X pk1 a f1) (h2 : EM J O X pk2 b f2) : EM J O X false (.BinOp a .Mod b pos) (e2 dMod f1 f2) := em_op2 (fun ha hb => pe_op op_modN ha hb) o_mod h1 h2
theorem xPow (h1 : EM J O X pk1 a f1) (h2 : EM J O X pk2 b f2) : EM J O X false (.BinOp a .Pow b pos) (e2 dPow f1 f2) := em_op2 (fun ha hb => pe_op op_powB ha hb) o_pow h1 h2
theorem xAddL (h1 : EM J O X pk1 a f1) (h2 : EM J O X pk2 b f2) : EF J O X (.BinOp a .Add b pos) (e2 dAddL f1 f2) := ef_op2 (fun ha hb => pe_op op_cat ha hb) o_addL h1 h2
theorem xNeg (h1 : EM J O X pk1 a f1) : EM J O X false (.UnaryOp .USub a pos) (e1 dNeg f1) := em_op1 (fun ha => pe_un un_neg ha) o_neg h1
theorem xIx (h1 : EM J O X pk1 a f1) (h2 : EM J O X pk2 b f2) (hs : PlainIx b := by exact fun _ _ => rfl) (hK : X.K = J.p.K := by rfl) : EM J O X false (.Subscript a b pos) (e2 dIdx f1 f2) := em_op2 (fun ha hb => pe_ix ix_seq ha hb hs) (hK ▸ o_idx) h1 h2
theorem xEq {k : Nat} (hr : Room k X.A) (h1 : EM J O X pk1 a f1) (h2 : EM J O X pk2 b f2) (hK : X.K = J.p.K := by rfl) : EM J O X false (.Compare a [.Eq] [b] pos) (e2 dEq f1 f2) := em_op2 (fun ha hb => pe_cmpR (op_eqA hr) ha hb (nomark _)) (hK ▸ o_eq) h1 h2
theorem tEq {k : Nat} (hr : Room k X.A) (h1 : EM J O X pk1 a f1) (h2 : EM J O X pk2 b f2) (hK : X.K = J.p.K := by rfl) : TM J O X (.Compare a [.Eq] [b] pos) (eB (e2 dEq f1 f2)) := tm_op2 (fun ha hb => pt_cmpR (op_eqA hr) ha hb (nomark _)) (hK ▸ o_eq) h1 h2
theorem xNe {k : Nat} (hr : Room k X.A) (h1 : EM J O X pk1 a f1) (h2 : EM J O X pk2 b f2) (hK : X.K = J.p.K := by rfl) : EM J O X false (.Compare a [.NotEq] [b] pos) (e2 dNe f1 f2) := em_op2 (fun ha hb => pe_cmpR (op_neA hr) ha hb (nomark _)) (hK ▸ o_ne) h1 h2
theorem tNe {k : Nat} (hr : Room k X.A) (h1 : EM J O X pk1 a f1) (h2 : EM J O X pk2 b f2) (hK : X.K = J.p.K := by rfl) : TM J O X (.Compare a [.NotEq] [b] pos) (eB (e2 dNe f1 f2)) := tm_op2 (fun ha hb => pt_cmpR (op_neA hr) ha hb (nomark _)) (hK ▸ o_ne) h1 h2
theorem xLt (h1 : EM J O X pk1 a f1) (h2 : EM J O X pk2 b f2) : EM J O X false (.Compare a [.Lt] [b] pos) (e2 dLt f1 f2) := em_op2 (fun ha hb => pe_cmpR (op_ltA) ha hb (nomark _)) o_lt h1 h2
theorem tLt (h1 : EM J O X pk1 a f1) (h2 : EM J O X pk2 b f2) : TM J O X (.Compare a [.Lt] [b] pos) (eB (e2 dLt f1 f2)) := tm_op2 (fun ha hb => pt_cmpR (op_ltA) ha hb (nomark _)) o_lt h1 h2
theorem xLe (h1 : EM J O X pk1 a f1) (h2 : EM J O X pk2 b f2) : EM J O X false (.Compare a [.LtE] [b] pos) (e2 dLe f1 f2) := em_op2 (fun ha hb => pe_cmpR (op_leA) ha hb (nomark _)) o_le h1 h2
theorem tLe (h1 : EM J O X pk1 a f1) (h2 : EM J O X pk2 b f2) : TM J O X (.Compare a [.LtE] [b] pos) (eB (e2 dLe f1 f2)) := tm_op2 (fun ha hb => pt_cmpR (op_leA) ha hb (nomark _)) o_le h1 h2
theorem xGt (h1 : EM J O X pk1 a f1) (h2 : EM J O X pk2 b f2) : EM J O X false (.Compare a [.Gt] [b] pos) (e2 dGt f1 f2) := em_op2 (fun ha hb => pe_cmpR (op_gtA) ha hb (nomark _)) o_gt h1 h2
theorem tGt (h1 : EM J O X pk1 a f1) (h2 : EM J O X pk2 b f2) : TM J O X (.Compare a [.Gt] [b] pos) (eB (e2 dGt f1 f2)) := tm_op2 (fun ha hb => pt_cmpR (op_gtA) ha hb (nomark _)) o_gt h1 h2
theorem xGe (h1 : EM J O X pk1 a f1) (h2 : EM J O X pk2 b f2) : EM J O X false (.Compare a [.GtE] [b] pos) (e2 dGe f1 f2) := em_op2 (fun ha hb => pe_cmpR (op_geA) ha hb (nomark _)) o_ge h1 h2
theorem tGe (h1 : EM J O X pk1 a f1) (h2 : EM J O X pk2 b f2) : TM J O X (.Compare a [.GtE] [b] pos) (eB (e2 dGe f1 f2)) := tm_op2 (fun ha hb => pt_cmpR (op_geA) ha hb (nomark _)) o_ge h1 h2
theorem xIs (h1 : EM J O X pk1 a f1) (h2 : EM J O X pk2 b f2) : EM J O X false (.Compare a [.Is] [b] pos) (e2 dIs f1 f2) := em_op2 (fun ha hb => pe_cmpR (op_isA) ha hb (nomark _)) o_is h1 h2
theorem tIs (h1 : EM J O X pk1 a f1) (h2 : EM J O X pk2 b f2) : TM J O X (.Compare a [.Is] [b] pos) (eB (e2 dIs f1 f2)) := tm_op2 (fun ha hb => pt_cmpR (op_isA) ha hb (nomark _)) o_is h1 h2
theorem xIsNot (h1 : EM J O X pk1 a f1) (h2 : EM J O X pk2 b f2) : EM J O X false (.Compare a [.IsNot] [b] pos) (e2 dIsNot f1 f2) := em_op2 (fun ha hb => pe_cmpR (op_isNotA) ha hb (nomark _)) o_isNot h1 h2
theorem tIsNot (h1 : EM J O X pk1 a f1) (h2 : EM J O X pk2 b f2) : TM J O X (.Compare a [.IsNot] [b] pos) (eB (e2 dIsNot f1 f2)) := tm_op2 (fun ha hb => pt_cmpR (op_isNotA) ha hb (nomark _)) o_isNot h1 h2
theorem xIn {k : Nat} (hr : Room k X.A) (h1 : EM J O X pk1 a f1) (h2 : EM J O X pk2 b f2) (hm : behindInMarks .In b = false := by rfl) (hK : X.K = J.p.K := by rfl) : EM J O X false (.Compare a [.In] [b] pos) (e2 dIn f1 f2) := em_op2 (fun ha hb => pe_cmpR (op_inA hr) ha hb hm) (hK ▸ o_in) h1 h2
theorem tIn {k : Nat} (hr : Room k X.A) (h1 : EM J O X pk1 a f1) (h2 : EM J O X pk2 b f2) (hm : behindInMarks .In b = false := by rfl) (hK : X.K = J.p.K := by rfl) : TM J O X (.Compare a [.In] [b] pos) (eB (e2 dIn f1 f2)) := tm_op2 (fun ha hb => pt_cmpR (op_inA hr) ha hb hm) (hK ▸ o_in) h1 h2
theorem xNotIn {k : Nat} (hr : Room k X.A) (h1 : EM J O X pk1 a f1) (h2 : EM J O X pk2 b f2) (hm : behindInMarks .NotIn b = false := by rfl) (hK : X.K = J.p.K := by rfl) : EM J O X false (.Compare a [.NotIn] [b] pos) (e2 dNotIn f1 f2) := em_op2 (fun ha hb => pe_cmpR (op_notInA hr) ha hb hm) (hK ▸ o_notIn) h1 h2
theorem tNotIn {k : Nat} (hr : Room k X.A) (h1 : EM J O X pk1 a f1) (h2 : EM J O X pk2 b f2) (hm : behindInMarks .NotIn b = false := by rfl) (hK : X.K = J.p.K := by rfl) : TM J O X (.Compare a [.NotIn] [b] pos) (eB (e2 dNotIn f1 f2)) := tm_op2 (fun ha hb => pt_cmpR (op_notInA hr) ha hb hm) (hK ▸ o_notIn) h1 h2
theorem tV (h : EM J O X false a f1) (he : ∀ whole, isTrue a X.env whole = (do let v ← whole; standAt a.pos; holding [v] (truthy v)) := by intro _; rfl) : TM J O X a (eB f1) := tm_val (fun h => pt_val h he) h
theorem cLen (hm : X.mg "len" = none) (h : EMs J O X pk1 (a :: es) fl) (hg : Gl X "len" := by rfl) (hK : X.K = J.p.K := by rfl) (he : starEach (a :: es) X.env = (false, eval a X.env) :: starEach es X.env := by rfl) (hpl : (backTo pos (starEach es X.env)).any (·.1) = false := by rfl) :
    EM J O X false (.Call (.Name "len" p0) (a :: es) [] pos) (eN dLen fl) := em_opN (fun ha => pe_callB (cl_len) hg hm b_len ha (by decide) (by decide) he hpl) (hK ▸ o_len) h
theorem cAbs (hm : X.mg "abs" = none) (h : EMs J O X pk1 (a :: es) fl) (hg : Gl X "abs" := by rfl) (he : starEach (a :: es) X.env = (false, eval a X.env) :: starEach es X.env := by rfl) (hpl : (backTo pos (starEach es X.env)).any (·.1) = false := by rfl) :
    EM J O X false (.Call (.Name "abs" p0) (a :: es) [] pos) (eN dAbs fl) := em_opN (fun ha => pe_callB (call_abs) hg hm PyProof.Rows.boot_abs ha (by decide) (by decide) he hpl) o_abs h
theorem cInt (hm : X.mg "int" = none) (h : EMs J O X pk1 (a :: es) fl) (hg : Gl X "int" := by rfl) (he : starEach (a :: es) X.env = (false, eval a X.env) :: starEach es X.env := by rfl) (hpl : (backTo pos (starEach es X.env)).any (·.1) = false := by rfl) :
    EM J O X false (.Call (.Name "int" p0) (a :: es) [] pos) (eN dInt fl) := em_opN (fun ha => pe_callTy (call_int1) hg hm PyProof.Rows.boot_int ha (by decide) (by decide) he hpl) o_int h
theorem cSum (hm : X.mg "sum" = none) (h : EMs J O X pk1 (a :: es) fl) (hg : Gl X "sum" := by rfl) (hc : X.calm = true := by rfl) (hK : X.K = J.p.K := by rfl) (he : starEach (a :: es) X.env = (false, eval a X.env) :: starEach es X.env := by rfl) (hpl : (backTo pos (starEach es X.env)).any (·.1) = false := by rfl) :
    EM J O X false (.Call (.Name "sum" p0) (a :: es) [] pos) (eN dSum fl) := em_opN (fun ha => pe_callB (cr_sum hc) hg hm PyProof.Rows.boot_sum ha (by decide) (by decide) he hpl) (hK ▸ o_sum) h
theorem cAll (hm : X.mg "all" = none) (h : EMs J O X pk1 (a :: es) fl) (hg : Gl X "all" := by rfl) (hc : X.calm = true := by rfl) (hK : X.K = J.p.K := by rfl) (he : starEach (a :: es) X.env = (false, eval a X.env) :: starEach es X.env := by rfl) (hpl : (backTo pos (starEach es X.env)).any (·.1) = false := by rfl) :
    EM J O X false (.Call (.Name "all" p0) (a :: es) [] pos) (eN dAll fl) := em_opN (fun ha => pe_callB (cr_all hc) hg hm PyProof.Rows.boot_all ha (by decide) (by decide) he hpl) (hK ▸ o_all) h
theorem cAny (hm : X.mg "any" = none) (h : EMs J O X pk1 (a :: es) fl) (hg : Gl X "any" := by rfl) (hc : X.calm = true := by rfl) (hK : X.K = J.p.K := by rfl) (he : starEach (a :: es) X.env = (false, eval a X.env) :: starEach es X.env := by rfl) (hpl : (backTo pos (starEach es X.env)).any (·.1) = false := by rfl) :
    EM J O X false (.Call (.Name "any" p0) (a :: es) [] pos) (eN dAny fl) := em_opN (fun ha => pe_callB (cr_any hc) hg hm b_any ha (by decide) (by decide) he hpl) (hK ▸ o_any) h
theorem cMin2 (hm : X.mg "min" = none) (h : EMs J O X pk1 (a :: es) fl) (hg : Gl X "min" := by rfl) (hc : X.calm = true := by rfl) (he : starEach (a :: es) X.env = (false, eval a X.env) :: starEach es X.env := by rfl) (hpl : (backTo pos (starEach es X.env)).any (·.1) = false := by rfl) :
    EM J O X false (.Call (.Name "min" p0) (a :: es) [] pos) (eN dMin2 fl) := em_opN (fun ha => pe_callB (call_min2 hc) hg hm PyProof.Rows.boot_min ha (by decide) (by decide) he hpl) o_min2 h
theorem cMax2 (hm : X.mg "max" = none) (h : EMs J O X pk1 (a :: es) fl) (hg : Gl X "max" := by rfl) (hc : X.calm = true := by rfl) (he : starEach (a :: es) X.env = (false, eval a X.env) :: starEach es X.env := by rfl) (hpl : (backTo pos (starEach es X.env)).any (·.1) = false := by rfl) :
    EM J O X false (.Call (.Name "max" p0) (a :: es) [] pos) (eN dMax2 fl) := em_opN (fun ha => pe_callB (call_max2 hc) hg hm PyProof.Rows.boot_max ha (by decide) (by decide) he hpl) o_max2 h
theorem cTuple (hm : X.mg "tuple" = none) (h : EMs J O X pk1 (a :: es) fl) (hg : Gl X "tuple" := by rfl) (hK : X.K = J.p.K := by rfl) (he : starEach (a :: es) X.env = (false, eval a X.env) :: starEach es X.env := by rfl) (hpl : (backTo pos (starEach es X.env)).any (·.1) = false := by rfl) :
    EM J O X false (.Call (.Name "tuple" p0) (a :: es) [] pos) (eN dTuple fl) := em_opN (fun ha => pe_callTy (call_tuple_of) hg hm PyProof.Rows.boot_tuple ha (by decide) (by decide) he hpl) (hK ▸ o_tuple) h
theorem cIsi (hm : X.mg "isinstance" = none) (h : EMs J O X pk1 (a :: es) fl) (hg : Gl X "isinstance" := by rfl) (hK : X.K = J.p.K := by rfl) (he : starEach (a :: es) X.env = (false, eval a X.env) :: starEach es X.env := by rfl) (hpl : (backTo pos (starEach es X.env)).any (·.1) = false := by rfl) :
    EM J O X false (.Call (.Name "isinstance" p0) (a :: es) [] pos) (eN dIsi fl) := em_opN (fun ha => pe_callB (call_isi) hg hm PyProof.Rows.boot_isinstance ha (by decide) (by decide) he hpl) (hK ▸ o_isi) h
theorem cList (hm : X.mg "list" = none) (h : EMs J O X pk1 (a :: es) fl) (hg : Gl X "list" := by rfl) (hK : X.K = J.p.K := by rfl) (he : starEach (a :: es) X.env = (false, eval a X.env) :: starEach es X.env := by rfl) (hpl : (backTo pos (starEach es X.env)).any (·.1) = false := by rfl) :
    EF J O X (.Call (.Name "list" p0) (a :: es) [] pos) (eN dList fl) := ef_opN (fun ha => pe_callTy (call_list_of) hg hm PyProof.Rows.boot_list ha (by decide) (by decide) he hpl) (hK ▸ o_list) h
theorem cListS (hm : X.mg "list" = none) (h : EMs J O X pk1 (a :: es) fl) (hg : Gl X "list" := by rfl) (hc : X.calm = true := by rfl) (he : starEach (a :: es) X.env = (false, eval a X.env) :: starEach es X.env := by rfl) (hpl : (backTo pos (starEach es X.env)).any (·.1) = false := by rfl) :
    EF J O X (.Call (.Name "list" p0) (a :: es) [] pos) (eN dListS fl) := ef_opN (fun ha => pe_callTy (cl_list_text hc) hg hm PyProof.Rows.boot_list ha (by decide) (by decide) he hpl) o_listS h
theorem cSorted (hm : X.mg "sorted" = none) (h : EMs J O X pk1 (a :: es) fl) (hg : Gl X "sorted" := by rfl) (hK : X.K = J.p.K := by rfl) (he : starEach (a :: es) X.env = (false, eval a X.env) :: starEach es X.env := by rfl) (hpl : (backTo pos (starEach es X.env)).any (·.1) = false := by rfl) :
    EF J O X (.Call (.Name "sorted" p0) (a :: es) [] pos) (eN dSorted fl) := ef_opN (fun ha => pe_callB (cl_sorted) hg hm PyProof.Rows.boot_sorted ha (by decide) (by decide) he hpl) (hK ▸ o_sorted) h
theorem cGcd (hm : X.mg "gcd" = some (.builtin "math.gcd")) (h : EMs J O X pk1 (a :: es) fl) (hg : Gl X "gcd" := by rfl) (he : starEach (a :: es) X.env = (false, eval a X.env) :: starEach es X.env := by rfl) (hpl : (backTo pos (starEach es X.env)).any (·.1) = false := by rfl) :
    EM J O X false (.Call (.Name "gcd" p0) (a :: es) [] pos) (eN dGcd fl) := em_opN (fun ha => pe_callBfun cr_gcd hg hm ha (by decide) he hpl) o_gcd h
theorem cIsC (E : ErrK J.p) (hm : X.mg "isinstance" = none) (h : EMs J O X pk1 (a :: es) fl) (hg : Gl X "isinstance" := by rfl) (hK : X.K = J.p.K := by rfl) (he : starEach (a :: es) X.env = (false, eval a X.env) :: starEach es X.env := by rfl) (hpl : (backTo pos (starEach es X.env)).any (·.1) = false := by rfl) :
    EM J O X false (.Call (.Name "isinstance" p0) (a :: es) [] pos) (eN dIsC fl) := em_opN (fun ha => pe_callB cl_isC hg hm PyProof.Rows.boot_isinstance ha (by decide) (by decide) he hpl) (hK ▸ o_isC E) h

/-! calls of the text's own defs -/
theorem tCall_nil {sp : Sp} {E : XK} {t : TA} : tCall sp [] E t = fun σ H Q => t σ H fun vs H1 => sp vs H1 Q E := by
  funext σ H Q
  unfold tCall
  simp only [List.append_nil]
theorem cF {x : Str} {k n : Nat} {ps : List Str} {kws : List (List Str × List Nat)} {m : List D → Rq D} (c : Cal X.prog X.w X.K X.mg X.base x k ps kws (spP J.p false m)) (hr : Room n X.A) (hk : k ≤ n) (hx : Passes (L2.CX X.prog X.w) X J.E) (h : EMs J O X false (a :: es) fl)
    (hg : Gl X x := by rfl) (hdb : (x == ("__debug__" : Str)) = false := by decide) (he : starEach (a :: es) X.env = (false, eval a X.env) :: starEach es X.env := by rfl) (hpl : (backTo pos (starEach es X.env)).any (·.1) = false := by rfl) :
    EM J O X false (.Call (.Name x p0) (a :: es) [] pos) (eCall m fl) := by
  obtain ⟨f, fd, h1, h2, h3, _, F⟩ := c.ex
  exact em_call (fun ha => tCall_nil ▸ pe_call F (hr.mono hk) hg h1 h2 (.all h3) .nil hx ha hdb he hpl) h
theorem cFF {x : Str} {k n : Nat} {ps : List Str} {kws : List (List Str × List Nat)} {m : List D → Rq D} (c : Cal X.prog X.w X.K X.mg X.base x k ps kws (spP J.p true m)) (hr : Room n X.A) (hk : k ≤ n) (hx : Passes (L2.CX X.prog X.w) X J.E) (h : EMs J O X false (a :: es) fl)
    (hg : Gl X x := by rfl) (hdb : (x == ("__debug__" : Str)) = false := by decide) (he : starEach (a :: es) X.env = (false, eval a X.env) :: starEach es X.env := by rfl) (hpl : (backTo pos (starEach es X.env)).any (·.1) = false := by rfl) :
    EF J O X (.Call (.Name x p0) (a :: es) [] pos) (eCall m fl) := by
  obtain ⟨f, fd, h1, h2, h3, _, F⟩ := c.ex
  exact ef_call (fun ha => tCall_nil ▸ pe_call F (hr.mono hk) hg h1 h2 (.all h3) .nil hx ha hdb he hpl) h
theorem cM {x : Str} {k n : Nat} {ps : List Str} {kws : List (List Str × List Nat)} {m : J.G.A → List D → Rs D J.G.A} (c : Cal X.prog X.w X.K X.mg X.base x k ps kws (spM J.G J.p false m)) (hr : Room n X.A) (hk : k ≤ n) (hx : Passes (L2.CX X.prog X.w) X J.E) (h : EMs J O X false (a :: es) fl)
    (hg : Gl X x := by rfl) (hdb : (x == ("__debug__" : Str)) = false := by decide) (he : starEach (a :: es) X.env = (false, eval a X.env) :: starEach es X.env := by rfl) (hpl : (backTo pos (starEach es X.env)).any (·.1) = false := by rfl) :
    EM J O X false (.Call (.Name x p0) (a :: es) [] pos) (eCallM m fl) := by
  obtain ⟨f, fd, h1, h2, h3, _, F⟩ := c.ex
  exact em_callM (fun ha => tCall_nil ▸ pe_call F (hr.mono hk) hg h1 h2 (.all h3) .nil hx ha hdb he hpl) h
theorem cMF {x : Str} {k n : Nat} {ps : List Str} {kws : List (List Str × List Nat)} {m : J.G.A → List D → Rs D J.G.A} (c : Cal X.prog X.w X.K X.mg X.base x k ps kws (spM J.G J.p true m)) (hr : Room n X.A) (hk : k ≤ n) (hx : Passes (L2.CX X.prog X.w) X J.E) (h : EMs J O X false (a :: es) fl)
    (hg : Gl X x := by rfl) (hdb : (x == ("__debug__" : Str)) = false := by decide) (he : starEach (a :: es) X.env = (false, eval a X.env) :: starEach es X.env := by rfl) (hpl : (backTo pos (starEach es X.env)).any (·.1) = false := by rfl) :
    EF J O X (.Call (.Name x p0) (a :: es) [] pos) (eCallM m fl) := by
  obtain ⟨f, fd, h1, h2, h3, _, F⟩ := c.ex
  exact ef_callM (fun ha => tCall_nil ▸ pe_call F (hr.mono hk) hg h1 h2 (.all h3) .nil hx ha hdb he hpl) h
theorem passK {X : Cx} : Passes (L2.CX X.prog X.w) X fun _ _ _ => False := passes_call LamX.takes0 fun _ _ _ _ h => h
end
/-! keywords -/
structure EKw (J : Jc) (O : List Nat) (X : Cx) (kws : List Keyword) (f : Fl J.G.A) : Prop where
  pk : PK X kws (tMs J O false f)
def permL {α : Type} (n : Nat) (js : List Nat) (us ws : List α) : List α := if us.length = 0 ∧ ws.length = n then js.filterMap fun j => ws[j]? else []
section
variable {J : Jc} {O : List Nat} {X : Cx} {f : Fe J.G.A} {fl : Fl J.G.A}
theorem kw_nil : EKw J O X [] fNil := ⟨⟨fun pos pins s σ H Q I q => pk_nil.run pos pins s σ H Q I (by
  obtain ⟨w, ρ, x, q⟩ := q
  exact PQ.ok (rel := Rls J O σ ρ false) q (GW.fr_refl _ _) x.rel .nil)⟩⟩
theorem kw_cons {nm : Option Str} {e : Expr} {kpos : Pos} {kws : List Keyword} (h1 : EM J O X false e f) (h2 : EKw J O X kws fl) : EKw J O X (⟨nm, e, kpos⟩ :: kws) (fCons f fl) := ⟨⟨fun pos pins s σ H Q I q => (pk_cons h1.pe h2.pk).run pos pins s σ H Q I (by
  obtain ⟨w, ρ, x, q⟩ := q
  refine em_seq x q fun v H1 d w1 x1 f1 r1 q1 => ?_
  refine ems_seq x1 q1 fun vs H2 ds w2 x2 f2 r2 q2 => ?_
  exact PQ.ok (rel := Rls J O σ ρ false) q2 (GW.fr_refl _ _) x2.rel (.cons (Rl.step x1 f2 r1) r2))⟩⟩
theorem permL_vals {n : Nat} {js : List Nat} {vs zs : List V} {us ws : List Value} (r : Vals vs us) (rz : Vals zs ws) : Vals (permL n js vs zs) (permL n js us ws) := by
  unfold permL
  rw [r.length, rz.length]
  split
  · induction js with
    | nil => exact .nil
    | cons j js ih =>
      rw [List.filterMap_cons, List.filterMap_cons]
      cases e : zs[j]? with
      | none =>
        have e2 : ws[j]? = none := by rw [List.getElem?_eq_none_iff] at e ⊢; rw [← rz.length]; exact e
        rw [e2]; exact ih
      | some v =>
        obtain ⟨u, e2, rv⟩ := rz.get e
        rw [e2]
        exact .cons rv ih
  · exact .nil
theorem kbinds_of {K : PySem.W.Frag} {fd : FuncData} {ps ks : List Str} {js : List Nat} (hp : ps.length ≠ 0) (h : ∀ ws : List Value, ws.length = ks.length → bindArgs fd ⟨[], ks.zip ws⟩ = pure (ps.zip (js.filterMap fun j => ws[j]?))) : KBinds K fd ps ks (permL ks.length js) (permL ks.length js) where
  to := fun s us ws _ hl => by
    unfold permL at hl ⊢
    split at hl
    · rename_i c
      rw [if_pos c]
      obtain ⟨c1, c2⟩ := c
      have e := List.length_eq_zero_iff.mp c1
      subst e
      exact .of_eq (h ws c2)
    · exact (hp hl.symm).elim
  rel := fun r rz => permL_vals r rz
theorem ra_perm {p : Rp} {F : Hp} {vs : List V} {ds : List D} (r : RA p F vs ds) : ∀ js : List Nat, RA p F (js.filterMap fun j => vs[j]?) (js.filterMap fun j => ds[j]?)
  | [] => .nil
  | j :: js => by
    rw [List.filterMap_cons, List.filterMap_cons]
    cases e : vs[j]? with
    | none =>
      have e2 : ds[j]? = none := by rw [List.getElem?_eq_none_iff] at e ⊢; rw [← r.length]; exact e
      rw [e2]; exact ra_perm r js
    | some v =>
      obtain ⟨d, e2, rv⟩ := r.get e
      rw [e2]
      exact .cons rv (ra_perm r js)
end
section
variable {X : Cx} {CX : CXT} {k : Nat} {f : Addr} {fd : FuncData} {ps ks : List Str} {sp : Sp} {E : XK} {g : List Value → List Value → List Value} {gV : List V → List V → List V} {tk : TA} {x : Str} {p pos : Pos} {kws : List Keyword}
theorem pe_callKw (F : FnOk X.prog X.w X.K X.mg X.base CX k f fd ps sp) (hr : Room k X.A) (hg : Gl X x) (hm : X.mg x = some (.ref f)) (hk : PySem.W.keepIn X.K (.ref f) = true) (hb : KBinds X.K fd ps ks g gV) (hx : Passes CX X E)
    (hkw : PK X kws tk) (hall : (backToKw pos (keywordEach kws X.env)).all (·.1.isSome) = true) (hks : (backToKw pos (keywordEach kws X.env)).filterMap (·.1) = ks) (hdb : (x == ("__debug__" : Str)) = false)
    (hpl : ((backTo pos (starEach [] X.env)).any (·.1) || (backToKw pos (keywordEach kws X.env)).any (·.1.isNone)) = false) : PE X (.Call (.Name x p) [] kws pos) (fun σ H Q => tk σ H fun zs H2 => sp (gV [] zs) H2 Q E) := by
  refine ⟨fun pins s σ H Q I h => wpAny_Call_Name_kw (ld_glob I hg hm ?_ hdb)⟩
  refine PySem.W.callWith_KW0 (first := []) (h₀ := X.base) I.ok.mod.kin hk hall ?_ hpl
  refine thn (hkw.run pos pins s σ H _ I h) fun ws s2 ⟨zs, H2, I2, rz, q2⟩ => ⟨I2.kIn, ?_⟩
  rw [hks]
  exact run_fnk F hr hb hx I2 .nil rz q2
end
section
variable {J : Jc} {O : List Nat} {X : Cx} {f : Fe J.G.A} {fl : Fl J.G.A} {pos p0 : Pos} {kwl : List Keyword}
/-- f(k = e, ..) -/
theorem cK {x : Str} {k n : Nat} {ps : List Str} {kws : List (List Str × List Nat)} {m : List D → Rq D} (ks : List Str) (js : List Nat) (c : Cal X.prog X.w X.K X.mg X.base x k ps kws (spP J.p false m)) (hr : Room n X.A) (hk : k ≤ n) (hx : Passes (L2.CX X.prog X.w) X J.E) (h : EKw J O X kwl fl) (hp : ps.length ≠ 0) (hkj : (ks, js) ∈ kws)
    (hall : (backToKw pos (keywordEach kwl X.env)).all (·.1.isSome) = true := by rfl) (hks : (backToKw pos (keywordEach kwl X.env)).filterMap (·.1) = ks := by rfl) (hg : Gl X x := by rfl) (hdb : (x == ("__debug__" : Str)) = false := by decide)
    (hpl : ((backTo pos (starEach [] X.env)).any (·.1) || (backToKw pos (keywordEach kwl X.env)).any (·.1.isNone)) = false := by rfl) :
    EM J O X false (.Call (.Name x p0) [] kwl pos) (bindE fl fun ds w ρ => if ds.length = ks.length then eCall m (fun w _ => some (.ok (js.filterMap fun j => ds[j]?, w))) w ρ else none) := by
  obtain ⟨f, fd, h1, h2, _, h3, F⟩ := c.ex
  refine ⟨PE.imp (pe_callKw F (hr.mono hk) hg h1 h2 (kbinds_of hp (h3 _ hkj)) hx h.pk hall hks hdb hpl) fun σ H Q => ?_⟩
  rintro ⟨w, ρ, x, q⟩
  refine ems_seq x q fun vs H1 ds w1 x1 fr1 r1 q1 => ?_
  split at q1
  · rename_i hl
    have ra := Rls.ra r1
    have e : permL ks.length js [] vs = js.filterMap fun j => vs[j]? := by
      unfold permL
      rw [if_pos ⟨rfl, by rw [ra.length]; exact hl⟩]
    rw [e]
    exact callP_sp x1 (ra_perm ra js) q1 fun v d H' f k => .inl k.plain
  · exact q1.elim
theorem cKF {x : Str} {k n : Nat} {ps : List Str} {kws : List (List Str × List Nat)} {m : List D → Rq D} (ks : List Str) (js : List Nat) (c : Cal X.prog X.w X.K X.mg X.base x k ps kws (spP J.p true m)) (hr : Room n X.A) (hk : k ≤ n) (hx : Passes (L2.CX X.prog X.w) X J.E) (h : EKw J O X kwl fl) (hp : ps.length ≠ 0) (hkj : (ks, js) ∈ kws)
    (hall : (backToKw pos (keywordEach kwl X.env)).all (·.1.isSome) = true := by rfl) (hks : (backToKw pos (keywordEach kwl X.env)).filterMap (·.1) = ks := by rfl) (hg : Gl X x := by rfl) (hdb : (x == ("__debug__" : Str)) = false := by decide)
    (hpl : ((backTo pos (starEach [] X.env)).any (·.1) || (backToKw pos (keywordEach kwl X.env)).any (·.1.isNone)) = false := by rfl) :
    EF J O X (.Call (.Name x p0) [] kwl pos) (bindE fl fun ds w ρ => if ds.length = ks.length then eCall m (fun w _ => some (.ok (js.filterMap fun j => ds[j]?, w))) w ρ else none) := by
  obtain ⟨f, fd, h1, h2, _, h3, F⟩ := c.ex
  refine ⟨PE.imp (pe_callKw F (hr.mono hk) hg h1 h2 (kbinds_of hp (h3 _ hkj)) hx h.pk hall hks hdb hpl) fun σ H Q => ?_⟩
  rintro ⟨w, ρ, x, q⟩
  refine ems_seq x q fun vs H1 ds w1 x1 fr1 r1 q1 => ?_
  split at q1
  · rename_i hl
    have ra := Rls.ra r1
    have e : permL ks.length js [] vs = js.filterMap fun j => vs[j]? := by
      unfold permL
      rw [if_pos ⟨rfl, by rw [ra.length]; exact hl⟩]
    rw [e]
    refine callP_sp x1 (ra_perm ra js) q1 fun v d H' f k => ?_
    obtain ⟨a, e, n, o⟩ := k.new
    exact ⟨a, e, fr1.free n, o⟩
  · exact q1.elim
end
end DL
namespace DL
open L2 PySem PyProof.Rows PySem.Spec

/-! ### owned no more -/
section
variable {J : Jc} {O O' : List Nat} {fr : Bool} {X : Cx} {σ : L2.St} {H H' : Hp} {w : J.G.A} {ρ : Env} {f : Fe J.G.A} {pos : Pos}
theorem SR.thaw (x : SR J O σ H w ρ) (h : ∀ i, i ∈ O' → i ∈ O) : SR J O' σ H w ρ := by
  have le : Le (Fz J O σ H) (Fz J O' σ H) := hide_le fun b o n e t => ⟨e, fun z => n (z.imp_right fun ⟨i, hi, e⟩ => ⟨i, h i hi, e⟩)⟩
  refine ⟨x.fr, x.rel, x.len, fun i d hd n => ?_, fun i d hd n => ?_, fun i a hi e => x.fresh i a (h i hi) e, fun i j a hi hj => x.apart i j a (h i hi) (h j hj)⟩
  · by_cases hi : i ∈ O
    · obtain ⟨a, e, o⟩ := x.own i d hd hi
      obtain ⟨h0, u, hu, _⟩ := x.fresh i a hi e
      refine ⟨_, e, o.r le fun o ho => ?_⟩
      show hide _ _ _ = _
      rw [hide_of]
      · exact ho
      · rintro (z | ⟨j, hj, e2⟩)
        · obtain ⟨q, e'⟩ := J.hS a z
          rw [h0] at e'; cases e'
        · have := x.apart i j a hi (h j hj) e e2
          exact n (by rw [this]; exact hj)
    · obtain ⟨v, e, r⟩ := x.val i d hd hi
      exact ⟨v, e, r.mono le⟩
  · obtain ⟨a, e, o⟩ := x.own i d hd (h i n)
    exact ⟨a, e, o.mono le fun _ z => z⟩
theorem PO.thawRet {Z : Ends} {d : D} {w' : J.G.A} (h : PO J O fr Z σ H (some (.ret d w'))) : PO J O' fr Z σ H (some (.ret d w')) := h
/-- return e, where lists that were owned are values -/
theorem sm_retZ (O' : List Nat) {e : Expr} (h : EM J O' X false e f) (hf : fr = false := by rfl) (hO : O'.all (fun i => O.contains i) = true := by rfl) : SM J O fr X (.Return (some e) pos) (sRet f) := ⟨PS.imp (sm_ret (J := J) (O := O') (fr := fr) h hf).ps fun Z σ H => by
  rintro ⟨w, ρ, x, q⟩
  refine ⟨w, ρ, x.thaw fun i hi => by simpa using List.all_eq_true.mp hO i hi, ?_⟩
  unfold sRet seqE at q ⊢
  cases hf1 : f w ρ with
  | none => rw [hf1] at q; exact q
  | some r =>
    rw [hf1] at q
    cases r with
    | error y => exact q
    | ok r => exact q⟩
theorem sm_retZF (O' : List Nat) {e : Expr} (h : EF J O' X e f) (hf : fr = true := by rfl) (hO : O'.all (fun i => O.contains i) = true := by rfl) : SM J O fr X (.Return (some e) pos) (sRet f) := ⟨PS.imp (sm_retF (J := J) (O := O') (fr := fr) h hf).ps fun Z σ H => by
  rintro ⟨w, ρ, x, q⟩
  refine ⟨w, ρ, x.thaw fun i hi => by simpa using List.all_eq_true.mp hO i hi, ?_⟩
  unfold sRet seqE at q ⊢
  cases hf1 : f w ρ with
  | none => rw [hf1] at q; exact q
  | some r =>
    rw [hf1] at q
    cases r with
    | error y => exact q
    | ok r => exact q⟩
/-- xs[i] = e, xs owned -/
def sPut {A : Type} (i : Nat) (fi f : Fe A) : Fs A := fun w ρ => match ρ[i]? with
  | some (some (.lst _)) => seqE f (fun b => seqE fi fun d w ρ => match d, ρ[i]? with
    | .int n, some (some (.lst l)) => match ixN l.length n with
      | some j => some (.nx w (ρ.set i (some (.lst (l.set j b)))))
      | none => none
    | _, _ => none) w ρ
  | _ => none
theorem sm_put {i : Nat} {o e ie : Expr} {ppos : Pos} {fi : Fe J.G.A} (ho : PE X o (tVar i)) (hi : EM J O X false ie fi) (h : EM J O X false e f) (hO : O.contains i = true := by rfl)
    (hsub : ∀ {to ti : TE}, PE X o to → PE X ie ti → L2.PG X (.Subscript o ie ppos) (gSub to ti rSetL) := by exact fun h g => pg_sub h g set_list)
    (hp : ∀ {te : TE} {tg : TG}, PE X e te → L2.PG X (.Subscript o ie ppos) tg → PS X (.Assign [.Subscript o ie ppos] e pos) (tAsg te tg) := by exact fun h g => ps_asg h g) :
    SM J O fr X (.Assign [.Subscript o ie ppos] e pos) (sPut i fi f) := ⟨PS.imp (hp h.pe (hsub ho hi.pe)) fun Z σ H => by
  rintro ⟨w, ρ, x, q⟩
  have hi : i ∈ O := by simpa using hO
  unfold sPut at q
  split at q
  · rename_i l0 hd
    refine ⟨w, ρ, x, PQ.mono (PQ.stmt q) fun v H1 ⟨b, w1, f1, r1, rl, q1⟩ => ?_⟩
    have x1 := x.step f1 r1
    have q1 := PO.from q1 (x.ev f1)
    obtain ⟨a, ea, _⟩ := x1.own i _ hd hi
    refine ⟨_, ea, w1, ρ, x1, PQ.mono (PQ.stmt q1) fun u H2 ⟨d, w2, f2, r2, rl2, q2⟩ => ?_⟩
    have x2 := x1.step f2 r2
    split at q2
    · rename_i n l hl
      split at q2
      · rename_i j hj
        obtain ⟨a2, ea2, xs, el, ra⟩ := x2.own i _ hl hi
        rw [ea] at ea2
        cases ea2
        refine ⟨a, xs, n, j, rfl, rl2.plain.intv, el, by rw [ra.length]; exact hj, ?_⟩
        obtain ⟨x3, ev⟩ := x2.write hi ea (o := .lst (xs.set j v)) (d := .lst (l.set j b)) ⟨_, upd_same, RA.set (rl.plain.mono (x1.le f2)) j ra⟩
        exact q2 σ _ ((x1.ev f2).trans ev) x3
      · exact q2.elim
    · exact q2.elim
  · exact q.elim⟩
end
end DL
namespace DL
open L2 PySem PyProof.Rows PySem.Spec

/-! ### statements in short -/
section
variable {J : Jc} {O : List Nat} {fr : Bool} {X : Cx} {pk : Bool} {e a b c : Expr} {f f1 f2 f3 : Fe J.G.A} {fl : Fl J.G.A} {fx : Fx J.G.A} {g1 g2 : Fs J.G.A} {pos p0 p1 p2 : Pos}
/-- name = e -/
theorem aS (i : Nat) {x : Str} (nd : X.N.Nodup) (h : EM J O X false e f) (hi : X.N[i]? = some x := by rfl) (hx : Loc X.env.scope x := by first | exact Or.inl rfl | exact Or.inr rfl) (hO : O.contains i = false := by rfl)
    (hs : swapsWith e (some (.Name x p0)) pos.line X.env = pure false := by rfl) (hf : X.fn x = true ∨ X.env.scope.names.lookup x = some .local := by first | exact .inl rfl | exact .inr rfl) : SM J O fr X (.Assign [.Name x p0] e pos) (sAsg f (gN i)) :=
  sm_set (fun h => ps_set nd hi hx h hs hf) h hO
theorem aO (i : Nat) {x : Str} (nd : X.N.Nodup) (h : EF J O X e f) (hi : X.N[i]? = some x := by rfl) (hx : Loc X.env.scope x := by first | exact Or.inl rfl | exact Or.inr rfl) (hO : O.contains i = true := by rfl)
    (hs : swapsWith e (some (.Name x p0)) pos.line X.env = pure false := by rfl) (hf : X.fn x = true ∨ X.env.scope.names.lookup x = some .local := by first | exact .inl rfl | exact .inr rfl) : SM J O fr X (.Assign [.Name x p0] e pos) (sAsg f (gN i)) :=
  sm_setO (fun h => ps_set nd hi hx h hs hf) h hO
/-- name = xs.pop(..) -/
theorem aX (i : Nat) {x : Str} (nd : X.N.Nodup) (h : EX J O X e fx) (hi : X.N[i]? = some x := by rfl) (hx : Loc X.env.scope x := by first | exact Or.inl rfl | exact Or.inr rfl) (hO : O.contains i = false := by rfl)
    (hs : swapsWith e (some (.Name x p0)) pos.line X.env = pure false := by rfl) (hf : X.fn x = true ∨ X.env.scope.names.lookup x = some .local := by first | exact .inl rfl | exact .inr rfl)
    (hq : swapsWithSole [.Name x p0] e pos.line X.env = pure false := by rfl) (hw : swappedStores [.Name x p0] e X.env = pure none := by rfl) (h1 : (assignEach [.Name x p0] X.env).map (·.2) = [assign (.Name x p0) X.env] := by rfl) : SM J O fr X (.Assign [.Name x p0] e pos) (sAsgX fx (gN i)) :=
  sm_asgX (fun h g => ps_asg h g hq hw h1) h (gm_name (pg_name nd hi hx hf) hO)
/-- a target's name -/
theorem gN1 (i : Nat) {x : Str} (nd : X.N.Nodup) (hi : X.N[i]? = some x := by rfl) (hx : Loc X.env.scope x := by first | exact Or.inl rfl | exact Or.inr rfl) (hO : O.contains i = false := by rfl) (hf : X.fn x = true ∨ X.env.scope.names.lookup x = some .local := by first | exact .inl rfl | exact .inr rfl) :
    GM J O X (.Name x p0) [i] (gN i) := gm_name (pg_name nd hi hx hf) hO
/-- (..) = e -/
theorem aT {tg : Expr} {g : Gt} {sl : List Nat} (h : EM J O X false e f) (hg : GM J O X tg sl g) (hq : swapsWithSole [tg] e pos.line X.env = pure false := by rfl) (hw : swappedStores [tg] e X.env = pure none := by rfl) (h1 : (assignEach [tg] X.env).map (·.2) = [assign tg X.env] := by rfl) :
    SM J O fr X (.Assign [tg] e pos) (sAsg f g) := sm_asg (fun h g => ps_asg h g hq hw h1) h hg
theorem aTX {tg : Expr} {g : Gt} {sl : List Nat} (h : EX J O X e fx) (hg : GM J O X tg sl g) (hq : swapsWithSole [tg] e pos.line X.env = pure false := by rfl) (hw : swappedStores [tg] e X.env = pure none := by rfl) (h1 : (assignEach [tg] X.env).map (·.2) = [assign tg X.env] := by rfl) :
    SM J O fr X (.Assign [tg] e pos) (sAsgX fx g) := sm_asgX (fun h g => ps_asg h g hq hw h1) h hg
/-- name op= e -/
theorem aAug (i : Nat) {x : Str} (nd : X.N.Nodup) (h : EM J O X false e f) (hi : X.N[i]? = some x := by rfl) (hx : Loc X.env.scope x := by first | exact Or.inl rfl | exact Or.inr rfl) (hO : O.contains i = false := by rfl)
    (hf : X.fn x = true ∨ X.env.scope.names.lookup x = some .local := by first | exact .inl rfl | exact .inr rfl) : SM J O fr X (.AugAssign (.Name x p0) .Add e pos) (sAug i (dInt2 fun i j => .int (i + j)) f) :=
  sm_aug (fun h => ps_aug nd hi hx h (fun pins s σ H x y v u Q I rx ry q => iop_add pins s σ H x y v u _ I rx ry (by obtain ⟨i, j, h1, h2, q⟩ := q; exact ⟨i, j, h1, h2, q⟩)) hf) h hO
/-- raise X('..') -/
structure ClsR (K : PySem.W.Frag) (mg : Str → Option Value) (cls : Str → Option Addr) (x : Str) : Prop where
  ex : ∃ C, mg x = some (.ref C) ∧ cls x = some C ∧ PySem.W.excIn K C [.type "ValueError", .type "Exception", .type "BaseException", .type "object"] "ValueError.__new__" = true ∧ PySem.W.keepIn K (.ref C) = true ∧
    PySem.W.subIn K (.ref C) (.type "BaseException") = some true ∧ PySem.W.typeIn K (.ref C) = some (.type "type")
theorem rC {x m : Str} {j : Nat} (r : ClsR X.K X.mg J.p.cls x) (tk : Takes X (fun cls d _ H => J.E cls d H)) (hc : X.calm = true := by rfl) (hg : Gl X x := by rfl) (hdb : (x == ("__debug__" : Str)) = false := by decide) :
    SM J O fr X (.Raise (some (.Call (.Name x p0) [.Constant (.str m) j p1] [] p2)) none pos) (sRaise ⟨x, []⟩) := by
  obtain ⟨C, h1, h2, h3, h4, h5, h6⟩ := r.ex
  exact sm_raise hc tk (pmk_own PySem.F.excBase_ValueError h3 h1 h4 (raises_own h5 h6) hg hdb) h2
/-- written constants -/
theorem xGs {x s : Str} (hm : ∃ t, X.mg x = some (.str s t)) (hg : Gl X x := by rfl) (hd : (x == ("__debug__" : Str)) = false := by decide) : EM J O X false (.Name x p0) (eC (.str s)) := by
  obtain ⟨t, hm⟩ := hm
  exact xG (v := .str s) hm ⟨t, rfl⟩ (fun _ => .str _) hg hd
theorem xGi {x : Str} {i : Int} (hm : ∃ t, X.mg x = some (.int i t)) (hg : Gl X x := by rfl) (hd : (x == ("__debug__" : Str)) = false := by decide) : EM J O X false (.Name x p0) (eC (.int i)) := by
  obtain ⟨t, hm⟩ := hm
  exact xG (v := .int i) hm ⟨t, rfl⟩ (fun _ => .int _) hg hd
/-- a chain of two comparisons -/
theorem tChn {op op' : CmpOp} {r r' : R2} {g g' : D → D → Option D} (ho : Op2 J.p r g) (hr : OpR X (compareOp op) r) (ho' : Op2 J.p r' g') (hr' : OpR X (compareOp op') r') (h1 : EM J O X pk a f1) (h2 : EM J O X pk b f2) (h3 : EM J O X pk c f3)
    (hm : lastMarks [op, op'] [b, c] = false := by with_unfolding_all rfl) : TM J O X (.Compare a [op, op'] [b, c] pos) (eB (eChain g g' f1 f2 f3)) := tm_chain ho hr ho' hr' h1 h2 h3 hm
/-- for over a value, a range, .. -/
theorem sF {tg iter : Expr} {body : List Stmt} {sl : List Nat} {g : Gt} (hp : PassesOwn (model X.prog X.w) X.A X.env X.xe) (hi : EI J O X false tg iter fl) (hg : GM J O X tg sl g) (hb : SMs J O fr X body g1) (hc : X.calm = true := by rfl)
    (hs : ∀ x, foldedSetIterable iter X.env x = pure x := by intro _; rfl) : SM J O fr X (.For tg iter body [] pos) (sFor fl g g1) := sm_for hp hc hi hg hb hs
end
/-- * of ints, of a text and an int -/
def dMul (a b : D) : Option D := match a with
  | .str _ => dMulS a b
  | _ => dMulI a b
theorem o_mul {p : Rp} : Op2 p (fun x y H Q => (rI CMulX fun i j => .int (i * j)) x y H Q ∨ ∃ a k, x = .str a ∧ y = .int k ∧ -1000000 ≤ k ∧ k ≤ 1000000 ∧ a.length * k.toNat ≤ 16000000 ∧ Q (.str (repS a k)) H) dMul := fun F H x y d1 d2 d Q s r1 r2 h q => by
  unfold dMul at h
  split at h
  · exact .inr (o_mulS F H x y _ d2 d Q s r1 r2 h q)
  · exact .inl (o_mulI F H x y d1 d2 d Q s r1 r2 h q)
section
variable {J : Jc} {O : List Nat} {X : Cx} {pk1 pk2 : Bool} {a b : Expr} {f1 f2 : Fe J.G.A} {pos : Pos}
theorem xMulA (h1 : EM J O X pk1 a f1) (h2 : EM J O X pk2 b f2) : EM J O X false (.BinOp a .Mult b pos) (e2 dMul f1 f2) := em_op2 (fun ha hb => pe_op (op_mulX.or op_mulS) ha hb) o_mul h1 h2
end
end DL
namespace DL
open L2 PySem PyProof.Rows PySem.Spec

/-! ### the state of the draws -/
structure DW where
  great : List Int
  cells : List Int
  rest : Int
  turn : Int
def dkvs (w : DW) (g c : Addr) : List (Key × V) := [(.inr "great", .ref g), (.inr "cells", .ref c), (.inr "rest", .int w.rest), (.inr "turn", .int w.turn)]
structure DRel (a g c : Addr) (T : List (Addr × Str)) (w : DW) (H : Hp) : Prop where
  hd : H a = some (.dK (dkvs w g c))
  hg : H g = some (.lst (w.great.map V.int))
  hc : H c = some (.lst (w.cells.map V.int))
  ht : LamX.Tabs T H
  hcg : c ≠ g
theorem tabs_upd {T : List (Addr × Str)} {H : Hp} {b : Addr} {o o' : HO} (t : LamX.Tabs T H) (e : H b = some o) (wr : Wr o) : LamX.Tabs T (L2.upd H b o') := fun p hp => by
  obtain ⟨ps, h1, h2, h3⟩ := t p hp
  refine ⟨ps, by rw [upd_ne (fun z => wr.notbl ps (by rw [z, e] at h1; exact Option.some.inj h1))]; exact h1, h2, fun pos cv hc => ?_⟩
  obtain ⟨c, e1, e2⟩ := h3 pos cv hc
  refine ⟨c, e1, ?_⟩
  rw [upd_ne fun z => ?_]
  · exact e2
  · rw [z, e] at e2
    cases e2
    unfold LamX.CodeO at wr
    rcases wr with ⟨_, h⟩ | ⟨_, h⟩ <;> cases h
abbrev gD (a g c : Addr) (T : List (Addr × Str)) : GW where
  A := DW
  U := fun b => b = a ∨ b = g ∨ b = c
  tb := true
  rel := DRel a g c T
  same := fun r s => ⟨s _ _ r.hd, s _ _ r.hg, s _ _ r.hc, r.ht.ext s, r.hcg⟩
  upd := fun {w H b o o'} r e wr n => by
    have n1 : a ≠ b := fun z => n (.inl z.symm)
    have n2 : g ≠ b := fun z => n (.inr (.inl z.symm))
    have n3 : c ≠ b := fun z => n (.inr (.inr z.symm))
    exact ⟨by rw [upd_ne n1]; exact r.hd, by rw [upd_ne n2]; exact r.hg, by rw [upd_ne n3]; exact r.hc, tabs_upd r.ht e wr, r.hcg⟩
theorem gD_tab {a g c : Addr} {T : List (Addr × Str)} : TabW (gD a g c T) T where
  tb := rfl
  tabs := fun w H r => DRel.ht r
  ext := fun w H H1 r e t => ⟨e _ _ (DRel.hd r) (fun _ z => nomatch z), e _ _ (DRel.hg r) (fun _ z => nomatch z), e _ _ (DRel.hc r) (fun _ z => nomatch z), t, DRel.hcg r⟩
section
variable {a g c : Addr} {w : DW}
theorem kn {x y : Str} (h : x ≠ y) : ¬ ((Sum.inr x : Key) = Sum.inr y) := fun e => h (Sum.inr.inj e)
theorem val_great : valV (dkvs w g c) (.inr "great") = some (.ref g) := valV_pos rfl
theorem val_cells : valV (dkvs w g c) (.inr "cells") = some (.ref c) := by
  unfold dkvs
  rw [valV_neg (kn (by decide +kernel)), valV_pos rfl]
theorem val_rest : valV (dkvs w g c) (.inr "rest") = some (.int w.rest) := by
  unfold dkvs
  rw [valV_neg (kn (by decide +kernel)), valV_neg (kn (by decide +kernel)), valV_pos rfl]
theorem val_turn : valV (dkvs w g c) (.inr "turn") = some (.int w.turn) := by
  unfold dkvs
  rw [valV_neg (kn (by decide +kernel)), valV_neg (kn (by decide +kernel)), valV_neg (kn (by decide +kernel)), valV_pos rfl]
theorem put_rest {z : Int} : putK (dkvs w g c) (.inr "rest") (.int z) = dkvs { w with rest := z } g c := by
  unfold putK dkvs
  rw [if_pos (by simp)]
  simp only [List.map_cons, List.map_nil]
  rw [if_neg (kn (by decide +kernel)), if_neg (kn (by decide +kernel)), if_pos True.intro, if_neg (kn (by decide +kernel))]
theorem put_turn {z : Int} : putK (dkvs w g c) (.inr "turn") (.int z) = dkvs { w with turn := z } g c := by
  unfold putK dkvs
  rw [if_pos (by simp)]
  simp only [List.map_cons, List.map_nil]
  rw [if_neg (kn (by decide +kernel)), if_neg (kn (by decide +kernel)), if_neg (kn (by decide +kernel)), if_pos True.intro]
end
theorem dget_great {a g c : Addr} {T : List (Addr × Str)} {w : DW} {H : Hp} (r : DRel a g c T w H) : DGet H a (.str "great") (some (.ref g)) := .inl ⟨dkvs w g c, .inr "great", .inl r.hd, rfl, val_great.symm⟩
theorem dget_cells {a g c : Addr} {T : List (Addr × Str)} {w : DW} {H : Hp} (r : DRel a g c T w H) : DGet H a (.str "cells") (some (.ref c)) := .inl ⟨dkvs w g c, .inr "cells", .inl r.hd, rfl, val_cells.symm⟩
/-- the slot i holds the state -/
def stAt (ρ : Env) (i : Nat) : Bool := match ρ[i]? with
  | some (some (.tok 0)) => true
  | _ => false
def eSt (i : Nat) (get : DW → Int) : Fe DW := fun w ρ => if stAt ρ i then some (.ok (.int (get w), w)) else none
section
variable {a g c : Addr} {T : List (Addr × Str)} {p : Rp} {H0 : Hp} {S0 : Addr → Prop} {E : XK} {hS : ∀ b, S0 b → ∃ o, H0 b = some o} {hU : ∀ b, (gD a g c T).U b → S0 b} {O : List Nat} {fr : Bool} {X : Cx} {pos p0 p1 : Pos}
abbrev jD (a g c : Addr) (T : List (Addr × Str)) (p : Rp) (H0 : Hp) (S0 : Addr → Prop) (E : XK) (hS : ∀ b, S0 b → ∃ o, H0 b = some o) (hU : ∀ b, (gD a g c T).U b → S0 b) : Jc := { G := gD a g c T, p := p, H0 := H0, S0 := S0, E := E, hS := hS, hU := hU }
theorem stAt_tok {ρ : Env} {i : Nat} (h : stAt ρ i = true) : ρ[i]? = some (some (.tok 0)) := by
  unfold stAt at h
  split at h
  · assumption
  · cases h
theorem st_ref {σ : L2.St} {H : Hp} {w : DW} {ρ : Env} {i : Nat} (x : SR (jD a g c T p H0 S0 E hS hU) O σ H w ρ) (h : stAt ρ i = true) (hO : O.contains i = false) (tk : p.tk 0 = .ref a) : σ[i]? = some (some (.ref a)) := by
  obtain ⟨v, e, r⟩ := x.val i _ (stAt_tok h) (by simpa using hO)
  cases r
  rw [← tk]; exact e
theorem em_st {i : Nat} {key : Str} {j : Nat} {get : DW → Int} {o : Expr} {k : Nat} (hr : Room k X.A) (ho : PE X o (tVar i)) (tk : p.tk 0 = .ref a) (hv : ∀ w, valV (dkvs w g c) (.inr key) = some (.int (get w))) (hO : O.contains i = false := by rfl) (hs : NoSl (.Constant (.str key) j p1) := by exact fun _ _ => rfl) :
    EM (jD a g c T p H0 S0 E hS hU) O X false (.Subscript o (.Constant (.str key) j p1) pos) (eSt i get) := ⟨PE.imp (pe_dget (hu_of hr) ho pe_str hs) fun σ H Q => by
  rintro ⟨w, ρ, x, q⟩
  unfold eSt at q
  split at q
  · rename_i hst
    refine ⟨_, st_ref x hst hO tk, a, .int (get w), rfl, ?_, ?_⟩
    · have := DGet.k (k := .inr key) (DRel.hd x.rel)
      rw [hv w] at this
      exact this
    · exact q.ok (GW.fr_refl _ _) x.rel (.inl (.int _))
  · exact q.elim⟩
/-- state[key] = e -/
def sSt (i : Nat) (put : DW → Int → DW) (f : Fe DW) : Fs DW := seqE f fun d w ρ => match d with
  | .int z => if stAt ρ i then some (.nx (put w z) ρ) else none
  | _ => none
theorem SR.world {J : Jc} {O : List Nat} {σ : L2.St} {H H' : Hp} {w w' : J.G.A} {ρ : Env} (x : SR J O σ H w ρ) (f : J.G.fr H H') (r : J.G.rel w' H') : SR J O σ H' w' ρ ∧ Ev J O σ H σ H' := ⟨x.step f r, x.ev f⟩
theorem gD_put {H : Hp} {w w' : DW} (r : DRel a g c T w H) (hw : w'.great = w.great ∧ w'.cells = w.cells) : (gD a g c T).fr H (upd H a (.dK (dkvs w' g c))) ∧ DRel a g c T w' (upd H a (.dK (dkvs w' g c))) := by
  have n1 : g ≠ a := fun z => by have := r.hg; rw [z, r.hd] at this; cases this
  have n2 : c ≠ a := fun z => by have := r.hc; rw [z, r.hd] at this; cases this
  refine ⟨⟨fun b o e n _ => by rw [upd_ne (fun z => n (.inl z))]; exact e, fun b o e => ?_⟩, ⟨upd_same, by rw [upd_ne n1, hw.1]; exact r.hg, by rw [upd_ne n2, hw.2]; exact r.hc, tabs_upd r.ht r.hd (.inr ⟨_, rfl⟩), r.hcg⟩⟩
  by_cases z : b = a
  · subst z; exact ⟨_, upd_same⟩
  · exact ⟨o, by rw [upd_ne z]; exact e⟩
theorem sm_st {i : Nat} {key : Str} {j k : Nat} {put : DW → Int → DW} {o e : Expr} {f : Fe DW} {ppos : Pos} (hr : Room k X.A) (ho : PE X o (tVar i)) (tk : p.tk 0 = .ref a) (h : EM (jD a g c T p H0 S0 E hS hU) O X false e f)
    (hv : ∀ w z, putK (dkvs w g c) (.inr key) (.int z) = dkvs (put w z) g c) (hk : ∀ w z, (put w z).great = w.great ∧ (put w z).cells = w.cells) (hO : O.contains i = false := by rfl) (hs : swapsWith e (some (.Subscript o (.Constant (.str key) j p1) ppos)) pos.line X.env = pure false := by rfl) :
    SM (jD a g c T p H0 S0 E hS hU) O fr X (.Assign [.Subscript o (.Constant (.str key) j p1) ppos] e pos) (sSt i put f) := ⟨PS.imp (ps_dput (hu_of hr) ho pe_str h.pe hs) fun Z σ H => by
  rintro ⟨w, ρ, x, q⟩
  refine ⟨w, ρ, x, PQ.mono (PQ.stmt q) fun v H1 ⟨d, w1, f1, r1, rl, q1⟩ => ?_⟩
  have x1 := x.step f1 r1
  replace q1 := PO.from q1 (x.ev f1)
  cases d <;> first | exact q1.elim | skip
  rename_i z
  dsimp only at q1
  split at q1
  · rename_i hst
    have r1 : DRel a g c T w1 H1 := r1
    obtain ⟨fr2, r2⟩ := gD_put r1 (hk w1 z)
    have hd := DPut.k (kvs := dkvs w1 g c) (k := .inr key) (v := V.int z) r1.hd (by show 4 < sizeLine; decide)
    rw [show putK (dkvs w1 g c) (Sum.inr key) (V.int z) = dkvs (put w1 z) g c from hv w1 z] at hd
    refine ⟨_, st_ref x1 hst hO tk, a, upd H1 a (.dK (dkvs (put w1 z) g c)), rfl, ?_, ?_⟩
    · rw [rl.plain.intv]
      exact hd
    · exact q1 σ _ (x1.ev fr2) (x1.step fr2 r2)
  · exact q1.elim⟩
/-- state['great'] != [] -/
def eGreat (i : Nat) : Fe DW := fun w ρ => if stAt ρ i then some (.ok (.bl (!w.great.isEmpty), w)) else none
/-- state['great'].pop(0) -/
def ePop0 (i : Nat) : Fe DW := fun w ρ => if stAt ρ i then match w.great with
  | z :: zs => some (.ok (.int z, { w with great := zs }))
  | [] => none
  else none
/-- for cell in state['cells'] -/
def forCel {A : Type} (inv : A → Bool) (g : Gt) (b : Fs A) : List D → Fs A
  | [], w, ρ => if inv w then some (.nx w ρ) else none
  | d :: ds, w, ρ => if inv w then match g d ρ with
    | none => none
    | some ρ1 => match b w ρ1 with
      | some (.nx w' ρ') => forCel inv g b ds w' ρ'
      | some (.ct w' ρ') => forCel inv g b ds w' ρ'
      | some (.brk w' ρ') => some (.nx w' ρ')
      | r => r
    else none
theorem em_great {i k : Nat} {o : Expr} {j : Nat} {p2 : Pos} (hr : Room k X.A) (ho : PE X o (tVar i)) (tk : p.tk 0 = .ref a) (hO : O.contains i = false := by rfl) (hK : X.K = p.K := by rfl) (hs : NoSl (.Constant (.str "great") j p1) := by exact fun _ _ => rfl) :
    TM (jD a g c T p H0 S0 E hS hU) O X (.Compare (.Subscript o (.Constant (.str "great") j p1) p0) [.NotEq] [.List [] p2] pos) (eB (eGreat i)) := ⟨PT.imp (pt_cmpR (op_neA hr) (pe_dget (hu_of hr) ho pe_str hs) (pe_lst pa_nil) (nomark _)) fun σ H Q => by
  rintro ⟨w, ρ, x, q⟩
  unfold eB bindE eGreat at q
  by_cases hst : stAt ρ i = true
  · rw [if_pos hst] at q
    refine ⟨_, st_ref x hst hO tk, a, .ref g, rfl, ?_, ?_⟩
    · exact dget_great x.rel
    · refine ⟨by show 0 ≤ sizeLine; decide, fun t ht => ?_⟩
      have s := same_new (o := .lst []) ht
      have hg : upd H t (.lst []) g = some (.lst (w.great.map V.int)) := s _ _ (DRel.hg x.rel)
      have hn : ∀ l : List Int, DpAll X.K (upd H t (.lst [])) (l.map V.int) (toPys (l.map D.int)) := fun l => by
        induction l with
        | nil => simp only [List.map_nil, toPys]; exact .nil
        | cons z zs ih => simp only [List.map_cons, toPys, toPy]; exact .cons (.int z) ih
      have hsh : ∀ l : List Int, shDs 59 (l.map D.int) = true := fun l => by
        induction l with
        | nil => rfl
        | cons z zs ih => simp only [List.map_cons, shDs, Bool.and_eq_true]; exact ⟨by simp [shD], ih⟩
      refine .inr ⟨.list (toPys (w.great.map D.int)), .list [], .lst (.inl (.inl hg)) (hn _), .lst (.inl (.inl upd_same)) .nil, ?_, ?_, ?_⟩
      · have := shaped_of (d := .lst (w.great.map D.int)) (by simp only [shD]; exact hsh _)
        simpa only [toPy] using this
      · have := shaped_of (d := .lst []) (by simp [shD, shDs])
        simpa only [toPy, toPys] using this
      · have e : (!PyData.eqv (.list (toPys (w.great.map D.int))) (.list [])) = !w.great.isEmpty := by
          cases w.great with
          | nil => simp [toPys, PyData.eqv, PyData.eqvAll]
          | cons z zs => simp [toPys, PyData.eqv, PyData.eqvAll]
        rw [e]
        exact ⟨_, rfl, PQ.ok (rel := fun (b : Bool) (d : D) _ => d = .bl b) q (GW.fr_same s) ((gD a g c T).same x.rel s) rfl⟩
  · rw [if_neg hst] at q
    exact q.elim⟩
theorem em_pop0 {i k : Nat} {o : Expr} {j j2 : Nat} {p2 p3 : Pos} (hr : Room k X.A) (ho : PE X o (tVar i)) (tk : p.tk 0 = .ref a) (hO : O.contains i = false := by rfl) (hs : NoSl (.Constant (.str "great") j p1) := by exact fun _ _ => rfl)
    (he : ∀ {to : TE}, PE X (.Subscript o (.Constant (.str "great") j p1) p0) to → PE X (.Call (.Attribute (.Subscript o (.Constant (.str "great") j p1) p0) "pop" p2) [.Constant (.int 0) j2 p3] [] pos) (tBM X.K "list" rPopAt to (tCons (tC (.int 0)) tNil))) :
    EM (jD a g c T p H0 S0 E hS hU) O X false (.Call (.Attribute (.Subscript o (.Constant (.str "great") j p1) p0) "pop" p2) [.Constant (.int 0) j2 p3] [] pos) (ePop0 i) := ⟨PE.imp (he (pe_dget (hu_of hr) ho pe_str hs)) fun σ H Q => by
  rintro ⟨w, ρ, x, q⟩
  unfold ePop0 at q
  split at q
  · rename_i hst
    split at q
    · rename_i z zs hz
      have hg : H g = some (.lst (w.great.map V.int)) := DRel.hg x.rel
      refine ⟨_, st_ref x hst hO tk, a, .ref g, rfl, ?_, .inl ⟨rfl, _, .inl (.inl hg)⟩, ?_⟩
      · exact dget_great x.rel
      · rw [hz] at hg
        refine ⟨g, _, 0, 0, .int z, rfl, rfl, hg, by decide, by decide, ?_, rfl, ?_⟩
        · unfold seqIndex?
          simp
        · have r := x.rel
          have r : DRel a g c T w H := r
          have n1 : a ≠ g := fun e => by have := r.hd; rw [e, r.hg] at this; cases this
          have f2 : (gD a g c T).fr H (upd H g (.lst ((List.map V.int (z :: zs)).eraseIdx 0))) := by
            refine ⟨fun b o e n _ => by rw [upd_ne (fun z => n (.inr (.inl z)))]; exact e, fun b o e => ?_⟩
            by_cases z : b = g
            · subst z; exact ⟨_, upd_same⟩
            · exact ⟨o, by rw [upd_ne z]; exact e⟩
          refine PQ.ok (J := jD a g c T p H0 S0 E hS hU) (rel := Rl (jD a g c T p H0 S0 E hS hU) O σ ρ false) q f2 ?_ (.inl (.int _))
          exact ⟨by rw [upd_ne n1]; exact r.hd, upd_same, by rw [upd_ne r.hcg]; exact r.hc, tabs_upd r.ht r.hg (.inl ⟨_, rfl⟩), r.hcg⟩
    · exact q.elim
  · exact q.elim⟩
theorem forCel_nil {A : Type} (inv : A → Bool) (g : Gt) (b : Fs A) (w : A) (ρ : Env) : forCel inv g b [] w ρ = if inv w then some (.nx w ρ) else none := rfl
theorem forCel_cons {A : Type} (inv : A → Bool) (g : Gt) (b : Fs A) (d : D) (ds : List D) (w : A) (ρ : Env) : forCel inv g b (d :: ds) w ρ = if inv w then match g d ρ with
    | none => none
    | some ρ1 => match b w ρ1 with
      | some (.nx w' ρ') => forCel inv g b ds w' ρ'
      | some (.ct w' ρ') => forCel inv g b ds w' ρ'
      | some (.brk w' ρ') => some (.nx w' ρ')
      | r => r
    else none := rfl
/-- for x in state['cells'] -/
def sForC (i : Nat) (g : Gt) (b : Fs DW) : Fs DW := fun w ρ => if stAt ρ i then forCel (fun w' => decide (w'.cells = w.cells)) g b (w.cells.map D.int) w ρ else none
theorem ra_cells {F : Hp} (l : List Int) : RA p F (l.map V.int) (l.map D.int) := ra_ints l
theorem sm_forC {i j k : Nat} {o tg : Expr} {body : List Stmt} {sl : List Nat} {gt : Gt} {b : Fs DW} (hr : Room k X.A) (hp : PassesOwn (model X.prog X.w) X.A X.env X.xe) (ho : PE X o (tVar i)) (tk : p.tk 0 = .ref a)
    (hg : GM (jD a g c T p H0 S0 E hS hU) O X tg sl gt) (hb : SMs (jD a g c T p H0 S0 E hS hU) O fr X body b) (hO : O.contains i = false := by rfl) (hc : X.calm = true := by rfl) (hn : NoSl (.Constant (.str "cells") j p1) := by exact fun _ _ => rfl)
    (hs : ∀ x, foldedSetIterable (.Subscript o (.Constant (.str "cells") j p1) p0) X.env x = pure x := by intro _; rfl) : SM (jD a g c T p H0 S0 E hS hU) O fr X (.For tg (.Subscript o (.Constant (.str "cells") j p1) p0) body [] pos) (sForC i gt b) := ⟨PS.imp (ps_for hp hc (pi_list (pe_dget (hu_of hr) ho pe_str hn)) hg.pg hb.ps hs) fun Z σ H => by
  rintro ⟨w, ρ, x, q⟩
  unfold sForC at q
  split at q
  · rename_i hst
    refine ⟨_, st_ref x hst hO tk, a, .ref c, rfl, dget_cells x.rel, c, rfl, ⟨_, .inl (.inl (DRel.hc x.rel))⟩, ?_⟩
    have len : (w.cells.map D.int).length = w.cells.length := by simp
    refine ⟨fun i m σ' H' => m = w.cells.length - i ∧ i ≤ w.cells.length ∧ Ev (jD a g c T p H0 S0 E hS hU) O σ H σ' H' ∧ ∃ (w' : DW) (ρ' : Env), SR (jD a g c T p H0 S0 E hS hU) O σ' H' w' ρ' ∧ PO (jD a g c T p H0 S0 E hS hU) O fr Z σ' H' (forCel (fun w' => decide (w'.cells = w.cells)) gt b ((w.cells.map D.int).drop i) w' ρ'), ⟨_, rfl, Nat.zero_le _, .refl, w, ρ, x, by rw [List.drop_zero]; exact q⟩, ?_⟩
    rintro i m σ' H' ⟨rfl, hl, ev, w', ρ', x', q'⟩
    have inv : w'.cells = w.cells := by
      cases e : (w.cells.map D.int).drop i with
      | nil =>
        rw [e, forCel_nil] at q'
        split at q'
        · rename_i z; exact of_decide_eq_true z
        · exact q'.elim
      | cons d ds =>
        rw [e, forCel_cons] at q'
        split at q'
        · rename_i z; exact of_decide_eq_true z
        · exact q'.elim
    have hcl : H' c = some (.lst (w.cells.map V.int)) := by rw [← inv]; exact DRel.hc x'.rel
    by_cases lt : i < w.cells.length
    · have hx : (w.cells.map V.int)[i]? = some (.int w.cells[i]) := by rw [List.getElem?_map, List.getElem?_eq_getElem lt]; rfl
      refine .inr ⟨⟨_, _, .inl (.inl hcl), hx⟩, fun σ2 H2 => Ev (jD a g c T p H0 S0 E hS hU) O σ H σ2 H2 ∧ ∃ (w' : DW) (ρ' : Env), SR (jD a g c T p H0 S0 E hS hU) O σ2 H2 w' ρ' ∧ PO (jD a g c T p H0 S0 E hS hU) O fr Z σ2 H2 (forCel (fun w' => decide (w'.cells = w.cells)) gt b ((w.cells.map D.int).drop (i + 1)) w' ρ'), fun σ2 H2 ⟨e2, n2⟩ => ⟨_, by omega, rfl, lt, e2, n2⟩, fun y H2 hy => ?_⟩
      obtain ⟨rfl, hy⟩ := hy
      have ey := hy _ (.inl (.inl hcl))
      rw [hx] at ey
      cases ey
      have ed : (w.cells.map D.int).drop i = .int w.cells[i] :: (w.cells.map D.int).drop (i + 1) := by
        rw [List.drop_eq_getElem_cons (by simpa using lt)]
        simp
      rw [ed, forCel_cons, if_pos (decide_eq_true inv)] at q'
      cases hgt : gt (.int w.cells[i]) ρ' with
      | none => rw [hgt] at q'; exact q'.elim
      | some ρ1 =>
        rw [hgt] at q'
        refine ⟨_, w', ρ', x', .int _, ρ1, hgt, fun σ3 ev3 _ x3 => ⟨w', ρ1, x3, ?_⟩⟩
        have e03 := ev.trans ev3
        dsimp only at q'
        cases hb : b w' ρ1 with
        | none => rw [hb] at q'; exact q'
        | some r =>
          rw [hb] at q'
          cases r with
          | nx w4 ρ4 => exact fun σ4 H4 ev4 x4 => ⟨e03.trans ev4, w4, ρ4, x4, PO.from q' (ev3.trans ev4)⟩
          | ct w4 ρ4 => exact fun σ4 H4 ev4 x4 => ⟨e03.trans ev4, w4, ρ4, x4, PO.from q' (ev3.trans ev4)⟩
          | brk w4 ρ4 => exact fun σ4 H4 ev4 x4 => q' σ4 H4 (ev3.trans ev4) x4
          | ret d4 w4 => exact q'
          | exc y => exact q'
    · have e : i = w.cells.length := by omega
      refine .inl ⟨⟨_, .inl (.inl hcl), by simp; omega⟩, ?_⟩
      rw [List.drop_eq_nil_of_le (by simp; omega)] at q'
      rw [forCel_nil, if_pos (decide_eq_true inv)] at q'
      exact q' σ' H' .refl x'
  · exact q.elim⟩
end
end DL
namespace DL
open L2 PySem PyProof.Rows PySem.Spec

section
variable {X : Cx} {a b c : Expr} {pos : Pos} {ta tb tc : TT}
theorem pt_ifT (hc : PT X c tc) (ha : PT X a ta) (hb : PT X b tb) : PT X (.IfExp c a b pos) (fun σ H Q => tc σ H fun k H1 => if k = true then ta σ H1 Q else tb σ H1 Q) := by
  refine ⟨fun pins s σ H Q I h => ?_⟩
  have e : isTrue (.IfExp c a b pos) X.env (eval (.IfExp c a b pos) X.env) = (do if ← isTrue c X.env (eval c X.env) then isTrue a X.env (eval a X.env) else isTrue b X.env (eval b X.env)) := by
    first | rfl | (unfold isTrue; rfl) | simp only [isTrue]
  rw [e]
  refine wpAny_bind (thn (hc.run pins s σ H _ I h) fun k s1 ⟨H1, I1, q1⟩ => ?_)
  cases k with
  | true => exact ha.run pins s1 σ H1 Q I1 (by simpa using q1)
  | false => exact hb.run pins s1 σ H1 Q I1 (by simpa using q1)
end
section
variable {J : Jc} {O : List Nat} {fr : Bool} {X : Cx} {a b c e : Expr} {f f1 f2 f3 : Fe J.G.A} {pos p0 : Pos}
theorem tm_if (hc : TM J O X c f) (h1 : TM J O X a f1) (h2 : TM J O X b f2) : TM J O X (.IfExp c a b pos) (eIf f f1 f2) := ⟨PT.imp (pt_ifT hc.pt h1.pt h2.pt) fun σ H Q => by
  rintro ⟨w, ρ, x, q⟩
  refine tm_seq x q fun k H1 w1 x1 f1 q1 => ?_
  cases k
  · rw [if_neg (by simp)]; exact ⟨w1, ρ, x1, q1⟩
  · rw [if_pos rfl]; exact ⟨w1, ρ, x1, q1⟩⟩
theorem em_dict0 : EM J O X false (.Dict [] [] pos) (eC (.dct [])) := ⟨PE.imp pe_dnewK fun σ H Q => by
  rintro ⟨w, ρ, x, q⟩
  intro t ht
  have s := same_new (o := .dK []) ht
  exact PQ.ok (rel := Rl J O σ ρ false) q (GW.fr_same s) (J.G.same x.rel s) (.inl (.dct (x.at_new ht) .nil))⟩
end
/-! x = f(.., x, ..), x owned: what x held is let go -/
section
variable {J : Jc} {O O' : List Nat} {fr : Bool} {X : Cx} {σ : L2.St} {H H' : Hp} {w w' : J.G.A} {ρ : Env} {f : Fe J.G.A} {pos p0 : Pos} {a : Addr} {i : Nat} {d : D}
theorem SR.storeN (x : SR J O' σ H w ρ) (f : J.G.fr H H') (r : J.G.rel w' H') (hi : i ∉ O') (n : H a = none) (o : OwnIs J.p (minus (Fz J O' σ H') a) H' a d) (hO : ∀ j, j ∈ O ↔ j = i ∨ j ∈ O') :
    SR J O (σ.set i (some (.ref a))) H' w' (ρ.set i (some d)) ∧ ∀ b, SS J O (σ.set i (some (.ref a))) b → SS J O' σ b ∨ b = a := by
  have ss : ∀ b, SS J O (σ.set i (some (.ref a))) b → SS J O' σ b ∨ b = a := by
    rintro b (z | ⟨j, hj, e⟩)
    · exact .inl (.inl z)
    · by_cases z : i = j
      · subst z
        by_cases lt : i < σ.length
        · rw [List.getElem?_set_self lt] at e; cases e; exact .inr rfl
        · rw [List.getElem?_eq_none (by simpa using lt)] at e; cases e
      · rw [List.getElem?_set_ne z] at e
        exact .inl (.inr ⟨j, ((hO j).mp hj).resolve_left fun q => z q.symm, e⟩)
  have na : H a = none := n
  have le : Le (Fz J O' σ H) (Fz J O (σ.set i (some (.ref a))) H') := hide_le fun b o n e t => ⟨f.keep b o e (x.noU n) fun _ => t, fun z => (ss b z).elim n fun z => by rw [z, na] at e; cases e⟩
  have le2 : Le (minus (Fz J O' σ H') a) (Fz J O (σ.set i (some (.ref a))) H') := fun b u e t => by
    unfold minus at e
    split at e
    · cases e
    · rename_i nb
      obtain ⟨nz, e⟩ := of_hide e
      show hide _ _ _ = _
      rw [hide_of fun z => (ss b z).elim nz nb]
      exact e
  have lt_of : ∀ {j : Nat} {y : V}, (σ.set i (some (.ref a)))[j]? = some (some y) → j < σ.length := fun e => by
    have := (List.getElem?_eq_some_iff.mp e).1
    simpa using this
  have noOld : ∀ {j : Nat}, j ∈ O' → σ[j]? = some (some (.ref a)) → False := fun hj e => by
    obtain ⟨_, u, e2, _⟩ := x.fresh _ a hj e
    rw [n] at e2; cases e2
  refine ⟨⟨GW.fr_trans x.fr f, r, by simpa using x.len, fun j d' h nj => ?_, fun j d' h nj => ?_, fun j b hj h => ?_, fun j k b hj hk h1 h2 => ?_⟩, ss⟩
  · have z : i ≠ j := fun z => nj ((hO j).mpr (.inl z.symm))
    rw [List.getElem?_set_ne z] at h ⊢
    obtain ⟨v, e, rv⟩ := x.val j d' h fun q => nj ((hO j).mpr (.inr q))
    exact ⟨v, e, rv.mono le⟩
  · by_cases z : i = j
    · subst z
      by_cases lt : i < ρ.length
      · rw [List.getElem?_set_self lt] at h
        cases h
        exact ⟨a, List.getElem?_set_self (by rw [← x.len]; exact lt), o.mono le2 fun _ z => z⟩
      · rw [List.getElem?_eq_none (by simpa using lt)] at h; cases h
    · have nj := ((hO j).mp nj).resolve_left fun q => z q.symm
      rw [List.getElem?_set_ne z] at h ⊢
      obtain ⟨b, e, ob⟩ := x.own j d' h nj
      exact ⟨b, e, ob.mono le fun u hu => x.ownKept f nj e hu⟩
  · by_cases z : i = j
    · subst z
      rw [List.getElem?_set_self (lt_of h)] at h
      cases h
      obtain ⟨u, hu, wr⟩ := o.wr
      exact ⟨x.fr.free n, u, hu, wr⟩
    · have hj := ((hO j).mp hj).resolve_left fun q => z q.symm
      rw [List.getElem?_set_ne z] at h
      obtain ⟨h0, u, hu, wr⟩ := x.fresh j b hj h
      exact ⟨h0, u, x.ownKept f hj h hu, wr⟩
  · by_cases z1 : i = j
    · by_cases z2 : i = k
      · exact z1.symm.trans z2
      · subst z1
        rw [List.getElem?_set_self (lt_of h1)] at h1
        cases h1
        rw [List.getElem?_set_ne z2] at h2
        exact (noOld (((hO k).mp hk).resolve_left fun q => z2 q.symm) h2).elim
    · by_cases z2 : i = k
      · subst z2
        rw [List.getElem?_set_self (lt_of h2)] at h2
        cases h2
        rw [List.getElem?_set_ne z1] at h1
        exact (noOld (((hO j).mp hj).resolve_left fun q => z1 q.symm) h1).elim
      · rw [List.getElem?_set_ne z1] at h1
        rw [List.getElem?_set_ne z2] at h2
        exact x.apart j k b (((hO j).mp hj).resolve_left fun q => z1 q.symm) (((hO k).mp hk).resolve_left fun q => z2 q.symm) h1 h2
theorem aON (i : Nat) (O' : List Nat) {x : Str} {e : Expr} (nd : X.N.Nodup) (h : EF J O' X e f) (hi : X.N[i]? = some x := by rfl) (hx : Loc X.env.scope x := by first | exact Or.inl rfl | exact Or.inr rfl) (hni : O'.contains i = false := by rfl) (hO : ∀ j, j ∈ O ↔ j = i ∨ j ∈ O' := by intro j; simp)
    (hs : swapsWith e (some (.Name x p0)) pos.line X.env = pure false := by rfl) (hf : X.fn x = true ∨ X.env.scope.names.lookup x = some .local := by first | exact .inl rfl | exact .inr rfl) : SM J O fr X (.Assign [.Name x p0] e pos) (sAsg f (gN i)) := ⟨PS.imp (ps_set nd hi hx h.pe hs hf) fun Z σ H => by
  rintro ⟨w, ρ, x, q⟩
  have x0 : SR J O' σ H w ρ := x.thaw fun j hj => (hO j).mpr (.inr hj)
  refine ⟨w, ρ, x0, PQ.mono (PQ.stmt q) fun v H1 ⟨d, w1, f1, r1, rl, q1⟩ => ?_⟩
  obtain ⟨a, e, n, o⟩ : RelF J O' σ H v d H1 := rl
  subst e
  obtain ⟨x2, ss⟩ := x0.storeN (O := O) f1 r1 (by simpa using hni) n o hO
  refine q1 _ H1 ⟨fun b u e nb t => ⟨f1.keep b u e (x.noU nb) fun _ => t, fun z => (ss b z).elim (fun z => nb (z.imp_right fun ⟨j, hj, e⟩ => ⟨j, (hO j).mpr (.inr hj), e⟩)) fun z => by rw [z, n] at e; cases e⟩, by simp⟩ x2⟩
end

/-! a def whose code object is told -/
structure FunC (K : PySem.W.Frag) (x qual : Str) (st : Stmt) (f : Addr) (fd : FuncData) (c : Addr) : Prop where
  ex : ∃ (oc : Value) (od : Option Addr) (kV doc pm : Value) (an : Option Addr) (ct : Value) (osl : Array (Option Value)),
    fd = PySem.W.fnOf x qual (defArgs st) (defBody st) (defScope st) .none kV doc pm an (.ref c) ct ∧ K.lookup f = some ⟨oc, od, .func fd, osl⟩ ∧ PySem.W.codeIn K (.ref c) qual = true
section
variable {P : Program} {w0 : World} {K : PySem.W.Frag} {mg : Str → Option Value} {base : Heap}
theorem fn_okC {cd : Addr} {x qual : Str} {st : Stmt} {f : Addr} {fd : FuncData} {N ps : List Str} {k : Nat} {G : GW} {p : Rp} {fr : Bool} {O : List Nat} {b : Fs G.A} (F : FunC K x qual st f fd cd) (S : FnScope N ps (defScope st))
    (hO : O.all (fun i => decide (ps.length ≤ i)) = true)
    (hb : ∀ (A : Around) (outer : List PySem.Env) (s : Shared) (H : Hp) (E : XK) (S0 : Addr → Prop) (hS : ∀ b, S0 b → ∃ o, H b = some o) (hU : ∀ b, G.U b → S0 b), Room k (A.deeper (envOfC qual (defScope st) s.heap.objs.size f (.ref cd))) →
      SMs ⟨G, p, H, S0, E, hS, hU⟩ O fr (cxB P w0 K mg base N qual st f (.ref cd) A outer s H E) (defBody st) b) :
    FnOk P w0 K mg base (L2.CX P w0) (k + 1) f fd ps (spM G p fr (runB fr N.length ps.length b)) := by
  have np := congrArg List.length S.pre
  rw [List.length_take] at np
  obtain ⟨oc, od, kV, doc, pm, an, ct, osl, rfl, lk, hcd⟩ := F.ex
  refine fn_of lk hcd S (fun vs H Q E h => ?_) fun A outer s H vs Q E hr h => ?_
  · obtain ⟨S0, ds, w, _, _, _, ra, q⟩ := h
    unfold runB at q
    by_cases e : ds.length = ps.length
    · rw [ra.length, e]
    · rw [if_neg e] at q
      exact q.elim
  · obtain ⟨S0, ds, w, hS, hU, rel, ra, q⟩ := h
    refine ⟨_, (hb A outer s H E S0 hS hU hr).ps, w, ds.map some ++ List.replicate (N.length - ps.length) none, ?_, ?_⟩
    · unfold runB at q
      by_cases e : ds.length = ps.length
      · have el : vs.length = ps.length := by rw [ra.length, e]
        have noO : ∀ i, i ∈ O → ∀ v, (L2.start N vs)[i]? ≠ some (some v) := fun i hi v z => by
          have := of_decide_eq_true (List.all_eq_true.mp hO i hi)
          unfold L2.start at z
          rw [List.getElem?_append_right (by simpa [el] using this), List.getElem?_replicate] at z
          split at z <;> cases z
        have eF : Fz ⟨G, p, H, S0, E, hS, hU⟩ O (L2.start N vs) H = hide S0 H := hide_congr fun b => ⟨fun z => z.elim (fun z => z) fun ⟨i, hi, z⟩ => (noO i hi _ z).elim, .inl⟩
        refine ⟨GW.fr_refl _ _, rel, ?_, fun i d h n => ?_, fun i d h n => ?_, fun i a hi h => (noO i hi _ h).elim, fun i j a hi hj h => (noO i hi _ h).elim⟩
        · rw [start_len S el, List.length_append, List.length_map, List.length_replicate]
          omega
        · rw [eF]
          by_cases lt : i < ds.length
          · rw [List.getElem?_append_left (by simpa using lt), List.getElem?_map] at h
            obtain ⟨d', e1, e2⟩ := Option.map_eq_some_iff.mp h
            cases e2
            obtain ⟨v, e3, r⟩ := ra.getD e1
            refine ⟨v, ?_, r⟩
            unfold L2.start
            rw [List.getElem?_append_left (by rw [List.length_map, ra.length]; exact lt), List.getElem?_map, e3]
            rfl
          · rw [List.getElem?_append_right (by simpa using lt), List.getElem?_replicate] at h
            split at h <;> cases h
        · exfalso
          have := of_decide_eq_true (List.all_eq_true.mp hO i n)
          rw [List.getElem?_append_right (by simp [e]; exact this), List.getElem?_replicate] at h
          split at h <;> cases h
      · rw [if_neg e] at q
        exact q.elim
    · unfold runB at q
      by_cases e : ds.length = ps.length
      · rw [if_pos e] at q
        unfold PO
        cases hb1 : b w (ds.map some ++ List.replicate (N.length - ps.length) none) with
        | none => rw [hb1] at q; exact q
        | some r =>
          rw [hb1] at q
          cases r with
          | ret d w' => exact fun v H' f r k => q v H' f r k
          | nx w' ρ' =>
            dsimp only at q
            intro σ' H' ev x'
            cases fr with
            | true => rw [if_pos rfl] at q; exact q.elim
            | false =>
              rw [if_neg (by simp)] at q
              refine q .non H' x'.fr x'.rel ?_
              unfold RetR
              rw [if_neg (by simp)]
              exact .non
          | brk w' ρ' => exact q.elim
          | ct w' ρ' => exact q.elim
          | exc y => exact fun cls dd H' f r k => q cls dd H' f r k
      · rw [if_neg e] at q
        exact q.elim
end
/-- _law_caught as its callers see it -/
structure CaughtK (K : PySem.W.Frag) (mg : Str → Option Value) (cls : Str → Option Addr) : Prop where
  ex : ∃ (g : Addr) (st : Stmt) (fd : FuncData) (p1 p2 p3 p4 p5 p6 p7 p8 p9 p10 p11 p12 p13 p14 : Pos) (CS : Addr), mg "_law_caught" = some (.ref g) ∧ Fun K "_law_caught" "_law_caught" st g fd ∧
    defBody st = caughtBody p1 p2 p3 p4 p5 p6 p7 p8 p9 p10 p11 p12 p13 p14 ∧ defScope st = caughtScope ∧ (∀ us : List Value, us.length = 1 → bindArgs fd ⟨us, []⟩ = pure ((["action"] : List Str).zip us)) ∧
    mg "TellError" = some (.ref CS) ∧ ∀ n C, cls n = some C → PySem.W.exmOne K (.ref C) (.ref CS) = some true
/-- the defs in which lambdas stand: code object, table, the lambdas' full name -/
structure LamK (base : Heap) (mg : Str → Option Value) (T : List (Addr × Str)) (c P : Addr) (q : Str) : Prop where
  tb : LamX.TabB base mg c P
  mem : (P, q) ∈ T
  uni : ∀ p ∈ T, p.1 = P → p.2 = q
theorem lamArgs_ok {params : Arguments} {body : Expr} {scope : Scope} (h : params = { posonlyargs := [], args := [], vararg := none, kwonlyargs := [], kw_defaults := [], kwarg := none, defaults := [] }) :
    ∀ (q : Str) (cl : List (Str × Addr)) (pm cv ctv : Value), bindArgs (PySem.W.kla_fn "<lambda>" q params body scope cl pm cv ctv) ⟨[], []⟩ = pure [] := by
  subst h
  intro q cl pm cv ctv
  rfl
theorem cCaught {J : Jc} {O : List Nat} {X : Cx} {T : List (Addr × Str)} {c P : Addr} {k n : Nat} {params : Arguments} {body : Expr} {scope : Scope} {p lpos pos : Pos} {f : Fe J.G.A} (hT : TabW J.G T) (C : CaughtK X.K X.mg J.p.cls) (L : LamK X.base X.mg T c P (X.env.qual ++ "<lambda>")) (hcode : X.env.code = .ref c)
    (hr : Room n X.A) (hk : k + 2 ≤ n) (sc : Scope) (ls : LamX.lamSB sc scope = true)
    (hf : ∀ (A : Around) (outer : List PySem.Env) (s : Shared) (H : Hp) (E : XK) (f' c' : Addr) H0 S0 hS hU, Room k (A.deeper (LamX.lamEnv X scope s.heap.objs.size f' c')) → EM { G := J.G, p := J.p, H0 := H0, S0 := S0, E := E, hS := hS, hU := hU } [] (LamX.lamCx X A outer s H E scope f' c') false body f)
    (hsc : X.env.scope = sc := by rfl) (hpar : params = { posonlyargs := [], args := [], vararg := none, kwonlyargs := [], kw_defaults := [], kwarg := none, defaults := [] } := by rfl) (hg : Gl X "_law_caught" := by rfl) :
    EM J O X false (.Call (.Name "_law_caught" p) [.Lambda params body scope lpos] [] pos) (eCaught O f) := by
  obtain ⟨g, st, fd, p1, p2, p3, p4, p5, p6, p7, p8, p9, p10, p11, p12, p13, p14, CS, h1, F, e1, e2, h3, h4, h5⟩ := C.ex
  obtain ⟨oc, od, kV, doc, pm, an, cdv, ct, osl, rfl, lk, hcd⟩ := F.ex
  rw [e1, e2] at lk
  rw [e1, e2] at h3
  exact em_caught hT hg h1 F.kp lk hcd (.all h3) h4 h5 L.tb hcode L.mem L.uni (hr.mono hk) (hsc ▸ LamX.lamS_by ls) (by subst hpar; rfl) (lamArgs_ok hpar) hf
theorem passL {X : Cx} {A : Around} {outer : List PySem.Env} {s : Shared} {H : Hp} {E : XK} {scope : Scope} {f c' : Addr} : Passes (L2.CX (LamX.lamCx X A outer s H E scope f c').prog (LamX.lamCx X A outer s H E scope f c').w) (LamX.lamCx X A outer s H E scope f c') E :=
  passes_call (X := LamX.lamCx X A outer s H E scope f c') (takes_of rfl rfl rfl rfl) fun _ _ _ _ h => h
theorem xCl {J : Jc} {O : List Nat} {X : Cx} {x : Str} {p0 : Pos} (r : ClsR X.K X.mg J.p.cls x) (hg : Gl X x := by rfl) (hd : (x == ("__debug__" : Str)) = false := by decide) : EM J O X false (.Name x p0) (eC (.cls x)) := by
  obtain ⟨C, h1, h2, _⟩ := r.ex
  exact xC h1 h2 hg hd
end DL
namespace DL
open L2 PySem PyProof.Rows PySem.Spec

/-! ### the law's own def -/
/-- a state at a def's beginning -/
theorem sr_start {N ps : List Str} {sc : Scope} {G : GW} {p : Rp} {E : XK} {O : List Nat} {H : Hp} {S0 : Addr → Prop} {hS : ∀ b, S0 b → ∃ o, H b = some o} {hU : ∀ b, G.U b → S0 b} {w : G.A} {vs : List V} {ds : List D} (S : FnScope N ps sc) (hO : O.all (fun i => decide (ps.length ≤ i)) = true)
    (rel : G.rel w H) (ra : RA p (hide S0 H) vs ds) (e : ds.length = ps.length) : SR ⟨G, p, H, S0, E, hS, hU⟩ O (L2.start N vs) H w (ds.map some ++ List.replicate (N.length - ps.length) none) := by
  have np := congrArg List.length S.pre
  rw [List.length_take] at np
  have el : vs.length = ps.length := by rw [ra.length, e]
  have noO : ∀ i, i ∈ O → ∀ v, (L2.start N vs)[i]? ≠ some (some v) := fun i hi v z => by
    have := of_decide_eq_true (List.all_eq_true.mp hO i hi)
    unfold L2.start at z
    rw [List.getElem?_append_right (by simpa [el] using this), List.getElem?_replicate] at z
    split at z <;> cases z
  have eF : Fz ⟨G, p, H, S0, E, hS, hU⟩ O (L2.start N vs) H = hide S0 H := hide_congr fun b => ⟨fun z => z.elim (fun z => z) fun ⟨i, hi, z⟩ => (noO i hi _ z).elim, .inl⟩
  refine ⟨GW.fr_refl _ _, rel, ?_, fun i d h n => ?_, fun i d h n => ?_, fun i a hi h => (noO i hi _ h).elim, fun i j a hi hj h => (noO i hi _ h).elim⟩
  · rw [start_len S el, List.length_append, List.length_map, List.length_replicate]
    omega
  · rw [eF]
    by_cases lt : i < ds.length
    · rw [List.getElem?_append_left (by simpa using lt), List.getElem?_map] at h
      obtain ⟨d', e1, e2⟩ := Option.map_eq_some_iff.mp h
      cases e2
      obtain ⟨v, e3, r⟩ := ra.getD e1
      refine ⟨v, ?_, r⟩
      unfold L2.start
      rw [List.getElem?_append_left (by rw [List.length_map, ra.length]; exact lt), List.getElem?_map, e3]
      rfl
    · rw [List.getElem?_append_right (by simpa using lt), List.getElem?_replicate] at h
      split at h <;> cases h
  · exfalso
    have := of_decide_eq_true (List.all_eq_true.mp hO i n)
    rw [List.getElem?_append_right (by simp [e]; exact this), List.getElem?_replicate] at h
    split at h <;> cases h
/-- what _law_begun makes of the script -/
def big : Int := 10 ^ 18
def absI (z : Int) : Int := if z < 0 then -z else z
def begunW (ns : List Int) : DW := ⟨(ns.filter fun z => decide (big ≤ absI z)).map fun z => absI z - big, ns.map absI, 0, 0⟩
def spBegun (K : PySem.W.Frag) : Sp := fun vs H Q _ => ∃ (b : Addr) (ns : List Int), vs = [.ref b] ∧ SqL K H b (ns.map V.int) ∧ ns.length ≤ 63 ∧ ∀ (a g c : Addr) (H' : Hp), H a = none → H g = none → H c = none → c ≠ g → Same H H' →
  H' a = some (.dK (dkvs (begunW ns) g c)) → H' g = some (.lst ((begunW ns).great.map V.int)) → H' c = some (.lst ((begunW ns).cells.map V.int)) → Q (.ref a) H'
def spLawT (K : PySem.W.Frag) (TT : List (Addr × Str)) : Sp := fun vs H Q _ => ∃ (b : Addr) (ns : List Int), vs = [.ref b] ∧ SqL K H b (ns.map V.int) ∧ ns.length ≤ 63 ∧ (∀ z ∈ ns, Builtin.Int.intBits z ≤ 1048576) ∧ LamX.Tabs TT H ∧ ∀ H', Q (.bl true) H'
section
variable {P : Program} {w0 : World} {K : PySem.W.Frag} {mg : Str → Option Value} {base : Heap} {cls : Str → Option Addr} {TT : List (Addr × Str)}
theorem ra_script {p : Rp} {F : Hp} (l : List Int) : RA p F (l.map V.int) (l.map D.int) := ra_ints l
theorem law_ok {st : Stmt} {f : Addr} {fd : FuncData} {N : List Str} {k : Nat} {rest : List Stmt} {p0 p1 p2 p3 p4 : Pos} {m : Fs DW} (F : Fun K "law" "law" st f fd) (S : FnScope N ["script"] (defScope st)) (hN : N[1]? = some ("draws" : Str)) (hN0 : N[0]? = some ("script" : Str)) (nd : N.Nodup)
    (hbody : defBody st = .Assign [.Name "draws" p0] (.Call (.Name "_law_begun" p1) [.Name "script" p2] [] p3) p4 :: rest) (hl1 : (defScope st).names.lookup ("draws" : Str) = some .local) (hl0 : (defScope st).names.lookup ("script" : Str) = some .local) (hg : (defScope st).names.lookup ("_law_begun" : Str) = some .globalImplicit)
    (B : Cal P w0 K mg base "_law_begun" 1 ["script"] [] (spBegun K))
    (hrest : ∀ (a g c : Addr) (cdv : Value) (A : Around) (outer : List PySem.Env) (s : Shared) (H : Hp) (E : XK) (H0 : Hp) (S0 : Addr → Prop) (hS : ∀ b, S0 b → ∃ o, H0 b = some o) (hU : ∀ b, (gD a g c TT).U b → S0 b), Room (k + 1) (A.deeper (envOfC "law" (defScope st) s.heap.objs.size f cdv)) →
      SMs (jD a g c TT ⟨K, fun _ => .ref a, cls⟩ H0 S0 E hS hU) [] false (cxB P w0 K mg base N "law" st f cdv A outer s H E) rest m)
    (hval : ∀ ns : List Int, ns.length ≤ 63 → (∀ z ∈ ns, Builtin.Int.intBits z ≤ 1048576) → ∃ w', m (begunW ns) (some (.frl (ns.map D.int)) :: some (.tok 0) :: List.replicate (N.length - 2) none) = some (.ret (.bl true) w')) :
    FnOk P w0 K mg base (L2.CX P w0) (k + 2) f fd ["script"] (spLawT K TT) := by
  refine F.okX S (fun vs H Q E h => ?_) fun cdv A outer s H vs Q E hr h => ?_
  · obtain ⟨b, ns, rfl, _⟩ := h
    rfl
  · obtain ⟨b, ns, rfl, hb, hn, hbits, hT, q⟩ := h
    obtain ⟨w', hv⟩ := hval ns hn hbits
    obtain ⟨fb, fdb, h1, h2, h3, _, FB⟩ := B.ex
    have hG : Gl (cxB P w0 K mg base N "law" st f cdv A outer s H E) "_law_begun" := hg
    have c1 : PS (cxB P w0 K mg base N "law" st f cdv A outer s H E) (.Assign [.Name "draws" p0] (.Call (.Name "_law_begun" p1) [.Name "script" p2] [] p3) p4) (tAsg (tCall (spBegun K) [] E (tCons (tVar 0) tNil)) (gName 1)) :=
      ps_set (i := 1) nd hN (.inl hl1) (pe_call FB (hr.mono (by omega)) hG h1 h2 (.all h3) .nil passB (pa_cons (pe_var (i := 0) hN0 (.inl hl0)) pa_nil) rfl rfl rfl) rfl (.inr hl1)
    have c2 : PSs (cxB P w0 K mg base N "law" st f cdv A outer s H E) rest (fun Z σ H1 => ∃ a g c H0 S0 hS hU, tS (jD a g c TT ⟨K, fun _ => .ref a, cls⟩ H0 S0 E hS hU) [] false m Z σ H1) := ⟨fun pins s1 σ H1 Z I q => by
      obtain ⟨a, g, c, H0, S0, hS, hU, q⟩ := q
      exact (hrest a g c cdv A outer s H E H0 S0 hS hU hr).ps.run pins s1 σ H1 Z I q⟩
    refine ⟨_, by rw [hbody]; exact pss_cons c1 c2, ?_⟩
    have np := congrArg List.length S.pre
    obtain ⟨N', rfl⟩ : ∃ N' : List Str, N = ("script" : Str) :: ("draws" : Str) :: N' := by
      match N, hN0, hN with
      | x :: y :: N', e0, e1 => cases e0; cases e1; exact ⟨N', rfl⟩
    have est : L2.start (("script" : Str) :: ("draws" : Str) :: N') [V.ref b] = some (V.ref b) :: none :: List.replicate N'.length none := by
      unfold L2.start
      simp [List.replicate_succ]
    rw [est]
    refine ⟨_, rfl, b, ns, rfl, hb, hn, fun a g c H' na ng nc cg sm ha hg' hc' => ?_⟩
    have hS : ∀ x, (x = a ∨ x = g ∨ x = c) → ∃ o, H' x = some o := by
      rintro x (z | z | z)
      · rw [z]; exact ⟨_, ha⟩
      · rw [z]; exact ⟨_, hg'⟩
      · rw [z]; exact ⟨_, hc'⟩
    refine ⟨a, g, c, H', fun x => x = a ∨ x = g ∨ x = c, hS, fun x hx => hx, begunW ns, some (.frl (ns.map D.int)) :: some (.tok 0) :: List.replicate N'.length none, ?_, ?_⟩
    · have hid : ∀ x, ¬ SS (jD a g c TT ⟨K, fun _ => .ref a, cls⟩ H' (fun x => x = a ∨ x = g ∨ x = c) E hS fun x hx => hx) [] (some (V.ref b) :: some (V.ref a) :: List.replicate N'.length none) x ∨ (x = a ∨ x = g ∨ x = c) := fun x => by
        by_cases z : x = a ∨ x = g ∨ x = c
        · exact .inr z
        · exact .inl fun y => y.elim z fun ⟨i, hi, _⟩ => by simp at hi
      have le : Le H (Fz (jD a g c TT ⟨K, fun _ => .ref a, cls⟩ H' (fun x => x = a ∨ x = g ∨ x = c) E hS fun x hx => hx) [] (some (V.ref b) :: some (V.ref a) :: List.replicate N'.length none) H') := fun x o e _ => by
        show hide _ _ _ = _
        rw [hide_of]
        · exact sm x o e
        · rcases hid x with z | z
          · exact z
          · exfalso
            rcases z with z | z | z
            · rw [z, na] at e; cases e
            · rw [z, ng] at e; cases e
            · rw [z, nc] at e; cases e
      refine ⟨GW.fr_refl _ _, ⟨ha, hg', hc', hT.ext sm, cg⟩, by simp, fun i d h n => ?_, fun i d h n => (by simp at n), fun i x hi => (by simp at hi), fun i j x hi => (by simp at hi)⟩
      match i with
      | 0 =>
        cases h
        exact ⟨_, rfl, .frl (le.seq hb) (ra_script ns)⟩
      | 1 =>
        cases h
        exact ⟨_, rfl, .tok 0⟩
      | i + 2 =>
        exfalso
        have h : (List.replicate N'.length (none : Option D))[i]? = some (some d) := h
        rw [List.getElem?_replicate] at h
        split at h <;> cases h
    · have hv : m (begunW ns) (some (.frl (ns.map D.int)) :: some (.tok 0) :: List.replicate N'.length none) = some (.ret (.bl true) w') := by simpa using hv
      rw [hv]
      intro v H2 f2 r2 rr
      unfold RetR at rr
      rw [if_neg (by simp)] at rr
      rw [rr.blv]
      exact q H2
theorem ra_ints_eq {p : Rp} {F : Hp} : ∀ {xs : List V} {l : List Int}, RA p F xs (l.map D.int) → xs = l.map V.int
  | _, [], h => by cases h; rfl
  | _, i :: l, h => by
    rw [List.map_cons] at h
    cases h with
    | cons a b => rw [a.intv, ra_ints_eq b]; rfl
abbrev jB (p : Rp) (H : Hp) (E : XK) : Jc := { G := pureW, p := p, H0 := H, S0 := fun _ => False, E := E, hS := fun _ h => h.elim, hU := fun _ h => h }
theorem begun_ok {st : Stmt} {f : Addr} {fd : FuncData} {N : List Str} {s1 : Stmt} {e2 : Expr} {p0 p1 p2 p3 p4 p5 p6 dp rp : Pos} {j0 j1 j2 j3 j4 j5 : Nat} {tk : Nat → V} {fG fC : Fe Unit} (F : Fun K "_law_begun" "_law_begun" st f fd) (S : FnScope N ["script"] (defScope st)) (hN : N[1]? = some ("great" : Str)) (hN0 : N[0]? = some ("script" : Str))
    (hl1 : (defScope st).names.lookup ("great" : Str) = some .local)
    (hbody : defBody st = [s1, .Return (some (.Dict [some (.Constant (.str "great") j0 p0), some (.Constant (.str "cells") j1 p1), some (.Constant (.str "rest") j2 p2), some (.Constant (.str "turn") j3 p3)] [.Name "great" p4, e2, .Constant (.int 0) j4 p5, .Constant (.int 0) j5 p6] dp)) rp])
    (h1 : ∀ (cdv : Value) (A : Around) (outer : List PySem.Env) (s : Shared) (H : Hp) (E : XK), Room 0 (A.deeper (envOfC "_law_begun" (defScope st) s.heap.objs.size f cdv)) → SM (jB ⟨K, tk, cls⟩ H E) [1] false (cxB P w0 K mg base N "_law_begun" st f cdv A outer s H E) s1 (sAsg fG (gN 1)))
    (h2 : ∀ (cdv : Value) (A : Around) (outer : List PySem.Env) (s : Shared) (H : Hp) (E : XK), Room 0 (A.deeper (envOfC "_law_begun" (defScope st) s.heap.objs.size f cdv)) → EF (jB ⟨K, tk, cls⟩ H E) [1] (cxB P w0 K mg base N "_law_begun" st f cdv A outer s H E) e2 fC)
    (hG : ∀ ns : List Int, ns.length ≤ 63 → fG () (some (.frl (ns.map D.int)) :: none :: List.replicate (N.length - 2) none) = some (.ok (.lst ((begunW ns).great.map D.int), ())))
    (hC : ∀ ns : List Int, ns.length ≤ 63 → fC () (some (.frl (ns.map D.int)) :: some (.lst ((begunW ns).great.map D.int)) :: List.replicate (N.length - 2) none) = some (.ok (.lst ((begunW ns).cells.map D.int), ()))) :
    FnOk P w0 K mg base (L2.CX P w0) 1 f fd ["script"] (spBegun K) := by
  refine F.okX S (fun vs H Q E h => ?_) fun cdv A outer s H vs Q E hr h => ?_
  · obtain ⟨b, ns, rfl, _⟩ := h
    rfl
  · obtain ⟨b, ns, rfl, hb, hn, q⟩ := h
    have c2 : PS (cxB P w0 K mg base N "_law_begun" st f cdv A outer s H E) (.Return (some (.Dict [some (.Constant (.str "great") j0 p0), some (.Constant (.str "cells") j1 p1), some (.Constant (.str "rest") j2 p2), some (.Constant (.str "turn") j3 p3)] [.Name "great" p4, e2, .Constant (.int 0) j4 p5, .Constant (.int 0) j5 p6] dp)) rp) _ :=
      ps_ret (pe_disp (pps_cons pe_str (pe_var (i := 1) hN (.inl hl1)) (pps_cons pe_str (h2 cdv A outer s H E hr).pe (pps_cons pe_str pe_int (pps_cons pe_str pe_int pps_nil)))) rfl rfl (fun z => nomatch z) (by show 4 ≤ 15; decide))
    refine ⟨_, by rw [hbody]; exact pss_cons (h1 cdv A outer s H E hr).ps (pss_one c2), ?_⟩
    obtain ⟨N', rfl⟩ : ∃ N' : List Str, N = ("script" : Str) :: ("great" : Str) :: N' := by
      match N, hN0, hN with
      | x :: y :: N', e0, e1 => cases e0; cases e1; exact ⟨N', rfl⟩
    have est : ([D.frl (ns.map D.int)].map some ++ List.replicate ((("script" : Str) :: ("great" : Str) :: N').length - (["script"] : List Str).length) none : Env) = some (.frl (ns.map D.int)) :: none :: List.replicate N'.length none := by
      simp [List.replicate_succ]
    have x0 := sr_start (G := pureW) (p := ⟨K, tk, cls⟩) (E := E) (O := [1]) (H := H) (S0 := fun _ => False) (hS := fun _ h => h.elim) (hU := fun _ h => h) (w := ()) (vs := [V.ref b]) (ds := [D.frl (ns.map D.int)]) S (by decide) True.intro
      (.cons (.frl (by
        have e : hide (fun _ => False) H = H := by funext x; exact hide_of (fun z => z)
        rw [e]; exact hb) (ra_script ns)) .nil) rfl
    rw [est] at x0
    refine ⟨(), _, x0, ?_⟩
    have eG := hG ns hn
    have eC := hC ns hn
    have en : (("script" : Str) :: ("great" : Str) :: N').length - 2 = N'.length := by simp
    rw [en] at eG eC
    unfold sAsg seqE
    rw [eG]
    dsimp only [gN]
    rw [List.set_cons_succ, List.set_cons_zero]
    intro σ1 H1 ev1 x1
    -- the owned list
    obtain ⟨g, eg, xs, hg, rg⟩ := x1.own 1 _ rfl (by simp)
    have exs := ra_ints_eq rg
    subst exs
    intro p hp
    have sm1 := same_new (o := .dK []) hp
    have x2 := x1.stepSame sm1
    refine ⟨_, eg, (), _, x2, ?_⟩
    unfold PQ
    rw [eC]
    intro v H2 f2 r2 rl
    obtain ⟨c, ev, nc, ys, hc, rc⟩ := rl
    subst ev
    have eys := ra_ints_eq rc
    subst eys
    have f2 : pureW.fr (upd H1 p (.dK [])) H2 := f2
    have s2 := pureW_same.mp f2
    have hp2 : H2 p = some (.dK []) := s2 _ _ upd_same
    have npg : g ≠ p := fun z => by rw [z, hp] at hg; cases hg
    have hg2 : H2 g = some (.lst ((begunW ns).great.map V.int)) := s2 _ _ (by rw [upd_ne npg]; exact hg)
    have npc : c ≠ p := fun z => by rw [z, upd_same] at nc; cases nc
    have ncg : c ≠ g := fun z => by rw [z, upd_ne npg, hg] at nc; cases nc
    have s1 : Same H H1 := pureW_same.mp x1.fr
    have fp : H p = none := Same.free s1 hp
    have fg : H g = none := (x1.fresh 1 g (by simp) eg).1
    have fc : H c = none := Same.free s1 (by rw [upd_ne npc] at nc; exact nc)
    refine ⟨hp2, dkvs (begunW ns) g c, rfl, by show 4 ≤ 15; decide, ?_⟩
    have em : mergeK [] (dkvs (begunW ns) g c) = dkvs (begunW ns) g c := by
      have k1 : ¬ ((Sum.inr ("great" : Str) : Key) = (Sum.inr ("cells" : Str) : Key)) := kn (x := "great") (y := "cells") (by decide +kernel)
      have k2 : ¬ ((Sum.inr ("great" : Str) : Key) = (Sum.inr ("rest" : Str) : Key)) := kn (x := "great") (y := "rest") (by decide +kernel)
      have k3 : ¬ ((Sum.inr ("great" : Str) : Key) = (Sum.inr ("turn" : Str) : Key)) := kn (x := "great") (y := "turn") (by decide +kernel)
      have k4 : ¬ ((Sum.inr ("cells" : Str) : Key) = (Sum.inr ("rest" : Str) : Key)) := kn (x := "cells") (y := "rest") (by decide +kernel)
      have k5 : ¬ ((Sum.inr ("cells" : Str) : Key) = (Sum.inr ("turn" : Str) : Key)) := kn (x := "cells") (y := "turn") (by decide +kernel)
      have k6 : ¬ ((Sum.inr ("rest" : Str) : Key) = (Sum.inr ("turn" : Str) : Key)) := kn (x := "rest") (y := "turn") (by decide +kernel)
      unfold mergeK dkvs
      simp only [List.foldl_cons, List.foldl_nil]
      unfold putK
      simp [k1, k2, k3, k4, k5, k6]
    rw [em]
    refine q p g c _ fp fg fc ncg (fun x o e => ?_) upd_same (by rw [upd_ne npg]; exact hg2) (by rw [upd_ne npc]; exact hc)
    rw [upd_ne (ne_of_none e fp)]
    exact s2 _ _ (sm1 _ _ (s1 _ _ e))
end
end DL
namespace DL
open L2 PySem PyProof.Rows PySem.Spec

/-! ### what _law_begun reckons -/
def bgA : Fe Unit := eN dAbs (fCons (eVar 2) fNil)
def bgP : Fe Unit := e2 dPow (eC (.int 10)) (eC (.int 18))
def bgG : Fe Unit := eComp (fIt (eVar 0)) [2] (gN 2) (eB (e2 dGe bgA bgP)) (e2 dSub bgA bgP)
def bgC : Fe Unit := eComp (fIt (eVar 0)) [2] (gN 2) (eC (.bl true)) bgA
theorem bgP_val (w : Unit) (ρ : Env) : bgP w ρ = some (.ok (.int big, w)) := by
  unfold bgP e2 bindE eC
  dsimp only
  have e : dPow (.int 10) (.int 18) = some (.int big) := by
    unfold dPow dIntC2
    dsimp only
    rw [if_pos (by decide)]
    rfl
  rw [e]
  rfl
theorem bgA_val (w : Unit) (ρ : Env) (z : Int) (h : ρ[2]? = some (some (.int z))) : bgA w ρ = some (.ok (.int (absI z), w)) := by
  unfold bgA eN fCons fNil bindE eVar
  rw [h]
  rfl
theorem bgT_val (w : Unit) (ρ : Env) (z : Int) (h : ρ[2]? = some (some (.int z))) : eB (e2 dGe bgA bgP) w ρ = some (.ok (.bl (decide (big ≤ absI z)), w)) := by
  have e : e2 dGe bgA bgP w ρ = some (.ok (.bl (decide (big ≤ absI z)), w)) := by
    unfold e2 bindE
    rw [bgA_val w ρ z h]
    dsimp only
    rw [bgP_val]
    rfl
  unfold eB
  unfold bindE
  rw [e]
theorem bgE_val (w : Unit) (ρ : Env) (z : Int) (h : ρ[2]? = some (some (.int z))) : e2 dSub bgA bgP w ρ = some (.ok (.int (absI z - big), w)) := by
  unfold e2 bindE
  rw [bgA_val w ρ z h]
  dsimp only
  rw [bgP_val]
  rfl
theorem set2 {ρ : Env} (h : ρ.length = 3) (d : D) : (ρ.set 2 (some d))[2]? = some (some d) := List.getElem?_set_self (by omega)
theorem comp_bgG : ∀ (ns : List Int) (ρ : Env), ρ.length = 3 → compL (gN 2) (eB (e2 dGe bgA bgP)) (e2 dSub bgA bgP) (ns.map D.int) () ρ = some (.ok ((begunW ns).great.map D.int, ()))
  | [], ρ, _ => rfl
  | z :: ns, ρ, h => by
    have ih := comp_bgG ns ρ h
    rw [List.map_cons]
    unfold compL gN
    dsimp only
    rw [bgT_val _ _ z (set2 h _)]
    unfold begunW at ih ⊢
    dsimp only at ih ⊢
    rw [List.filter_cons]
    by_cases c : big ≤ absI z
    · rw [decide_eq_true c, if_pos rfl]
      dsimp only
      rw [bgE_val _ _ z (set2 h _)]
      dsimp only
      unfold gN at ih
      rw [ih]
      rfl
    · rw [decide_eq_false c, if_neg (by simp)]
      dsimp only
      unfold gN at ih
      rw [ih]
theorem comp_bgC : ∀ (ns : List Int) (ρ : Env), ρ.length = 3 → compL (gN 2) (eC (.bl true)) bgA (ns.map D.int) () ρ = some (.ok ((begunW ns).cells.map D.int, ()))
  | [], ρ, _ => rfl
  | z :: ns, ρ, h => by
    have ih := comp_bgC ns ρ h
    rw [List.map_cons]
    unfold compL gN eC
    dsimp only
    rw [bgA_val _ _ z (set2 h _)]
    dsimp only
    unfold gN eC at ih
    rw [ih]
    rfl
theorem begun_len (ns : List Int) (h : ns.length ≤ 63) : ((begunW ns).great.map D.int).length < 16000000 ∧ ((begunW ns).cells.map D.int).length < 16000000 := by
  unfold begunW
  simp only [List.length_map]
  have := List.length_filter_le (fun z => decide (big ≤ absI z)) ns
  omega
theorem bgG_ok (ns : List Int) (h : ns.length ≤ 63) (x : Option D) : bgG () [some (.frl (ns.map D.int)), x, none] = some (.ok (.lst ((begunW ns).great.map D.int), ())) := by
  unfold bgG eComp
  have e1 : fIt (eVar 0) () [some (.frl (ns.map D.int)), x, none] = some (.ok (ns.map D.int, ())) := rfl
  unfold bindE
  rw [e1]
  dsimp only
  rw [comp_bgG ns _ (by simp [wipeE])]
  dsimp only
  rw [if_pos (begun_len ns h).1]
theorem bgC_ok (ns : List Int) (h : ns.length ≤ 63) (x : Option D) : bgC () [some (.frl (ns.map D.int)), x, none] = some (.ok (.lst ((begunW ns).cells.map D.int), ())) := by
  unfold bgC eComp
  have e1 : fIt (eVar 0) () [some (.frl (ns.map D.int)), x, none] = some (.ok (ns.map D.int, ())) := rfl
  unfold bindE
  rw [e1]
  dsimp only
  rw [comp_bgC ns _ (by simp [wipeE])]
  dsimp only
  rw [if_pos (begun_len ns h).2]
end DL
noncomputable section
namespace DL
open L2 PySem PyProof.Rows PySem.Spec

/-! ### sets of texts, as far as sorted(set(texts)) needs them -/
def keyS (e : Int × Value) : Str := match e.2 with | .str k _ => k | _ => Str.empty
def GoodS (w : World) (e : Int × Value) : Prop := ∃ k u, e.2 = Value.str k u ∧ e.1 = hashStr w k
def putS (l : List Str) (k : Str) : List Str := if k ∈ l then l else k :: l
def setS (xs : List Str) : List Str := xs.foldl putS []
/-- the text set at a with the members l -/
def TSet (w : World) (h : Heap) (a : Addr) (l : List Str) : Prop :=
  ∃ o es ep t, h.get? a = some o ∧ o.ExactSet ∧ o.data = .set es ep t ∧ (∀ e ∈ es.toList, GoodS w e) ∧ (es.toList.map keyS).Perm l ∧ l.Nodup ∧
    es.size < scanBound ∧ t.fits es.size = true ∧ Ris t.place.toList ∧ (w.params.followText "set-order" = true ∨ t.led = true)
section
variable {P : Program} {w : World} {h h' : Heap} {a : Addr} {l : List Str}
theorem TSet.at (R : TSet w h a l) (k : ∀ o, h.get? a = some o → h'.get? a = some o) : TSet w h' a l := by
  obtain ⟨o, es, ep, t, ho, r⟩ := R
  exact ⟨o, es, ep, t, k o ho, r⟩
theorem goodS_elems {es : List (Int × Value)} (g : ∀ e ∈ es, GoodS w e) : ElemsOf (strKind P w) es := fun e he => by
  obtain ⟨k, u, h1, h2⟩ := g e he
  exact ⟨⟨k, by rw [h1]; exact strKind_is P w k u, h2⟩, by rw [h1] <;> rfl⟩
theorem goodS_is {e : Int × Value} (g : GoodS w e) (k : Str) : (strKind P w).is k e.2 = true ↔ keyS e = k := by
  obtain ⟨k0, u, h1, _⟩ := g
  unfold keyS
  rw [h1]
  show ((k0 == k) = true) ↔ k0 = k
  exact beq_iff_eq
theorem goodS_mem {es : List (Int × Value)} (g : ∀ e ∈ es, GoodS w e) (k : Str) : k ∈ es.map keyS ↔ ∃ e ∈ es, (strKind P w).is k e.2 = true := by
  rw [List.mem_map]
  exact ⟨fun ⟨e, he, q⟩ => ⟨e, he, (goodS_is (g e he) k).2 q⟩, fun ⟨e, he, q⟩ => ⟨e, he, (goodS_is (g e he) k).1 q⟩⟩
theorem TSet.size {es : Array (Int × Value)} (p : (es.toList.map keyS).Perm l) : es.size = l.length := by
  rw [← p.length_eq, List.length_map, Array.length_toList]
end
section
variable {P : Program} {w : World} {A : Around} {E : Value → Shared → Prop} {s : Shared} {a : Addr} {l : List Str}
theorem tset_tail {gw : Bool → Sem Unit} (hgw : ∀ (b : Bool) (s1 : Shared) (Q1 : Unit → Shared → Prop), Q1 () s1 → wpAny (model P w) A (gw b) Q1 E s1)
    {o : Obj} {es : Array (Int × Value)} {ep : Nat} {t : SetTable} (ho : s.heap.get? a = some o) (hx : o.ExactSet) (hd : o.data = .set es ep t)
    {es1 : Array (Int × Value)} {t2 : SetTable} {l1 : List Str} (g1 : ∀ e ∈ es1.toList, GoodS w e) (p1 : (es1.toList.map keyS).Perm l1) (n1 : l1.Nodup)
    (hb1 : es1.size < scanBound) (hf2 : t2.fits es1.size = true) (hr : Ris t2.place.toList) (hl : w.params.followText "set-order" = true ∨ t2.led = true) {wd : Bool} {R : Option Bool → Shared → Prop}
    (hR : ∀ h1, Heap.SameBut a s.heap h1 → TSet w h1 a l1 → R (some true) { s with heap := h1 }) :
    wpAny (model P w) A (do
        storeSet a es1 t2
        if (!wd && t2.tooFull) = true then do
            gw (relayAll t2 es1 (SetTable.grown es1.size)).2.2
            storeSet a (relayAll t2 es1 (SetTable.grown es1.size)).1 (relayAll t2 es1 (SetTable.grown es1.size)).2.1
            pure (some true)
          else pure (some true)) R E s := by
  refine wpAny_bind (wpAny_storeSet_of ho hd ?_ (fits_of_scanBound hb1))
  have ho1 := store_at (es' := es1) (t' := t2) ho hd
  have sb1 := Heap.SameBut.update s.heap a (Obj.putSet es1 t2)
  split
  · have pm := relayAll_perm t2 es1 (SetTable.grown es1.size)
    have f3 := relayAll_fits t2 es1 (SetTable.grown es1.size)
    have r3 := relayAll_ris t2 es1 (SetTable.grown es1.size)
    have l3 := relayAll_led t2 es1 (SetTable.grown es1.size)
    generalize relayAll t2 es1 (SetTable.grown es1.size) = Z at pm f3 r3 l3 ⊢
    obtain ⟨es2, t3, gave⟩ := Z
    dsimp only at pm f3 r3 l3 ⊢
    have hsz : es2.size = es1.size := by rw [← Array.length_toList, pm.length_eq, Array.length_toList]
    have hb2 : es2.size < scanBound := hsz ▸ hb1
    refine wpAny_bind (hgw _ _ _ (wpAny_bind (wpAny_storeSet_of ho1 rfl ?_ (fits_of_scanBound hb2))))
    have ho2 := store_at (es' := es2) (t' := t3) ho1 rfl
    refine wpAny_pure (hR _ (sb1.trans (Heap.SameBut.update _ a _)) ?_)
    exact ⟨_, es2, _, t3, ho2, hx, rfl, fun e he => g1 e (pm.mem_iff.mp he), (pm.map keyS).trans p1, n1, hb2, f3, r3, hl.imp id fun z => by rw [l3]; exact z⟩
  · exact wpAny_pure (hR _ sb1 ⟨_, es1, _, t2, ho1, hx, rfl, g1, p1, n1, hb1, hf2, hr, hl⟩)
theorem tset_add {k : Str} {u : Tok} {Q : Bool → Shared → Prop} (R : TSet w s.heap a l) (room : l.length + 1 < scanBound)
    (hQ : ∀ b h1, Heap.SameBut a s.heap h1 → TSet w h1 a (putS l k) → Q b { s with heap := h1 }) :
    wpAny (model P w) A (setAddHashed a (.str k u) ((strKind P w).hash k)) Q E s := by
  obtain ⟨o, es, ep, t, ho, hx, hd, g, pl, nd, hb, hf, hr, hl⟩ := R
  have hkey : (strKind P w).is k (.str k u) = true := strKind_is P w k u
  have hsc : (Value.str k u).scannable = true := rfl
  have hel : ElemsOf (strKind P w) es.toList := goodS_elems g
  unfold setAddHashed setAddHashedIn
  refine wpAny_holding (wpAny_bind (wpAny_setState_of ho hd hf ?_))
  dsimp only
  rw [byScan_of hsc hb hel]
  simp only [↓reduceIte]
  unfold setAddByScan
  refine wpAny_bind (wpAny_bind (wpAny_rule (wpAny_bind (wpAny_setScan_of hkey ho hd hf hel ?_))))
  cases hfi : List.findIdx? (fun e => (strKind P w).is k e.2) es.toList with
  | some j =>
    dsimp only
    obtain ⟨hj, pj, _⟩ := List.findIdx?_eq_some_iff_getElem.mp hfi
    have hm : k ∈ l := pl.mem_iff.mp ((goodS_mem (P := P) g k).2 ⟨es.toList[j], List.getElem_mem hj, pj⟩)
    have epu : putS l k = l := if_pos hm
    exact wpAny_pure (wpAny_pure (hQ _ s.heap (Heap.SameBut.refl a s.heap) (by rw [epu]; exact ⟨o, es, ep, t, ho, hx, hd, g, pl, nd, hb, hf, hr, hl⟩)))
  | none =>
    dsimp only
    have hnk : k ∉ l := fun z => by
      obtain ⟨e, he, q⟩ := (goodS_mem (P := P) g k).1 (pl.mem_iff.mpr z)
      have c := List.findIdx?_eq_none_iff.mp hfi e he
      rw [q] at c
      cases c
    have epu : putS l k = k :: l := if_neg hnk
    have hgw : ∀ (b : Bool) {s1 : Shared} {Q1 : Unit → Shared → Prop}, Q1 () s1 → wpAny (model P w) A (match b with | true => rule "set.scan.the-table-gave-way" | false => pure ()) Q1 E s1 :=
      fun b s1 Q1 q => by cases b <;> first | exact wpAny_pure q | exact wpAny_rule q
    have pm := layNew_perm t es ((strKind P w).hash k) (.str k u)
    have hf1 := layNew_fits t es ((strKind P w).hash k) (.str k u)
    have hr1 := layNew_ris t es ((strKind P w).hash k) (.str k u) hr
    have hl1 := layNew_led t es ((strKind P w).hash k) (.str k u)
    generalize layNew t es ((strKind P w).hash k) (.str k u) = Z at pm hf1 hr1 hl1 ⊢
    obtain ⟨es1, t1, wd, gave⟩ := Z
    dsimp only at pm hf1 hr1 hl1 ⊢
    rw [Array.toList_push] at pm
    have pc : es1.toList.Perm (((strKind P w).hash k, Value.str k u) :: es.toList) := pm.trans (List.perm_append_singleton _ _)
    have pk : (es1.toList.map keyS).Perm (k :: l) := (pc.map keyS).trans (pl.cons k)
    have g1 : ∀ e ∈ es1.toList, GoodS w e := fun e he => by
      rcases List.mem_cons.mp (pc.mem_iff.mp he) with z | z
      · rw [z]; exact ⟨k, u, rfl, rfl⟩
      · exact g e z
    have nd1 : (k :: l).Nodup := List.nodup_cons.mpr ⟨hnk, nd⟩
    have hb1 : es1.size < scanBound := by rw [TSet.size pk]; exact room
    have hled : w.params.followText "set-order" = true ∨ t1.led = true := hl.imp id fun z => by rw [hl1]; exact z
    have fin : ∀ h1, Heap.SameBut a s.heap h1 → TSet w h1 a (k :: l) → Q true { s with heap := h1 } := fun h1 sb r => hQ _ h1 sb (by rw [epu]; exact r)
    refine wpAny_bind (hgw _ ?_)
    split
    · refine wpAny_bind ?_
      rw [hashByValue_scannable 8 hsc]
      refine wpAny_pure (tset_tail ?_ ho hx hd g1 pk nd1 hb1 ?_ ?_ ?_ ?_)
      · intro b s1 Q1 q; cases b <;> first | exact wpAny_pure q | exact wpAny_rule q
      · first | (split <;> first | exact hf1 | exact SetTable.fits_plain_off hf1) | exact hf1
      · first | (split <;> exact hr1) | exact hr1
      · first | (split <;> exact hled) | exact hled
      · intro h1 sb r; dsimp only; exact wpAny_pure (fin h1 sb r)
    · refine wpAny_bind (wpAny_pure ?_)
      simp only [↓reduceIte]
      refine tset_tail ?_ ho hx hd g1 pk nd1 hb1 hf1 hr1 hled ?_
      · intro b s1 Q1 q; cases b <;> first | exact wpAny_pure q | exact wpAny_rule q
      · intro h1 sb r; dsimp only; exact wpAny_pure (fin h1 sb r)
theorem tset_fresh {h : Heap} (w : World) : TSet w (h.push { cls := .type "set", dict := none, data := .set #[] 0 (.fresh 0 0 (!w.params.followText "set-order")) }) h.objs.size [] :=
  ⟨_, #[], 0, _, Heap.get?_push_size _ rfl, ⟨rfl, rfl, rfl⟩, rfl, (fun e he => by simp at he), .refl _, .nil, (by decide), (by rfl), List.Pairwise.nil, by
    show _ ∨ (!w.params.followText "set-order") = true
    cases w.params.followText "set-order" <;> simp⟩
end
end DL
end
noncomputable section
namespace DL
open L2 PySem PyProof.Rows PySem.Spec

theorem putS_len (l : List Str) (k : Str) : (putS l k).length ≤ l.length + 1 := by
  unfold putS
  split <;> simp
theorem foldS_len : ∀ (xs l : List Str), (xs.foldl putS l).length ≤ l.length + xs.length
  | [], l => by simp
  | x :: xs, l => by
    have h1 := foldS_len xs (putS l x)
    have h2 := putS_len l x
    rw [List.foldl_cons, List.length_cons]
    omega
theorem setS_len (xs : List Str) : (setS xs).length ≤ xs.length := by have := foldS_len xs []; simpa [setS] using this
theorem setS_next {xs : List Str} {i : Nat} (h : i < xs.length) : setS (xs.take (i + 1)) = putS (setS (xs.take i)) (xs.getD i Str.empty) := by
  unfold setS
  rw [List.take_succ, List.foldl_append, List.getD_eq_getElem?_getD, List.getElem?_eq_getElem h]
  rfl
section
variable {P : Program} {w : World} {A : Around} {R : Result → Shared → Prop} {I : Addr} {fp wr : List Addr} {G : Array GenState → Array GenState → Prop} {n : Nat} {Pv : Nat → Value → Prop} {St : Nat → Shared → Prop}
theorem tset_update (W : WalksS P w A.in1 I fp wr G n Pv St) (S : Addr) (hSf : S ∉ fp) (xs : List Str) (hsz : xs.length = n) (hb : n + 1 < scanBound)
    (hval : ∀ i v, Pv i v → ∃ u, v = .str (xs.getD i Str.empty) u) :
    ∀ (k i : Nat) (s : Shared), n - i = k → i ≤ n → St i s → TSet w s.heap S (setS (xs.take i)) →
      (∀ s1, Moved (S :: wr) G s s1 → TSet w s1.heap S (setS xs) → R (.ok (.ret .none)) s1) →
      codeAny (model P w) A (.builtin "set.update.loop" ⟨[.ref S, .ref I], []⟩) R s := by
  have hSw : S ∉ wr := fun z => hSf (W.sub _ z)
  have hsub : ∀ b ∈ wr, b ∈ S :: wr := fun b z => List.mem_cons_of_mem _ z
  intro k
  induction k with
  | zero =>
    intro i s hk hi hst hS hR
    have hin : i = n := by omega
    subst hin
    refine codeAny_builtin PyProof.Rows.F.entry_set_update_loop ?_
    rw [Around.under_plainId PyProof.Rows.F.plain_set_update_loop _]
    show wpAny _ A.in1 (pyNext (.ref I) >>= _) _ _ s
    refine wpAny_bind (W.done s _ _ hst fun s1 hm => ?_)
    show wpAny _ A.in1 (ret Value.none) _ _ s1
    have ex : xs.take i = xs := List.take_of_length_le (by omega)
    exact wpAny_pure (hR s1 (hm.mono hsub) (by rw [← ex]; exact hS.at fun o e => hm.heap S o hSw e))
  | succ k ih =>
    intro i s hk hi hst hS hR
    have hlt : i < n := by omega
    refine codeAny_builtin PyProof.Rows.F.entry_set_update_loop ?_
    rw [Around.under_plainId PyProof.Rows.F.plain_set_update_loop _]
    show wpAny _ A.in1 (pyNext (.ref I) >>= _) _ _ s
    refine wpAny_bind (W.item i s _ _ hlt hst fun v s1 hP hst1 hm => ?_)
    obtain ⟨u, rfl⟩ := hval i v hP
    have hS1 : TSet w s1.heap S (setS (xs.take i)) := hS.at fun o e => hm.heap S o hSw e
    show wpAny _ A.in1 (holding [Value.str (xs.getD i Str.empty) u] (setAdd S (.str (xs.getD i Str.empty) u)) >>= _) _ _ s1
    refine wpAny_bind (wpAny_holding ?_)
    unfold setAdd
    refine wpAny_holding (wpAny_bind ((PySem.strKind P w).pyHash (k := xs.getD i Str.empty) (strKind_is _ _ _ _) ?_))
    have hroom : (setS (xs.take i)).length + 1 < scanBound := by
      have h1 := setS_len (xs.take i)
      rw [List.length_take] at h1
      omega
    refine tset_add (s := { s1 with toks := s1.toks + 1 }) hS1 hroom fun b h1 hsb hS2 => ?_
    rw [← setS_next (by omega)] at hS2
    refine wpAny_pure ⟨plainId_quiet PyProof.Rows.F.plain_set_update_loop _, ih (i + 1) _ (by omega) hlt (W.frame _ s1 _ _ hst1 (Nat.le_succ _) fun b hb o e => ?_) hS2 fun s2 hm2 hS3 => ?_⟩
    · rw [hsb.2 b (fun z : b = S => hSf (by rw [← z]; exact hb))]; exact e
    · refine hR s2 (Moved.trans W.gtrans ((hm.mono hsub).then_heap (Nat.le_succ _) fun b o hb e => ?_) hm2) hS3
      rw [hsb.2 b (fun z : b = S => hb (by rw [z]; exact List.mem_cons_self))]; exact e
end
section
variable {P : Program} {w : World} {A : Around} {E : Value → Shared → Prop} {s : Shared}
/-- set(xs), xs a list of texts -/
theorem call_tset {l : Addr} {its : Array Value} {xs : List Str} {Q : Value → Shared → Prop} (hh : A.handled = none) (hl : s.heap.IsList l its) (hi : StrsAre its.toList xs) (hb : its.size + 1 < scanBound)
    (h : ∀ (h1 : Heap) (tk : Nat), TSet w h1 s.heap.objs.size (setS xs) → (∀ b o, b < s.heap.objs.size → s.heap.get? b = some o → h1.get? b = some o) → Q (.ref s.heap.objs.size) { s with heap := h1, toks := tk }) :
    wpAny (model P w) A (call (.type "set") [.ref l]) Q E s := by
  obtain ⟨c, tl, hmro⟩ := PySem.F.called_set.mro
  have hmade := PySem.F.called_set.made
  have hsub := PySem.F.called_set.sub
  refine wpAny_call (codeAny_of_tree ?_)
  show wpAny _ _ (callAny (.type "set") _) _ _ _
  refine wpAny_pure ⟨Code.quiet_builtin _ (by decide +kernel), codeAny_builtin PySem.F.entry_type_call ?_⟩
  rw [Around.under_plain (weight_type_call_type "set" [.ref l] []) rfl]
  have h1 := PySem.F.called_set.notType
  have h2 := PySem.F.called_set.canCreate
  have hct := PySem.F.typeCall_set_1 (.ref l)
  repeat (any_goals (first | assumption | wp_step))
  let O0 : Obj := { cls := .type "set", dict := none, data := .set #[] 0 (.fresh 0 0 (!w.params.followText "set-order")) }
  refine codeAny_mono (code_set_led1 (.ref l) (E := E) (Q₁ := fun v s1 => v = .ref s.heap.objs.size ∧ s1 = { s with heap := s.heap.push O0 }) ⟨rfl, rfl⟩) fun r s1 hr => ?_
  cases r with
  | error e => exact hr
  | ok fl =>
    cases fl with
    | ret obj =>
      obtain ⟨rfl, rfl⟩ := hr
      have hS : (s.heap.push O0).get? s.heap.objs.size = some O0 := Heap.get?_push_size _ rfl
      have hT : Shared.TypeIs { s with heap := s.heap.push O0 } (.ref s.heap.objs.size) "set" := ⟨_, hS, rfl⟩
      have hli := PySem.F.called_set.init.lookup
      have hbi := PySem.F.called_set.init.bind (.ref s.heap.objs.size)
      repeat (any_goals (first | assumption | wp_step))
      refine codeAny_mono (codeAny_call_builtin (R := wants (fun r s2 => r = .none ∧ ∃ h1 tk, s2 = { s with heap := h1, toks := tk } ∧ TSet w h1 s.heap.objs.size (setS xs) ∧
          (∀ b o, b < s.heap.objs.size → s.heap.get? b = some o → h1.get? b = some o)) E) PySem.F.called_set.init.plain PySem.F.entry_set_init (check_set_init_1 hT ?_)) fun r2 s2 hr2 => ?_
      · obtain ⟨ol, hol, hcl, nl, hdl⟩ := hl
        obtain ⟨ocls, odict, odata, oslots⟩ := ol
        simp only at hcl hdl
        subst hcl; subst hdl
        have hol1 : (s.heap.push O0).get? l = some { cls := .type "list", dict := odict, data := .seq its nl, slots := oslots } := Heap.get?_push_of_some _ hol
        have hsls := PySem.F.sub_list_set
        have hslf := PySem.F.sub_list_frozenset
        have hne : (Value.type "list" == Value.type "dict") = false := by decide
        have hl1 : (s.heap.push O0).IsList l its := ⟨_, hol1, rfl, nl, rfl⟩
        unfold Builtin.«set.__init__» noKeywords Builtin.Frozenset.updateFrom
        generalize hPI : pyIter = PI
        wp_walk
        subst hPI
        refine wpAny_pyIter_list hl1 (wpAny_bind (wpAny_runValue ?_))
        have hlS : l < s.heap.objs.size := Heap.lt_size hol
        have hh3 : A.in1.in1.in1.handled = none := by simp [hh]
        have hneI : l ≠ (s.heap.push O0).objs.size := by
          rw [Heap.size_push]; exact Nat.ne_of_lt (Nat.lt_succ_of_lt hlS)
        have hSf : s.heap.objs.size ∉ [(s.heap.push O0).objs.size, l] := by
          rw [Heap.size_push]; simp only [List.mem_cons, List.mem_singleton, List.not_mem_nil, or_false, not_or]
          exact ⟨Nat.ne_of_lt (Nat.lt_succ_self _), Nat.ne_of_gt hlS⟩
        have hsz : xs.length = its.size := by rw [← StrsAre.length hi, Array.length_toList]
        refine tset_update ((Walks.list hh3 _ l hneI its).toS) s.heap.objs.size hSf xs hsz hb (fun i v hv => SS.strs_at hi i v (by rw [Array.getElem?_toList]; exact hv)) (its.size - 0) 0 _ (by omega) (Nat.zero_le _)
          ⟨⟨_, Heap.get?_push_size _ rfl, rfl, rfl⟩, (hl1.push _)⟩ ?_ ?_
        · exact TSet.at (tset_fresh w) fun o e => Heap.get?_push_of_some _ e
        · intro s3 hm hS3
          obtain ⟨h1, g3, d3, tk3, os3⟩ := s3
          have eg : g3 = s.gens := hm.gens
          have ed : d3 = s.drawn := hm.drawn
          have eo : os3 = s.os := hm.os
          subst eg; subst ed; subst eo
          show wpAny _ _ _ _ _ _
          refine wpAny_pure ?_
          show wpAny _ _ (ret Value.none) _ _ _
          refine wpAny_pure ⟨rfl, h1, tk3, rfl, hS3, fun b o hb e => hm.heap b o ?_ (Heap.get?_push_of_some _ (Heap.get?_push_of_some _ e))⟩
          rw [Heap.size_push]
          simp only [List.mem_cons, List.mem_singleton, List.not_mem_nil, or_false, not_or]
          exact ⟨Nat.ne_of_lt hb, Nat.ne_of_lt (Nat.lt_succ_of_lt hb)⟩
      · cases r2 with
        | error e => exact hr2
        | ok fl2 =>
          cases fl2 with
          | ret r =>
            obtain ⟨rfl, h1, tk, rfl, hS3, hk3⟩ := hr2
            repeat (any_goals (first | assumption | wp_step))
            exact h _ _ hS3 hk3
          | _ => exact hr2.elim
    | _ => exact hr.elim
theorem strs_of (w : World) : ∀ (l : List Value), (∀ v ∈ l, ∃ k u, v = Value.str k u) → StrsAre l (l.map fun v => keyS (0, v))
  | [], _ => .nil
  | v :: l, h => by
    obtain ⟨k, u, rfl⟩ := h v List.mem_cons_self
    exact .cons k u (strs_of w l fun z hz => h z (List.mem_cons_of_mem _ hz))
/-- sorted(a), a set of texts -/
theorem sorted_tset {a : Addr} {l : List Str} {Q : Value → Shared → Prop} (R : TSet w s.heap a l) (hh : A.handled = none)
    (hQ : ∀ s1 p (out : Array Value) (c : Nat) (ys : List Str), (∀ b o, s.heap.get? b = some o → s1.heap.get? b = some o) → s1.gens = s.gens → s1.os = s.os → s.heap.objs.size ≤ p →
      s1.heap.get? p = some (seqObj "list" out c) → StrsAre out.toList ys → sortedS ys = true → ys.Perm l → out.size ≤ sizeLine → Q (.ref p) s1) :
    wpAny (model P w) A (call (.builtin "sorted") [.ref a]) Q E s := by
  obtain ⟨o, es, ep, t, ho, hx, hd, g, pl, nd, hb, hf, hr, hl⟩ := R
  refine Calls.call_function_entry kind_sorted plain_sorted entry_sorted (args_sorted1 _) ?_
  unfold Builtin.«sorted»
  refine wpAny_bind (m := checkCount "sorted" 1 1 _) (wpAny_pure ?_)
  refine wpAny_bind (collect_set (A := A.in1) hh ⟨o, ho, hx.1, hd⟩ hf hb hr hl fun s1 vs k1 hz g1 o1 pm => ?_)
  have hvl : vs.length ≤ sizeLine := by
    rw [pm.length_eq, List.length_map, Array.length_toList]
    exact fits_of_scanBound hb
  have hI : StrsAre vs (vs.map fun v => keyS (0, v)) := strs_of w vs fun v hv => by
    obtain ⟨e, he, q⟩ := List.mem_map.mp (pm.mem_iff.mp hv)
    obtain ⟨k, u, h1, _⟩ := g e he
    exact ⟨k, u, by rw [← q]; exact h1⟩
  have pk : (vs.map fun v => keyS (0, v)).Perm l := by
    have q := pm.map fun v => keyS (0, v)
    rw [List.map_map] at q
    exact q.trans pl
  refine wpAny_bind (wpAny_newList ?_ hvl)
  have hoL : (s1.heap.push (seqObj "list" vs.toArray 0)).get? s1.heap.objs.size = some (seqObj "list" vs.toArray 0) := Heap.get?_push_size _ rfl
  refine wpAny_bind (wpAny_holding (wpAny_call_entry slot_list_sort ⟨_, hoL, rfl⟩ entry_list_sort (list_sort_treeKAny strKind_oneLt hoL hI.keysOf (fun v1 v2 rest e => keyKind_strs (by rw [← e]; exact hI)) hvl fun st1 hp hs => ⟨_, rfl, ?_⟩) (args_list_sort _)))
  obtain ⟨ys, a1, a2, a3⟩ := sorted_out_str hI hp hs
  obtain ⟨c, hc⟩ := sortedHeap_at (vs := vs) (out := (arrOf st1).map (·.2)) hoL
  have hol : ((arrOf st1).map (·.2)).size ≤ sizeLine := by
    have e1 := StrsAre.length a1
    have e2 := a2.length_eq
    rw [Array.length_toList] at e1
    rw [List.length_map] at e2
    omega
  refine wpAny_pure ⟨_, rfl, hQ _ s1.heap.objs.size _ c ys (fun b u e => ?_) g1 o1 hz hc a1 a3 (a2.trans pk) hol⟩
  have q := k1 b u e
  have hlt := Heap.lt_size q
  show (sortedHeap (s1.heap.push (seqObj "list" vs.toArray 0)) s1.heap.objs.size vs _).get? b = some u
  rw [sortedHeap_old (Nat.ne_of_lt hlt) (by rw [size_push']; exact Nat.lt_succ_of_lt hlt)]
  exact Heap.get?_push_of_some _ q
end
end DL
end
noncomputable section
namespace DL
open L2 PySem PyProof.Rows PySem.Spec

def TSO (w : World) (l : List Str) (a : Addr) : HO := .ext fun h => TSet w h a l
theorem tso_new {P : Program} {w : World} {H : Hp} {h : Heap} {a : Addr} {l : List Str} (R : TSet w h a l) : ObjOk P w H h a (TSO w l a) := by
  have ⟨o, es, ep, t, ho, q⟩ := R
  exact ⟨R, ⟨o, ho⟩, fun h1 h2 p k => TSet.at p k⟩
def rSetS (K : PySem.W.Frag) (w : World) : List V → Hp → VK → Prop := fun vs H Q => ∃ (l : Addr) (xs : List Str), vs = [V.ref l] ∧ SqL K H l (xs.map V.str) ∧ xs.length ≤ 4000 ∧
  ∀ a, H a = none → Q (.ref a) (upd H a (TSO w (setS xs) a))
def rSortS (w : World) : List V → Hp → VK → Prop := fun vs H Q => ∃ (a : Addr) (l : List Str), vs = [V.ref a] ∧ H a = some (TSO w l a) ∧
  ∀ (ys : List Str) (p : Addr), ys.Perm l → sortedS ys = true → H p = none → Q (.ref p) (upd H p (.lst (ys.map V.str)))
section
variable {X : Cx}
theorem cl_setS (hc : X.calm = true) : CallR X (.type "set") (rSetS X.K X.w) := by
  intro pins s σ H vs us Q I r h
  obtain ⟨l, xs, rfl, hs, hn, q⟩ := h
  rw [Vals.ref1 r]
  obtain ⟨its, rv, pl, hz⟩ := I.list hs
  have hlen := rv.length
  rw [List.length_map] at hlen
  refine call_tset (w := X.w) (I.ok.hd hc) pl.isList (by simpa using rv.strs) (by rw [List.size_toArray]; unfold scanBound; omega) fun h1 tk R k => ?_
  exact ⟨.ref s.heap.objs.size, upd H s.heap.objs.size (TSO X.w (setS xs) s.heap.objs.size), I.laid (t' := tk) (fun b o e => k b o (Heap.lt_size e) e) (Nat.le_refl _) (tso_new R), rfl, q _ (I.hok.fresh (Nat.le_refl _))⟩
theorem cl_sortS (hc : X.calm = true) : CallR X (.builtin "sorted") (rSortS X.w) := by
  intro pins s σ H vs us Q I r h
  obtain ⟨a, l, rfl, ha, q⟩ := h
  have R : TSet X.w s.heap a l := (I.hok a _ ha).1
  rw [Vals.ref1 r]
  refine sorted_tset R (I.ok.hd hc) fun s1 p out c ys k g o hp hg a1 a3 pm hol => ?_
  have hlen : (ys.map V.str).length ≤ sizeLine := by
    have e1 := StrsAre.length a1
    rw [Array.length_toList] at e1
    rw [List.length_map]
    omega
  have hn : H p = none := I.hok.fresh hp
  have J : Inv X pins σ (upd H p (.lst (ys.map V.str))) { s with heap := s1.heap, gens := s1.gens, drawn := s1.drawn, toks := s1.toks } :=
    I.call (ch := []) (Un.laid k hp hn) (I.hok.laid k hp ⟨hlen, out.toList, c, vals_of_strs a1, hg⟩) (by rw [g]; exact I.bare) (fun _ z => nomatch z)
  have e : s1 = { s with heap := s1.heap, gens := s1.gens, drawn := s1.drawn, toks := s1.toks } := by
    cases s1
    cases s
    cases o
    rfl
  rw [e]
  exact ⟨.ref p, _, J, rfl, q ys p pm a3 hn⟩
end
/-- sorted(set(xs)), xs a list of texts -/
def dSortSet : List D → Option D
  | [.lst l] => match strsOf l with
    | some ss => if ss.length ≤ 4000 then some (.lst ((sortS (setS ss)).map .str)) else none
    | none => none
  | _ => none
theorem o_sortSet {p : Rp} {w : World} : OpNF p (fun xs H Q => rSetS p.K w xs H fun v H1 => rSortS w [v] H1 Q) dSortSet := fun F H xs ds d Q s rs h q => by
  unfold dSortSet at h
  split at h
  · rename_i l
    obtain ⟨x, rfl, r⟩ := p1 rs
    obtain ⟨a, ys, e2, e1, ra⟩ := r.lstv s
    split at h
    · rename_i ss hn
      split at h
      · rename_i c
        cases h
        have ei := strsOf_ra ra hn
        subst ei
        refine ⟨a, ss, by rw [e2], .inl (.inl e1), c, fun b hb => ⟨b, setS ss, rfl, upd_same, fun zs t pm pw ht => ?_⟩⟩
        rw [sortS_uniq pm pw]
        have hbt : H t = none := by
          by_cases z : t = b
          · rw [z]; exact hb
          · rw [← upd_ne z (H := H)]; exact ht
        have s1 : Same H (upd H b (TSO w (setS ss) b)) := same_new hb
        have s2 : Same (upd H b (TSO w (setS ss) b)) (upd (upd H b (TSO w (setS ss) b)) t (.lst ((sortS (setS ss)).map V.str))) := same_new ht
        exact q t _ hbt (fun b' x e => s2 b' x (s1 b' x e)) ⟨_, upd_same, ra_strs _⟩
      · cases h
    · cases h
  · cases h
section
variable {J : Jc} {O : List Nat} {fr : Bool} {X : Cx} {pk1 : Bool} {a : Expr} {es : List Expr} {fl : Fl J.G.A} {pos pos2 p0 p2 : Pos} {n : Nat}
theorem cSortSet (hr : Room n X.A) (hm : X.mg "sorted" = none) (hm2 : X.mg "set" = none) (h : EMs J O X pk1 (a :: es) fl) (hc : X.calm = true := by rfl) (hg : Gl X "sorted" := by rfl) (hg2 : Gl X "set" := by rfl) (hK : X.K = J.p.K := by rfl)
    (he : starEach (a :: es) X.env = (false, eval a X.env) :: starEach es X.env := by rfl) (hpl : (backTo pos2 (starEach es X.env)).any (·.1) = false := by rfl)
    (he2 : starEach [.Call (.Name "set" p2) (a :: es) [] pos2] X.env = [(false, eval (.Call (.Name "set" p2) (a :: es) [] pos2) X.env)] := by rfl) :
    EF J O X (.Call (.Name "sorted" p0) [.Call (.Name "set" p2) (a :: es) [] pos2] [] pos) (eN dSortSet fl) :=
  ef_opN (r := fun xs H Q => rSetS X.K X.w xs H fun v H1 => rSortS X.w [v] H1 Q)
    (fun ha => PE.imp (pe_callB (cl_sortS hc) hg hm PyProof.Rows.boot_sorted (pa_cons (pe_callTy (cl_setS hc) hg2 hm2 PyProof.Rows.boot_set ha (by decide) (by decide) he hpl) pa_nil he2) (by decide) (by decide) he2 rfl) fun σ H Q h => h)
    (hK ▸ o_sortSet) h
end
end DL
end
noncomputable section
namespace DL
open L2 PySem PyProof.Rows PySem.Spec

/-! ### what defs of many laws reckon (printed by gen.py) -/
def m_is_whole : Fs Unit := (sRet (eAnd (eN dIsi (fCons (eVar 0) (fCons (eC (.ty "int")) fNil))) (e1 dNot (eN dIsi (fCons (eVar 0) (fCons (eC (.ty "bool")) fNil))))))
def g_is_whole : List D → Rq D := runP false 1 1 m_is_whole
def m_lowest : Fs Unit := (sCons (sAsg (eIf (eB (e2 dGt (eVar 1) (eC (.int 0)))) (eN dGcd (fCons (eVar 0) (fCons (eVar 1) fNil))) (e1 dNeg (eN dGcd (fCons (eVar 0) (fCons (eVar 1) fNil))))) (gN 2))
  (sRet (eTup (fCons (e2 dFdiv (eVar 0) (eVar 2)) (fCons (e2 dFdiv (eVar 1) (eVar 2)) fNil)))))
def g_lowest : List D → Rq D := runP false 3 2 m_lowest
def m_is_word : Fs Unit := (sRet (eAnd (eN dIsi (fCons (eVar 0) (fCons (eC (.ty "str")) fNil))) (eAnd (eChain dLe dLe (eC (.int 1)) (eN dLen (fCons (eVar 0) fNil)) (eC (.int 8))) (eN dAll (fCons (eComp (fIt (eVar 0)) [1] (gN 1) (eC (.bl true)) (e2 dIn (eVar 1) (eC (.str "abcdefghijklmnopqrstuvwxyz")))) fNil)))))
def g_is_word : List D → Rq D := runP false 2 1 m_is_word
def m__law_blended : Fs DW := (sCons (sPar [2, 3] (fCons (e2 dAdd (eSt 0 DW.turn) (eC (.int 1))) (fCons (eC (.int 0)) fNil)))
  (sCons (sSt 0 (fun w z => { w with turn := z }) (eVar 2))
  (sCons (sFor (fIt (eLst (fCons (eC (.int 2147483579)) (fCons (eC (.int 2147483629)) (fCons (eC (.int 2147483563)) fNil))))) (gN 1)
  (sCons (sAsg (e2 dAdd (e2 dMul (eC (.int 48271)) (eVar 2)) (e2 dFdiv (eVar 1) (eC (.int 53)))) (gN 4))
  (sCons (sForC 0 (gN 5)
  (sAsg (e2 dMod (eN dInt (fCons (e2 dAdd (e2 dAdd (e2 dMul (eVar 4) (eC (.int 69621))) (eVar 5)) (eVar 2)) fNil)) (eVar 1)) (gN 4)))
  (sAsg (e2 dAdd (e2 dMul (eVar 3) (eC (.int 2147483647))) (e2 dMod (eN dInt (fCons (e2 dPow (eVar 4) (eC (.int 5))) fNil)) (eVar 1))) (gN 3)))))
  (sRet (eVar 3)))))
def g__law_blended : DW → List D → Rs D DW := runB false 6 1 m__law_blended
def m__law_draw : Fs DW := (sCons (sIf (eB (e2 dEq (eSt 0 DW.rest) (eC (.int 0))))
  (sSt 0 (fun w z => { w with rest := z }) (eIf (eB (eGreat 0)) (ePop0 0) (eCallM g__law_blended (fCons (eVar 0) fNil))))
  sNil)
  (sCons (sAsg (e2 dMod (eN dInt (fCons (eSt 0 DW.rest) fNil)) (eVar 1)) (gN 2))
  (sCons (sSt 0 (fun w z => { w with rest := z }) (e2 dFdiv (eSt 0 DW.rest) (eVar 1)))
  (sRet (eVar 2)))))
def g__law_draw : DW → List D → Rs D DW := runB false 3 2 m__law_draw
def m__law_pick : Fs DW := (sRet (e2 dIdx (eVar 1) (eCallM g__law_draw (fCons (eVar 0) (fCons (eN dLen (fCons (eVar 1) fNil)) fNil)))))
def g__law_pick : DW → List D → Rs D DW := runB false 2 2 m__law_pick
noncomputable def m__law_shuffled : Fs DW := (sCons (sPar [2, 3] (fCons (eN dList (fCons (eVar 1) fNil)) (fCons (eLst fNil) fNil)))
  (sCons (sWhile (eB (e2 dNe (eVar 2) (eLst fNil)))
  (sX (xOwnX 3 opApp (xOwn 2 opPopAt (fCons (eCallM g__law_draw (fCons (eVar 0) (fCons (eN dLen (fCons (eVar 2) fNil)) fNil))) fNil)))))
  (sRet (eVar 3))))
noncomputable def g__law_shuffled : DW → List D → Rs D DW := runB true 4 2 m__law_shuffled
def m__law_is_truth : Fs Unit := (sRet (eIf (eB (eVar 1)) (e2 dIs (eVar 0) (eC (.bl true))) (e2 dIs (eVar 0) (eC (.bl false)))))
def g__law_is_truth : List D → Rq D := runP false 2 2 m__law_is_truth
noncomputable def m__law_same : Fs Unit := (sCons (sAsg (eLst (fCons (eTup (fCons (eVar 0) (fCons (eVar 1) fNil))) fNil)) (gN 2))
  (sCons (sWhile (eB (e2 dNe (eVar 2) (eLst fNil)))
  (sCons (sAsgX (xOwn 2 opPop fNil) (gT (gsCons (gN 3) (gsCons (gN 4) gsNil))))
  (sIf (eOr (eB (e2 dIs (eVar 4) (eC .non))) (eB (eN dIsi (fCons (eVar 4) (fCons (eC (.ty "bool")) fNil)))))
  (sIf (eIf (eB (e2 dIs (eVar 4) (eC .non))) (eB (e2 dIsNot (eVar 3) (eC .non))) (e1 dNot (eB (eCall g__law_is_truth (fCons (eVar 3) (fCons (eVar 4) fNil))))))
  (sRet (eC (.bl false)))
  sNil)
  (sIf (eB (e1 (dIsiT ["int", "str"]) (eVar 4)))
  (sIf (eOr (eB (eN dIsi (fCons (eVar 3) (fCons (eC (.ty "bool")) fNil)))) (eOr (eB (e2 dNe (eN dIsi (fCons (eVar 3) (fCons (eC (.ty "int")) fNil))) (eN dIsi (fCons (eVar 4) (fCons (eC (.ty "int")) fNil))))) (eB (e2 dNe (eVar 3) (eVar 4)))))
  (sRet (eC (.bl false)))
  sNil)
  (sIf (eB (eN dIsi (fCons (eVar 4) (fCons (eC (.ty "dict")) fNil))))
  sNo
  (sCons (sAsg (eLst (fCons (eAnd (eN dIsi (fCons (eVar 3) (fCons (eC (.ty "tuple")) fNil))) (eN dIsi (fCons (eVar 4) (fCons (eC (.ty "tuple")) fNil)))) (fCons (eAnd (eN dIsi (fCons (eVar 3) (fCons (eC (.ty "list")) fNil))) (eN dIsi (fCons (eVar 4) (fCons (eC (.ty "list")) fNil)))) fNil))) (gN 5))
  (sCons (sIf (eOr (eB (e2 dNotIn (eC (.bl true)) (eVar 5))) (eB (e2 dNe (eN dLen (fCons (eVar 3) fNil)) (eN dLen (fCons (eVar 4) fNil)))))
  (sRet (eC (.bl false)))
  sNil)
  (sX (xOwn 2 opExt (fCons (eComp (fZip (eVar 3) (eVar 4)) [7, 8] (gT (gsCons (gN 7) (gsCons (gN 8) gsNil))) (eC (.bl true)) (eTup (fCons (eVar 7) (fCons (eVar 8) fNil)))) fNil))))))))))
  (sRet (eC (.bl true)))))
noncomputable def g__law_same : List D → Rq D := runP false 9 2 m__law_same
noncomputable def m__law_q : Fs Unit := (sCons (sPar [2, 3] (fCons (eN dAbs (fCons (eVar 0) fNil)) (fCons (eN dAbs (fCons (eVar 1) fNil)) fNil)))
  (sCons (sWhile (eB (e2 dGt (eVar 3) (eC (.int 0))))
  (sPar [2, 3] (fCons (eVar 3) (fCons (e2 dMod (eN dInt (fCons (eVar 2) fNil)) (eVar 3)) fNil))))
  (sRet (eIf (eB (e2 dGt (eVar 1) (eC (.int 0)))) (eTup (fCons (e2 dFdiv (eVar 0) (eVar 2)) (fCons (e2 dFdiv (eVar 1) (eVar 2)) fNil))) (eTup (fCons (e2 dFdiv (e1 dNeg (eVar 0)) (eVar 2)) (fCons (e2 dFdiv (e1 dNeg (eVar 1)) (eVar 2)) fNil)))))))
noncomputable def g__law_q : List D → Rq D := runP false 4 2 m__law_q
noncomputable def m__law_words : Fs DW := (sCons (sAsg (eLst fNil) (gN 2))
  (sCons (sWhile (eB (e2 dLt (eN dLen (fCons (eVar 2) fNil)) (eVar 1)))
  (sCons (sAsg (eM1 dJoin (eC (.str "")) (eComp (fRange1 (e2 dAdd (eC (.int 1)) (eCallM g__law_draw (fCons (eVar 0) (fCons (eC (.int 8)) fNil))))) [4] (gN 4) (eC (.bl true)) (eCallM g__law_pick (fCons (eVar 0) (fCons (eN dListS (fCons (eC (.str "abcdefghijklmnopqrstuvwxyz")) fNil)) fNil))))) (gN 3))
  (sAsg (e2 dAdd (eVar 2) (eIf (eB (e2 dNotIn (eVar 3) (eVar 2))) (eLst (fCons (eVar 3) fNil)) (eIf (eAnd (eB (e2 dNotIn (e2 dAdd (eCut (eVar 3) fPn (fPs (eC (.int 1)))) (e2 dMul (eC (.str "q")) (eN dLen (fCons (eVar 2) fNil)))) (eVar 2))) (eB (e2 dLt (eN dLen (fCons (eVar 2) fNil)) (eC (.int 8))))) (eLst (fCons (e2 dAdd (eCut (eVar 3) fPn (fPs (eC (.int 1)))) (e2 dMul (eC (.str "q")) (eN dLen (fCons (eVar 2) fNil)))) fNil)) (eLst fNil)))) (gN 2))))
  (sRet (eN dSorted (fCons (eVar 2) fNil)))))
noncomputable def g__law_words : DW → List D → Rs D DW := runB false 5 2 m__law_words
def m__law_is_word : Fs Unit := (sCons (sIf (eOr (e1 dNot (eB (eN dIsi (fCons (eVar 0) (fCons (eC (.ty "str")) fNil))))) (e1 dNot (eB (eChain dLe dLe (eC (.int 1)) (eN dLen (fCons (eVar 0) fNil)) (eC (.int 8))))))
  (sRet (eC (.bl false)))
  sNil)
  (sRet (e2 dEq (eComp (fIt (eVar 0)) [1] (gN 1) (eB (e2 dNotIn (eVar 1) (eC (.str "abcdefghijklmnopqrstuvwxyz")))) (eVar 1)) (eLst fNil))))
def g__law_is_word : List D → Rq D := runP false 2 1 m__law_is_word
def m__law_is_weight : Fs Unit := (sRet (eAnd (eN dIsi (fCons (eVar 0) (fCons (eC (.ty "int")) fNil))) (eAnd (e1 dNot (eN dIsi (fCons (eVar 0) (fCons (eC (.ty "bool")) fNil)))) (e2 dGe (eVar 0) (eC (.int 0))))))
def g__law_is_weight : List D → Rq D := runP false 1 1 m__law_is_weight
end DL
end
noncomputable section
namespace DL
open L2 PySem PyProof.Rows PySem.Spec

/-! ### what a mirror's answer is asked to be -/
def Rv {α A : Type} (r : Rs α A) (Q : α → A → Prop) (X : Ex → A → Prop) : Prop := match r with
  | none => False
  | some (.ok (a, w)) => Q a w
  | some (.error (x, w)) => X x w
def Od {α : Type} (r : Option α) (Q : α → Prop) : Prop := match r with
  | none => False
  | some d => Q d
def Mv (r : Rq D) (Q : D → Prop) (X : Ex → Prop) : Prop := match r with
  | none => False
  | some (.ok d) => Q d
  | some (.error x) => X x
def Bv (d : D) (P R : Prop) : Prop := match d with
  | .bl true => P
  | .bl false => R
  | _ => False
def Sv {A : Type} (r : Option (Out A)) (Q : Out A → Prop) : Prop := match r with
  | none => False
  | some o => Q o
def thenO {A : Type} (o : Out A) (k : A → Env → Prop) (Q : Out A → Prop) : Prop := match o with
  | .nx w ρ => k w ρ
  | o => Q o
/-- the end of a round of a loop: on, or out -/
def roundO {A : Type} (o : Out A) (k : A → Env → Prop) (Q : Out A → Prop) : Prop := match o with
  | .nx w ρ => k w ρ
  | .ct w ρ => k w ρ
  | .brk w ρ => Q (.nx w ρ)
  | .ret d w => Q (.ret d w)
  | .exc x => Q (.exc x)
section
variable {α β A : Type} {Q : α → A → Prop} {X : Ex → A → Prop}
theorem Rv.mono {r : Rs α A} {Q Q' : α → A → Prop} {X X' : Ex → A → Prop} (h : Rv r Q X) (q : ∀ a w, Q a w → Q' a w) (x : ∀ e w, X e w → X' e w) : Rv r Q' X' := by
  unfold Rv at *
  split at h <;> first | exact h.elim | exact q _ _ h | exact x _ _ h
theorem Sv.mono {r : Option (Out A)} {Q Q' : Out A → Prop} (h : Sv r Q) (q : ∀ o, Q o → Q' o) : Sv r Q' := by
  unfold Sv at *
  split at h <;> first | exact h.elim | exact q _ h
theorem rv_eq {r : Rs α A} {a : α} {b : A} : Rv r (fun d w => d = a ∧ w = b) (fun _ _ => False) ↔ r = some (.ok (a, b)) := by
  unfold Rv
  split <;> simp
theorem rv_ex {r : Rs α A} {Q : α → A → Prop} : Rv r Q (fun _ _ => False) ↔ ∃ a b, r = some (.ok (a, b)) ∧ Q a b := by
  constructor
  · intro h
    unfold Rv at h
    split at h
    · exact h.elim
    · exact ⟨_, _, rfl, h⟩
    · exact h.elim
  · rintro ⟨a, b, rfl, h⟩
    exact h
theorem rv_congr {r : Rs α A} {P Q : α → A → Prop} {X : Ex → A → Prop} (h : ∀ a w, P a w ↔ Q a w) : Rv r P X ↔ Rv r Q X := by
  unfold Rv
  split
  · exact Iff.rfl
  · exact h _ _
  · exact Iff.rfl
theorem mv_eq {r : Rq D} {a : D} : Mv r (fun d => d = a) (fun _ => False) ↔ r = some (.ok a) := by
  unfold Mv
  split <;> simp
theorem mv_ex {r : Rq D} {Q : D → Prop} : Mv r Q (fun _ => False) ↔ ∃ a, r = some (.ok a) ∧ Q a := by
  constructor
  · intro h
    unfold Mv at h
    split at h
    · exact h.elim
    · exact ⟨_, rfl, h⟩
    · exact h.elim
  · rintro ⟨a, rfl, h⟩
    exact h
@[simp] theorem rv_ok {a : α} {w : A} : Rv (some (.ok (a, w))) Q X ↔ Q a w := Iff.rfl
@[simp] theorem rv_er {x : Ex} {w : A} : Rv (some (.error (x, w)) : Rs α A) Q X ↔ X x w := Iff.rfl
@[simp] theorem rv_none : Rv (none : Rs α A) Q X ↔ False := Iff.rfl
@[simp] theorem od_some {a : α} {P : α → Prop} : Od (some a) P ↔ P a := Iff.rfl
@[simp] theorem od_none {P : α → Prop} : Od (none : Option α) P ↔ False := Iff.rfl
theorem od_if {c : Prop} [Decidable c] {a : α} {P : α → Prop} : Od (if c then some a else none) P ↔ c ∧ P a := by
  split <;> simp [*]
@[simp] theorem mv_ok {d : D} {Q : D → Prop} {X : Ex → Prop} : Mv (some (.ok d)) Q X ↔ Q d := Iff.rfl
@[simp] theorem mv_er {x : Ex} {Q : D → Prop} {X : Ex → Prop} : Mv (some (.error x)) Q X ↔ X x := Iff.rfl
@[simp] theorem sv_some {o : Out A} {Q : Out A → Prop} : Sv (some o) Q ↔ Q o := Iff.rfl
@[simp] theorem sv_none {Q : Out A → Prop} : Sv (none : Option (Out A)) Q ↔ False := Iff.rfl
@[simp] theorem bv_bl {b : Bool} {P R : Prop} : Bv (.bl b) P R ↔ if b = true then P else R := by cases b <;> simp [Bv]
@[simp] theorem th_nx {w : A} {ρ : Env} {k : A → Env → Prop} {Q : Out A → Prop} : thenO (.nx w ρ) k Q ↔ k w ρ := Iff.rfl
@[simp] theorem th_ret {w : A} {d : D} {k : A → Env → Prop} {Q : Out A → Prop} : thenO (.ret d w) k Q ↔ Q (.ret d w) := Iff.rfl
@[simp] theorem th_exc {x : Ex × A} {k : A → Env → Prop} {Q : Out A → Prop} : thenO (.exc x) k Q ↔ Q (.exc x) := Iff.rfl
@[simp] theorem th_brk {w : A} {ρ : Env} {k : A → Env → Prop} {Q : Out A → Prop} : thenO (.brk w ρ) k Q ↔ Q (.brk w ρ) := Iff.rfl
@[simp] theorem th_ct {w : A} {ρ : Env} {k : A → Env → Prop} {Q : Out A → Prop} : thenO (.ct w ρ) k Q ↔ Q (.ct w ρ) := Iff.rfl
@[simp] theorem ro_nx {w : A} {ρ : Env} {k : A → Env → Prop} {Q : Out A → Prop} : roundO (.nx w ρ) k Q ↔ k w ρ := Iff.rfl
@[simp] theorem ro_ret {w : A} {d : D} {k : A → Env → Prop} {Q : Out A → Prop} : roundO (.ret d w) k Q ↔ Q (.ret d w) := Iff.rfl
@[simp] theorem ro_exc {x : Ex × A} {k : A → Env → Prop} {Q : Out A → Prop} : roundO (.exc x) k Q ↔ Q (.exc x) := Iff.rfl
@[simp] theorem ro_brk {w : A} {ρ : Env} {k : A → Env → Prop} {Q : Out A → Prop} : roundO (.brk w ρ) k Q ↔ Q (.nx w ρ) := Iff.rfl
@[simp] theorem ro_ct {w : A} {ρ : Env} {k : A → Env → Prop} {Q : Out A → Prop} : roundO (.ct w ρ) k Q ↔ k w ρ := Iff.rfl
end
section
variable {α β A : Type} {w : A} {ρ : Env} {X : Ex → A → Prop}
@[simp] theorem rv_bind {f : A → Env → Rs α A} {g : α → A → Env → Rs β A} {Q : β → A → Prop} : Rv (bindE f g w ρ) Q X ↔ Rv (f w ρ) (fun a w1 => Rv (g a w1 ρ) Q X) X := by
  unfold bindE
  cases h : f w ρ with
  | none => simp
  | some r =>
    match r with
    | .ok (a, w1) => simp
    | .error (x, w1) => simp
variable {Q : D → A → Prop} {QL : List D → A → Prop} {f f1 f2 f3 c : Fe A} {fl gl : Fl A}
@[simp] theorem rv_okE {r : Option D} : Rv (okE r w) Q X ↔ Od r fun d => Q d w := by cases r <;> rfl
@[simp] theorem rv_okL {r : Option (List D)} : Rv (okL r w) QL X ↔ Od r fun d => QL d w := by cases r <;> rfl
@[simp] theorem rv_var {i : Nat} : Rv (eVar i w ρ) Q X ↔ Od (ρ[i]?) fun o => Od o fun d => Q d w := by
  unfold eVar
  rcases ρ[i]? with _ | _ | d <;> simp
@[simp] theorem rv_c {d : D} : Rv (eC d w ρ) Q X ↔ Q d w := Iff.rfl
@[simp] theorem rv_no : Rv (eNo w ρ : Rs α A) (fun _ _ => True) X ↔ False := Iff.rfl
@[simp] theorem rv_nil : Rv (fNil w ρ) QL X ↔ QL [] w := Iff.rfl
@[simp] theorem rv_cons : Rv (fCons f fl w ρ) QL X ↔ Rv (f w ρ) (fun d w1 => Rv (fl w1 ρ) (fun ds w2 => QL (d :: ds) w2) X) X := by simp [fCons]
@[simp] theorem rv_e1 {g : D → Option D} : Rv (e1 g f w ρ) Q X ↔ Rv (f w ρ) (fun a w1 => Od (g a) fun d => Q d w1) X := by simp [e1]
@[simp] theorem rv_e2 {g : D → D → Option D} : Rv (e2 g f1 f2 w ρ) Q X ↔ Rv (f1 w ρ) (fun a w1 => Rv (f2 w1 ρ) (fun b w2 => Od (g a b) fun d => Q d w2) X) X := by simp [e2]
@[simp] theorem rv_eN {g : List D → Option D} : Rv (eN g fl w ρ) Q X ↔ Rv (fl w ρ) (fun ds w1 => Od (g ds) fun d => Q d w1) X := by simp [eN]
@[simp] theorem rv_eMt {g : D → List D → Option D} : Rv (eMt g f fl w ρ) Q X ↔ Rv (f w ρ) (fun a w1 => Rv (fl w1 ρ) (fun ds w2 => Od (g a ds) fun d => Q d w2) X) X := by simp [eMt]
@[simp] theorem rv_eB : Rv (eB f w ρ) Q X ↔ Rv (f w ρ) (fun d w1 => Bv d (Q (.bl true) w1) (Q (.bl false) w1)) X := by
  unfold eB
  exact rv_bind.trans (rv_congr fun d w1 => by cases d <;> first | rfl | (rename_i b; cases b <;> rfl))
@[simp] theorem rv_and : Rv (eAnd f1 f2 w ρ) Q X ↔ Rv (f1 w ρ) (fun d w1 => Bv d (Rv (f2 w1 ρ) Q X) (Q (.bl false) w1)) X := by
  unfold eAnd
  exact rv_bind.trans (rv_congr fun d w1 => by cases d <;> first | rfl | (rename_i b; cases b <;> rfl))
@[simp] theorem rv_or : Rv (eOr f1 f2 w ρ) Q X ↔ Rv (f1 w ρ) (fun d w1 => Bv d (Q (.bl true) w1) (Rv (f2 w1 ρ) Q X)) X := by
  unfold eOr
  exact rv_bind.trans (rv_congr fun d w1 => by cases d <;> first | rfl | (rename_i b; cases b <;> rfl))
@[simp] theorem rv_if : Rv (eIf c f1 f2 w ρ) Q X ↔ Rv (c w ρ) (fun d w1 => Bv d (Rv (f1 w1 ρ) Q X) (Rv (f2 w1 ρ) Q X)) X := by
  unfold eIf
  exact rv_bind.trans (rv_congr fun d w1 => by cases d <;> first | rfl | (rename_i b; cases b <;> rfl))
@[simp] theorem rv_tup : Rv (eTup fl w ρ) Q X ↔ Rv (fl w ρ) (fun ds w1 => Q (.tup ds) w1) X := by simp [eTup]
@[simp] theorem rv_lst : Rv (eLst fl w ρ) Q X ↔ Rv (fl w ρ) (fun ds w1 => Q (.lst ds) w1) X := by simp [eLst]
@[simp] theorem rv_call {m : List D → Rq D} : Rv (eCall m fl w ρ) Q X ↔ Rv (fl w ρ) (fun ds w1 => Mv (m ds) (fun d => Q d w1) (fun x => X x w1)) X := by
  unfold eCall
  refine rv_bind.trans (rv_congr fun ds w1 => ?_)
  show Rv (match m ds with
    | none => none
    | some (.error x) => some (.error (x, w1))
    | some (.ok d) => some (.ok (d, w1)) : Rs D A) Q X ↔ _
  rcases m ds with _ | _ | _ <;> exact Iff.rfl
@[simp] theorem rv_callM {m : A → List D → Rs D A} : Rv (eCallM m fl w ρ) Q X ↔ Rv (fl w ρ) (fun ds w1 => Rv (m w1 ds) Q X) X := by simp [eCallM]
@[simp] theorem rv_it : Rv (fIt f w ρ) QL X ↔ Rv (f w ρ) (fun d w1 => Od (itemsOf d) fun ds => QL ds w1) X := by simp [fIt]
@[simp] theorem rv_cut {l h : Fp A} : Rv (eCut f l h w ρ) Q X ↔ Rv (f w ρ) (fun d w1 => Rv (l w1 ρ) (fun lo w2 => Rv (h w2 ρ) (fun hi w3 => Od (dCut d lo hi) fun d => Q d w3) X) X) X := by simp [eCut]
@[simp] theorem rv_cutL {l h : Fp A} : Rv (eCutL f l h w ρ) Q X ↔ Rv (f w ρ) (fun d w1 => Rv (l w1 ρ) (fun lo w2 => Rv (h w2 ρ) (fun hi w3 => Od (dCutL d lo hi) fun d => Q d w3) X) X) X := by simp [eCutL]
@[simp] theorem rv_pn {QO : Option Int → A → Prop} : Rv (fPn w ρ) QO X ↔ QO none w := Iff.rfl
def Iv (d : D) (P : Int → Prop) : Prop := match d with
  | .int i => P i
  | _ => False
@[simp] theorem iv_int {i : Int} {P : Int → Prop} : Iv (.int i) P ↔ P i := Iff.rfl
@[simp] theorem rv_ps {QO : Option Int → A → Prop} : Rv (fPs f w ρ) QO X ↔ Rv (f w ρ) (fun d w1 => Iv d fun i => QO (some i) w1) X := by
  unfold fPs
  exact rv_bind.trans (rv_congr fun d w1 => by cases d <;> first | rfl | (rename_i b; cases b <;> rfl))
/-! statements -/
variable {QS : Out A → Prop} {g1 g2 : Fs A}
theorem sv_seq {f : A → Env → Rs α A} {k : α → A → Env → Option (Out A)} : Sv (seqE f k w ρ) QS ↔ Rv (f w ρ) (fun a w1 => Sv (k a w1 ρ) QS) (fun x w1 => QS (.exc (x, w1))) := by
  unfold seqE
  rcases f w ρ with _ | ⟨x, w1⟩ | ⟨a, w1⟩ <;> exact Iff.rfl
@[simp] theorem sv_nil : Sv (sNil w ρ) QS ↔ QS (.nx w ρ) := Iff.rfl
@[simp] theorem sv_brk : Sv (sBrk w ρ) QS ↔ QS (.brk w ρ) := Iff.rfl
@[simp] theorem sv_ct : Sv (sCt w ρ) QS ↔ QS (.ct w ρ) := Iff.rfl
@[simp] theorem sv_cons : Sv (sCons g1 g2 w ρ) QS ↔ Sv (g1 w ρ) fun o => thenO o (fun w1 ρ1 => Sv (g2 w1 ρ1) QS) QS := by
  unfold sCons
  rcases g1 w ρ with _ | o
  · exact Iff.rfl
  · cases o <;> exact Iff.rfl
@[simp] theorem sv_drop : Sv (sDrop f w ρ) QS ↔ Rv (f w ρ) (fun _ w1 => QS (.nx w1 ρ)) (fun x w1 => QS (.exc (x, w1))) := by
  unfold sDrop
  exact sv_seq
@[simp] theorem sv_ret : Sv (sRet f w ρ) QS ↔ Rv (f w ρ) (fun d w1 => QS (.ret d w1)) (fun x w1 => QS (.exc (x, w1))) := by
  unfold sRet
  exact sv_seq
@[simp] theorem sv_if : Sv (sIf c g1 g2 w ρ) QS ↔ Rv (c w ρ) (fun d w1 => Bv d (Sv (g1 w1 ρ) QS) (Sv (g2 w1 ρ) QS)) (fun x w1 => QS (.exc (x, w1))) := by
  unfold sIf
  exact sv_seq.trans (rv_congr fun d w1 => by cases d <;> first | rfl | (rename_i b; cases b <;> rfl))
@[simp] theorem sv_asg {g : Gt} : Sv (sAsg f g w ρ) QS ↔ Rv (f w ρ) (fun d w1 => Od (g d ρ) fun ρ1 => QS (.nx w1 ρ1)) (fun x w1 => QS (.exc (x, w1))) := by
  unfold sAsg
  refine sv_seq.trans (rv_congr fun d w1 => ?_)
  show Sv (match g d ρ with
    | none => none
    | some ρ' => some (.nx w1 ρ') : Option (Out A)) QS ↔ _
  cases g d ρ <;> exact Iff.rfl
@[simp] theorem od_gN {i : Nat} {d : D} {P : Env → Prop} : Od (gN i d ρ) P ↔ P (ρ.set i (some d)) := Iff.rfl
@[simp] theorem sv_raise {x : Ex} : Sv (sRaise x w ρ) QS ↔ QS (.exc (x, w)) := Iff.rfl
@[simp] theorem sv_par {is : List Nat} : Sv (sPar is fl w ρ) QS ↔ Rv (fl w ρ) (fun ds w1 => ds.length = is.length ∧ QS (.nx w1 (setE ρ is ds))) (fun x w1 => QS (.exc (x, w1))) := by
  unfold sPar
  refine sv_seq.trans (rv_congr fun ds w1 => ?_)
  show Sv (if ds.length = is.length then some (.nx w1 (setE ρ is ds)) else none : Option (Out A)) QS ↔ _
  split <;> simp [*]
@[simp] theorem sv_for {g : Gt} {b : Fs A} : Sv (sFor fl g b w ρ) QS ↔ Rv (fl w ρ) (fun ds w1 => Sv (forL g b ds w1 ρ) QS) (fun x w1 => QS (.exc (x, w1))) := by
  unfold sFor
  exact sv_seq
theorem sv_forL {g : Gt} {b : Fs A} {d : D} {ds : List D} : Sv (forL g b (d :: ds) w ρ) QS ↔ Od (g d ρ) fun ρ1 => Sv (b w ρ1) fun o => roundO o (fun w2 ρ2 => Sv (forL g b ds w2 ρ2) QS) QS := by
  rw [forL]
  cases g d ρ with
  | none => exact Iff.rfl
  | some ρ1 =>
    dsimp only
    rw [od_some]
    rcases b w ρ1 with _ | o
    · exact Iff.rfl
    · cases o <;> exact Iff.rfl
theorem sv_forN {g : Gt} {b : Fs A} : Sv (forL g b [] w ρ) QS ↔ QS (.nx w ρ) := Iff.rfl
/-- a for by an invariant: what of the items is left -/
theorem sv_forI {g : Gt} {b : Fs A} (I : List D → A → Env → Prop) (step : ∀ d ds w ρ, I (d :: ds) w ρ → Od (g d ρ) fun ρ1 => Sv (b w ρ1) fun o => roundO o (fun w2 ρ2 => I ds w2 ρ2) QS) (fin : ∀ w ρ, I [] w ρ → QS (.nx w ρ)) :
    ∀ (ds : List D) (w : A) (ρ : Env), I ds w ρ → Sv (forL g b ds w ρ) QS
  | [], w, ρ, h => fin w ρ h
  | d :: ds, w, ρ, h => by
    rw [sv_forL]
    have st := step d ds w ρ h
    cases e : g d ρ with
    | none =>
      rw [e] at st
      exact st.elim
    | some ρ1 =>
      rw [e] at st
      refine Sv.mono st fun o ho => ?_
      cases o with
      | nx w2 ρ2 => exact sv_forI I step fin ds w2 ρ2 ho
      | ct w2 ρ2 => exact sv_forI I step fin ds w2 ρ2 ho
      | brk w2 ρ2 => exact ho
      | ret d w2 => exact ho
      | exc x => exact ho
end
end DL
end
noncomputable section
namespace DL
open L2 PySem PyProof.Rows PySem.Spec
section
variable {α β A : Type} {w : A} {ρ : Env} {X : Ex → A → Prop} {Q : D → A → Prop} {QL : List D → A → Prop} {f f1 f2 f3 c : Fe A} {fl gl : Fl A} {QS : Out A → Prop} {g1 g2 b : Fs A} {g : Gt}
/-! ### defs -/
def outB {A : Type} (fr : Bool) (Q : D → A → Prop) (X : Ex → A → Prop) : Out A → Prop
  | .ret d w => Q d w
  | .nx w _ => fr = false ∧ Q .non w
  | .exc x => X x.1 x.2
  | _ => False
@[simp] theorem outB_ret {fr : Bool} {d : D} : outB fr Q X (.ret d w) ↔ Q d w := Iff.rfl
@[simp] theorem outB_nx {fr : Bool} : outB fr Q X (.nx w ρ) ↔ fr = false ∧ Q .non w := Iff.rfl
@[simp] theorem outB_exc {fr : Bool} {x : Ex × A} : outB fr Q X (.exc x) ↔ X x.1 x.2 := Iff.rfl
@[simp] theorem rv_runB {fr : Bool} {n np : Nat} {b : Fs A} {ds : List D} : Rv (runB fr n np b w ds) Q X ↔ ds.length = np ∧ Sv (b w (ds.map some ++ List.replicate (n - np) none)) (outB fr Q X) := by
  unfold runB
  by_cases h : ds.length = np
  · rw [if_pos h]
    simp only [h, true_and]
    rcases b w (ds.map some ++ List.replicate (n - np) none) with _ | o
    · exact Iff.rfl
    · cases o with
      | nx w1 ρ1 => cases fr <;> simp [Rv, Sv, outB]
      | ret d w1 => exact Iff.rfl
      | brk w1 ρ1 => exact Iff.rfl
      | ct w1 ρ1 => exact Iff.rfl
      | exc x => exact Iff.rfl
  · rw [if_neg h]
    simp [h]
@[simp] theorem mv_runP {fr : Bool} {n np : Nat} {b : Fs Unit} {ds : List D} {Q : D → Prop} {X : Ex → Prop} : Mv (runP fr n np b ds) Q X ↔ ds.length = np ∧ Sv (b () (ds.map some ++ List.replicate (n - np) none)) (outB fr (fun d _ => Q d) fun x _ => X x) := by
  rw [← rv_runB]
  unfold runP
  rcases runB fr n np b () ds with _ | ⟨x, w1⟩ | ⟨a, w1⟩ <;> exact Iff.rfl
/-! ### chains, ranges, zips -/
@[simp] theorem rv_chain {h h' : D → D → Option D} : Rv (eChain h h' f1 f2 f3 w ρ) Q X ↔ Rv (f1 w ρ) (fun a w1 => Rv (f2 w1 ρ) (fun b w2 => Od (h a b) fun d => Bv d (Rv (f3 w2 ρ) (fun c w3 => Od (h' b c) fun d => Q d w3) X) (Q (.bl false) w2)) X) X := by
  unfold eChain
  refine rv_bind.trans (rv_congr fun a w1 => rv_bind.trans (rv_congr fun b w2 => ?_))
  show Rv (match h a b with
    | some (.bl true) => bindE f3 (fun c w _ => okE (h' b c) w) w2 ρ
    | some (.bl false) => some (.ok (.bl false, w2))
    | _ => none : Rs D A) Q X ↔ _
  rcases h a b with _ | d
  · exact Iff.rfl
  · cases d with
    | bl b =>
      cases b
      · exact Iff.rfl
      · show Rv (bindE f3 _ w2 ρ) Q X ↔ _
        simp [Bv]
    | _ => exact Iff.rfl
@[simp] theorem rv_range1 : Rv (fRange1 f w ρ) QL X ↔ Rv (f w ρ) (fun d w1 => Iv d fun j => (-(2 ^ 62) ≤ j ∧ j < 2 ^ 62) ∧ QL (rangeD 0 j.toNat) w1) X := by
  unfold fRange1
  refine rv_bind.trans (rv_congr fun d w1 => ?_)
  cases d with
  | int j =>
    show Rv (if decide (-(2 ^ 62) ≤ j) && decide (j < 2 ^ 62) then some (.ok (rangeD 0 j.toNat, w1)) else none) QL X ↔ _
    rw [iv_int]
    split
    · rename_i h
      rw [Bool.and_eq_true, decide_eq_true_eq, decide_eq_true_eq] at h
      exact ⟨fun q => ⟨h, q⟩, fun q => q.2⟩
    · rename_i h
      rw [Bool.and_eq_true, decide_eq_true_eq, decide_eq_true_eq] at h
      simp only [rv_none, h, false_and]
  | _ => exact Iff.rfl
@[simp] theorem rv_range2 : Rv (fRange2 f1 f2 w ρ) QL X ↔ Rv (f1 w ρ) (fun a w1 => Rv (f2 w1 ρ) (fun b w2 => Iv a fun i => Iv b fun j => (-(2 ^ 62) ≤ i ∧ i < 2 ^ 62 ∧ -(2 ^ 62) ≤ j ∧ j < 2 ^ 62) ∧ QL (rangeD i (j - i).toNat) w2) X) X := by
  unfold fRange2
  refine rv_bind.trans (rv_congr fun a w1 => rv_bind.trans (rv_congr fun b w2 => ?_))
  cases a with
  | int i =>
    cases b with
    | int j =>
      show Rv (if decide (-(2 ^ 62) ≤ i) && decide (i < 2 ^ 62) && decide (-(2 ^ 62) ≤ j) && decide (j < 2 ^ 62) then some (.ok (rangeD i (j - i).toNat, w2)) else none) QL X ↔ _
      rw [iv_int, iv_int]
      split
      · rename_i h
        simp only [Bool.and_eq_true, decide_eq_true_eq, and_assoc] at h
        exact ⟨fun q => ⟨h, q⟩, fun q => q.2⟩
      · rename_i h
        simp only [Bool.and_eq_true, decide_eq_true_eq, and_assoc] at h
        simp only [rv_none, h, false_and]
    | _ => exact Iff.rfl
  | _ => exact Iff.rfl
@[simp] theorem rv_zip : Rv (fZip f1 f2 w ρ) QL X ↔ Rv (f1 w ρ) (fun a w1 => Rv (f2 w1 ρ) (fun b w2 => Od (zipOf a b) fun ds => QL ds w2) X) X := by simp [fZip]
@[simp] theorem rv_zip3 : Rv (fZip3 f1 f2 f3 w ρ) QL X ↔ Rv (f1 w ρ) (fun a w1 => Rv (f2 w1 ρ) (fun b w2 => Rv (f3 w2 ρ) (fun c w3 => Od (zip3Of a b c) fun ds => QL ds w3) X) X) X := by simp [fZip3]
def Tv (d : D) (P : Str → Prop) : Prop := match d with
  | .str i => P i
  | _ => False
@[simp] theorem tv_str {i : Str} {P : Str → Prop} : Tv (.str i) P ↔ P i := Iff.rfl
@[simp] theorem rv_M1 {h : Str → D → Option D} : Rv (eM1 h f1 f2 w ρ) Q X ↔ Rv (f1 w ρ) (fun a w1 => Tv a fun s => Rv (f2 w1 ρ) (fun b w2 => Od (h s b) fun d => Q d w2) X) X := by
  unfold eM1
  refine rv_bind.trans (rv_congr fun a w1 => ?_)
  cases a with
  | str s =>
    show Rv (bindE f2 (fun b w _ => okE (h s b) w) w1 ρ) Q X ↔ _
    simp
  | _ => exact Iff.rfl
@[simp] theorem rv_caught {O : List Nat} : Rv (eCaught O f w ρ) Q X ↔ Rv (f w (maskE O ρ)) (fun _ w1 => Q .non w1) (fun x w1 => Q (exD x) w1) := by
  unfold eCaught
  rcases f w (maskE O ρ) with _ | ⟨x, w1⟩ | ⟨a, w1⟩ <;> exact Iff.rfl
/-! ### lists turned in place -/
def Xv {A : Type} (r : Option (Except (Ex × A) (D × A × Env))) (Q : D → A → Env → Prop) (X : Ex → A → Prop) : Prop := match r with
  | none => False
  | some (.ok (d, w, ρ)) => Q d w ρ
  | some (.error (x, w)) => X x w
def Lv (o : Option (Option D)) (P : List D → Prop) : Prop := match o with
  | some (some (.lst l)) => P l
  | _ => False
@[simp] theorem lv_lst {l : List D} {P : List D → Prop} : Lv (some (some (.lst l))) P ↔ P l := Iff.rfl
@[simp] theorem sv_x {fx : Fx A} : Sv (sX fx w ρ) QS ↔ Xv (fx w ρ) (fun _ w1 ρ1 => QS (.nx w1 ρ1)) (fun x w1 => QS (.exc (x, w1))) := by
  unfold sX
  rcases fx w ρ with _ | ⟨x, w1⟩ | ⟨a, w1, ρ1⟩ <;> exact Iff.rfl
@[simp] theorem sv_asgX {fx : Fx A} : Sv (sAsgX fx g w ρ) QS ↔ Xv (fx w ρ) (fun d w1 ρ1 => Od (g d ρ1) fun ρ2 => QS (.nx w1 ρ2)) (fun x w1 => QS (.exc (x, w1))) := by
  unfold sAsgX
  rcases fx w ρ with _ | ⟨x, w1⟩ | ⟨a, w1, ρ1⟩
  · exact Iff.rfl
  · exact Iff.rfl
  · show Sv (match g a ρ1 with
      | none => none
      | some ρ2 => some (.nx w1 ρ2) : Option (Out A)) QS ↔ Od (g a ρ1) fun ρ2 => QS (.nx w1 ρ2)
    cases g a ρ1 <;> exact Iff.rfl
@[simp] theorem rx_own {i : Nat} {op : Opw} {Q : D → A → Env → Prop} : Xv (xOwn i op fl w ρ) Q X ↔ Lv (ρ[i]?) fun l => Rv (fl w ρ) (fun ds w1 => Od (op l ds) fun p => Q p.1 w1 (ρ.set i (some (.lst p.2)))) X := by
  unfold xOwn
  rcases ρ[i]? with _ | _ | d
  · exact Iff.rfl
  · exact Iff.rfl
  · cases d with
    | lst l =>
      show Xv (match fl w ρ with
        | none => none
        | some (.error x) => some (.error x)
        | some (.ok (ds, w')) => match op l ds with
          | none => none
          | some (d, l') => some (.ok (d, w', ρ.set i (some (.lst l'))))) Q X ↔ Rv (fl w ρ) (fun ds w1 => Od (op l ds) fun p => Q p.1 w1 (ρ.set i (some (.lst p.2)))) X
      rcases fl w ρ with _ | ⟨x, w1⟩ | ⟨ds, w1⟩
      · exact Iff.rfl
      · exact Iff.rfl
      · show Xv (match op l ds with
          | none => none
          | some (d, l') => some (.ok (d, w1, ρ.set i (some (.lst l'))))) Q X ↔ Od (op l ds) fun p => Q p.1 w1 (ρ.set i (some (.lst p.2)))
        rcases op l ds with _ | ⟨d, l'⟩ <;> exact Iff.rfl
    | _ => exact Iff.rfl
@[simp] theorem rx_ownX {i : Nat} {op : Opw} {fx : Fx A} {Q : D → A → Env → Prop} : Xv (xOwnX i op fx w ρ) Q X ↔ Lv (ρ[i]?) fun _ => Xv (fx w ρ) (fun b w1 ρ1 => Lv (ρ1[i]?) fun l => Od (op l [b]) fun p => Q p.1 w1 (ρ1.set i (some (.lst p.2)))) X := by
  unfold xOwnX
  rcases ρ[i]? with _ | _ | d
  · exact Iff.rfl
  · exact Iff.rfl
  · cases d with
    | lst l =>
      show Xv (match fx w ρ with
        | none => none
        | some (.error x) => some (.error x)
        | some (.ok (b, w', ρ')) => match ρ'[i]? with
          | some (some (.lst l)) => match op l [b] with
            | none => none
            | some (d, l') => some (.ok (d, w', ρ'.set i (some (.lst l'))))
          | _ => none) Q X ↔ Xv (fx w ρ) (fun b w1 ρ1 => Lv (ρ1[i]?) fun l => Od (op l [b]) fun p => Q p.1 w1 (ρ1.set i (some (.lst p.2)))) X
      rcases fx w ρ with _ | ⟨x, w1⟩ | ⟨b, w1, ρ1⟩
      · exact Iff.rfl
      · exact Iff.rfl
      · show Xv (match ρ1[i]? with
          | some (some (.lst l)) => match op l [b] with
            | none => none
            | some (d, l') => some (.ok (d, w1, ρ1.set i (some (.lst l'))))
          | _ => none) Q X ↔ Lv (ρ1[i]?) fun l => Od (op l [b]) fun p => Q p.1 w1 (ρ1.set i (some (.lst p.2)))
        rcases ρ1[i]? with _ | _ | d
        · exact Iff.rfl
        · exact Iff.rfl
        · cases d with
          | lst l =>
            show Xv (match op l [b] with
              | none => none
              | some (d, l') => some (.ok (d, w1, ρ1.set i (some (.lst l'))))) Q X ↔ Od (op l [b]) fun p => Q p.1 w1 (ρ1.set i (some (.lst p.2)))
            rcases op l [b] with _ | ⟨d, l'⟩ <;> exact Iff.rfl
          | _ => exact Iff.rfl
    | _ => exact Iff.rfl
@[simp] theorem sv_aug {i : Nat} {h : D → D → Option D} : Sv (sAug i h f w ρ) QS ↔ Od (ρ[i]?) fun o => Od o fun a => Rv (f w ρ) (fun b w1 => Od (h a b) fun d => QS (.nx w1 (ρ.set i (some d)))) (fun x w1 => QS (.exc (x, w1))) := by
  unfold sAug
  rcases ρ[i]? with _ | _ | d
  · exact Iff.rfl
  · exact Iff.rfl
  · show Sv (seqE f _ w ρ) QS ↔ _
    refine sv_seq.trans (rv_congr fun b w1 => ?_)
    show Sv (match h d b with
      | none => none
      | some d => some (.nx w1 (ρ.set i (some d))) : Option (Out A)) QS ↔ Od (h d b) _
    cases h d b <;> exact Iff.rfl
@[simp] theorem sv_put {i : Nat} {fi : Fe A} : Sv (sPut i fi f w ρ) QS ↔ Lv (ρ[i]?) fun _ => Rv (f w ρ) (fun b w1 => Rv (fi w1 ρ) (fun d w2 => Iv d fun n => Lv (ρ[i]?) fun l => Od (ixN l.length n) fun j => QS (.nx w2 (ρ.set i (some (.lst (l.set j b)))))) (fun x w1 => QS (.exc (x, w1)))) (fun x w1 => QS (.exc (x, w1))) := by
  unfold sPut
  rcases e : ρ[i]? with _ | _ | d
  · exact Iff.rfl
  · exact Iff.rfl
  · cases d with
    | lst l =>
      show Sv (seqE f _ w ρ) QS ↔ _
      refine sv_seq.trans (rv_congr fun b w1 => sv_seq.trans (rv_congr fun d w2 => ?_))
      show Sv (match d, ρ[i]? with
        | .int n, some (some (.lst l)) => match ixN l.length n with
          | some j => some (.nx w2 (ρ.set i (some (.lst (l.set j b)))))
          | none => none
        | _, _ => none : Option (Out A)) QS ↔ Iv d fun n => Lv (some (some (.lst l))) fun l => Od (ixN l.length n) fun j => QS (.nx w2 (ρ.set i (some (.lst (l.set j b)))))
      rw [e]
      cases d with
      | int n =>
        show Sv (match ixN l.length n with
          | some j => some (.nx w2 (ρ.set i (some (.lst (l.set j b)))))
          | none => none : Option (Out A)) QS ↔ Od (ixN l.length n) _
        cases ixN l.length n <;> exact Iff.rfl
      | _ => exact Iff.rfl
    | _ => exact Iff.rfl
/-! ### comprehensions -/
theorem rv_comp {vs : List Nat} {tt te : Fe A} : Rv (eComp fl vs g tt te w ρ) Q X ↔ Rv (fl w ρ) (fun ds w1 => Rv (compL g tt te ds w1 (wipeE ρ vs)) (fun ys w2 => ys.length < 16000000 ∧ Q (.lst ys) w2) (fun _ _ => False)) X := by
  unfold eComp
  refine rv_bind.trans (rv_congr fun ds w1 => ?_)
  show Rv (match compL g tt te ds w1 (wipeE ρ vs) with
    | some (.ok (ys, w')) => if ys.length < 16000000 then some (.ok (.lst ys, w')) else none
    | _ => none) Q X ↔ _
  rcases compL g tt te ds w1 (wipeE ρ vs) with _ | ⟨x, w2⟩ | ⟨ys, w2⟩
  · exact Iff.rfl
  · exact Iff.rfl
  · show Rv (if ys.length < 16000000 then some (.ok (.lst ys, w2)) else none) Q X ↔ ys.length < 16000000 ∧ Q (.lst ys) w2
    split <;> simp [*]
/-- a comprehension by an invariant over what is left and what is made -/
theorem rv_compI {tt te : Fe A} (I : List D → List D → A → Prop) (step : ∀ d ds ys w, I (d :: ds) ys w → Od (g d ρ) fun ρ1 => Rv (tt w ρ1) (fun t w1 => Bv t (Rv (te w1 ρ1) (fun y w2 => I ds (ys ++ [y]) w2) fun _ _ => False) (I ds ys w1)) fun _ _ => False) :
    ∀ (ds ys : List D) (w : A), I ds ys w → Rv (compL g tt te ds w ρ) (fun zs w1 => I [] (ys ++ zs) w1) fun _ _ => False
  | [], ys, w, h => by
    show I [] (ys ++ []) w
    rw [List.append_nil]
    exact h
  | d :: ds, ys, w, h => by
    have st := step d ds ys w h
    unfold compL
    cases e : g d ρ with
    | none =>
      rw [e] at st
      exact st.elim
    | some ρ1 =>
      rw [e, od_some] at st
      dsimp only
      rcases e2 : tt w ρ1 with _ | ⟨x, w1⟩ | ⟨t, w1⟩
      · rw [e2] at st
        exact st.elim
      · rw [e2] at st
        exact st.elim
      · rw [e2, rv_ok] at st
        cases t with
        | bl t =>
          cases t with
          | false => exact rv_compI I step ds ys w1 st
          | true =>
            have st : Rv (te w1 ρ1) (fun y w2 => I ds (ys ++ [y]) w2) fun _ _ => False := st
            dsimp only
            rcases e3 : te w1 ρ1 with _ | ⟨x, w2⟩ | ⟨y, w2⟩
            · rw [e3] at st
              exact st.elim
            · rw [e3] at st
              exact st.elim
            · rw [e3, rv_ok] at st
              have ih := rv_compI I step ds (ys ++ [y]) w2 st
              dsimp only
              rcases e4 : compL g tt te ds w2 ρ with _ | ⟨x, w3⟩ | ⟨zs, w3⟩
              · rw [e4] at ih
                exact ih.elim
              · rw [e4] at ih
                exact ih.elim
              · rw [e4, rv_ok, List.append_assoc] at ih
                exact ih
        | _ => exact st.elim
/-- of a pure comprehension: filtered and mapped -/
theorem comp_map {tt te : Fe A} (p : D → Bool) (h : D → D) : ∀ (ds : List D), (∀ d ∈ ds, ∃ ρ1, g d ρ = some ρ1 ∧ tt w ρ1 = some (.ok (.bl (p d), w)) ∧ (p d = true → te w ρ1 = some (.ok (h d, w)))) → compL g tt te ds w ρ = some (.ok ((ds.filter p).map h, w))
  | [], _ => rfl
  | d :: ds, hd => by
    obtain ⟨ρ1, h1, h2, h3⟩ := hd d List.mem_cons_self
    have ih := comp_map p h ds fun x hx => hd x (List.mem_cons_of_mem _ hx)
    unfold compL
    rw [h1]
    dsimp only
    rw [h2]
    cases e : p d with
    | true =>
      dsimp only
      rw [h3 e]
      dsimp only
      rw [ih, List.filter_cons_of_pos e]
      rfl
    | false =>
      dsimp only
      rw [ih, List.filter_cons_of_neg (by simp [e])]
/-! ### while, by its rounds -/
theorem whileN_mono : ∀ (n m : Nat) (w : A) (ρ : Env), n ≤ m → (whileN c b n w ρ).isSome = true → whileN c b m w ρ = whileN c b n w ρ
  | 0, m, w, ρ, _, h => by cases h
  | n + 1, 0, w, ρ, hl, _ => by omega
  | n + 1, m + 1, w, ρ, hl, h => by
    unfold whileN at h ⊢
    rcases e : c w ρ with _ | ⟨x, w1⟩ | ⟨t, w1⟩
    · rfl
    · rfl
    · rw [e] at h
      cases t with
      | bl t =>
        cases t with
        | false => rfl
        | true =>
          dsimp only at h ⊢
          rcases e2 : b w1 ρ with _ | o
          · rfl
          · rw [e2] at h
            cases o with
            | nx w2 ρ2 => exact whileN_mono n m w2 ρ2 (by omega) h
            | ct w2 ρ2 => exact whileN_mono n m w2 ρ2 (by omega) h
            | brk w2 ρ2 => rfl
            | ret d w2 => rfl
            | exc x => rfl
      | _ => rfl
theorem sWhile_of {n : Nat} (h : (whileN c b n w ρ).isSome = true) : sWhile c b w ρ = whileN c b n w ρ := by
  have ex : ∃ n, (whileN c b n w ρ).isSome = true := ⟨n, h⟩
  unfold sWhile
  rw [dif_pos ex]
  have h2 := Classical.choose_spec ex
  rcases Nat.le_total n (Classical.choose ex) with z | z
  · exact whileN_mono n _ w ρ z h
  · exact (whileN_mono _ n w ρ z h2).symm
theorem sWhile_none (h : ∀ n, (whileN c b n w ρ).isSome = false) : sWhile c b w ρ = none := by
  unfold sWhile
  rw [dif_neg]
  rintro ⟨n, z⟩
  rw [h n] at z
  cases z
theorem sWhile_some {w2 : A} {ρ2 : Env} (h : ∀ n, whileN c b (n + 1) w ρ = whileN c b n w2 ρ2) : sWhile c b w ρ = sWhile c b w2 ρ2 := by
  by_cases ex : ∃ n, (whileN c b n w2 ρ2).isSome = true
  · obtain ⟨n, z⟩ := ex
    rw [sWhile_of z, sWhile_of (n := n + 1) (by rw [h]; exact z), h]
  · rw [sWhile_none (w := w2) fun n => by
      cases e : (whileN c b n w2 ρ2).isSome with
      | false => rfl
      | true => exact absurd ⟨n, e⟩ ex]
    refine sWhile_none fun n => ?_
    cases n with
    | zero => rfl
    | succ n =>
      rw [h]
      cases e : (whileN c b n w2 ρ2).isSome with
      | false => rfl
      | true => exact absurd ⟨n, e⟩ ex
theorem sv_while : Sv (sWhile c b w ρ) QS ↔ Rv (c w ρ) (fun d w1 => Bv d (Sv (b w1 ρ) fun o => roundO o (fun w2 ρ2 => Sv (sWhile c b w2 ρ2) QS) QS) (QS (.nx w1 ρ))) (fun x w1 => QS (.exc (x, w1))) := by
  have one : ∀ {r : Option (Out A)}, (∀ n, whileN c b (n + 1) w ρ = r) → (Sv (sWhile c b w ρ) QS ↔ Sv r QS) := fun {r} h => by
    cases r with
    | none => rw [sWhile_none fun n => by
        cases n with
        | zero => rfl
        | succ n => rw [h]; rfl]
    | some o => rw [sWhile_of (n := 1) (by rw [h 0]; rfl), h 0]
  rcases e : c w ρ with _ | ⟨x, w1⟩ | ⟨t, w1⟩
  · exact (one (r := none) fun n => by unfold whileN; rw [e])
  · exact (one (r := some (.exc (x, w1))) fun n => by unfold whileN; rw [e])
  · rw [rv_ok]
    cases t with
    | bl t =>
      cases t with
      | false => exact (one (r := some (.nx w1 ρ)) fun n => by unfold whileN; rw [e])
      | true =>
        show _ ↔ Sv (b w1 ρ) _
        rcases e2 : b w1 ρ with _ | o
        · exact (one (r := none) fun n => by unfold whileN; rw [e]; dsimp only; rw [e2])
        · rw [sv_some]
          cases o with
          | nx w2 ρ2 => rw [ro_nx, sWhile_some (w2 := w2) (ρ2 := ρ2) fun n => by rw [whileN, e]; dsimp only; rw [e2]]
          | ct w2 ρ2 => rw [ro_ct, sWhile_some (w2 := w2) (ρ2 := ρ2) fun n => by rw [whileN, e]; dsimp only; rw [e2]]
          | brk w2 ρ2 => exact (one (r := some (.nx w2 ρ2)) fun n => by unfold whileN; rw [e]; dsimp only; rw [e2])
          | ret d w2 => exact (one (r := some (.ret d w2)) fun n => by unfold whileN; rw [e]; dsimp only; rw [e2])
          | exc x => exact (one (r := some (.exc x)) fun n => by unfold whileN; rw [e]; dsimp only; rw [e2])
    | _ => exact (one (r := none) fun n => by unfold whileN; rw [e])
end
/-! ### the draws' state -/
section
variable {w : DW} {ρ : Env} {X : Ex → DW → Prop} {Q : D → DW → Prop} {f : Fe DW} {QS : Out DW → Prop} {b : Fs DW} {g : Gt}
@[simp] theorem rv_st {i : Nat} {get : DW → Int} : Rv (eSt i get w ρ) Q X ↔ stAt ρ i = true ∧ Q (.int (get w)) w := by
  unfold eSt
  split <;> simp [*]
@[simp] theorem sv_st {i : Nat} {put : DW → Int → DW} : Sv (sSt i put f w ρ) QS ↔ Rv (f w ρ) (fun d w1 => Iv d fun z => stAt ρ i = true ∧ QS (.nx (put w1 z) ρ)) (fun x w1 => QS (.exc (x, w1))) := by
  unfold sSt
  refine sv_seq.trans (rv_congr fun d w1 => ?_)
  cases d with
  | int z =>
    show Sv (if stAt ρ i = true then some (.nx (put w1 z) ρ) else none : Option (Out DW)) QS ↔ _
    rw [iv_int]
    split <;> simp [*]
  | _ => exact Iff.rfl
@[simp] theorem rv_great {i : Nat} : Rv (eGreat i w ρ) Q X ↔ stAt ρ i = true ∧ Q (.bl (!w.great.isEmpty)) w := by
  unfold eGreat
  split <;> simp [*]
theorem rv_pop0 {i : Nat} {z : Int} {zs : List Int} (h : w.great = z :: zs) : Rv (ePop0 i w ρ) Q X ↔ stAt ρ i = true ∧ Q (.int z) { w with great := zs } := by
  unfold ePop0
  rw [h]
  split <;> simp [*]
@[simp] theorem sv_forC {i : Nat} : Sv (sForC i g b w ρ) QS ↔ stAt ρ i = true ∧ Sv (forCel (fun w' => decide (w'.cells = w.cells)) g b (w.cells.map D.int) w ρ) QS := by
  unfold sForC
  split <;> simp [*]
/-- a for over the cells by an invariant -/
theorem sv_forCI {inv : DW → Bool} (I : List D → DW → Env → Prop) (ok : ∀ ds w ρ, I ds w ρ → inv w = true) (step : ∀ d ds w ρ, I (d :: ds) w ρ → Od (g d ρ) fun ρ1 => Sv (b w ρ1) fun o => roundO o (fun w2 ρ2 => I ds w2 ρ2) QS) (fin : ∀ w ρ, I [] w ρ → QS (.nx w ρ)) :
    ∀ (ds : List D) (w : DW) (ρ : Env), I ds w ρ → Sv (forCel inv g b ds w ρ) QS
  | [], w, ρ, h => by
    unfold forCel
    rw [if_pos (ok _ _ _ h)]
    exact fin w ρ h
  | d :: ds, w, ρ, h => by
    have st := step d ds w ρ h
    unfold forCel
    rw [if_pos (ok _ _ _ h)]
    cases e : g d ρ with
    | none =>
      rw [e] at st
      exact st.elim
    | some ρ1 =>
      rw [e, od_some] at st
      dsimp only
      rcases e2 : b w ρ1 with _ | o
      · rw [e2] at st
        exact st.elim
      · rw [e2, sv_some] at st
        cases o with
        | nx w2 ρ2 => exact sv_forCI I ok step fin ds w2 ρ2 st
        | ct w2 ρ2 => exact sv_forCI I ok step fin ds w2 ρ2 st
        | brk w2 ρ2 => exact st
        | ret d w2 => exact st
        | exc x => exact st
end
end DL
end
namespace DL

/-! ### the draws in plain numbers: every number of a family comes -/
abbrev q1 : Nat := 2147483579
abbrev q2 : Nat := 2147483629
abbrev q3 : Nat := 2147483563
abbrev qM : Nat := 2147483647
abbrev qP : Nat := q1 * q2 * q3
def bl0 (t : Nat) (q : Nat) : Nat := 48271 * t + q / 53
def blF (t q : Nat) (cells : List Nat) : Nat := cells.foldl (fun b c => (b * 69621 + c + t) % q) (bl0 t q)
def blR (t : Nat) (cells : List Nat) (q : Nat) : Nat := (blF t q cells) ^ 5 % q
def blend (t : Nat) (cells : List Nat) : Nat := ((blR t cells q1) * qM + blR t cells q2) * qM + blR t cells q3
def famN (j : Nat) : Nat := ((j ^ 5 % q1) * qM + j ^ 5 % q2) * qM + j ^ 5 % q3
/-- the slope behind n cells -/
def slope : Nat → Nat
  | 0 => 48271
  | n + 1 => slope n * 69621 + 1
theorem blF_lin (t q : Nat) : ∀ (cells : List Nat) (b A C : Nat), b % q = (A * t + C) % q → ∃ C', (cells.foldl (fun b c => (b * 69621 + c + t) % q) b) % q = ((cells.foldl (fun A _ => A * 69621 + 1) A) * t + C') % q ∧
    C' = cells.foldl (fun C c => C * 69621 + c) C
  | [], b, A, C, h => ⟨C, h, rfl⟩
  | c :: cells, b, A, C, h => by
    obtain ⟨C', h1, h2⟩ := blF_lin t q cells ((b * 69621 + c + t) % q) (A * 69621 + 1) (C * 69621 + c) (by
      have e1 : ((b * 69621 + c + t) % q) % q = ((b % q) * 69621 + c + t) % q := by simp [Nat.add_mod, Nat.mul_mod]
      have e2 : ((A * t + C) % q * 69621 + c + t) % q = ((A * t + C) * 69621 + c + t) % q := by simp [Nat.add_mod, Nat.mul_mod]
      have e3 : (A * t + C) * 69621 + c + t = (A * 69621 + 1) * t + (C * 69621 + c) := by
        have : A * t * 69621 = A * 69621 * t := by rw [Nat.mul_assoc, Nat.mul_comm t, ← Nat.mul_assoc]
        rw [Nat.add_mul, Nat.add_mul, Nat.one_mul, this]
        omega
      rw [e1, h, e2, e3])
    exact ⟨C', h1, h2⟩
theorem foldA (cells : List Nat) : ∀ n, cells.foldl (fun A _ => A * 69621 + 1) (slope n) = slope (n + cells.length) := by
  induction cells with
  | nil => intro n; rfl
  | cons c cells ih =>
    intro n
    have := ih (n + 1)
    rw [List.foldl_cons, List.length_cons]
    have e : slope n * 69621 + 1 = slope (n + 1) := rfl
    rw [e, this]
    congr 1
    omega
theorem blF_mod (q : Nat) (cells : List Nat) : ∃ C, ∀ t, blF t q cells % q = (slope cells.length * t + C) % q := by
  refine ⟨cells.foldl (fun C c => C * 69621 + c) (q / 53), fun t => ?_⟩
  obtain ⟨C', h1, h2⟩ := blF_lin t q cells (bl0 t q) 48271 (q / 53) rfl
  have e := foldA cells 0
  rw [Nat.zero_add] at e
  rw [← h2, ← e]
  exact h1
theorem blR_eq {t q j : Nat} {cells : List Nat} (h : blF t q cells % q = j % q) : blR t cells q = j ^ 5 % q := by
  unfold blR
  rw [Nat.pow_mod, h, ← Nat.pow_mod]
def powmod (q : Nat) : Nat → Nat → Nat → Nat
  | 0, _, _ => 1
  | f + 1, b, e => if e = 0 then 1 else (if e % 2 = 1 then b * powmod q f (b * b % q) (e / 2) % q else powmod q f (b * b % q) (e / 2))
def slopeInv (q n : Nat) : Nat := powmod q 40 (slope n % q) (q - 2)
theorem slope_ok : ((List.range 64).all fun n => (slope n * slopeInv q1 n % q1 == 1) && ((slope n * slopeInv q2 n % q2 == 1) && (slope n * slopeInv q3 n % q3 == 1))) = true := by decide +kernel
theorem solve1 {q n C j : Nat} (h : slope n * slopeInv q n % q = 1) (hq : 1 < q) : ∃ y, ∀ t, t % q = y % q → (slope n * t + C) % q = j % q := by
  refine ⟨slopeInv q n * (j + (q - 1) * C), fun t ht => ?_⟩
  have e1 : (slope n * t) % q = (j + (q - 1) * C) % q := by
    rw [Nat.mul_mod, ht, ← Nat.mul_mod, ← Nat.mul_assoc, Nat.mul_mod, h, Nat.one_mul, Nat.mod_mod]
  rw [Nat.add_mod, e1, ← Nat.add_mod]
  have e2 : j + (q - 1) * C + C = j + q * C := by
    have : (q - 1) * C + C = q * C := by
      rw [← Nat.succ_mul]
      congr 1
      omega
    omega
  rw [e2, Nat.add_mul_mod_self_left]
def crE1 : Nat := 235208588510193165138497345
def crE2 : Nat := 1293459670181656490358913329
def crE3 : Nat := 8374851257769530234286113860
theorem crt (y1 y2 y3 : Nat) : ∃ t0, ∀ t, t % qP = t0 % qP → t % q1 = y1 % q1 ∧ t % q2 = y2 % q2 ∧ t % q3 = y3 % q3 := by
  refine ⟨crE1 * y1 + crE2 * y2 + crE3 * y3, fun t ht => ?_⟩
  have key : ∀ q a b c, qP % q = 0 → crE1 % q = a → crE2 % q = b → crE3 % q = c → t % q = (a * y1 + b * y2 + c * y3) % q := fun q a b c hq ha hb hc => by
    have e : t % q = (crE1 * y1 + crE2 * y2 + crE3 * y3) % q := by
      have d := Nat.dvd_of_mod_eq_zero hq
      rw [← Nat.mod_mod_of_dvd t d, ht, Nat.mod_mod_of_dvd _ d]
    rw [e, Nat.add_mod, Nat.add_mod (crE1 * y1), Nat.mul_mod crE1, Nat.mul_mod crE2, Nat.mul_mod crE3, ha, hb, hc]
    rw [Nat.add_mod (a * y1 + b * y2), Nat.add_mod (a * y1)]
    subst ha hb hc
    simp only [Nat.mul_mod, Nat.mod_mod]
  refine ⟨?_, ?_, ?_⟩
  · have := key q1 1 0 0 (by decide +kernel) (by decide +kernel) (by decide +kernel) (by decide +kernel)
    simpa using this
  · have := key q2 0 1 0 (by decide +kernel) (by decide +kernel) (by decide +kernel) (by decide +kernel)
    simpa using this
  · have := key q3 0 0 1 (by decide +kernel) (by decide +kernel) (by decide +kernel) (by decide +kernel)
    simpa using this
/-- every number of the family comes within a round of turns -/
theorem fam_comes (cells : List Nat) (hc : cells.length ≤ 63) (j t0 : Nat) : ∃ t, t0 < t ∧ t ≤ t0 + qP ∧ blend t cells = famN j := by
  have so := List.all_eq_true.mp slope_ok cells.length (List.mem_range.mpr (by omega))
  simp only [Bool.and_eq_true, beq_iff_eq] at so
  obtain ⟨s1, s2, s3⟩ := so
  obtain ⟨C1, h1⟩ := blF_mod q1 cells
  obtain ⟨C2, h2⟩ := blF_mod q2 cells
  obtain ⟨C3, h3⟩ := blF_mod q3 cells
  obtain ⟨y1, z1⟩ := solve1 (C := C1) (j := j) s1 (by decide)
  obtain ⟨y2, z2⟩ := solve1 (C := C2) (j := j) s2 (by decide)
  obtain ⟨y3, z3⟩ := solve1 (C := C3) (j := j) s3 (by decide)
  obtain ⟨u, hu⟩ := crt y1 y2 y3
  have hP : 0 < qP := by decide
  refine ⟨t0 + 1 + (u + qP * (t0 + 1) - (t0 + 1)) % qP, by omega, ?_, ?_⟩
  · have := Nat.mod_lt (u + qP * (t0 + 1) - (t0 + 1)) hP
    omega
  · have hm : (t0 + 1 + (u + qP * (t0 + 1) - (t0 + 1)) % qP) % qP = u % qP := by
      have le : t0 + 1 ≤ qP * (t0 + 1) := Nat.le_mul_of_pos_left _ hP
      rw [Nat.add_mod, Nat.mod_mod, ← Nat.add_mod]
      have : t0 + 1 + (u + qP * (t0 + 1) - (t0 + 1)) = u + qP * (t0 + 1) := by omega
      rw [this, Nat.add_mul_mod_self_left]
    obtain ⟨a1, a2, a3⟩ := hu _ hm
    unfold blend famN
    rw [blR_eq ((h1 _).trans (z1 _ a1)), blR_eq ((h2 _).trans (z2 _ a2)), blR_eq ((h3 _).trans (z3 _ a3))]
end DL
namespace DL

/-! ### the draws as numbers; words; a word that is new comes -/
structure NW where
  great : List Nat
  cells : List Nat
  rest : Nat
  turn : Nat
def NW.refill (s : NW) : NW := if s.rest = 0 then (match s.great with
  | z :: zs => { s with great := zs, rest := z }
  | [] => { s with turn := s.turn + 1, rest := blend (s.turn + 1) s.cells }) else s
def NW.draw (room : Nat) (s : NW) : Nat × NW := (s.refill.rest % room, { s.refill with rest := s.refill.rest / room })
def NW.letters : Nat → NW → List Nat × NW
  | 0, s => ([], s)
  | k + 1, s => ((s.draw 26).1 :: (NW.letters k (s.draw 26).2).1, (NW.letters k (s.draw 26).2).2)
def NW.word (s : NW) : List Nat × NW := NW.letters (1 + (s.draw 8).1) (s.draw 8).2
def NW.after (s : NW) : Nat → NW
  | 0 => s
  | k + 1 => (s.after k).word.2
def stepA : Nat × NW → Nat × NW
  | (0, s) => (1 + (s.draw 8).1, (s.draw 8).2)
  | (r + 1, s) => (r, (s.draw 26).2)
def runA (a : Nat × NW) : Nat → Nat × NW
  | 0 => a
  | i + 1 => runA (stepA a) i
theorem refill_cells (s : NW) : s.refill.cells = s.cells := by
  unfold NW.refill
  split
  · split <;> rfl
  · rfl
theorem draw_cells (room : Nat) (s : NW) : (s.draw room).2.cells = s.cells := refill_cells s
theorem refill_turn (s : NW) : s.turn ≤ s.refill.turn ∧ s.refill.turn ≤ s.turn + 1 := by
  unfold NW.refill
  split
  · split <;> simp
  · simp
theorem draw_turn (room : Nat) (s : NW) : s.turn ≤ (s.draw room).2.turn ∧ (s.draw room).2.turn ≤ s.turn + 1 := refill_turn s
theorem letters_cells : ∀ (k : Nat) (s : NW), (NW.letters k s).2.cells = s.cells
  | 0, s => rfl
  | k + 1, s => (letters_cells k _).trans (draw_cells 26 s)
theorem letters_turn : ∀ (k : Nat) (s : NW), s.turn ≤ (NW.letters k s).2.turn ∧ (NW.letters k s).2.turn ≤ s.turn + k
  | 0, s => ⟨Nat.le_refl _, Nat.le_refl _⟩
  | k + 1, s => by
    have h1 := letters_turn k (s.draw 26).2
    have h2 := draw_turn 26 s
    show s.turn ≤ (NW.letters k (s.draw 26).2).2.turn ∧ (NW.letters k (s.draw 26).2).2.turn ≤ s.turn + (k + 1)
    omega
theorem letters_len : ∀ (k : Nat) (s : NW), (NW.letters k s).1.length = k
  | 0, s => rfl
  | k + 1, s => congrArg (· + 1) (letters_len k _)
theorem letters_lt : ∀ (k : Nat) (s : NW), ∀ x ∈ (NW.letters k s).1, x < 26
  | 0, s, x, h => by cases h
  | k + 1, s, x, h => by
    rcases List.mem_cons.mp h with h | h
    · rw [h]; exact Nat.mod_lt _ (by decide)
    · exact letters_lt k _ x h
theorem word_cells (s : NW) : s.word.2.cells = s.cells := (letters_cells _ _).trans (draw_cells 8 s)
theorem draw_lt {room : Nat} (h : 0 < room) (s : NW) : (s.draw room).1 < room := Nat.mod_lt _ h
theorem word_turn (s : NW) : s.turn ≤ s.word.2.turn ∧ s.word.2.turn ≤ s.turn + 9 := by
  have h1 := letters_turn (1 + (s.draw 8).1) (s.draw 8).2
  have h2 := draw_turn 8 s
  have h3 := draw_lt (room := 8) (by decide) s
  unfold NW.word
  omega
theorem after_cells (s : NW) : ∀ k, (s.after k).cells = s.cells
  | 0 => rfl
  | k + 1 => (word_cells _).trans (after_cells s k)
theorem after_turn (s : NW) : ∀ {k m : Nat}, k ≤ m → (s.after k).turn ≤ (s.after m).turn := fun {k m} h => by
  induction m with
  | zero => rw [Nat.le_zero.mp h]; exact Nat.le_refl _
  | succ m ih =>
    by_cases e : k = m + 1
    · rw [e]; exact Nat.le_refl _
    · exact Nat.le_trans (ih (by omega)) (word_turn _).1
theorem stepA_cells : ∀ a : Nat × NW, (stepA a).2.cells = a.2.cells
  | (0, s) => draw_cells 8 s
  | (r + 1, s) => draw_cells 26 s
theorem stepA_le : ∀ a : Nat × NW, a.1 ≤ 8 → (stepA a).1 ≤ 8
  | (0, s), _ => by
    have := draw_lt (room := 8) (by decide) s
    show 1 + (s.draw 8).1 ≤ 8
    omega
  | (r + 1, s), h => by
    have h' : r + 1 ≤ 8 := h
    show r ≤ 8
    omega
theorem runA_cells : ∀ (i : Nat) (a : Nat × NW), (runA a i).2.cells = a.2.cells
  | 0, a => rfl
  | i + 1, a => (runA_cells i _).trans (stepA_cells a)
theorem runA_le : ∀ (i : Nat) (a : Nat × NW), a.1 ≤ 8 → (runA a i).1 ≤ 8
  | 0, a, h => h
  | i + 1, a, h => runA_le i _ (stepA_le a h)
/-- the refilling at turn t -/
def EventA (t : Nat) (s : NW) : Prop := s.rest = 0 ∧ s.great = [] ∧ s.turn + 1 = t
theorem stepA_form : ∀ a : Nat × NW, ∃ room, 2 ≤ room ∧ (stepA a).2 = (a.2.draw room).2
  | (0, s) => ⟨8, by decide, rfl⟩
  | (r + 1, s) => ⟨26, by decide, rfl⟩
theorem event_comes (t : Nat) (a : Nat × NW) (h : a.2.turn < t) : ∃ i, EventA t (runA a i).2 := by
  by_cases hr : a.2.rest = 0
  · cases hg : a.2.great with
    | nil =>
      by_cases ht : a.2.turn + 1 = t
      · exact ⟨0, hr, hg, ht⟩
      · obtain ⟨room, h2, e⟩ := stepA_form a
        have e2 : (stepA a).2.turn = a.2.turn + 1 := by
          rw [e]
          show a.2.refill.turn = _
          unfold NW.refill
          rw [if_pos hr, hg]
        obtain ⟨i, hi⟩ := event_comes t (stepA a) (by omega)
        exact ⟨i + 1, hi⟩
    | cons z zs =>
      obtain ⟨room, h2, e⟩ := stepA_form a
      have e2 : (stepA a).2.turn = a.2.turn := by
        rw [e]
        show a.2.refill.turn = _
        unfold NW.refill
        rw [if_pos hr, hg]
      have e3 : (stepA a).2.great = zs := by
        rw [e]
        show a.2.refill.great = _
        unfold NW.refill
        rw [if_pos hr, hg]
      obtain ⟨i, hi⟩ := event_comes t (stepA a) (by omega)
      exact ⟨i + 1, hi⟩
  · obtain ⟨room, h2, e⟩ := stepA_form a
    have e0 : a.2.refill = a.2 := by
      unfold NW.refill
      rw [if_neg hr]
    have e2 : (stepA a).2.turn = a.2.turn := by
      rw [e]
      show a.2.refill.turn = _
      rw [e0]
    have e3 : (stepA a).2.great = a.2.great := by
      rw [e]
      show a.2.refill.great = _
      rw [e0]
    have e4 : (stepA a).2.rest < a.2.rest := by
      rw [e]
      show a.2.refill.rest / room < a.2.rest
      rw [e0]
      exact Nat.div_lt_self (by omega) h2
    obtain ⟨i, hi⟩ := event_comes t (stepA a) (by omega)
    exact ⟨i + 1, hi⟩
termination_by (t - a.2.turn, a.2.great.length, a.2.rest)
decreasing_by
  · simp_wf
    rw [e2]
    apply Prod.Lex.left
    omega
  · simp_wf
    rw [e2, e3, hg]
    apply Prod.Lex.right
    apply Prod.Lex.left
    simp
  · simp_wf
    rw [e2, e3]
    apply Prod.Lex.right
    apply Prod.Lex.right
    exact e4
/-- the next bound between words, as seen from a place in a word -/
theorem bound_after (s : NW) : ∀ (i : Nat) (a : Nat × NW) (k : Nat), (NW.letters a.1 a.2).2 = s.after k → ∃ k', (NW.letters (runA a i).1 (runA a i).2).2 = s.after k'
  | 0, a, k, h => ⟨k, h⟩
  | i + 1, (0, u), k, h => bound_after s i _ (k + 1) (by
    have h' : u = s.after k := h
    show (NW.letters (1 + (u.draw 8).1) (u.draw 8).2).2 = (s.after k).word.2
    rw [← h']
    rfl)
  | i + 1, (r + 1, u), k, h => bound_after s i _ k h
def digits : Nat → Nat → List Nat
  | 0, _ => []
  | k + 1, m => m % 26 :: digits k (m / 26)
def pword (m : Nat) : List Nat := digits (1 + m % 8) (m / 8)
theorem letters_rest : ∀ (k : Nat) (s : NW), 26 ^ k ≤ s.rest → NW.letters k s = (digits k s.rest, { s with rest := s.rest / 26 ^ k })
  | 0, s, h => by
    show (([] : List Nat), s) = ([], { s with rest := s.rest / 1 })
    rw [Nat.div_one]
  | k + 1, s, h => by
    have hp : 0 < 26 ^ k := Nat.pow_pos (by decide)
    have h1 : 26 ^ k ≤ s.rest / 26 := (Nat.le_div_iff_mul_le (by decide)).mpr (by rw [← Nat.pow_succ]; exact h)
    have e0 : s.refill = s := by
      unfold NW.refill
      rw [if_neg (by omega)]
    have e1 : (s.draw 26).1 = s.rest % 26 := by
      show s.refill.rest % 26 = _
      rw [e0]
    have e2 : (s.draw 26).2 = { s with rest := s.rest / 26 } := by
      show { s.refill with rest := s.refill.rest / 26 } = _
      rw [e0]
    have ih := letters_rest k { s with rest := s.rest / 26 } h1
    show ((s.draw 26).1 :: (NW.letters k (s.draw 26).2).1, (NW.letters k (s.draw 26).2).2) = _
    rw [e1, e2, ih]
    show (s.rest % 26 :: digits k (s.rest / 26), { s with rest := s.rest / 26 / 26 ^ k }) = (s.rest % 26 :: digits k (s.rest / 26), { s with rest := s.rest / 26 ^ (k + 1) })
    rw [Nat.div_div_eq_div_mul, Nat.pow_succ, Nat.mul_comm 26]
theorem pow26_le {k : Nat} (h : k ≤ 8) : 26 ^ k ≤ 26 ^ 8 := Nat.pow_le_pow_right (by decide) h
theorem word_rest (s : NW) (m : Nat) (hm : s.refill.rest = m) (h : 26 ^ 8 * 8 ≤ m) : s.word.1 = pword m ∧ s.word.2.turn = s.refill.turn := by
  have e1 : (s.draw 8).1 = m % 8 := by
    show s.refill.rest % 8 = _
    rw [hm]
  have h8 : m % 8 < 8 := Nat.mod_lt _ (by decide)
  have hle : 26 ^ (1 + m % 8) ≤ (s.draw 8).2.rest := by
    show 26 ^ (1 + m % 8) ≤ s.refill.rest / 8
    rw [hm]
    exact Nat.le_trans (pow26_le (by omega)) ((Nat.le_div_iff_mul_le (by decide)).mpr h)
  unfold NW.word
  rw [e1, letters_rest _ _ hle]
  refine ⟨?_, rfl⟩
  show digits (1 + m % 8) (s.refill.rest / 8) = _
  rw [hm]
  rfl
/-- behind the refilling by a great number, at phase r: the next word is told by that number -/
theorem event_word (r : Nat) (u : NW) (t N : Nat) (hr : r ≤ 8) (he : EventA t u) (hN : blend t u.cells = N) (hb : 26 ^ 16 * 8 ≤ N) : (NW.letters r u).2.word.1 = pword (N / 26 ^ r) ∧ (NW.letters r u).2.turn ≤ t := by
  obtain ⟨e1, e2, e3⟩ := he
  have er : u.refill = { u with turn := t, rest := N } := by
    unfold NW.refill
    rw [if_pos e1, e2, ← hN, ← e3]
  cases r with
  | zero =>
    refine ⟨?_, by show u.turn ≤ t; omega⟩
    rw [Nat.pow_zero, Nat.div_one]
    exact (word_rest u N (by rw [er]) (Nat.le_trans (by decide) hb)).1
  | succ r =>
    have d2 : (u.draw 26).2 = { u with turn := t, rest := N / 26 } := by
      show { u.refill with rest := u.refill.rest / 26 } = _
      rw [er]
    have p1 : 26 ^ r ≤ N / 26 := (Nat.le_div_iff_mul_le (by decide)).mpr (by
      rw [← Nat.pow_succ]
      exact Nat.le_trans (pow26_le hr) (Nat.le_trans (by decide) hb))
    have l2 : (NW.letters (r + 1) u).2 = { u with turn := t, rest := N / 26 ^ (r + 1) } := by
      show (NW.letters r (u.draw 26).2).2 = _
      rw [d2, letters_rest r _ p1]
      show { u with turn := t, rest := N / 26 / 26 ^ r } = _
      rw [Nat.div_div_eq_div_mul, Nat.pow_succ, Nat.mul_comm 26]
    rw [l2]
    have hbig : 26 ^ 8 * 8 ≤ N / 26 ^ (r + 1) := (Nat.le_div_iff_mul_le (Nat.pow_pos (by decide))).mpr (Nat.le_trans (Nat.mul_le_mul_left _ (pow26_le hr)) (Nat.le_trans (by decide) hb))
    refine ⟨?_, Nat.le_refl _⟩
    refine (word_rest _ _ ?_ hbig).1
    unfold NW.refill
    rw [if_neg]
    show ¬ N / 26 ^ (r + 1) = 0
    intro z
    rw [z] at hbig
    exact absurd hbig (by decide)
/-! the family: its words differ, in each phase -/
def codeW (m : Nat) : Nat := m % 8 + 8 * ((m / 8) % 26 ^ (1 + m % 8))
theorem digits_len : ∀ (k m : Nat), (digits k m).length = k
  | 0, _ => rfl
  | k + 1, m => congrArg (· + 1) (digits_len k _)
theorem digits_mod : ∀ (k a b : Nat), digits k a = digits k b → a % 26 ^ k = b % 26 ^ k
  | 0, a, b, _ => by rw [Nat.pow_zero, Nat.mod_one, Nat.mod_one]
  | k + 1, a, b, h => by
    obtain ⟨h1, h2⟩ := List.cons.inj h
    have ih := digits_mod k _ _ h2
    rw [Nat.pow_succ, Nat.mul_comm, Nat.mod_mul, Nat.mod_mul, h1, ih]
theorem pword_code {a b : Nat} (h : pword a = pword b) : codeW a = codeW b := by
  have h1 := congrArg List.length h
  unfold pword at h1 h
  rw [digits_len, digits_len] at h1
  have h2 : a % 8 = b % 8 := by omega
  rw [h2] at h
  unfold codeW
  rw [h2, digits_mod _ _ _ h]
def nbit : Nat → Nat → List Nat → Bool
  | _, _, [] => true
  | _, _, [_] => true
  | 0, _, _ => false
  | f + 1, k, l => nbit f (k + 1) (l.filter fun x => x.testBit k) && nbit f (k + 1) (l.filter fun x => !x.testBit k)
theorem nodup_split {α : Type} (p : α → Bool) : ∀ l : List α, (l.filter p).Nodup → (l.filter fun x => !p x).Nodup → l.Nodup
  | [], _, _ => .nil
  | x :: l, h1, h2 => by
    cases e : p x with
    | true =>
      rw [List.filter_cons_of_pos (by rw [e])] at h1
      rw [List.filter_cons_of_neg (by simp [e])] at h2
      obtain ⟨n1, n2⟩ := List.nodup_cons.mp h1
      exact List.nodup_cons.mpr ⟨fun m => n1 (List.mem_filter.mpr ⟨m, e⟩), nodup_split p l n2 h2⟩
    | false =>
      rw [List.filter_cons_of_neg (by simp [e])] at h1
      rw [List.filter_cons_of_pos (by simp [e])] at h2
      obtain ⟨n1, n2⟩ := List.nodup_cons.mp h2
      exact List.nodup_cons.mpr ⟨fun m => n1 (List.mem_filter.mpr ⟨m, by simp [e]⟩), nodup_split p l h1 n2⟩
theorem nbit_ok : ∀ (f k : Nat) (l : List Nat), nbit f k l = true → l.Nodup
  | _, _, [], _ => .nil
  | _, _, [x], _ => by simp
  | 0, _, _ :: _ :: _, h => by simp [nbit] at h
  | f + 1, k, x :: y :: l, h => by
    unfold nbit at h
    rw [Bool.and_eq_true] at h
    exact nodup_split (fun x => x.testBit k) _ (nbit_ok f _ _ h.1) (nbit_ok f _ _ h.2)
def fam : List Nat := [1000, 1001, 1002, 1003, 1004, 1005, 1006, 1007, 1008, 1010, 1011, 1012, 1013, 1014, 1015, 1016, 1017, 1018, 1019, 1020, 1021, 1022, 1023, 1024, 1025, 1026, 1027, 1029, 1030, 1031, 1032, 1033, 1034, 1035, 1036, 1037, 1039, 1040, 1041, 1044, 1045, 1046, 1047, 1049, 1050, 1052, 1054, 1055, 1056, 1057, 1058, 1059, 1060, 1061, 1062, 1064, 1065, 1067, 1068, 1069, 1070, 1074, 1075, 1078, 1081, 1082, 1083, 1084, 1085, 1086, 1087, 1089, 1090, 1091, 1092, 1095, 1096, 1098, 1099, 1103, 1104, 1105, 1107, 1108, 1109, 1110, 1111, 1112, 1113, 1116, 1117, 1118, 1120, 1122, 1123, 1124, 1125, 1127, 1128, 1129, 1131, 1132, 1133, 1135, 1137, 1138, 1139, 1140, 1141, 1142, 1143, 1144, 1145, 1146, 1147, 1148, 1149, 1150, 1151, 1153, 1155, 1156, 1157, 1163, 1166, 1168, 1169, 1170, 1172, 1176, 1177, 1178, 1180, 1181, 1182, 1184, 1186, 1187, 1188, 1189, 1191, 1192, 1193, 1194, 1195, 1196, 1197, 1200, 1201, 1203, 1204, 1206, 1207, 1211, 1212, 1213, 1214, 1217, 1219, 1220, 1221, 1222, 1224, 1225, 1226, 1228, 1230, 1232, 1233, 1234, 1238, 1239, 1240, 1243, 1245, 1246, 1248, 1249, 1250, 1251, 1252, 1253, 1257, 1258, 1259, 1260, 1261, 1262, 1264, 1266, 1268, 1270, 1272, 1273, 1274, 1277, 1281, 1282, 1285, 1288, 1290, 1292, 1295, 1297, 1298, 1299, 1300, 1302, 1303, 1304, 1306, 1307, 1308, 1310, 1311, 1312, 1313, 1315, 1317, 1321, 1322, 1323, 1324, 1325, 1326, 1327, 1328, 1329, 1334, 1337, 1340, 1342, 1343, 1346, 1349, 1355, 1356, 1357, 1360, 1362, 1365, 1366, 1369, 1370, 1371, 1374, 1377, 1380, 1382, 1383, 1385, 1386, 1387, 1388, 1389, 1391, 1393, 1394, 1397, 1399, 1400, 1401, 1402, 1404, 1406, 1408, 1409, 1410, 1418, 1419, 1422, 1429, 1430, 1432, 1435, 1437, 1448, 1449, 1453, 1455, 1460, 1461, 1473, 1474, 1476, 1483, 1484, 1485, 1487, 1488, 1495, 1497, 1498, 1499, 1501, 1503, 1504, 1505, 1507, 1509, 1511, 1512, 1514, 1515, 1516, 1522, 1524, 1525, 1527, 1529, 1533, 1534, 1535, 1538, 1541, 1542, 1544, 1558, 1560, 1561, 1562, 1563, 1564, 1565, 1567, 1571, 1573, 1579, 1582, 1588, 1593, 1594, 1596, 1597, 1599, 1601, 1604, 1606, 1608, 1612, 1614, 1615, 1616, 1625, 1628, 1629, 1632, 1635, 1639, 1645, 1647, 1649, 1652, 1655, 1658, 1665, 1668, 1670, 1673, 1679, 1680, 1684, 1686, 1694, 1700, 1702, 1703, 1704, 1706, 1715, 1720, 1721, 1724, 1727, 1729, 1732, 1741, 1743, 1744, 1745, 1751, 1757, 1758, 1760, 1761, 1762, 1765, 1770, 1775, 1778, 1784, 1788, 1791, 1800, 1801, 1809, 1812, 1814, 1819, 1821, 1826, 1838, 1843, 1845, 1848, 1850, 1851, 1856, 1858, 1863, 1867, 1869, 1871, 1872, 1873, 1875, 1877, 1880, 1881, 1887, 1891, 1897, 1898, 1902, 1903, 1907, 1908, 1911, 1912, 1915, 1917, 1920, 1924, 1926, 1930, 1934, 1937, 1942, 1943, 1944, 1948, 1951, 1952, 1954, 1959, 1963, 1965, 1966, 1967, 1973, 1976, 1985, 1989, 1992, 1997, 1998, 2000, 2003, 2004, 2008, 2009, 2010, 2011, 2012, 2013, 2015, 2016, 2022, 2024, 2027, 2028, 2029, 2030, 2036, 2044, 2046, 2047, 2054, 2055, 2064, 2065, 2066, 2067, 2069, 2072, 2078, 2079, 2080, 2088, 2097, 2098, 2102, 2103, 2106, 2119, 2121, 2126, 2128, 2129, 2133, 2135, 2136, 2157, 2159, 2161, 2166, 2167, 2168, 2173, 2179, 2180, 2186, 2187, 2192, 2195, 2198, 2201, 2203, 2206, 2211, 2218, 2223, 2226, 2227, 2231, 2236, 2239, 2244, 2245, 2248, 2249, 2253, 2260, 2265, 2269, 2273, 2278, 2280, 2283, 2286, 2288, 2291, 2292, 2297, 2302, 2306, 2312, 2323, 2325, 2327, 2329, 2331, 2333, 2335, 2338, 2343, 2344, 2351, 2355, 2363, 2366, 2371, 2373, 2375, 2377, 2379, 2383, 2385, 2386, 2390, 2393, 2395, 2397, 2400, 2409, 2411, 2414, 2419, 2420, 2428, 2429, 2436, 2452, 2455, 2460, 2462, 2464, 2472, 2476, 2479, 2482, 2484, 2488, 2489, 2493, 2495, 2505, 2510, 2511, 2521]
theorem fam_len : fam.length = 600 := by decide +kernel
theorem fam_big : (fam.all fun j => Nat.ble (26 ^ 16 * 8) (famN j)) = true := by decide +kernel
theorem fam_apart : ((List.range 9).all fun r => nbit 60 0 (fam.map fun j => codeW (famN j / 26 ^ r))) = true := by decide +kernel
theorem map_inj {α β : Type} {f : α → β} : ∀ {l : List α}, (l.map f).Nodup → ∀ {x y : α}, x ∈ l → y ∈ l → f x = f y → x = y
  | [], _, _, _, hx, _, _ => by cases hx
  | z :: l, h, x, y, hx, hy, e => by
    obtain ⟨n1, n2⟩ := List.nodup_cons.mp h
    rcases List.mem_cons.mp hx with a | a
    · rcases List.mem_cons.mp hy with b | b
      · rw [a, b]
      · rw [a] at e
        exact absurd (e ▸ List.mem_map.mpr ⟨y, b, rfl⟩) n1
    · rcases List.mem_cons.mp hy with b | b
      · rw [b] at e
        exact absurd (e ▸ List.mem_map.mpr ⟨x, a, rfl⟩) n1
      · exact map_inj n2 a b e
theorem nodup_map {α β : Type} {f : α → β} : ∀ {l : List α}, (∀ x ∈ l, ∀ y ∈ l, f x = f y → x = y) → l.Nodup → (l.map f).Nodup
  | [], _, _ => .nil
  | x :: l, h, n => by
    obtain ⟨n1, n2⟩ := List.nodup_cons.mp n
    refine List.nodup_cons.mpr ⟨fun m => ?_, nodup_map (fun a ha b hb => h a (List.mem_cons_of_mem _ ha) b (List.mem_cons_of_mem _ hb)) n2⟩
    obtain ⟨y, hy, e⟩ := List.mem_map.mp m
    exact n1 (h x List.mem_cons_self y (List.mem_cons_of_mem _ hy) e.symm ▸ hy)
theorem nodup_le {α : Type} [DecidableEq α] : ∀ (l d : List α), l.Nodup → (∀ x ∈ l, x ∈ d) → l.length ≤ d.length
  | [], d, _, _ => Nat.zero_le _
  | x :: l, d, n, h => by
    obtain ⟨n1, n2⟩ := List.nodup_cons.mp n
    have hx := h x List.mem_cons_self
    have ih := nodup_le l (d.erase x) n2 fun y hy => (List.mem_erase_of_ne (fun z : y = x => n1 (by rw [← z]; exact hy))).mpr (h y (List.mem_cons_of_mem _ hy))
    rw [List.length_erase_of_mem hx] at ih
    have := List.length_pos_of_mem hx
    rw [List.length_cons]
    omega
theorem pairs_len {β : Type} (S : List β) : ∀ n, ((List.range n).flatMap fun r => S.map fun s => (r, s)).length = n * S.length
  | 0 => by simp
  | n + 1 => by
    rw [List.range_succ, List.flatMap_append, List.length_append, pairs_len S n]
    simp [Nat.add_mul]
/-- a word comes that is not in S -/
theorem word_comes (s : NW) (hc : s.cells.length ≤ 63) (S : List (List Nat)) (hS : S.length ≤ 64) : ∃ k, (s.after k).word.1 ∉ S ∧ (s.after k).turn ≤ s.turn + qP := by
  refine Classical.byContradiction fun no => ?_
  have all : ∀ k, (s.after k).turn ≤ s.turn + qP → (s.after k).word.1 ∈ S := fun k hk => Classical.byContradiction fun z => no ⟨k, z, hk⟩
  have each : ∀ j, j ∈ fam → ∃ r, r < 9 ∧ pword (famN j / 26 ^ r) ∈ S := fun j hj => by
    obtain ⟨t, h1, h2, h3⟩ := fam_comes s.cells hc j s.turn
    obtain ⟨i, hi⟩ := event_comes t (0, s) h1
    have hcell : (runA (0, s) i).2.cells = s.cells := runA_cells i (0, s)
    have hr := runA_le i (0, s) (Nat.zero_le _)
    have hbig : 26 ^ 16 * 8 ≤ famN j := Nat.le_of_ble_eq_true (List.all_eq_true.mp fam_big j hj)
    obtain ⟨w1, w2⟩ := event_word (runA (0, s) i).1 (runA (0, s) i).2 t (famN j) hr hi (by rw [hcell]; exact h3) hbig
    obtain ⟨k, hk⟩ := bound_after s i (0, s) 0 rfl
    rw [hk] at w1 w2
    refine ⟨(runA (0, s) i).1, by omega, ?_⟩
    rw [← w1]
    exact all k (by omega)
  have pick : ∃ f : Nat → Nat, ∀ j, j ∈ fam → f j < 9 ∧ pword (famN j / 26 ^ f j) ∈ S :=
    ⟨fun j => if h : j ∈ fam then Classical.choose (each j h) else 0, fun j hj => by
      simp only [dif_pos hj]
      exact Classical.choose_spec (each j hj)⟩
  obtain ⟨f, hf⟩ := pick
  have ap : ∀ r, r < 9 → (fam.map fun j => codeW (famN j / 26 ^ r)).Nodup := fun r hr => nbit_ok _ _ _ (List.all_eq_true.mp fam_apart r (List.mem_range.mpr hr))
  have nd : fam.Nodup := by
    have := ap 0 (by decide)
    exact List.Pairwise.of_map _ (fun a b hne e => hne (by rw [e])) this
  have n2 : (fam.map fun j => (f j, pword (famN j / 26 ^ f j))).Nodup := nodup_map (fun x hx y hy e => by
    obtain ⟨e1, e2⟩ := Prod.mk.inj e
    rw [← e1] at e2
    exact map_inj (ap (f x) (hf x hx).1) hx hy (pword_code e2)) nd
  have le := nodup_le _ ((List.range 9).flatMap fun r => S.map fun s => (r, s)) n2 fun p hp => by
    obtain ⟨j, hj, rfl⟩ := List.mem_map.mp hp
    exact List.mem_flatMap.mpr ⟨f j, List.mem_range.mpr (hf j hj).1, List.mem_map.mpr ⟨_, (hf j hj).2, rfl⟩⟩
  rw [List.length_map, fam_len, pairs_len] at le
  omega
end DL
set_option exponentiation.threshold 5000
noncomputable section
namespace DL
open L2 PySem PyProof.Rows PySem.Spec

/-! ### the draws' mirrors in plain numbers -/
def NW.dw (s : NW) : DW := ⟨s.great.map Int.ofNat, s.cells.map Int.ofNat, (s.rest : Int), (s.turn : Int)⟩
theorem log_lt {n k : Nat} (h : n < 2 ^ k) (hk : 0 < k) : n.log2 < k := by
  by_cases e : n = 0
  · rw [e]
    simpa using hk
  · exact (Nat.log2_lt e).mpr h
theorem mulOk_of {i j : Int} (h1 : i.natAbs < 2 ^ 4000) (h2 : j.natAbs < 2 ^ 4000) : mulOk i j = true := by
  have a := log_lt h1 (by decide)
  have b := log_lt h2 (by decide)
  unfold mulOk
  exact decide_eq_true (by omega)
theorem dMul_int {i j : Int} (h1 : i.natAbs < 2 ^ 4000) (h2 : j.natAbs < 2 ^ 4000) : dMul (.int i) (.int j) = some (.int (i * j)) := by
  show (if mulOk i j = true then some (D.int (i * j)) else none) = _
  rw [if_pos (mulOk_of h1 h2)]
theorem divOk_of {j : Int} (h0 : j ≠ 0) (h2 : j.natAbs < 2 ^ 4000) : divOk j = true := by
  have b := log_lt h2 (by decide)
  unfold divOk
  rw [Bool.and_eq_true]
  exact ⟨decide_eq_true h0, decide_eq_true (by omega)⟩
theorem dFdiv_int {i j : Int} (h0 : j ≠ 0) (h2 : j.natAbs < 2 ^ 4000) : dFdiv (.int i) (.int j) = some (.int (i.fdiv j)) := by
  show (if divOk j = true then some (D.int (i.fdiv j)) else none) = _
  rw [if_pos (divOk_of h0 h2)]
theorem dMod_int {i j : Int} (h0 : j ≠ 0) : dMod (.int i) (.int j) = some (.int (i.fmod j)) := by
  show (if decide (j ≠ 0) = true then some (D.int (i.fmod j)) else none) = _
  rw [if_pos (decide_eq_true h0)]
theorem powOk_of {i : Int} {n : Nat} (h1 : i.natAbs < 2 ^ 4000) (hn : n ≤ 10000) : powOk i n = true := by
  have a := log_lt h1 (by decide)
  unfold powOk
  rw [Bool.and_eq_true]
  refine ⟨decide_eq_true (by omega), decide_eq_true ?_⟩
  have hb : Builtin.Int.intBits i ≤ 4000 := by
    unfold Builtin.Int.intBits
    split <;> omega
  have : Builtin.Int.intBits i * n ≤ 4000 * 10000 := Nat.mul_le_mul hb hn
  have h2 : ((Builtin.Int.intBits i * n : Nat) : Int) ≤ ((4000 * 10000 : Nat) : Int) := Int.ofNat_le.mpr this
  rw [Int.natCast_mul] at h2
  omega
theorem dPow_int {i : Int} {n : Nat} (h1 : i.natAbs < 2 ^ 4000) (hn : n ≤ 10000) : dPow (.int i) (.int n) = some (.int (i ^ n)) := by
  show (if powOk i n = true then some (D.int (i ^ ((n : Int)).toNat)) else none) = _
  rw [if_pos (powOk_of h1 hn), Int.toNat_natCast]
theorem fmod_nat (a b : Nat) : (a : Int).fmod (b : Int) = ((a % b : Nat) : Int) := by
  rw [Int.fmod_eq_emod_of_nonneg _ (Int.natCast_nonneg b)]
  rfl
theorem fdiv_nat (a b : Nat) : (a : Int).fdiv (b : Int) = ((a / b : Nat) : Int) := by
  rw [Int.fdiv_eq_ediv_of_nonneg _ (Int.natCast_nonneg b)]
  rfl
theorem cells_map (l : List Nat) : (l.map Int.ofNat).map D.int = l.map fun n : Nat => D.int (n : Int) := by
  rw [List.map_map]
  rfl
theorem blF_step (t q : Nat) (w : DW) (F : Option D) : ∀ (cells : List Nat) (b : Nat) (c0 : Option D), b < 2 ^ 200 → 0 < q → q < 2 ^ 40 → ∃ c1,
    forCel (fun w' => decide (w'.cells = w.cells)) (gN 5) (sAsg (e2 dMod (eN dInt (fCons (e2 dAdd (e2 dAdd (e2 dMul (eVar 4) (eC (.int 69621))) (eVar 5)) (eVar 2)) fNil)) (eVar 1)) (gN 4)) (cells.map fun n : Nat => D.int (n : Int)) w
      [some (.tok 0), some (.int (q : Int)), some (.int (t : Int)), F, some (.int (b : Int)), c0] =
    some (.nx w [some (.tok 0), some (.int (q : Int)), some (.int (t : Int)), F, some (.int ((cells.foldl (fun b c => (b * 69621 + c + t) % q) b : Nat) : Int)), c1])
  | [], b, c0, _, _, _ => ⟨c0, by simp [forCel]⟩
  | c :: cells, b, c0, hb, hq, hq2 => by
    have e1 : dMul (.int (b : Int)) (.int 69621) = some (.int ((b * 69621 : Nat) : Int)) := by
      rw [dMul_int (by simp; exact Nat.lt_trans hb (by decide)) (by decide)]
      simp
    have e2' : ∀ x : Nat, dMod (.int (x : Int)) (.int (q : Int)) = some (.int ((x % q : Nat) : Int)) := fun x => by
      rw [dMod_int (by omega), fmod_nat]
    have hlt : (b * 69621 + c + t) % q < 2 ^ 200 := Nat.lt_trans (Nat.mod_lt _ hq) (Nat.lt_trans hq2 (by decide))
    obtain ⟨c1, ih⟩ := blF_step t q w F cells ((b * 69621 + c + t) % q) (some (.int (c : Int))) hlt hq hq2
    refine ⟨c1, ?_⟩
    have st : (sAsg (e2 dMod (eN dInt (fCons (e2 dAdd (e2 dAdd (e2 dMul (eVar 4) (eC (.int 69621))) (eVar 5)) (eVar 2)) fNil)) (eVar 1)) (gN 4)) w [some (.tok 0), some (.int (q : Int)), some (.int (t : Int)), F, some (.int (b : Int)), some (.int (c : Int))] =
        some (.nx w [some (.tok 0), some (.int (q : Int)), some (.int (t : Int)), F, some (.int (((b * 69621 + c + t) % q : Nat) : Int)), some (.int (c : Int))]) := by
      have e3 := e2' (b * 69621 + c + t)
      rw [Int.natCast_add, Int.natCast_add] at e3
      simp only [sAsg, seqE, e2, eN, bindE, fCons, fNil, eVar, eC, okE, List.getElem?_cons_succ, List.getElem?_cons_zero, e1, dAdd, dInt, e3, gN, List.set_cons_succ, List.set_cons_zero]
    rw [List.map_cons, forCel, if_pos (by simp)]
    simp only [gN, List.set_cons_succ, List.set_cons_zero]
    rw [st]
    exact ih

theorem blF_lt {t q : Nat} (cells : List Nat) (hq : 0 < q) (hq2 : q < 2 ^ 40) (ht : t < 2 ^ 140) : blF t q cells < 2 ^ 200 := by
  unfold blF
  have h0 : bl0 t q < 2 ^ 200 := by
    unfold bl0
    have : q / 53 ≤ q := Nat.div_le_self _ _
    omega
  generalize bl0 t q = b at h0
  induction cells generalizing b with
  | nil => exact h0
  | cons c cells ih => exact ih _ (Nat.lt_trans (Nat.mod_lt _ hq) (Nat.lt_trans hq2 (by decide)))
/-- one prime's round -/
theorem blend_round (t q F : Nat) (cells : List Nat) (w : DW) (hw : w.cells = cells.map Int.ofNat) (x4 x5 : Option D) (ht : t < 2 ^ 140) (hF : F < 2 ^ 200) (hq : 0 < q) (hq2 : q < 2 ^ 40) : ∃ y4 y5,
    (sCons (sAsg (e2 dAdd (e2 dMul (eC (.int 48271)) (eVar 2)) (e2 dFdiv (eVar 1) (eC (.int 53)))) (gN 4))
      (sCons (sForC 0 (gN 5) (sAsg (e2 dMod (eN dInt (fCons (e2 dAdd (e2 dAdd (e2 dMul (eVar 4) (eC (.int 69621))) (eVar 5)) (eVar 2)) fNil)) (eVar 1)) (gN 4)))
      (sAsg (e2 dAdd (e2 dMul (eVar 3) (eC (.int 2147483647))) (e2 dMod (eN dInt (fCons (e2 dPow (eVar 4) (eC (.int 5))) fNil)) (eVar 1))) (gN 3)))) w
      [some (.tok 0), some (.int (q : Int)), some (.int (t : Int)), some (.int (F : Int)), x4, x5] =
    some (.nx w [some (.tok 0), some (.int (q : Int)), some (.int (t : Int)), some (.int ((F * qM + blR t cells q : Nat) : Int)), y4, y5]) := by
  have hb := blF_lt cells hq hq2 ht
  have h0 : bl0 t q < 2 ^ 200 := by
    have := blF_lt ([] : List Nat) hq hq2 ht
    exact this
  obtain ⟨c1, st⟩ := blF_step t q w (some (.int (F : Int))) cells (bl0 t q) x5 h0 hq hq2
  have e1 : dMul (.int 48271) (.int (t : Int)) = some (.int ((48271 * t : Nat) : Int)) := by
    rw [dMul_int (by decide) (by simp; exact Nat.lt_trans ht (by decide))]
    simp
  have e2' : dFdiv (.int (q : Int)) (.int 53) = some (.int ((q / 53 : Nat) : Int)) := by
    rw [dFdiv_int (by decide) (by decide)]
    exact congrArg (fun x => some (D.int x)) (fdiv_nat q 53)
  have e3 : dMul (.int (F : Int)) (.int 2147483647) = some (.int ((F * qM : Nat) : Int)) := by
    rw [dMul_int (by simp; exact Nat.lt_trans hF (by decide)) (by decide)]
    simp [qM]
  have e4 : dPow (.int ((blF t q cells : Nat) : Int)) (.int 5) = some (.int ((blF t q cells ^ 5 : Nat) : Int)) := by
    have := dPow_int (i := ((blF t q cells : Nat) : Int)) (n := 5) (by simp; exact Nat.lt_trans hb (by decide)) (by decide)
    rw [Int.natCast_pow]
    exact this
  have e5 : dMod (.int ((blF t q cells ^ 5 : Nat) : Int)) (.int (q : Int)) = some (.int ((blR t cells q : Nat) : Int)) := by
    rw [dMod_int (by omega), fmod_nat]
    rfl
  have s1 : (sAsg (e2 dAdd (e2 dMul (eC (.int 48271)) (eVar 2)) (e2 dFdiv (eVar 1) (eC (.int 53)))) (gN 4)) w [some (.tok 0), some (.int (q : Int)), some (.int (t : Int)), some (.int (F : Int)), x4, x5] =
      some (.nx w [some (.tok 0), some (.int (q : Int)), some (.int (t : Int)), some (.int (F : Int)), some (.int ((bl0 t q : Nat) : Int)), x5]) := by
    simp only [sAsg, seqE, e2, bindE, eVar, eC, okE, List.getElem?_cons_succ, List.getElem?_cons_zero, e1, e2', dAdd, gN, List.set_cons_succ, List.set_cons_zero]
    rfl
  have s2 : (sForC 0 (gN 5) (sAsg (e2 dMod (eN dInt (fCons (e2 dAdd (e2 dAdd (e2 dMul (eVar 4) (eC (.int 69621))) (eVar 5)) (eVar 2)) fNil)) (eVar 1)) (gN 4))) w [some (.tok 0), some (.int (q : Int)), some (.int (t : Int)), some (.int (F : Int)), some (.int ((bl0 t q : Nat) : Int)), x5] =
      some (.nx w [some (.tok 0), some (.int (q : Int)), some (.int (t : Int)), some (.int (F : Int)), some (.int ((blF t q cells : Nat) : Int)), c1]) := by
    unfold sForC
    rw [if_pos (show stAt [some (D.tok 0), some (D.int (q : Int)), some (D.int (t : Int)), some (D.int (F : Int)), some (D.int ((bl0 t q : Nat) : Int)), x5] 0 = true from rfl)]
    have em : w.cells.map D.int = cells.map fun n : Nat => D.int (n : Int) := by rw [hw, cells_map]
    rw [em]
    exact st
  refine ⟨some (.int ((blF t q cells : Nat) : Int)), c1, ?_⟩
  unfold sCons
  rw [s1]
  dsimp only
  rw [s2]
  dsimp only
  simp only [sAsg, seqE, e2, eN, fCons, fNil, bindE, eVar, eC, okE, List.getElem?_cons_succ, List.getElem?_cons_zero, e3, e4, e5, dInt, dAdd, gN, List.set_cons_succ, List.set_cons_zero]
  rfl
theorem blR_lt {t q : Nat} (cells : List Nat) (hq : 0 < q) : blR t cells q < q := Nat.mod_lt _ hq
theorem g_blended (s : NW) (ht : s.turn + 1 < 2 ^ 140) : g__law_blended s.dw [.tok 0] = some (.ok (.int (blend (s.turn + 1) s.cells), NW.dw { s with turn := s.turn + 1 })) := by
  rw [← rv_eq]
  unfold g__law_blended m__law_blended
  simp [setE, stAt, dAdd, itemsOf]
  have et : s.dw.turn + 1 = ((s.turn + 1 : Nat) : Int) := rfl
  have ew : ({ great := s.dw.great, cells := s.dw.cells, rest := s.dw.rest, turn := s.dw.turn + 1 } : DW) = NW.dw { s with turn := s.turn + 1 } := rfl
  rw [ew, et]
  generalize hw : NW.dw { s with turn := s.turn + 1 } = w
  have hc : w.cells = s.cells.map Int.ofNat := by rw [← hw] <;> rfl
  have z0 : (0 : Int) = ((0 : Nat) : Int) := rfl
  obtain ⟨a4, a5, r1⟩ := blend_round (s.turn + 1) q1 0 s.cells w hc none none ht (by decide) (by decide) (by decide)
  have l1 := blR_lt (t := s.turn + 1) s.cells (q := q1) (by decide)
  have l2 := blR_lt (t := s.turn + 1) s.cells (q := q2) (by decide)
  have f1 : 0 * qM + blR (s.turn + 1) s.cells q1 < 2 ^ 40 := by
    rw [Nat.zero_mul, Nat.zero_add]
    exact Nat.lt_trans l1 (by decide)
  obtain ⟨b4, b5, r2⟩ := blend_round (s.turn + 1) q2 (0 * qM + blR (s.turn + 1) s.cells q1) s.cells w hc a4 a5 ht (Nat.lt_trans f1 (by decide)) (by decide) (by decide)
  have f2 : (0 * qM + blR (s.turn + 1) s.cells q1) * qM + blR (s.turn + 1) s.cells q2 < 2 ^ 80 := by
    rw [Nat.zero_mul, Nat.zero_add]
    exact Nat.lt_of_lt_of_le (Nat.add_lt_add_of_le_of_lt (Nat.mul_le_mul_right qM (Nat.le_of_lt l1)) l2) (by decide)
  obtain ⟨c4, c5, r3⟩ := blend_round (s.turn + 1) q3 ((0 * qM + blR (s.turn + 1) s.cells q1) * qM + blR (s.turn + 1) s.cells q2) s.cells w hc b4 b5 ht (Nat.lt_trans f2 (by decide)) (by decide) (by decide)
  rw [sv_forL, od_gN, List.set_cons_succ, List.set_cons_zero]
  have r1' := r1
  rw [show ((q1 : Nat) : Int) = 2147483579 from rfl, ← z0] at r1'
  rw [r1', sv_some, ro_nx, sv_forL, od_gN, List.set_cons_succ, List.set_cons_zero]
  have r2' := r2
  rw [show ((q2 : Nat) : Int) = 2147483629 from rfl] at r2'
  rw [r2', sv_some, ro_nx, sv_forL, od_gN, List.set_cons_succ, List.set_cons_zero]
  have r3' := r3
  rw [show ((q3 : Nat) : Int) = 2147483563 from rfl] at r3'
  rw [r3', sv_some, ro_nx, sv_forN]
  simp [blend]
end DL
end
noncomputable section
namespace DL
open L2 PySem PyProof.Rows PySem.Spec

theorem dw_rest (s : NW) (z : Nat) : ({ great := s.dw.great, cells := s.dw.cells, rest := (z : Int), turn := s.dw.turn } : DW) = NW.dw { s with rest := z } := rfl
theorem refill_run (s : NW) (ht : s.turn + 1 < 2 ^ 140) (ρ : Env) (hρ : ρ[0]? = some (some (.tok 0))) :
    (sIf (eB (e2 dEq (eSt 0 DW.rest) (eC (.int 0)))) (sSt 0 (fun w z => { w with rest := z }) (eIf (eB (eGreat 0)) (ePop0 0) (eCallM g__law_blended (fCons (eVar 0) fNil)))) sNil) s.dw ρ = some (.nx s.refill.dw ρ) := by
  have st : stAt ρ 0 = true := by
    unfold stAt
    rw [hρ] <;> rfl
  have er : dEq (.int s.dw.rest) (.int 0) = some (.bl (decide (s.dw.rest = 0))) := rfl
  simp only [sIf, seqE, eB, e2, bindE, eSt, eC, st, if_true, okE, er]
  by_cases h : s.rest = 0
  · have h' : s.dw.rest = 0 := by
      show (s.rest : Int) = 0
      omega
    rw [decide_eq_true h']
    cases hg : s.great with
    | nil =>
      have e1 : s.dw.great = [] := by
        show s.great.map Int.ofNat = []
        rw [hg] <;> rfl
      have e2 : s.refill = { s with turn := s.turn + 1, rest := blend (s.turn + 1) s.cells } := by
        unfold NW.refill
        rw [if_pos h, hg]
      simp only [sSt, seqE, eIf, eB, bindE, eGreat, st, if_true, e1, List.isEmpty_nil, Bool.not_true, eCallM, fCons, fNil, eVar, hρ, g_blended s ht]
      rw [e2] <;> rfl
    | cons z zs =>
      have e1 : s.dw.great = (z : Int) :: zs.map Int.ofNat := by
        show s.great.map Int.ofNat = _
        rw [hg] <;> rfl
      have e2 : s.refill = { s with great := zs, rest := z } := by
        unfold NW.refill
        rw [if_pos h, hg]
      simp only [sSt, seqE, eIf, eB, bindE, eGreat, st, if_true, e1, List.isEmpty_cons, Bool.not_false, ePop0]
      rw [e2] <;> rfl
  · have h' : ¬ s.dw.rest = 0 := by
      show ¬ (s.rest : Int) = 0
      omega
    rw [decide_eq_false h']
    have e2 : s.refill = s := by
      unfold NW.refill
      rw [if_neg h]
    rw [e2] <;> rfl
theorem g_draw (s : NW) (room : Nat) (h0 : 0 < room) (hr : room < 2 ^ 4000) (ht : s.turn + 1 < 2 ^ 140) : g__law_draw s.dw [.tok 0, .int (room : Int)] = some (.ok (.int ((s.draw room).1 : Nat), (s.draw room).2.dw)) := by
  rw [← rv_eq]
  unfold g__law_draw m__law_draw
  rw [rv_runB]
  refine ⟨rfl, ?_⟩
  rw [sv_cons, refill_run s ht _ rfl, sv_some, th_nx]
  have e1 : dMod (.int s.refill.dw.rest) (.int (room : Int)) = some (.int ((s.refill.rest % room : Nat) : Int)) := by
    rw [dMod_int (by omega)]
    exact congrArg (fun x => some (D.int x)) (fmod_nat _ _)
  have e2 : dFdiv (.int s.refill.dw.rest) (.int (room : Int)) = some (.int ((s.refill.rest / room : Nat) : Int)) := by
    rw [dFdiv_int (by omega) (by simpa using hr)]
    exact congrArg (fun x => some (D.int x)) (fdiv_nat _ _)
  simp [stAt, dInt, e1, e2]
  exact ⟨rfl, rfl⟩
theorem ixN_nat {n k : Nat} (h : k < n) : ixN n (k : Int) = some k := by
  unfold ixN
  rw [if_pos (Int.natCast_nonneg k), if_pos (by omega)]
  simp
theorem atI_nat {α : Type} {l : List α} {k : Nat} (h : k < l.length) : atI l (k : Int) = l[k]? := by
  unfold atI
  rw [ixN_nat h]
  rfl
/-- a pick of a list -/
theorem g_pick (s : NW) (l : List D) (h0 : l ≠ []) (hr : l.length < 2 ^ 60) (ht : s.turn + 1 < 2 ^ 140) : ∃ d, d ∈ l ∧ l[(s.draw l.length).1]? = some d ∧ g__law_pick s.dw [.tok 0, .lst l] = some (.ok (d, (s.draw l.length).2.dw)) := by
  have hp : 0 < l.length := List.length_pos_iff.mpr h0
  have hlt := draw_lt hp s
  refine ⟨l[(s.draw l.length).1], List.getElem_mem _, List.getElem?_eq_getElem hlt, ?_⟩
  rw [← rv_eq]
  unfold g__law_pick m__law_pick
  have hd := g_draw s l.length hp (Nat.lt_trans hr (by decide)) ht
  have ei : atI l (((s.draw l.length).1 : Nat) : Int) = some l[(s.draw l.length).1] := by
    rw [atI_nat hlt]
    exact List.getElem?_eq_getElem hlt
  simp [dLen, hd, dIdx, ei]
end DL
end
noncomputable section
namespace DL
open L2 PySem PyProof.Rows PySem.Spec

/-! ### words: letters drawn -/
def alpha : Str := "abcdefghijklmnopqrstuvwxyz"
def letD (d : Nat) : D := .str ⟨#[97 + d]⟩
def toS (ds : List Nat) : Str := ⟨(ds.map (97 + ·)).toArray⟩
theorem signs_alpha : signs alpha = (List.range 26).map letD := rfl
theorem alpha_at {d : Nat} (h : d < 26) : (signs alpha)[d]? = some (letD d) := by
  rw [signs_alpha, List.getElem?_map, List.getElem?_range h]
  rfl
theorem draw_of (s : NW) (room : Nat) : s.draw room = ((s.draw room).1, (s.draw room).2) := rfl
theorem letters_run (p1 p2 : Fe DW) (hp : ∀ (s : NW) (ρ : Env), s.turn + 1 < 2 ^ 140 → ρ[0]? = some (some (.tok 0)) → p2 s.dw ρ = some (.ok (letD (s.draw 26).1, (s.draw 26).2.dw))) :
    ∀ (ds : List D) (s : NW) (ρ : Env), s.turn + ds.length + 1 < 2 ^ 140 → ρ[0]? = some (some (.tok 0)) → compL (gN 4) (eC (.bl true)) p2 ds s.dw ρ = some (.ok ((NW.letters ds.length s).1.map letD, (NW.letters ds.length s).2.dw))
  | [], s, ρ, ht, hρ => rfl
  | d :: ds, s, ρ, ht, hρ => by
    rw [List.length_cons] at ht ⊢
    have h4 : (ρ.set 4 (some d))[0]? = some (some (.tok 0)) := by
      rw [List.getElem?_set_ne (by decide)]
      exact hρ
    have e := hp s (ρ.set 4 (some d)) (by omega) h4
    have dt := draw_turn 26 s
    have ih := letters_run p1 p2 hp ds (s.draw 26).2 ρ (by omega) hρ
    unfold compL
    simp only [gN, eC]
    rw [e]
    dsimp only
    rw [ih]
    rfl
theorem pick_alpha (s : NW) (ρ : Env) (ht : s.turn + 1 < 2 ^ 140) (hρ : ρ[0]? = some (some (.tok 0))) :
    (eCallM g__law_pick (fCons (eVar 0) (fCons (eN dListS (fCons (eC (.str "abcdefghijklmnopqrstuvwxyz")) fNil)) fNil))) s.dw ρ = some (.ok (letD (s.draw 26).1, (s.draw 26).2.dw)) := by
  obtain ⟨d, _, h2, h3⟩ := g_pick s (signs alpha) (by rw [signs_alpha]; decide) (by rw [signs_alpha]; decide) ht
  have hl : (signs alpha).length = 26 := by rw [signs_alpha] <;> rfl
  rw [hl] at h2 h3
  rw [alpha_at (draw_lt (by decide) s)] at h2
  cases h2
  have e1 : dListS [.str "abcdefghijklmnopqrstuvwxyz"] = some (.lst (signs alpha)) := rfl
  simp only [eCallM, fCons, fNil, bindE, eVar, hρ, eN, eC, e1, okE]
  exact h3
theorem strsOf_map : ∀ l : List Str, strsOf (l.map D.str) = some l
  | [] => rfl
  | x :: l => by
    rw [List.map_cons]
    unfold strsOf
    rw [strsOf_map l]
    rfl

def let1 (d : Nat) : Str := ⟨#[97 + d]⟩
theorem strs_lets (l : List Nat) : strsOf (l.map letD) = some (l.map let1) := by
  have := strsOf_map (l.map let1)
  rw [List.map_map] at this
  exact this
theorem join_lets : ∀ l : List Nat, Str.join "" (l.map let1) = toS l
  | [] => rfl
  | [d] => rfl
  | d :: e :: l => by
    have ih := join_lets (e :: l)
    rw [List.map_cons] at ih
    rw [List.map_cons, List.map_cons]
    show let1 d ++ "" ++ Str.join "" (let1 e :: l.map let1) = _
    rw [ih]
    apply str_ext
    show ((let1 d).cps ++ #[] ++ (toS (e :: l)).cps).toList = _
    simp [let1, toS]
theorem join_ok (l : List Nat) (h : l.length ≤ 16) : dJoin "" (.lst (l.map letD)) = some (.str (toS l)) := by
  unfold dJoin
  dsimp only
  rw [strs_lets]
  dsimp only
  have e : ((l.map let1).map (·.length)).sum = l.length := by
    clear h
    induction l with
    | nil => rfl
    | cons d l ih =>
      rw [List.map_cons, List.map_cons, List.sum_cons, ih, List.length_cons]
      show 1 + l.length = l.length + 1
      omega
  rw [if_pos (by
    rw [e, List.length_map]
    show l.length + l.length * 0 ≤ 16777216
    omega), join_lets]
def fWord : Fe DW := eM1 dJoin (eC (.str "")) (eComp (fRange1 (e2 dAdd (eC (.int 1)) (eCallM g__law_draw (fCons (eVar 0) (fCons (eC (.int 8)) fNil))))) [4] (gN 4) (eC (.bl true)) (eCallM g__law_pick (fCons (eVar 0) (fCons (eN dListS (fCons (eC (.str "abcdefghijklmnopqrstuvwxyz")) fNil)) fNil))))
theorem rangeD_len (a : Int) (n : Nat) : (rangeD a n).length = n := by simp [rangeD]
theorem word_run (s : NW) (ρ : Env) (ht : s.turn + 20 < 2 ^ 140) (hρ : ρ[0]? = some (some (.tok 0))) : fWord s.dw ρ = some (.ok (.str (toS s.word.1), s.word.2.dw)) := by
  have hd := g_draw s 8 (by decide) (by decide) (by omega)
  have h8 := draw_lt (room := 8) (by decide) s
  have dt := draw_turn 8 s
  have hρ4 : (wipeE ρ [4])[0]? = some (some (.tok 0)) := by
    show (ρ.set 4 none)[0]? = _
    rw [List.getElem?_set_ne (by decide)]
    exact hρ
  have hc := letters_run (eC (.bl true)) _ pick_alpha (rangeD 0 (1 + (s.draw 8).1)) (s.draw 8).2 (wipeE ρ [4]) (by rw [rangeD_len]; omega) hρ4
  rw [rangeD_len] at hc
  have hl := letters_len (1 + (s.draw 8).1) (s.draw 8).2
  have e1 : dAdd (.int 1) (.int ((s.draw 8).1 : Nat)) = some (.int ((1 + (s.draw 8).1 : Nat) : Int)) := by
    show some (D.int (1 + (((s.draw 8).1 : Nat) : Int))) = _
    rw [Int.natCast_add] <;> rfl
  have hd' : g__law_draw s.dw [.tok 0, .int 8] = some (.ok (.int ((s.draw 8).1 : Nat), (s.draw 8).2.dw)) := hd
  rw [← rv_eq]
  unfold fWord
  rw [rv_M1, rv_c, tv_str, rv_comp, rv_range1, rv_e2, rv_c, rv_callM]
  simp only [rv_cons, rv_nil, rv_c, rv_var, hρ, od_some, hd', rv_ok, e1, iv_int, Int.toNat_natCast]
  refine ⟨⟨by omega, by omega⟩, ?_⟩
  rw [hc, rv_ok, List.length_map]
  refine ⟨by omega, ?_⟩
  rw [join_ok _ (by rw [hl]; omega), od_some]
  exact ⟨rfl, rfl⟩
end DL
end
noncomputable section
namespace DL
open L2 PySem PyProof.Rows PySem.Spec

/-! ### lists of words -/
def isWd (s : Str) : Bool := decide (1 ≤ s.length) && decide (s.length ≤ 8) && s.cps.toList.all fun c => decide (97 ≤ c) && decide (c ≤ 122)
theorem isWd_iff {s : Str} : isWd s = true ↔ 1 ≤ s.length ∧ s.length ≤ 8 ∧ ∀ c ∈ s.cps.toList, 97 ≤ c ∧ c ≤ 122 := by
  unfold isWd
  simp only [Bool.and_eq_true, decide_eq_true_eq, List.all_eq_true, and_assoc]
theorem isWd_ok {s : Str} (h : isWd s = true) (n : Nat) : shD n (.str s) = true := by
  have q : PyData.strOk s = true := by
    unfold PyData.strOk
    rw [← Array.all_toList, List.all_eq_true]
    intro c hc
    have := (isWd_iff.mp h).2.2 c hc
    exact decide_eq_true (by omega)
  cases n <;> simpa [shD] using q
theorem shDs_wd {l : List Str} (h : ∀ s ∈ l, isWd s = true) (n : Nat) : shDs n (l.map D.str) = true := by
  induction l with
  | nil => simp [shDs]
  | cons s l ih =>
    rw [List.map_cons, shDs, isWd_ok (h s List.mem_cons_self), ih fun x hx => h x (List.mem_cons_of_mem _ hx)]
    rfl
theorem any_eqv (l : List Str) (s : Str) : ((l.map D.str).any fun z => PyData.eqv (toPy z) (toPy (.str s))) = decide (s ∈ l) := by
  induction l with
  | nil => simp
  | cons x l ih =>
    rw [List.map_cons, List.any_cons, ih]
    have : PyData.eqv (toPy (.str x)) (toPy (.str s)) = (x == s) := by simp [toPy, PyData.eqv]
    rw [this]
    by_cases e : x = s
    · simp [e]
    · have e' : ¬ s = x := fun z => e z.symm
      have : (x == s) = false := by simpa using e
      simp [this, e']
theorem dIn_wd {l : List Str} {s : Str} (h1 : shD 60 (.str s) = true) (h : ∀ x ∈ l, isWd x = true) : dIn (.str s) (.lst (l.map D.str)) = some (.bl (decide (s ∈ l))) := by
  have h2 : shD 60 (.lst (l.map D.str)) = true := by
    have := shDs_wd h 59
    simpa [shD] using this
  unfold dIn
  split
  · rename_i hb
    cases hb
  · rename_i ha hb
    cases hb
    rw [h1, h2, any_eqv]
    rfl
  · rename_i hn1 hn2
    first
      | exact (hn1 _ rfl).elim
      | exact (hn1 _ _ rfl rfl).elim
      | exact (hn2 _ rfl).elim
      | simp at hn1
      | simp at hn2
theorem dNotIn_wd {l : List Str} {s : Str} (hs : shD 60 (.str s) = true) (h : ∀ x ∈ l, isWd x = true) : dNotIn (.str s) (.lst (l.map D.str)) = some (.bl (!decide (s ∈ l))) := by
  unfold dNotIn
  rw [dIn_wd hs h]
theorem toS_wd (s : NW) : isWd (toS s.word.1) = true := by
  have h8 := draw_lt (room := 8) (by decide) s
  have hl := letters_len (1 + (s.draw 8).1) (s.draw 8).2
  have hlt := letters_lt (1 + (s.draw 8).1) (s.draw 8).2
  have e : (toS s.word.1).length = 1 + (s.draw 8).1 := by
    show ((s.word.1.map (97 + ·)).toArray).size = _
    rw [List.size_toArray, List.length_map]
    exact hl
  refine isWd_iff.mpr ⟨by omega, by omega, fun c hc => ?_⟩
  have hc' : c ∈ s.word.1.map (97 + ·) := by simpa [toS] using hc
  obtain ⟨d, hd, rfl⟩ := List.mem_map.mp hc'
  have : d < 26 := hlt d hd
  omega
/-- the letter that begins, and q's -/
def qWd (s : Str) (n : Nat) : Str := ⟨(s.cps.toList.take 1 ++ List.replicate n 113).toArray⟩
theorem qWd_wd {s : Str} (h : isWd s = true) {n : Nat} (hn : n < 8) : isWd (qWd s n) = true := by
  obtain ⟨h1, h2, h3⟩ := isWd_iff.mp h
  have h1' : 1 ≤ s.cps.toList.length := h1
  have e : (qWd s n).length = 1 + n := by
    show ((s.cps.toList.take 1 ++ List.replicate n 113).toArray).size = _
    rw [List.size_toArray, List.length_append, List.length_take, List.length_replicate]
    omega
  refine isWd_iff.mpr ⟨by omega, by omega, fun c hc => ?_⟩
  have hc' : c ∈ s.cps.toList.take 1 ++ List.replicate n 113 := by simpa [qWd] using hc
  rcases List.mem_append.mp hc' with z | z
  · exact h3 c (List.mem_of_mem_take z)
  · have := (List.mem_replicate.mp z).2
    omega
theorem qWd_sh {s : Str} (h : isWd s = true) (n : Nat) : shD 60 (.str (qWd s n)) = true := by
  obtain ⟨h1, h2, h3⟩ := isWd_iff.mp h
  have q : PyData.strOk (qWd s n) = true := by
    unfold PyData.strOk
    rw [← Array.all_toList, List.all_eq_true]
    intro c hc
    have hc' : c ∈ s.cps.toList.take 1 ++ List.replicate n 113 := by simpa [qWd] using hc
    rcases List.mem_append.mp hc' with z | z
    · have := h3 c (List.mem_of_mem_take z)
      exact decide_eq_true (by omega)
    · have := (List.mem_replicate.mp z).2
      exact decide_eq_true (by omega)
  simpa [shD] using q
end DL
end
noncomputable section
namespace DL
open L2 PySem PyProof.Rows PySem.Spec

def fQ : Fe DW := e2 dAdd (eCut (eVar 3) fPn (fPs (eC (.int 1)))) (e2 dMul (eC (.str "q")) (eN dLen (fCons (eVar 2) fNil)))
theorem cut1 {s : Str} (h : 1 ≤ s.length) : cutS s none (some 1) = ⟨(s.cps.toList.take 1).toArray⟩ := by
  unfold cutS
  have e1 : HT.sIx s.length 0 none = 0 := rfl
  have e2 : HT.sIx s.length s.length (some 1) = 1 := by
    have := HT.sIx_nat s.length s.length 1
    rw [show ((1 : Nat) : Int) = 1 from rfl] at this
    rw [this]
    omega
  rw [e1, e2, List.drop_zero]
theorem fQ_run (w : DW) (ρ : Env) (s : Str) (l : List D) (hs : isWd s = true) (hl : l.length ≤ 1000) (h2 : ρ[2]? = some (some (.lst l))) (h3 : ρ[3]? = some (some (.str s))) : fQ w ρ = some (.ok (.str (qWd s l.length), w)) := by
  obtain ⟨l1, l8, _⟩ := isWd_iff.mp hs
  have e1 : dCut (.str s) none (some 1) = some (.str ⟨(s.cps.toList.take 1).toArray⟩) := by
    unfold dCut
    dsimp only
    rw [if_pos (by omega), cut1 l1]
  have e2' : dMul (.str "q") (.int (l.length : Int)) = some (.str (repS "q" l.length)) := by
    show (if decide (-1000000 ≤ (l.length : Int)) && decide ((l.length : Int) ≤ 1000000) && decide (("q" : Str).length * ((l.length : Int)).toNat ≤ 16000000) then some (D.str (repS "q" l.length)) else none) = _
    rw [if_pos]
    rw [Bool.and_eq_true, Bool.and_eq_true]
    refine ⟨⟨decide_eq_true (by omega), decide_eq_true (by omega)⟩, decide_eq_true ?_⟩
    rw [Int.toNat_natCast]
    show 1 * l.length ≤ 16000000
    omega
  have e3 : repS "q" (l.length : Int) = ⟨(List.replicate l.length 113).toArray⟩ := by
    unfold repS
    rw [Int.toNat_natCast]
    have : ∀ n, (List.replicate n ("q" : Str).cps.toList).flatten = List.replicate n 113 := fun n => by
      induction n with
      | zero => rfl
      | succ n ih =>
        rw [List.replicate_succ, List.flatten_cons, ih, List.replicate_succ]
        rfl
    rw [this]
  have e4 : dAdd (.str ⟨(s.cps.toList.take 1).toArray⟩) (.str ⟨(List.replicate l.length 113).toArray⟩) = some (.str (qWd s l.length)) := by
    unfold dAdd
    dsimp only
    rw [if_pos]
    · refine congrArg (fun x => some (D.str x)) ?_
      apply str_ext
      show ((s.cps.toList.take 1).toArray ++ (List.replicate l.length 113).toArray).toList = _
      simp [qWd]
    · show (s.cps.toList.take 1).toArray.size + (List.replicate l.length 113).toArray.size ≤ 16000000
      simp
      omega
  rw [← rv_eq]
  unfold fQ
  simp only [rv_e2, rv_cut, rv_var, rv_pn, rv_ps, rv_c, iv_int, rv_eN, rv_cons, rv_nil, h2, h3, od_some, e1, dLen, e2', e3, e4, and_self]
end DL
end
noncomputable section
namespace DL
open L2 PySem PyProof.Rows PySem.Spec

def addW (found : List Str) (w : Str) : List Str := if w ∈ found then (if qWd w found.length ∉ found ∧ found.length < 8 then found ++ [qWd w found.length] else found) else found ++ [w]
def fAdd : Fe DW := e2 dAdd (eVar 2) (eIf (eB (e2 dNotIn (eVar 3) (eVar 2))) (eLst (fCons (eVar 3) fNil)) (eIf (eAnd (eB (e2 dNotIn fQ (eVar 2))) (eB (e2 dLt (eN dLen (fCons (eVar 2) fNil)) (eC (.int 8))))) (eLst (fCons fQ fNil)) (eLst fNil)))
theorem dAdd_lst (l m : List D) (h : l.length + m.length ≤ 1000) : dAdd (.lst l) (.lst m) = some (.lst (l ++ m)) := by
  unfold dAdd
  dsimp only
  rw [if_pos (by omega)]
theorem fAdd_run (w : DW) (ρ : Env) (s : Str) (l : List Str) (hs : isWd s = true) (hw : ∀ x ∈ l, isWd x = true) (hl : l.length ≤ 100) (h2 : ρ[2]? = some (some (.lst (l.map D.str)))) (h3 : ρ[3]? = some (some (.str s))) : fAdd w ρ = some (.ok (.lst ((addW l s).map D.str), w)) := by
  have hq := fQ_run w ρ s (l.map D.str) hs (by rw [List.length_map]; omega) h2 h3
  rw [List.length_map] at hq
  have n1 := dNotIn_wd (isWd_ok hs 60) hw
  have n2 := dNotIn_wd (qWd_sh hs l.length) hw
  have a0 := dAdd_lst (l.map D.str) [] (by rw [List.length_map, List.length_nil]; omega)
  have a1 := fun x => dAdd_lst (l.map D.str) [D.str x] (by rw [List.length_map]; simp; omega)
  have el : dLen [.lst (l.map D.str)] = some (.int (l.length : Int)) := by
    show some (D.int ((l.map D.str).length : Int)) = _
    rw [List.length_map]
  have lt : dLt (.int (l.length : Int)) (.int 8) = some (.bl (decide (l.length < 8))) := by
    show some (D.bl (decide ((l.length : Int) < 8))) = _
    congr 2
    exact decide_eq_decide.mpr (by omega)
  rw [← rv_eq]
  unfold fAdd addW
  by_cases c1 : s ∈ l
  · rw [if_pos c1]
    rw [decide_eq_true c1] at n1
    by_cases c2 : qWd s l.length ∈ l
    · rw [decide_eq_true c2] at n2
      simp only [rv_e2, rv_var, h2, h3, od_some, rv_if, rv_eB, n1, Bool.not_true, bv_bl, Bool.false_eq_true, if_false, rv_and, hq, rv_ok, n2, rv_lst, rv_nil, a0, c2, not_true_eq_false, false_and, List.append_nil, and_self]
    · rw [decide_eq_false c2] at n2
      by_cases c3 : l.length < 8
      · rw [decide_eq_true c3] at lt
        simp only [rv_e2, rv_var, h2, h3, od_some, rv_if, rv_eB, n1, Bool.not_true, bv_bl, Bool.false_eq_true, if_false, rv_and, hq, rv_ok, n2, Bool.not_false, if_true, rv_lst, rv_nil, rv_cons, rv_eN, rv_c, el, lt, a1, c2, c3, not_false_eq_true, true_and, List.map_append, List.map_cons, List.map_nil, and_self]
      · rw [decide_eq_false c3] at lt
        simp only [rv_e2, rv_var, h2, h3, od_some, rv_if, rv_eB, n1, Bool.not_true, bv_bl, Bool.false_eq_true, if_false, rv_and, hq, rv_ok, n2, Bool.not_false, if_true, rv_lst, rv_nil, rv_cons, rv_eN, rv_c, el, lt, a0, c2, c3, not_false_eq_true, true_and, and_false, List.append_nil, and_self]
  · rw [if_neg c1]
    rw [decide_eq_false c1] at n1
    simp only [rv_e2, rv_var, h2, h3, od_some, rv_if, rv_eB, n1, Bool.not_false, bv_bl, if_true, rv_lst, rv_nil, rv_cons, a1, List.map_append, List.map_cons, List.map_nil, and_self]
end DL
end
noncomputable section
namespace DL
open L2 PySem PyProof.Rows PySem.Spec

theorem addW_cases (l : List Str) (s : Str) (hs : isWd s = true) (hw : ∀ x ∈ l, isWd x = true) (nd : l.Nodup) :
    (addW l s = l ∧ s ∈ l) ∨ ((addW l s).length = l.length + 1 ∧ (∀ x ∈ addW l s, isWd x = true) ∧ (addW l s).Nodup) := by
  have one : ∀ q, isWd q = true → q ∉ l → (l ++ [q]).length = l.length + 1 ∧ (∀ x ∈ l ++ [q], isWd x = true) ∧ (l ++ [q]).Nodup := fun q hq hn => by
    refine ⟨by simp, fun x hx => ?_, ?_⟩
    · rcases List.mem_append.mp hx with z | z
      · exact hw x z
      · rw [List.mem_singleton.mp z]; exact hq
    · refine List.nodup_append.mpr ⟨nd, by simp, fun a ha b hb => ?_⟩
      rw [List.mem_singleton.mp hb]
      exact fun z => hn (z ▸ ha)
  unfold addW
  split
  · rename_i c
    split
    · rename_i c2
      exact .inr (one _ (qWd_wd hs c2.2) c2.1)
    · exact .inl ⟨rfl, c⟩
  · rename_i c
    exact .inr (one _ hs c)
def backS (s : Str) : List Nat := s.cps.toList.map fun c => c - 97
theorem back_toS (l : List Nat) : backS (toS l) = l := by
  show (l.map (97 + ·)).map (fun c => c - 97) = l
  rw [List.map_map]
  have : ((fun c => c - 97) ∘ (97 + ·)) = (id : Nat → Nat) := by
    funext x
    show 97 + x - 97 = x
    omega
  rw [this, List.map_id]
theorem after_shift (s : NW) : ∀ k, s.word.2.after k = s.after (k + 1)
  | 0 => rfl
  | k + 1 => by
    show (s.word.2.after k).word.2 = (s.after (k + 1)).word.2
    rw [after_shift s k]
def cWords : Fe DW := eB (e2 dLt (eN dLen (fCons (eVar 2) fNil)) (eVar 1))
def bWords : Fs DW := sCons (sAsg fWord (gN 3)) (sAsg fAdd (gN 2))
/-- what a list of words is to be -/
def GoodWs (many : Nat) (f : List Str) : Prop := f.length = many ∧ (∀ x ∈ f, isWd x = true) ∧ f.Nodup
theorem words_round (s : NW) (many : Nat) (l : List Str) (x3 x4 : Option D) (QS : Out DW → Prop) (ht : s.turn + 20 < 2 ^ 140) (hlt : l.length < many) (hw : ∀ x ∈ l, isWd x = true) (hl : l.length ≤ 100)
    (h : Sv (sWhile cWords bWords s.word.2.dw [some (.tok 0), some (.int (many : Int)), some (.lst ((addW l (toS s.word.1)).map D.str)), some (.str (toS s.word.1)), x4]) QS) :
    Sv (sWhile cWords bWords s.dw [some (.tok 0), some (.int (many : Int)), some (.lst (l.map D.str)), x3, x4]) QS := by
  rw [sv_while]
  have el : dLen [.lst (l.map D.str)] = some (.int (l.length : Int)) := by
    show some (D.int ((l.map D.str).length : Int)) = _
    rw [List.length_map]
  have lt : dLt (.int (l.length : Int)) (.int (many : Int)) = some (.bl true) := by
    show some (D.bl (decide ((l.length : Int) < (many : Int)))) = _
    rw [decide_eq_true (by omega)]
  have w1 := word_run s [some (.tok 0), some (.int (many : Int)), some (.lst (l.map D.str)), x3, x4] ht rfl
  have a1 := fAdd_run s.word.2.dw [some (.tok 0), some (.int (many : Int)), some (.lst (l.map D.str)), some (.str (toS s.word.1)), x4] (toS s.word.1) l (toS_wd s) hw hl rfl rfl
  unfold cWords
  simp only [rv_eB, rv_e2, rv_eN, rv_cons, rv_nil, rv_var, List.getElem?_cons_succ, List.getElem?_cons_zero, od_some, el, lt, bv_bl, if_true]
  unfold bWords
  rw [sv_cons, sv_asg, w1, rv_ok, od_gN]
  simp only [List.set_cons_succ, List.set_cons_zero, th_nx]
  rw [sv_asg, a1, rv_ok, od_gN]
  simp only [List.set_cons_succ, List.set_cons_zero, ro_nx]
  exact h
theorem words_loop (many : Nat) (hm : many ≤ 64) (QS : Out DW → Prop) : ∀ (m : Nat) (s : NW) (l : List Str) (x3 x4 : Option D), l.length + m = many → (∀ x ∈ l, isWd x = true) → l.Nodup → s.cells.length ≤ 63 → s.turn + m * (qP + 20) + 20 < 2 ^ 140 →
    (∀ (f : List Str) (u : NW) (y3 y4 : Option D), GoodWs many f → u.cells = s.cells → s.turn ≤ u.turn → u.turn ≤ s.turn + m * (qP + 20) → QS (.nx u.dw [some (.tok 0), some (.int (many : Int)), some (.lst (f.map D.str)), y3, y4])) →
    Sv (sWhile cWords bWords s.dw [some (.tok 0), some (.int (many : Int)), some (.lst (l.map D.str)), x3, x4]) QS
  | 0, s, l, x3, x4, hl, hw, nd, hc, ht, hQ => by
    rw [sv_while]
    have el : dLen [.lst (l.map D.str)] = some (.int (l.length : Int)) := by
      show some (D.int ((l.map D.str).length : Int)) = _
      rw [List.length_map]
    have lt : dLt (.int (l.length : Int)) (.int (many : Int)) = some (.bl false) := by
      show some (D.bl (decide ((l.length : Int) < (many : Int)))) = _
      rw [decide_eq_false (by omega)]
    unfold cWords
    simp only [rv_eB, rv_e2, rv_eN, rv_cons, rv_nil, rv_var, List.getElem?_cons_succ, List.getElem?_cons_zero, od_some, el, lt, bv_bl, Bool.false_eq_true, if_false]
    exact hQ l s x3 x4 ⟨by omega, hw, nd⟩ rfl (Nat.le_refl _) (by omega)
  | m + 1, s, l, x3, x4, hl, hw, nd, hc, ht, hQ => by
    rw [Nat.succ_mul] at ht
    obtain ⟨k, hk, hkt⟩ := word_comes s hc (l.map backS) (by rw [List.length_map]; omega)
    have inner : ∀ (k : Nat) (u : NW) (x3 : Option D), (u.after k).word.1 ∉ l.map backS → (u.after k).turn ≤ s.turn + qP → u.cells = s.cells → s.turn ≤ u.turn →
        Sv (sWhile cWords bWords u.dw [some (.tok 0), some (.int (many : Int)), some (.lst (l.map D.str)), x3, x4]) QS := by
      intro k
      induction k with
      | zero =>
        intro u x3 h1 h2 h3 h4
        have h2' : u.turn ≤ s.turn + qP := h2
        have wt := word_turn u
        refine words_round u many l x3 x4 QS (by omega) (by omega) hw (by omega) ?_
        rcases addW_cases l (toS u.word.1) (toS_wd u) hw nd with ⟨_, z⟩ | ⟨c1, c2, c3⟩
        · exact absurd (List.mem_map.mpr ⟨_, z, back_toS _⟩) h1
        · refine words_loop many hm QS m u.word.2 _ _ _ (by omega) c2 c3 (by rw [word_cells, h3]; exact hc) (by omega) fun f v y3 y4 g1 g2 g3 g4 => hQ f v y3 y4 g1 (by rw [g2, word_cells, h3]) (by omega) (by rw [Nat.succ_mul]; omega)
      | succ k ih =>
        intro u x3 h1 h2 h3 h4
        have wt := word_turn u
        have mono := after_turn u (Nat.zero_le (k + 1))
        have h2' : u.turn ≤ s.turn + qP := Nat.le_trans mono h2
        refine words_round u many l x3 x4 QS (by omega) (by omega) hw (by omega) ?_
        rcases addW_cases l (toS u.word.1) (toS_wd u) hw nd with ⟨z, _⟩ | ⟨c1, c2, c3⟩
        · rw [z]
          exact ih u.word.2 _ (by rw [after_shift]; exact h1) (by rw [after_shift]; exact h2) (by rw [word_cells, h3]) (by omega)
        · refine words_loop many hm QS m u.word.2 _ _ _ (by omega) c2 c3 (by rw [word_cells, h3]; exact hc) (by omega) fun f v y3 y4 g1 g2 g3 g4 => hQ f v y3 y4 g1 (by rw [g2, word_cells, h3]) (by omega) (by rw [Nat.succ_mul]; omega)
    exact inner k s x3 hk hkt rfl (Nat.le_refl _)
end DL
end
noncomputable section
namespace DL
open L2 PySem PyProof.Rows PySem.Spec

theorem intsOf_strs : ∀ (x : Str) (l : List Str), intsOf ((x :: l).map D.str) = none
  | x, l => rfl
theorem dSorted_strs (l : List Str) (h : l.length ≤ 1000) : dSorted [.lst (l.map D.str)] = some (.lst ((sortS l).map D.str)) := by
  cases l with
  | nil =>
    have e1 : sortS [] = [] := List.mergeSort_nil
    have e2 : sortI [] = [] := List.mergeSort_nil
    rw [e1]
    unfold dSorted
    simp [intsOf, e2]
  | cons x l =>
    unfold dSorted
    dsimp only
    rw [intsOf_strs, strsOf_map]
    dsimp only
    rw [if_pos (by omega)]
theorem sortS_good {many : Nat} {l : List Str} (h : GoodWs many l) : GoodWs many (sortS l) := by
  have p : (sortS l).Perm l := List.mergeSort_perm l sLe
  exact ⟨by rw [p.length_eq]; exact h.1, fun x hx => h.2.1 x (p.mem_iff.mp hx), p.nodup_iff.mpr h.2.2⟩
/-- a sequence of words that rises -/
def RiseS (l : List Str) : Prop := l.Pairwise fun a b => strLt a b = true
theorem sortS_rise {l : List Str} (nd : l.Nodup) : RiseS (sortS l) := by
  have p : (sortS l).Perm l := List.mergeSort_perm l sLe
  have n2 : (sortS l).Nodup := p.nodup_iff.mpr nd
  have s : (sortS l).Pairwise fun a b => sLe a b = true := List.pairwise_mergeSort sLe_trans sLe_total l
  refine (s.and n2).imp fun {a b} h => ?_
  have h1 := h.1
  have h2 : a ≠ b := h.2
  cases e : strLt a b with
  | true => rfl
  | false =>
    have : sLe b a = true := by
      unfold sLe
      rw [e]
      rfl
    exact absurd (sLe_antisymm a b h1 this) h2
/-- THE WORDS -/
theorem g_words (s : NW) (many : Nat) (hm : many ≤ 64) (hc : s.cells.length ≤ 63) (ht : s.turn + many * (qP + 20) + 20 < 2 ^ 140) : ∃ (f : List Str) (u : NW),
    g__law_words s.dw [.tok 0, .int (many : Int)] = some (.ok (.lst (f.map D.str), u.dw)) ∧ GoodWs many f ∧ RiseS f ∧ u.cells = s.cells ∧ s.turn ≤ u.turn ∧ u.turn ≤ s.turn + many * (qP + 20) := by
  have key : Rv (g__law_words s.dw [.tok 0, .int (many : Int)]) (fun d w => ∃ (f : List Str) (u : NW), d = .lst (f.map D.str) ∧ w = u.dw ∧ GoodWs many f ∧ RiseS f ∧ u.cells = s.cells ∧ s.turn ≤ u.turn ∧ u.turn ≤ s.turn + many * (qP + 20)) (fun _ _ => False) := by
    unfold g__law_words m__law_words
    rw [rv_runB]
    refine ⟨rfl, ?_⟩
    rw [sv_cons, sv_asg, rv_lst, rv_nil, od_gN, th_nx, sv_cons]
    refine words_loop many hm _ many s [] none none (by simp) (fun x hx => by cases hx) .nil hc (by omega) fun f u y3 y4 g1 g2 g3 g4 => ?_
    rw [th_nx, sv_ret]
    simp only [rv_eN, rv_cons, rv_nil, rv_var, List.getElem?_cons_succ, List.getElem?_cons_zero, od_some, dSorted_strs f (by rw [g1.1]; omega), outB_ret]
    exact ⟨sortS f, u, rfl, rfl, sortS_good g1, sortS_rise g1.2.2, g2, g3, g4⟩
  obtain ⟨d, w, e, f, u, rfl, rfl, q⟩ := rv_ex.mp key
  exact ⟨f, u, e, q⟩
end DL
end
noncomputable section
namespace DL
open L2 PySem PyProof.Rows PySem.Spec

/-! ### fine values: of Python's own kinds, nested few deep, nothing huge -/
mutual
def fiD (b : Nat) : Nat → D → Bool
  | _, .non => true
  | _, .bl _ => true
  | _, .int i => decide (i.natAbs < 2 ^ b)
  | _, .str s => PyData.strOk s && decide (s.length ≤ 1000)
  | 0, _ => false
  | n + 1, .tup l => decide (l.length ≤ 100000) && fiDs b n l
  | n + 1, .lst l => decide (l.length ≤ 100000) && fiDs b n l
  | _, _ => false
def fiDs (b : Nat) : Nat → List D → Bool
  | _, [] => true
  | n, d :: l => fiD b n d && fiDs b n l
end
theorem fiDs_iff {b : Nat} (n : Nat) : ∀ l : List D, fiDs b n l = true ↔ ∀ d ∈ l, fiD b n d = true
  | [] => by simp [fiDs]
  | d :: l => by
    rw [fiDs, Bool.and_eq_true, fiDs_iff n l]
    simp
mutual
theorem fiD_up {b : Nat} : ∀ (n m : Nat) (d : D), n ≤ m → fiD b n d = true → fiD b m d = true
  | n, m, .non, _, _ => by cases m <;> rfl
  | n, m, .bl b, _, _ => by cases m <;> rfl
  | n, m, .int i, _, h => by cases n <;> cases m <;> exact h
  | n, m, .str s, _, h => by cases n <;> cases m <;> exact h
  | n + 1, m + 1, .tup l, hl, h => by
    rw [fiD, Bool.and_eq_true] at h ⊢
    exact ⟨h.1, fiDs_up n m l (by omega) h.2⟩
  | n + 1, m + 1, .lst l, hl, h => by
    rw [fiD, Bool.and_eq_true] at h ⊢
    exact ⟨h.1, fiDs_up n m l (by omega) h.2⟩
  | 0, m, .tup l, _, h => by simp [fiD] at h
  | 0, m, .lst l, _, h => by simp [fiD] at h
  | n + 1, 0, .tup l, hl, h => by omega
  | n + 1, 0, .lst l, hl, h => by omega
  | n, m, .dct l, _, h => by cases n <;> simp [fiD] at h
  | n, m, .frl l, _, h => by cases n <;> simp [fiD] at h
  | n, m, .opq, _, h => by cases n <;> simp [fiD] at h
  | n, m, .exc c l, _, h => by cases n <;> simp [fiD] at h
  | n, m, .ty c, _, h => by cases n <;> simp [fiD] at h
  | n, m, .cls c, _, h => by cases n <;> simp [fiD] at h
  | n, m, .tok c, _, h => by cases n <;> simp [fiD] at h
theorem fiDs_up {b : Nat} : ∀ (n m : Nat) (l : List D), n ≤ m → fiDs b n l = true → fiDs b m l = true
  | n, m, [], _, _ => by rw [fiDs]
  | n, m, d :: l, hl, h => by
    rw [fiDs, Bool.and_eq_true] at h ⊢
    exact ⟨fiD_up n m d hl h.1, fiDs_up n m l hl h.2⟩
end
mutual
theorem fiD_sh {b : Nat} : ∀ (n : Nat) (d : D), fiD b n d = true → shD n d = true
  | n, .non, _ => by cases n <;> rfl
  | n, .bl b, _ => by cases n <;> rfl
  | n, .int i, h => by cases n <;> rfl
  | n, .str s, h => by cases n <;> (simp only [fiD, Bool.and_eq_true] at h; simpa [shD] using h.1)
  | n + 1, .tup l, h => by
    rw [fiD, Bool.and_eq_true] at h
    rw [shD]
    exact fiDs_sh n l h.2
  | n + 1, .lst l, h => by
    rw [fiD, Bool.and_eq_true] at h
    rw [shD]
    exact fiDs_sh n l h.2
  | 0, .tup l, h => by simp [fiD] at h
  | 0, .lst l, h => by simp [fiD] at h
  | n, .dct l, h => by cases n <;> simp [fiD] at h
  | n, .frl l, h => by cases n <;> simp [fiD] at h
  | n, .opq, h => by cases n <;> simp [fiD] at h
  | n, .exc c l, h => by cases n <;> simp [fiD] at h
  | n, .ty c, h => by cases n <;> simp [fiD] at h
  | n, .cls c, h => by cases n <;> simp [fiD] at h
  | n, .tok c, h => by cases n <;> simp [fiD] at h
theorem fiDs_sh {b : Nat} : ∀ (n : Nat) (l : List D), fiDs b n l = true → shDs n l = true
  | n, [], _ => by rw [shDs]
  | n, d :: l, h => by
    rw [fiDs, Bool.and_eq_true] at h
    rw [shDs, Bool.and_eq_true]
    exact ⟨fiD_sh n d h.1, fiDs_sh n l h.2⟩
end
/-- fine, at most twelve deep -/
def FiB (b : Nat) (d : D) : Prop := ∃ n, n ≤ 12 ∧ fiD b n d = true
theorem FiB.top {b : Nat} {d : D} (h : FiB b d) : fiD b 12 d = true := by
  obtain ⟨n, hn, h⟩ := h
  exact fiD_up n 12 d hn h
theorem FiB.sh {b : Nat} {d : D} (h : FiB b d) : shD 60 d = true := by
  obtain ⟨n, hn, h⟩ := h
  exact fiD_sh 60 d (fiD_up n 60 d (by omega) h)
theorem FiB.ty {b : Nat} {d : D} (h : FiB b d) : (tyN d).isSome = true := by
  obtain ⟨n, hn, h⟩ := h
  cases d <;> first | rfl | (cases n <;> simp [fiD] at h)
theorem FiB.str {b : Nat} {s : Str} (h : FiB b (.str s)) : s.length ≤ 1000 := by
  obtain ⟨n, hn, h⟩ := h
  cases n <;> (simp only [fiD, Bool.and_eq_true, decide_eq_true_eq] at h; exact h.2)
theorem FiB.int {b : Nat} {i : Int} (h : FiB b (.int i)) : i.natAbs < 2 ^ b := by
  obtain ⟨n, hn, h⟩ := h
  cases n <;> (simp only [fiD, decide_eq_true_eq] at h; exact h)
theorem FiB.tup {b : Nat} {l : List D} (h : FiB b (.tup l)) : l.length ≤ 100000 ∧ ∀ d ∈ l, FiB b d := by
  obtain ⟨n, hn, h⟩ := h
  cases n with
  | zero => simp [fiD] at h
  | succ n =>
    rw [fiD, Bool.and_eq_true, fiDs_iff, decide_eq_true_eq] at h
    exact ⟨h.1, fun d hd => ⟨n, by omega, h.2 d hd⟩⟩
theorem FiB.lst {b : Nat} {l : List D} (h : FiB b (.lst l)) : l.length ≤ 100000 ∧ ∀ d ∈ l, FiB b d := by
  obtain ⟨n, hn, h⟩ := h
  cases n with
  | zero => simp [fiD] at h
  | succ n =>
    rw [fiD, Bool.and_eq_true, fiDs_iff, decide_eq_true_eq] at h
    exact ⟨h.1, fun d hd => ⟨n, by omega, h.2 d hd⟩⟩

/-- the values that are judged -/
abbrev Fi (d : D) : Prop := FiB 100 d
/-- .. and what is reckoned from them -/
abbrev Fw (d : D) : Prop := FiB 200 d
/-! ### isinstance -/
theorem isi_val {d : D} {a b : String} {r : Bool} (h : tyN d = some a) (h2 : isTy a b = some r) : dIsi [d, .ty b] = some (.bl r) := by
  unfold dIsi
  dsimp only
  rw [h]
  dsimp only [Option.bind]
  rw [h2]
  rfl
def kStr : D → Bool
  | .str _ => true
  | _ => false
def kTup : D → Bool
  | .tup _ => true
  | _ => false
def kLst : D → Bool
  | .lst _ => true
  | .frl _ => true
  | _ => false
def kInt : D → Bool
  | .int _ => true
  | .bl _ => true
  | _ => false
def kBl : D → Bool
  | .bl _ => true
  | _ => false
theorem isi_str {d : D} (h : (tyN d).isSome = true) : dIsi [d, .ty "str"] = some (.bl (kStr d)) := by
  cases d <;> first | (exact isi_val rfl rfl) | (simp [tyN] at h; done)
theorem isi_tup {d : D} (h : (tyN d).isSome = true) : dIsi [d, .ty "tuple"] = some (.bl (kTup d)) := by
  cases d <;> first | (exact isi_val rfl rfl) | (simp [tyN] at h; done)
theorem isi_lst {d : D} (h : (tyN d).isSome = true) : dIsi [d, .ty "list"] = some (.bl (kLst d)) := by
  cases d <;> first | (exact isi_val rfl rfl) | (simp [tyN] at h; done)
theorem isi_int {d : D} (h : (tyN d).isSome = true) : dIsi [d, .ty "int"] = some (.bl (kInt d)) := by
  cases d <;> first | (exact isi_val rfl rfl) | (simp [tyN] at h; done)
theorem isi_bl {d : D} (h : (tyN d).isSome = true) : dIsi [d, .ty "bool"] = some (.bl (kBl d)) := by
  cases d <;> first | (exact isi_val rfl rfl) | (simp [tyN] at h; done)

/-! ### pure comprehensions -/
theorem comp_all {A : Type} {g : Gt} {te : Fe A} {w : A} {ρ : Env} (h : D → D) (ds : List D) (hd : ∀ d ∈ ds, ∃ ρ1, g d ρ = some ρ1 ∧ te w ρ1 = some (.ok (h d, w))) : compL g (eC (.bl true)) te ds w ρ = some (.ok (ds.map h, w)) := by
  have := comp_map (g := g) (tt := eC (.bl true)) (te := te) (w := w) (ρ := ρ) (fun _ => true) h ds fun d hm => by
    obtain ⟨ρ1, e1, e2⟩ := hd d hm
    exact ⟨ρ1, e1, rfl, fun _ => e2⟩
  rw [this, List.filter_eq_self.mpr (fun _ _ => rfl)]
theorem blsOf_map {α : Type} (f : α → Bool) : ∀ l : List α, blsOf (l.map fun c => D.bl (f c)) = some (l.map f)
  | [] => rfl
  | x :: l => by
    rw [List.map_cons, blsOf, blsOf_map f l]
    rfl
theorem intsOf_map {α : Type} (f : α → Int) : ∀ l : List α, intsOf (l.map fun c => D.int (f c)) = some (l.map f)
  | [] => rfl
  | x :: l => by
    rw [List.map_cons, intsOf, intsOf_map f l]
    rfl
theorem dAll_map {α : Type} (f : α → Bool) (l : List α) : dAll [.lst (l.map fun c => D.bl (f c))] = some (.bl (l.all f)) := by
  unfold dAll onLst
  dsimp only
  rw [blsOf_map]
  dsimp only [Option.map]
  rw [List.all_map]
  rfl
theorem dSum_map {α : Type} (f : α → Int) (l : List α) : dSum [.lst (l.map fun c => D.int (f c))] = some (.int (l.map f).sum) := by
  unfold dSum onLst
  dsimp only
  rw [intsOf_map]
  rfl
/-! ### words -/
def isWordD : D → Bool
  | .str s => isWd s
  | _ => false
theorem mem_alpha (c : Nat) : c ∈ ("abcdefghijklmnopqrstuvwxyz" : Str).cps.toList ↔ 97 ≤ c ∧ c ≤ 122 := by
  have e : ("abcdefghijklmnopqrstuvwxyz" : Str).cps.toList = (List.range 26).map (97 + ·) := rfl
  rw [e, List.mem_map]
  constructor
  · rintro ⟨a, ha, rfl⟩
    have := List.mem_range.mp ha
    omega
  · intro h
    exact ⟨c - 97, List.mem_range.mpr (by omega), by omega⟩
def inAl (c : Nat) : Bool := decide (97 ≤ c) && decide (c ≤ 122)
theorem inAl_mem (c : Nat) : decide (c ∈ ("abcdefghijklmnopqrstuvwxyz" : Str).cps.toList) = inAl c := by
  unfold inAl
  rw [← Bool.decide_and]
  exact decide_eq_decide.mpr (mem_alpha c)
theorem dIn_al (c : Nat) : dIn (.str ⟨#[c]⟩) (.str "abcdefghijklmnopqrstuvwxyz") = some (.bl (inAl c)) := by
  rw [← inAl_mem]
  rfl
theorem dNotIn_al (c : Nat) : dNotIn (.str ⟨#[c]⟩) (.str "abcdefghijklmnopqrstuvwxyz") = some (.bl (!inAl c)) := by
  unfold dNotIn
  rw [dIn_al]
def alD : D → Bool
  | .str ⟨⟨[c]⟩⟩ => inAl c
  | _ => false
theorem isWd_eq (s : Str) : isWd s = (decide (1 ≤ s.length) && decide (s.length ≤ 8) && s.cps.toList.all inAl) := rfl
theorem len_dec {n : Nat} : decide ((1 : Int) ≤ (n : Int)) = decide (1 ≤ n) := decide_eq_decide.mpr (by omega)
theorem len_dec8 {n : Nat} : decide ((n : Int) ≤ 8) = decide (n ≤ 8) := decide_eq_decide.mpr (by omega)
theorem g_is_word_eq {d : D} (h : Fi d) : g_is_word [d] = some (.ok (.bl (isWordD d))) := by
  rw [← mv_eq]
  unfold g_is_word m_is_word
  have hi := isi_str h.ty
  simp only [mv_runP, List.length_cons, List.length_nil, sv_ret, rv_and, rv_eN, rv_cons, rv_nil, rv_var, rv_c, List.map_cons, List.map_nil, List.cons_append, List.nil_append, List.getElem?_cons_zero, od_some, hi, bv_bl, rv_chain, outB_ret, true_and, Nat.reduceAdd, Nat.reduceSub, List.replicate_one]
  cases d with
  | str s =>
    have l1 := h.str
    simp only [kStr, if_true, dLen, if_pos (show s.length ≤ 16000000 by omega), dLe, od_some, bv_bl, len_dec, len_dec8]
    unfold isWordD
    dsimp only
    rw [isWd_eq]
    by_cases c1 : 1 ≤ s.length
    · by_cases c2 : s.length ≤ 8
      · rw [decide_eq_true c1, decide_eq_true c2, if_pos rfl, if_pos rfl, rv_comp, rv_it, rv_var]
        have em : ∀ ρ : Env, compL (gN 1) (eC (.bl true)) (e2 dIn (eVar 1) (eC (.str "abcdefghijklmnopqrstuvwxyz"))) (s.cps.toList.map fun c => D.str ⟨#[c]⟩) () (some (.str s) :: none :: ρ) =
            some (.ok ((s.cps.toList.map fun c => D.str ⟨#[c]⟩).map fun d => .bl (alD d), ())) := fun ρ => comp_all _ _ fun d hd => by
          obtain ⟨c, _, rfl⟩ := List.mem_map.mp hd
          exact ⟨_, rfl, by rw [← rv_eq]; simp [dIn_al, alD]⟩
        simp only [List.getElem?_cons_zero, od_some, itemsOf, wipeE, List.set_cons_succ, List.set_cons_zero, em, rv_ok, List.length_map]
        refine ⟨by have hq : s.cps.toList.length ≤ 1000 := l1; omega, ?_⟩
        rw [List.map_map]
        have := dAll_map (fun c => alD (D.str ⟨#[c]⟩)) s.cps.toList
        show Od (dAll [D.lst (s.cps.toList.map fun c => D.bl (alD (D.str ⟨#[c]⟩)))]) _
        rw [this, od_some]
        rfl
      · rw [decide_eq_true c1, decide_eq_false c2]
        simp
    · rw [decide_eq_false c1]
      simp
  | _ => simp [kStr, isWordD]
end DL
end
noncomputable section
namespace DL
open L2 PySem PyProof.Rows PySem.Spec
theorem rep2 {α : Type} (a : α) : List.replicate 2 a = [a, a] := rfl
theorem rep3 {α : Type} (a : α) : List.replicate 3 a = [a, a, a] := rfl
theorem rep4 {α : Type} (a : α) : List.replicate 4 a = [a, a, a, a] := rfl
theorem rep5 {α : Type} (a : α) : List.replicate 5 a = [a, a, a, a, a] := rfl
theorem rep6 {α : Type} (a : α) : List.replicate 6 a = [a, a, a, a, a, a] := rfl
theorem rep7 {α : Type} (a : α) : List.replicate 7 a = [a, a, a, a, a, a, a] := rfl
theorem rep8 {α : Type} (a : α) : List.replicate 8 a = [a, a, a, a, a, a, a, a] := rfl
theorem rep9 {α : Type} (a : α) : List.replicate 9 a = [a, a, a, a, a, a, a, a, a] := rfl
theorem dNot_bl {b : Bool} : dNot (.bl b) = some (.bl (!b)) := by cases b <;> rfl
theorem outB_nxf {A : Type} {w : A} {ρ : Env} {Q : D → A → Prop} {X : Ex → A → Prop} : outB false Q X (.nx w ρ) ↔ Q .non w := by simp
def isWhD : D → Bool
  | .int _ => true
  | _ => false
def isWtD : D → Bool
  | .int i => decide (0 ≤ i)
  | _ => false
theorem g_is_whole_eq {d : D} (h : Fi d) : g_is_whole [d] = some (.ok (.bl (isWhD d))) := by
  rw [← mv_eq]
  unfold g_is_whole m_is_whole
  have h1 := isi_int h.ty
  have h2 := isi_bl h.ty
  simp only [mv_runP, rv_runB, List.length_cons, List.length_nil, Nat.reduceAdd, Nat.reduceSub, Nat.zero_add, List.replicate_zero, List.replicate_one, rep2, rep3, rep4, rep5, rep6, rep7, rep8, rep9, List.append_nil, List.map_cons, List.map_nil, List.cons_append, List.nil_append, List.getElem?_cons_zero, List.getElem?_cons_succ, List.set_cons_succ, List.set_cons_zero, setE, wipeE, rv_ok, rv_er, od_some, mv_ok, mv_er, sv_some, bv_bl, iv_int, tv_str, lv_lst, outB_ret, outB_nxf, outB_exc, th_nx, th_ret, th_exc, th_brk, th_ct, ro_nx, ro_ret, ro_exc, ro_brk, ro_ct, rv_bind, rv_okE, rv_okL, rv_var, rv_c, rv_nil, rv_cons, rv_e1, rv_e2, rv_eN, rv_eMt, rv_eB, rv_and, rv_or, rv_if, rv_tup, rv_lst, rv_call, rv_callM, rv_it, rv_cut, rv_cutL, rv_pn, rv_ps, rv_chain, rv_M1, rv_range1, rv_zip, rv_zip3, sv_nil, sv_brk, sv_ct, sv_cons, sv_drop, sv_ret, sv_if, sv_asg, od_gN, sv_raise, sv_par, sv_for, sv_x, sv_asgX, rx_own, rx_ownX, sv_put, dNot_bl, true_and, and_true, if_true, if_false, ite_true, ite_false, Bool.false_eq_true, reduceIte, Bool.not_true, Bool.not_false, h1, h2]
  cases d <;> simp [kInt, kBl, isWhD]
theorem g_is_weight_eq {d : D} (h : Fi d) : g__law_is_weight [d] = some (.ok (.bl (isWtD d))) := by
  rw [← mv_eq]
  unfold g__law_is_weight m__law_is_weight
  have h1 := isi_int h.ty
  have h2 := isi_bl h.ty
  simp only [mv_runP, rv_runB, List.length_cons, List.length_nil, Nat.reduceAdd, Nat.reduceSub, Nat.zero_add, List.replicate_zero, List.replicate_one, rep2, rep3, rep4, rep5, rep6, rep7, rep8, rep9, List.append_nil, List.map_cons, List.map_nil, List.cons_append, List.nil_append, List.getElem?_cons_zero, List.getElem?_cons_succ, List.set_cons_succ, List.set_cons_zero, setE, wipeE, rv_ok, rv_er, od_some, mv_ok, mv_er, sv_some, bv_bl, iv_int, tv_str, lv_lst, outB_ret, outB_nxf, outB_exc, th_nx, th_ret, th_exc, th_brk, th_ct, ro_nx, ro_ret, ro_exc, ro_brk, ro_ct, rv_bind, rv_okE, rv_okL, rv_var, rv_c, rv_nil, rv_cons, rv_e1, rv_e2, rv_eN, rv_eMt, rv_eB, rv_and, rv_or, rv_if, rv_tup, rv_lst, rv_call, rv_callM, rv_it, rv_cut, rv_cutL, rv_pn, rv_ps, rv_chain, rv_M1, rv_range1, rv_zip, rv_zip3, sv_nil, sv_brk, sv_ct, sv_cons, sv_drop, sv_ret, sv_if, sv_asg, od_gN, sv_raise, sv_par, sv_for, sv_x, sv_asgX, rx_own, rx_ownX, sv_put, dNot_bl, true_and, and_true, if_true, if_false, ite_true, ite_false, Bool.false_eq_true, reduceIte, Bool.not_true, Bool.not_false, h1, h2]
  cases d <;> simp [kInt, kBl, isWtD, dGe]
theorem g_law_is_word_eq {d : D} (h : Fi d) : g__law_is_word [d] = some (.ok (.bl (isWordD d))) := by
  rw [← mv_eq]
  unfold g__law_is_word m__law_is_word
  have hi := isi_str h.ty
  simp only [mv_runP, rv_runB, List.length_cons, List.length_nil, Nat.reduceAdd, Nat.reduceSub, Nat.zero_add, List.replicate_zero, List.replicate_one, rep2, rep3, rep4, rep5, rep6, rep7, rep8, rep9, List.append_nil, List.map_cons, List.map_nil, List.cons_append, List.nil_append, List.getElem?_cons_zero, List.getElem?_cons_succ, List.set_cons_succ, List.set_cons_zero, setE, wipeE, rv_ok, rv_er, od_some, mv_ok, mv_er, sv_some, bv_bl, iv_int, tv_str, lv_lst, outB_ret, outB_nxf, outB_exc, th_nx, th_ret, th_exc, th_brk, th_ct, ro_nx, ro_ret, ro_exc, ro_brk, ro_ct, rv_bind, rv_okE, rv_okL, rv_var, rv_c, rv_nil, rv_cons, rv_e1, rv_e2, rv_eN, rv_eMt, rv_eB, rv_and, rv_or, rv_if, rv_tup, rv_lst, rv_call, rv_callM, rv_it, rv_cut, rv_cutL, rv_pn, rv_ps, rv_chain, rv_M1, rv_range1, rv_zip, rv_zip3, sv_nil, sv_brk, sv_ct, sv_cons, sv_drop, sv_ret, sv_if, sv_asg, od_gN, sv_raise, sv_par, sv_for, sv_x, sv_asgX, rx_own, rx_ownX, sv_put, dNot_bl, true_and, and_true, if_true, if_false, ite_true, ite_false, Bool.false_eq_true, reduceIte, Bool.not_true, Bool.not_false, hi]
  cases d with
  | str s =>
    have l1 := h.str
    simp only [mv_runP, rv_runB, List.length_cons, List.length_nil, Nat.reduceAdd, Nat.reduceSub, Nat.zero_add, List.replicate_zero, List.replicate_one, rep2, rep3, rep4, rep5, rep6, rep7, rep8, rep9, List.append_nil, List.map_cons, List.map_nil, List.cons_append, List.nil_append, List.getElem?_cons_zero, List.getElem?_cons_succ, List.set_cons_succ, List.set_cons_zero, setE, wipeE, rv_ok, rv_er, od_some, mv_ok, mv_er, sv_some, bv_bl, iv_int, tv_str, lv_lst, outB_ret, outB_nxf, outB_exc, th_nx, th_ret, th_exc, th_brk, th_ct, ro_nx, ro_ret, ro_exc, ro_brk, ro_ct, rv_bind, rv_okE, rv_okL, rv_var, rv_c, rv_nil, rv_cons, rv_e1, rv_e2, rv_eN, rv_eMt, rv_eB, rv_and, rv_or, rv_if, rv_tup, rv_lst, rv_call, rv_callM, rv_it, rv_cut, rv_cutL, rv_pn, rv_ps, rv_chain, rv_M1, rv_range1, rv_zip, rv_zip3, sv_nil, sv_brk, sv_ct, sv_cons, sv_drop, sv_ret, sv_if, sv_asg, od_gN, sv_raise, sv_par, sv_for, sv_x, sv_asgX, rx_own, rx_ownX, sv_put, dNot_bl, true_and, and_true, if_true, if_false, ite_true, ite_false, Bool.false_eq_true, reduceIte, Bool.not_true, Bool.not_false, kStr, dLen, if_pos (show s.length ≤ 16000000 by omega), dLe, len_dec, len_dec8]
    unfold isWordD
    dsimp only
    rw [isWd_eq]
    by_cases c1 : 1 ≤ s.length
    · by_cases c2 : s.length ≤ 8
      · rw [decide_eq_true c1, decide_eq_true c2]
        simp only [mv_runP, rv_runB, List.length_cons, List.length_nil, Nat.reduceAdd, Nat.reduceSub, Nat.zero_add, List.replicate_zero, List.replicate_one, rep2, rep3, rep4, rep5, rep6, rep7, rep8, rep9, List.append_nil, List.map_cons, List.map_nil, List.cons_append, List.nil_append, List.getElem?_cons_zero, List.getElem?_cons_succ, List.set_cons_succ, List.set_cons_zero, setE, wipeE, rv_ok, rv_er, od_some, mv_ok, mv_er, sv_some, bv_bl, iv_int, tv_str, lv_lst, outB_ret, outB_nxf, outB_exc, th_nx, th_ret, th_exc, th_brk, th_ct, ro_nx, ro_ret, ro_exc, ro_brk, ro_ct, rv_bind, rv_okE, rv_okL, rv_var, rv_c, rv_nil, rv_cons, rv_e1, rv_e2, rv_eN, rv_eMt, rv_eB, rv_and, rv_or, rv_if, rv_tup, rv_lst, rv_call, rv_callM, rv_it, rv_cut, rv_cutL, rv_pn, rv_ps, rv_chain, rv_M1, rv_range1, rv_zip, rv_zip3, sv_nil, sv_brk, sv_ct, sv_cons, sv_drop, sv_ret, sv_if, sv_asg, od_gN, sv_raise, sv_par, sv_for, sv_x, sv_asgX, rx_own, rx_ownX, sv_put, dNot_bl, true_and, and_true, if_true, if_false, ite_true, ite_false, Bool.false_eq_true, reduceIte, Bool.not_true, Bool.not_false, rv_comp]
        have em : ∀ ρ : Env, compL (gN 1) (eB (e2 dNotIn (eVar 1) (eC (.str "abcdefghijklmnopqrstuvwxyz")))) (eVar 1) (s.cps.toList.map fun c => D.str ⟨#[c]⟩) () (some (.str s) :: none :: ρ) =
            some (.ok (((s.cps.toList.map fun c => D.str ⟨#[c]⟩).filter fun d => !alD d).map id, ())) := fun ρ => comp_map _ _ _ fun d hd => by
          obtain ⟨c, _, rfl⟩ := List.mem_map.mp hd
          refine ⟨_, rfl, ?_, fun _ => rfl⟩
          rw [← rv_eq]
          simp only [mv_runP, rv_runB, List.length_cons, List.length_nil, Nat.reduceAdd, Nat.reduceSub, Nat.zero_add, List.replicate_zero, List.replicate_one, rep2, rep3, rep4, rep5, rep6, rep7, rep8, rep9, List.append_nil, List.map_cons, List.map_nil, List.cons_append, List.nil_append, List.getElem?_cons_zero, List.getElem?_cons_succ, List.set_cons_succ, List.set_cons_zero, setE, wipeE, rv_ok, rv_er, od_some, mv_ok, mv_er, sv_some, bv_bl, iv_int, tv_str, lv_lst, outB_ret, outB_nxf, outB_exc, th_nx, th_ret, th_exc, th_brk, th_ct, ro_nx, ro_ret, ro_exc, ro_brk, ro_ct, rv_bind, rv_okE, rv_okL, rv_var, rv_c, rv_nil, rv_cons, rv_e1, rv_e2, rv_eN, rv_eMt, rv_eB, rv_and, rv_or, rv_if, rv_tup, rv_lst, rv_call, rv_callM, rv_it, rv_cut, rv_cutL, rv_pn, rv_ps, rv_chain, rv_M1, rv_range1, rv_zip, rv_zip3, sv_nil, sv_brk, sv_ct, sv_cons, sv_drop, sv_ret, sv_if, sv_asg, od_gN, sv_raise, sv_par, sv_for, sv_x, sv_asgX, rx_own, rx_ownX, sv_put, dNot_bl, true_and, and_true, if_true, if_false, ite_true, ite_false, Bool.false_eq_true, reduceIte, Bool.not_true, Bool.not_false, dNotIn_al]
          cases e : inAl c <;> simp [alD, e]
        simp only [itemsOf, od_some, em, rv_ok, List.map_id]
        have hl : ((s.cps.toList.map fun c => D.str ⟨#[c]⟩).filter fun d => !alD d).length < 16000000 := by
          have := List.length_filter_le (fun d => !alD d) (s.cps.toList.map fun c => D.str ⟨#[c]⟩)
          rw [List.length_map] at this
          have hs : s.cps.toList.length ≤ 1000 := h.str
          omega
        refine ⟨hl, ?_⟩
        have key : ((s.cps.toList.map fun c => D.str ⟨#[c]⟩).filter fun d => !alD d) = (s.cps.toList.filter fun c => !inAl c).map fun c => D.str ⟨#[c]⟩ := by
          rw [List.filter_map]
          rfl
        rw [key]
        have hsub : ∀ c ∈ s.cps.toList.filter (fun c => !inAl c), shD 59 (.str ⟨#[c]⟩) = true := fun c hc => by
          have hs := h.sh
          have hm := (List.mem_filter.mp hc).1
          have q : PyData.strOk s = true := by simpa [shD] using hs
          unfold PyData.strOk at q
          rw [← Array.all_toList, List.all_eq_true] at q
          show PyData.strOk ⟨#[c]⟩ = true
          unfold PyData.strOk
          rw [← Array.all_toList]
          simp only [List.all_cons, List.all_nil, Bool.and_true]
          exact q c hm
        have hall : s.cps.toList.all inAl = (s.cps.toList.filter fun c => !inAl c).isEmpty := by
          induction s.cps.toList with
          | nil => rfl
          | cons c l ih =>
            rw [List.all_cons, List.filter_cons]
            cases inAl c <;> simp [ih]
        rw [hall]
        generalize s.cps.toList.filter (fun c => !inAl c) = m at hsub
        have sh1 : shD 60 (.lst (m.map fun c => D.str ⟨#[c]⟩)) = true := by
          rw [shD]
          induction m with
          | nil => rfl
          | cons c m ih =>
            rw [List.map_cons, shDs, hsub c List.mem_cons_self, ih fun x hx => hsub x (List.mem_cons_of_mem _ hx)]
            rfl
        have : dEq (.lst (m.map fun c => D.str ⟨#[c]⟩)) (.lst []) = some (.bl m.isEmpty) := by
          show (if shD 60 (.lst (m.map fun c => D.str ⟨#[c]⟩)) && shD 60 (.lst []) then some (D.bl (PyData.eqv (toPy (.lst (m.map fun c => D.str ⟨#[c]⟩))) (toPy (.lst [])))) else none) = _
          rw [sh1]
          cases m <;> simp [toPy, toPys, PyData.eqv, PyData.eqvAll, shD, shDs]
        rw [this]
        simp
      · rw [decide_eq_true c1, decide_eq_false c2]
        simp
    · rw [decide_eq_false c1]
      simp
  | _ => simp [kStr, isWordD]
end DL
end
noncomputable section
namespace DL
open L2 PySem PyProof.Rows PySem.Spec

/-! ### draws, with a purse of turns -/
def Bud (k : Nat) (s : NW) : Prop := s.cells.length ≤ 63 ∧ s.turn + k ≤ 2 ^ 130
def Wd (k : Nat) (w : DW) : Prop := ∃ s : NW, w = s.dw ∧ Bud k s
theorem Wd.mono {j k : Nat} {w : DW} (h : Wd k w) (hj : j ≤ k) : Wd j w := by
  obtain ⟨s, e, h1, h2⟩ := h
  exact ⟨s, e, h1, by omega⟩
theorem draw_b {k : Nat} {w : DW} {room : Nat} (h : Wd (k + 1) w) (h0 : 0 < room) (hr : room < 2 ^ 4000) : ∃ (n : Nat) (w' : DW), g__law_draw w [.tok 0, .int (room : Int)] = some (.ok (.int (n : Int), w')) ∧ n < room ∧ Wd k w' := by
  obtain ⟨s, rfl, h1, h2⟩ := h
  have t := draw_turn room s
  refine ⟨_, _, g_draw s room h0 hr (by omega), draw_lt h0 s, _, rfl, ?_, ?_⟩
  · rw [draw_cells]; exact h1
  · omega
theorem pick_b {k : Nat} {w : DW} {l : List D} (h : Wd (k + 1) w) (h0 : l ≠ []) (hl : l.length < 2 ^ 60) : ∃ (d : D) (w' : DW), g__law_pick w [.tok 0, .lst l] = some (.ok (d, w')) ∧ d ∈ l ∧ Wd k w' := by
  obtain ⟨s, rfl, h1, h2⟩ := h
  have t := draw_turn l.length s
  obtain ⟨d, hd, _, e⟩ := g_pick s l h0 hl (by omega)
  refine ⟨d, _, e, hd, _, rfl, ?_, ?_⟩
  · rw [draw_cells]; exact h1
  · omega
/-- what a list of words may take -/
def wB : Nat := 64 * (qP + 20) + 20
theorem words_b {k : Nat} {w : DW} {many : Nat} (h : Wd (k + wB) w) (hm : many ≤ 64) : ∃ (f : List Str) (w' : DW), g__law_words w [.tok 0, .int (many : Int)] = some (.ok (.lst (f.map D.str), w')) ∧ GoodWs many f ∧ RiseS f ∧ Wd k w' := by
  obtain ⟨s, rfl, h1, h2⟩ := h
  have hle : many * (qP + 20) + 20 ≤ wB := Nat.add_le_add_right (Nat.mul_le_mul_right _ hm) 20
  obtain ⟨x, hx⟩ : ∃ x, x = many * (qP + 20) := ⟨_, rfl⟩
  obtain ⟨y, hy⟩ : ∃ y, y = wB := ⟨_, rfl⟩
  rw [← hx, ← hy] at hle
  rw [← hy] at h2
  obtain ⟨f, u, e, g, r, c1, c2, c3⟩ := g_words s many hm h1 (by rw [← hx]; omega)
  rw [← hx] at c3
  exact ⟨f, _, e, g, r, _, rfl, by rw [c1]; exact h1, by omega⟩
theorem begun_b (ns : List Int) (h : ns.length ≤ 63) : Wd (2 ^ 129) (begunW ns) := by
  refine ⟨⟨(ns.filter fun z => decide (big ≤ absI z)).map fun z => (absI z - big).toNat, ns.map Int.natAbs, 0, 0⟩, ?_, ?_, ?_⟩
  · unfold begunW NW.dw
    have e1 : (ns.filter fun z => decide (big ≤ absI z)).map (fun z => absI z - big) = ((ns.filter fun z => decide (big ≤ absI z)).map fun z => (absI z - big).toNat).map Int.ofNat := by
      rw [List.map_map]
      refine List.map_congr_left fun z hz => ?_
      have := of_decide_eq_true (List.mem_filter.mp hz).2
      show absI z - big = (((absI z - big).toNat : Nat) : Int)
      rw [Int.toNat_of_nonneg (by omega)]
    have e2' : ns.map absI = (ns.map Int.natAbs).map Int.ofNat := by
      rw [List.map_map]
      refine List.map_congr_left fun z hz => ?_
      show absI z = ((z.natAbs : Nat) : Int)
      unfold absI
      split <;> omega
    rw [e1, e2']
    rfl
  · show (ns.map Int.natAbs).length ≤ 63
    rw [List.length_map]
    exact h
  · show 0 + 2 ^ 129 ≤ 2 ^ 130
    decide
theorem dNe_nil' {l : List D} (h : shD 60 (.lst l) = true) : dNe (.lst l) (.lst []) = some (.bl (!l.isEmpty)) := by
  show (if shD 60 (.lst l) && shD 60 (.lst []) then some (D.bl (!PyData.eqv (toPy (.lst l)) (toPy (.lst [])))) else none) = _
  rw [h]
  cases l <;> simp [toPy, toPys, PyData.eqv, PyData.eqvAll, shD, shDs]
theorem lst_sh {l : List D} (h : ∀ z ∈ l, Fi z) : shD 60 (.lst l) = true := by
  rw [shD]
  induction l with
  | nil => rfl
  | cons d l ih =>
    have h1 : shD 59 d = true := fiD_sh 59 d (fiD_up 12 59 d (by omega) (h d List.mem_cons_self).top)
    rw [shDs, h1, ih fun x hx => h x (List.mem_cons_of_mem _ hx)]
    rfl
theorem popAt {l : List D} {n : Nat} (h : n < l.length) (hl : l.length ≤ 1000000) : opPopAt l [.int (n : Int)] = some (l[n], l.eraseIdx n) := by
  have e1 : seqIndex? (n : Int) l.length = some n := by
    unfold seqIndex?
    simp
    omega
  unfold opPopAt
  dsimp only
  rw [decide_eq_true (by omega), decide_eq_true (by omega), e1]
  simp only [Bool.and_self, if_true, List.getElem?_eq_getElem h]
def cShuf : Fe DW := eB (e2 dNe (eVar 2) (eLst fNil))
def bShuf : Fs DW := sX (xOwnX 3 opApp (xOwn 2 opPopAt (fCons (eCallM g__law_draw (fCons (eVar 0) (fCons (eN dLen (fCons (eVar 2) fNil)) fNil))) fNil)))
theorem shuf_loop {k : Nat} (x1 : Option D) (QS : Out DW → Prop) : ∀ (n : Nat) (l acc : List D) (w : DW), l.length = n → l.length + acc.length ≤ 1000000 → (∀ z ∈ l, Fi z) → Wd (k + n) w →
    (∀ (acc' : List D) (w' : DW), acc'.length = l.length + acc.length → (∀ z ∈ acc', z ∈ l ∨ z ∈ acc) → Wd k w' → QS (.nx w' [some (.tok 0), x1, some (.lst []), some (.lst acc')])) →
    Sv (sWhile cShuf bShuf w [some (.tok 0), x1, some (.lst l), some (.lst acc)]) QS
  | 0, l, acc, w, hn, hl, hf, hw, hQ => by
    have : l = [] := List.length_eq_zero_iff.mp hn
    subst this
    rw [sv_while]
    unfold cShuf
    simp only [mv_runP, rv_runB, List.length_cons, List.length_nil, Nat.reduceAdd, Nat.reduceSub, Nat.zero_add, List.replicate_zero, List.replicate_one, rep2, rep3, rep4, rep5, rep6, rep7, rep8, rep9, List.append_nil, List.map_cons, List.map_nil, List.cons_append, List.nil_append, List.getElem?_cons_zero, List.getElem?_cons_succ, List.set_cons_succ, List.set_cons_zero, setE, wipeE, rv_ok, rv_er, od_some, mv_ok, mv_er, sv_some, bv_bl, iv_int, tv_str, lv_lst, outB_ret, outB_nxf, outB_exc, th_nx, th_ret, th_exc, th_brk, th_ct, ro_nx, ro_ret, ro_exc, ro_brk, ro_ct, rv_bind, rv_okE, rv_okL, rv_var, rv_c, rv_nil, rv_cons, rv_e1, rv_e2, rv_eN, rv_eMt, rv_eB, rv_and, rv_or, rv_if, rv_tup, rv_lst, rv_call, rv_callM, rv_it, rv_cut, rv_cutL, rv_pn, rv_ps, rv_chain, rv_M1, rv_range1, rv_zip, rv_zip3, sv_nil, sv_brk, sv_ct, sv_cons, sv_drop, sv_ret, sv_if, sv_asg, od_gN, sv_raise, sv_par, sv_for, sv_x, sv_asgX, rx_own, rx_ownX, sv_put, dNot_bl, true_and, and_true, if_true, if_false, ite_true, ite_false, Bool.false_eq_true, reduceIte, Bool.not_true, Bool.not_false, dNe_nil' (lst_sh hf), List.isEmpty_nil]
    exact hQ acc w (by simp) (fun z hz => .inr hz) hw
  | n + 1, l, acc, w, hn, hl, hf, hw, hQ => by
    rw [sv_while]
    unfold cShuf
    have hne : l.isEmpty = false := by cases l <;> simp at hn ⊢
    obtain ⟨m, w', e, hm, hw'⟩ := draw_b (k := k + n) (room := l.length) hw (by omega) (Nat.lt_of_le_of_lt (show l.length ≤ 1000000 by omega) (by decide))
    simp only [mv_runP, rv_runB, List.length_cons, List.length_nil, Nat.reduceAdd, Nat.reduceSub, Nat.zero_add, List.replicate_zero, List.replicate_one, rep2, rep3, rep4, rep5, rep6, rep7, rep8, rep9, List.append_nil, List.map_cons, List.map_nil, List.cons_append, List.nil_append, List.getElem?_cons_zero, List.getElem?_cons_succ, List.set_cons_succ, List.set_cons_zero, setE, wipeE, rv_ok, rv_er, od_some, mv_ok, mv_er, sv_some, bv_bl, iv_int, tv_str, lv_lst, outB_ret, outB_nxf, outB_exc, th_nx, th_ret, th_exc, th_brk, th_ct, ro_nx, ro_ret, ro_exc, ro_brk, ro_ct, rv_bind, rv_okE, rv_okL, rv_var, rv_c, rv_nil, rv_cons, rv_e1, rv_e2, rv_eN, rv_eMt, rv_eB, rv_and, rv_or, rv_if, rv_tup, rv_lst, rv_call, rv_callM, rv_it, rv_cut, rv_cutL, rv_pn, rv_ps, rv_chain, rv_M1, rv_range1, rv_zip, rv_zip3, sv_nil, sv_brk, sv_ct, sv_cons, sv_drop, sv_ret, sv_if, sv_asg, od_gN, sv_raise, sv_par, sv_for, sv_x, sv_asgX, rx_own, rx_ownX, sv_put, dNot_bl, true_and, and_true, if_true, if_false, ite_true, ite_false, Bool.false_eq_true, reduceIte, Bool.not_true, Bool.not_false, dNe_nil' (lst_sh hf), hne]
    unfold bShuf
    have ea : ∀ d, opApp acc [d] = some (.non, acc ++ [d]) := fun d => by
      unfold opApp
      dsimp only
      rw [if_pos (by omega)]
    simp only [mv_runP, rv_runB, List.length_cons, List.length_nil, Nat.reduceAdd, Nat.reduceSub, Nat.zero_add, List.replicate_zero, List.replicate_one, rep2, rep3, rep4, rep5, rep6, rep7, rep8, rep9, List.append_nil, List.map_cons, List.map_nil, List.cons_append, List.nil_append, List.getElem?_cons_zero, List.getElem?_cons_succ, List.set_cons_succ, List.set_cons_zero, setE, wipeE, rv_ok, rv_er, od_some, mv_ok, mv_er, sv_some, bv_bl, iv_int, tv_str, lv_lst, outB_ret, outB_nxf, outB_exc, th_nx, th_ret, th_exc, th_brk, th_ct, ro_nx, ro_ret, ro_exc, ro_brk, ro_ct, rv_bind, rv_okE, rv_okL, rv_var, rv_c, rv_nil, rv_cons, rv_e1, rv_e2, rv_eN, rv_eMt, rv_eB, rv_and, rv_or, rv_if, rv_tup, rv_lst, rv_call, rv_callM, rv_it, rv_cut, rv_cutL, rv_pn, rv_ps, rv_chain, rv_M1, rv_range1, rv_zip, rv_zip3, sv_nil, sv_brk, sv_ct, sv_cons, sv_drop, sv_ret, sv_if, sv_asg, od_gN, sv_raise, sv_par, sv_for, sv_x, sv_asgX, rx_own, rx_ownX, sv_put, dNot_bl, true_and, and_true, if_true, if_false, ite_true, ite_false, Bool.false_eq_true, reduceIte, Bool.not_true, Bool.not_false, dLen, e, popAt hm (by omega), ea]
    refine shuf_loop x1 QS n (l.eraseIdx m) (acc ++ [l[m]]) w' (by rw [List.length_eraseIdx_of_lt hm]; omega) (by rw [List.length_eraseIdx_of_lt hm, List.length_append]; simp; omega) (fun z hz => hf z (List.mem_of_mem_eraseIdx hz)) hw' fun acc' w2 h1 h2 h3 => hQ acc' w2 ?_ (fun z hz => ?_) h3
    · rw [h1, List.length_eraseIdx_of_lt hm, List.length_append]
      simp
      omega
    · rcases h2 z hz with q | q
      · exact .inl (List.mem_of_mem_eraseIdx q)
      · rcases List.mem_append.mp q with q | q
        · exact .inr q
        · rw [List.mem_singleton.mp q]
          exact .inl (List.getElem_mem _)
theorem shuf_b {k : Nat} {w : DW} {l : List D} (h : Wd (k + l.length) w) (hl : l.length ≤ 1000000) (hf : ∀ z ∈ l, Fi z) : ∃ (m : List D) (w' : DW), g__law_shuffled w [.tok 0, .lst l] = some (.ok (.lst m, w')) ∧ m.length = l.length ∧ (∀ z ∈ m, z ∈ l) ∧ Wd k w' := by
  have key : Rv (g__law_shuffled w [.tok 0, .lst l]) (fun d w' => ∃ m, d = .lst m ∧ m.length = l.length ∧ (∀ z ∈ m, z ∈ l) ∧ Wd k w') (fun _ _ => False) := by
    unfold g__law_shuffled m__law_shuffled
    simp only [mv_runP, rv_runB, List.length_cons, List.length_nil, Nat.reduceAdd, Nat.reduceSub, Nat.zero_add, List.replicate_zero, List.replicate_one, rep2, rep3, rep4, rep5, rep6, rep7, rep8, rep9, List.append_nil, List.map_cons, List.map_nil, List.cons_append, List.nil_append, List.getElem?_cons_zero, List.getElem?_cons_succ, List.set_cons_succ, List.set_cons_zero, setE, wipeE, rv_ok, rv_er, od_some, mv_ok, mv_er, sv_some, bv_bl, iv_int, tv_str, lv_lst, outB_ret, outB_nxf, outB_exc, th_nx, th_ret, th_exc, th_brk, th_ct, ro_nx, ro_ret, ro_exc, ro_brk, ro_ct, rv_bind, rv_okE, rv_okL, rv_var, rv_c, rv_nil, rv_cons, rv_e1, rv_e2, rv_eN, rv_eMt, rv_eB, rv_and, rv_or, rv_if, rv_tup, rv_lst, rv_call, rv_callM, rv_it, rv_cut, rv_cutL, rv_pn, rv_ps, rv_chain, rv_M1, rv_range1, rv_zip, rv_zip3, sv_nil, sv_brk, sv_ct, sv_cons, sv_drop, sv_ret, sv_if, sv_asg, od_gN, sv_raise, sv_par, sv_for, sv_x, sv_asgX, rx_own, rx_ownX, sv_put, dNot_bl, true_and, and_true, if_true, if_false, ite_true, ite_false, Bool.false_eq_true, reduceIte, Bool.not_true, Bool.not_false, dList]
    refine shuf_loop _ _ l.length l [] w rfl (by simpa using hl) hf h fun m w' h1 h2 h3 => ?_
    simp only [mv_runP, rv_runB, List.length_cons, List.length_nil, Nat.reduceAdd, Nat.reduceSub, Nat.zero_add, List.replicate_zero, List.replicate_one, rep2, rep3, rep4, rep5, rep6, rep7, rep8, rep9, List.append_nil, List.map_cons, List.map_nil, List.cons_append, List.nil_append, List.getElem?_cons_zero, List.getElem?_cons_succ, List.set_cons_succ, List.set_cons_zero, setE, wipeE, rv_ok, rv_er, od_some, mv_ok, mv_er, sv_some, bv_bl, iv_int, tv_str, lv_lst, outB_ret, outB_nxf, outB_exc, th_nx, th_ret, th_exc, th_brk, th_ct, ro_nx, ro_ret, ro_exc, ro_brk, ro_ct, rv_bind, rv_okE, rv_okL, rv_var, rv_c, rv_nil, rv_cons, rv_e1, rv_e2, rv_eN, rv_eMt, rv_eB, rv_and, rv_or, rv_if, rv_tup, rv_lst, rv_call, rv_callM, rv_it, rv_cut, rv_cutL, rv_pn, rv_ps, rv_chain, rv_M1, rv_range1, rv_zip, rv_zip3, sv_nil, sv_brk, sv_ct, sv_cons, sv_drop, sv_ret, sv_if, sv_asg, od_gN, sv_raise, sv_par, sv_for, sv_x, sv_asgX, rx_own, rx_ownX, sv_put, dNot_bl, true_and, and_true, if_true, if_false, ite_true, ite_false, Bool.false_eq_true, reduceIte, Bool.not_true, Bool.not_false]
    exact ⟨m, rfl, by simpa using h1, fun z hz => (h2 z hz).resolve_right (by simp), h3⟩
  obtain ⟨d, w', e, m, rfl, q⟩ := rv_ex.mp key
  exact ⟨m, w', e, q⟩
end DL
end
noncomputable section
namespace DL
open L2 PySem PyProof.Rows PySem.Spec

/-! ### equality of data -/
theorem dNe_len {n k : Nat} : dNe (.int (n : Int)) (.int (k : Int)) = some (.bl (!decide (n = k))) := by
  show some (D.bl (!decide ((n : Int) = (k : Int)))) = _
  congr 3
  exact decide_eq_decide.mpr (by omega)
def isS (d : D) (t : Str) : Bool := match d with
  | .str s => decide (s = t)
  | _ => false
theorem dNe_str {d : D} {t : Str} (h : Fi d) (ht : shD 60 (.str t) = true) : dNe d (.str t) = some (.bl (!isS d t)) := by
  have sh := h.sh
  cases d <;> first
    | rfl
    | (unfold dNe; simp only [sh, ht, Bool.and_self, if_true]; simp [toPy, PyData.eqv, isS]; done)
    | (obtain ⟨n, _, h⟩ := h; cases n <;> simp [fiD] at h; done)
theorem eqv_strs : ∀ l m : List Str, PyData.eqvAll (toPys (l.map D.str)) (toPys (m.map D.str)) = decide (l = m)
  | [], [] => by simp [toPys, PyData.eqvAll]
  | [], _ :: _ => by simp [toPys, PyData.eqvAll]
  | _ :: _, [] => by simp [toPys, PyData.eqvAll]
  | x :: l, y :: m => by
    have ih := eqv_strs l m
    simp only [List.map_cons, toPys, PyData.eqvAll, toPy, PyData.eqv, ih]
    by_cases e : x = y <;> simp [e]
theorem dEq_strs {l m : List Str} (hl : ∀ s ∈ l, isWd s = true) (hm : ∀ s ∈ m, isWd s = true) : dEq (.lst (l.map .str)) (.lst (m.map .str)) = some (.bl (decide (l = m))) := by
  have s1 : shD 60 (.lst (l.map D.str)) = true := by
    rw [shD]
    exact shDs_wd hl 59
  have s2 : shD 60 (.lst (m.map D.str)) = true := by
    rw [shD]
    exact shDs_wd hm 59
  show (if shD 60 (.lst (l.map D.str)) && shD 60 (.lst (m.map D.str)) then some (D.bl (PyData.eqv (toPy (.lst (l.map D.str))) (toPy (.lst (m.map D.str))))) else none) = _
  rw [s1, s2]
  simp only [toPy, PyData.eqv, eqv_strs, Bool.and_self, if_true]
theorem idx0 {l : List D} {x : D} : dIdx (.tup (x :: l)) (.int 0) = some x := by
  show atI (x :: l) 0 = _
  unfold atI ixN
  rw [if_pos (by omega), if_pos (by rw [List.length_cons]; omega)]
  rfl
theorem idx1 {l : List D} {x y : D} : dIdx (.tup (x :: y :: l)) (.int 1) = some y := by
  show atI (x :: y :: l) 1 = _
  unfold atI ixN
  rw [if_pos (by omega), if_pos (by rw [List.length_cons, List.length_cons]; omega)]
  rfl
theorem idx2 {l : List D} {x y z : D} : dIdx (.tup (x :: y :: z :: l)) (.int 2) = some z := by
  show atI (x :: y :: z :: l) 2 = _
  unfold atI ixN
  rw [if_pos (by omega), if_pos (by rw [List.length_cons, List.length_cons, List.length_cons]; omega)]
  rfl
theorem ne00 {a b : Int} : dNe (.tup [.int a, .int b]) (.tup [.int 0, .int 0]) = some (.bl (!(decide (a = 0) && decide (b = 0)))) := by
  show (if shD 60 (.tup [.int a, .int b]) && shD 60 (.tup [.int 0, .int 0]) then some (D.bl (!PyData.eqv (toPy (.tup [.int a, .int b])) (toPy (.tup [.int 0, .int 0])))) else none) = _
  rw [if_pos (show (shD 60 (.tup [.int a, .int b]) && shD 60 (.tup [.int 0, .int 0])) = true from by simp [shD, shDs])]
  simp [toPy, toPys, PyData.eqv, PyData.eqvAll]
  by_cases c1 : a = 0 <;> by_cases c2 : b = 0 <;> simp [c1, c2]
theorem all2 {a b : Bool} : dAll [.lst [.bl a, .bl b]] = some (.bl (a && b)) := by cases a <;> cases b <;> rfl
theorem len3 {l : List D} (h : l.length = 3) : ∃ w x y, l = [w, x, y] := by
  rcases l with _ | ⟨w, _ | ⟨x, _ | ⟨y, _ | ⟨z, l⟩⟩⟩⟩ <;> simp at h
  exact ⟨w, x, y, rfl⟩
theorem len2 {l : List D} (h : l.length = 2) : ∃ w x, l = [w, x] := by
  rcases l with _ | ⟨w, _ | ⟨x, _ | ⟨y, l⟩⟩⟩ <;> simp at h
  exact ⟨w, x, rfl⟩
/-! ### ratios in lowest terms -/
def qR (a s : Int) : D := .tup [.int (a.fdiv ((Nat.gcd a.natAbs s.natAbs : Nat) : Int)), .int (s.fdiv ((Nat.gcd a.natAbs s.natAbs : Nat) : Int))]
theorem gcd_pos {a s : Int} (hs : 0 < s) : 0 < Nat.gcd a.natAbs s.natAbs := Nat.gcd_pos_of_pos_right _ (by omega)
theorem gcd_lt {a s : Int} (hs : 0 < s) (hb : s.natAbs < 2 ^ 4000) : Nat.gcd a.natAbs s.natAbs < 2 ^ 4000 := Nat.lt_of_le_of_lt (Nat.gcd_le_right _ (by omega)) hb
theorem fdiv_g {a s z : Int} (hs : 0 < s) (hb : s.natAbs < 2 ^ 4000) : dFdiv (.int z) (.int ((Nat.gcd a.natAbs s.natAbs : Nat) : Int)) = some (.int (z.fdiv ((Nat.gcd a.natAbs s.natAbs : Nat) : Int))) := by
  have h1 := gcd_pos (a := a) hs
  have h2 := gcd_lt (a := a) hs hb
  exact dFdiv_int (by omega) (by rw [Int.natAbs_natCast]; exact h2)
theorem g_lowest_eq {a s : Int} (hs : 0 < s) (hb : s.natAbs < 2 ^ 4000) : g_lowest [.int a, .int s] = some (.ok (qR a s)) := by
  rw [← mv_eq]
  unfold g_lowest m_lowest
  have e1 : dGt (.int s) (.int 0) = some (.bl true) := by
    show some (D.bl (decide (0 < s))) = _
    rw [decide_eq_true hs]
  have e2' : dGcd [.int a, .int s] = some (.int ((Nat.gcd a.natAbs s.natAbs : Nat) : Int)) := rfl
  simp only [mv_runP, rv_runB, List.length_cons, List.length_nil, Nat.reduceAdd, Nat.reduceSub, Nat.zero_add, List.replicate_zero, List.replicate_one, rep2, rep3, rep4, rep5, rep6, rep7, rep8, rep9, List.append_nil, List.map_cons, List.map_nil, List.cons_append, List.nil_append, List.getElem?_cons_zero, List.getElem?_cons_succ, List.set_cons_succ, List.set_cons_zero, setE, wipeE, rv_ok, rv_er, od_some, mv_ok, mv_er, sv_some, bv_bl, iv_int, tv_str, lv_lst, outB_ret, outB_nxf, outB_exc, th_nx, th_ret, th_exc, th_brk, th_ct, ro_nx, ro_ret, ro_exc, ro_brk, ro_ct, rv_bind, rv_okE, rv_okL, rv_var, rv_c, rv_nil, rv_cons, rv_e1, rv_e2, rv_eN, rv_eMt, rv_eB, rv_and, rv_or, rv_if, rv_tup, rv_lst, rv_call, rv_callM, rv_it, rv_cut, rv_cutL, rv_pn, rv_ps, rv_chain, rv_M1, rv_range1, rv_zip, rv_zip3, sv_nil, sv_brk, sv_ct, sv_cons, sv_drop, sv_ret, sv_if, sv_asg, od_gN, sv_raise, sv_par, sv_for, sv_x, sv_asgX, rx_own, rx_ownX, sv_put, dNot_bl, true_and, and_true, if_true, if_false, ite_true, ite_false, Bool.false_eq_true, reduceIte, Bool.not_true, Bool.not_false, e1, e2', fdiv_g hs hb]
  rfl
def cEuc : Fe Unit := eB (e2 dGt (eVar 3) (eC (.int 0)))
def bEuc : Fs Unit := sPar [2, 3] (fCons (eVar 3) (fCons (e2 dMod (eN dInt (fCons (eVar 2) fNil)) (eVar 3)) fNil))
theorem gcd_loop (x0 x1 : Option D) (QS : Out Unit → Prop) : ∀ (m n : Nat), QS (.nx () [x0, x1, some (.int ((Nat.gcd n m : Nat) : Int)), some (.int 0)]) →
    Sv (sWhile cEuc bEuc () [x0, x1, some (.int (n : Int)), some (.int (m : Int))]) QS := by
  intro m
  induction m using Nat.strongRecOn with
  | _ m ih =>
    intro n h
    rw [sv_while]
    unfold cEuc
    by_cases c : m = 0
    · subst c
      have e1 : dGt (.int ((0 : Nat) : Int)) (.int 0) = some (.bl false) := rfl
      simp only [mv_runP, rv_runB, List.length_cons, List.length_nil, Nat.reduceAdd, Nat.reduceSub, Nat.zero_add, List.replicate_zero, List.replicate_one, rep2, rep3, rep4, rep5, rep6, rep7, rep8, rep9, List.append_nil, List.map_cons, List.map_nil, List.cons_append, List.nil_append, List.getElem?_cons_zero, List.getElem?_cons_succ, List.set_cons_succ, List.set_cons_zero, setE, wipeE, rv_ok, rv_er, od_some, mv_ok, mv_er, sv_some, bv_bl, iv_int, tv_str, lv_lst, outB_ret, outB_nxf, outB_exc, th_nx, th_ret, th_exc, th_brk, th_ct, ro_nx, ro_ret, ro_exc, ro_brk, ro_ct, rv_bind, rv_okE, rv_okL, rv_var, rv_c, rv_nil, rv_cons, rv_e1, rv_e2, rv_eN, rv_eMt, rv_eB, rv_and, rv_or, rv_if, rv_tup, rv_lst, rv_call, rv_callM, rv_it, rv_cut, rv_cutL, rv_pn, rv_ps, rv_chain, rv_M1, rv_range1, rv_zip, rv_zip3, sv_nil, sv_brk, sv_ct, sv_cons, sv_drop, sv_ret, sv_if, sv_asg, od_gN, sv_raise, sv_par, sv_for, sv_x, sv_asgX, rx_own, rx_ownX, sv_put, dNot_bl, true_and, and_true, if_true, if_false, ite_true, ite_false, Bool.false_eq_true, reduceIte, Bool.not_true, Bool.not_false, e1]
      rw [Nat.gcd_zero_right] at h
      exact h
    · have e1 : dGt (.int (m : Int)) (.int 0) = some (.bl true) := by
        show some (D.bl (decide ((0 : Int) < (m : Int)))) = _
        rw [decide_eq_true (by omega)]
      have e2' : dMod (.int (n : Int)) (.int (m : Int)) = some (.int ((n % m : Nat) : Int)) := by
        rw [dMod_int (by omega), fmod_nat]
      simp only [mv_runP, rv_runB, List.length_cons, List.length_nil, Nat.reduceAdd, Nat.reduceSub, Nat.zero_add, List.replicate_zero, List.replicate_one, rep2, rep3, rep4, rep5, rep6, rep7, rep8, rep9, List.append_nil, List.map_cons, List.map_nil, List.cons_append, List.nil_append, List.getElem?_cons_zero, List.getElem?_cons_succ, List.set_cons_succ, List.set_cons_zero, setE, wipeE, rv_ok, rv_er, od_some, mv_ok, mv_er, sv_some, bv_bl, iv_int, tv_str, lv_lst, outB_ret, outB_nxf, outB_exc, th_nx, th_ret, th_exc, th_brk, th_ct, ro_nx, ro_ret, ro_exc, ro_brk, ro_ct, rv_bind, rv_okE, rv_okL, rv_var, rv_c, rv_nil, rv_cons, rv_e1, rv_e2, rv_eN, rv_eMt, rv_eB, rv_and, rv_or, rv_if, rv_tup, rv_lst, rv_call, rv_callM, rv_it, rv_cut, rv_cutL, rv_pn, rv_ps, rv_chain, rv_M1, rv_range1, rv_zip, rv_zip3, sv_nil, sv_brk, sv_ct, sv_cons, sv_drop, sv_ret, sv_if, sv_asg, od_gN, sv_raise, sv_par, sv_for, sv_x, sv_asgX, rx_own, rx_ownX, sv_put, dNot_bl, true_and, and_true, if_true, if_false, ite_true, ite_false, Bool.false_eq_true, reduceIte, Bool.not_true, Bool.not_false, e1]
      unfold bEuc
      simp only [mv_runP, rv_runB, List.length_cons, List.length_nil, Nat.reduceAdd, Nat.reduceSub, Nat.zero_add, List.replicate_zero, List.replicate_one, rep2, rep3, rep4, rep5, rep6, rep7, rep8, rep9, List.append_nil, List.map_cons, List.map_nil, List.cons_append, List.nil_append, List.getElem?_cons_zero, List.getElem?_cons_succ, List.set_cons_succ, List.set_cons_zero, setE, wipeE, rv_ok, rv_er, od_some, mv_ok, mv_er, sv_some, bv_bl, iv_int, tv_str, lv_lst, outB_ret, outB_nxf, outB_exc, th_nx, th_ret, th_exc, th_brk, th_ct, ro_nx, ro_ret, ro_exc, ro_brk, ro_ct, rv_bind, rv_okE, rv_okL, rv_var, rv_c, rv_nil, rv_cons, rv_e1, rv_e2, rv_eN, rv_eMt, rv_eB, rv_and, rv_or, rv_if, rv_tup, rv_lst, rv_call, rv_callM, rv_it, rv_cut, rv_cutL, rv_pn, rv_ps, rv_chain, rv_M1, rv_range1, rv_zip, rv_zip3, sv_nil, sv_brk, sv_ct, sv_cons, sv_drop, sv_ret, sv_if, sv_asg, od_gN, sv_raise, sv_par, sv_for, sv_x, sv_asgX, rx_own, rx_ownX, sv_put, dNot_bl, true_and, and_true, if_true, if_false, ite_true, ite_false, Bool.false_eq_true, reduceIte, Bool.not_true, Bool.not_false, dInt, e2']
      refine ih (n % m) (Nat.mod_lt _ (by omega)) m ?_
      have : Nat.gcd m (n % m) = Nat.gcd n m := by
        rw [Nat.gcd_comm n m, Nat.gcd_rec m n, Nat.gcd_comm]
      rw [this]
      exact h
theorem abs_nat (i : Int) : (if i < 0 then -i else i) = ((i.natAbs : Nat) : Int) := by
  split <;> omega
theorem g_q_eq {a s : Int} (hs : 0 < s) (hb : s.natAbs < 2 ^ 4000) : g__law_q [.int a, .int s] = some (.ok (qR a s)) := by
  rw [← mv_eq]
  unfold g__law_q m__law_q
  have e1 : dGt (.int s) (.int 0) = some (.bl true) := by
    show some (D.bl (decide (0 < s))) = _
    rw [decide_eq_true hs]
  simp only [mv_runP, rv_runB, List.length_cons, List.length_nil, Nat.reduceAdd, Nat.reduceSub, Nat.zero_add, List.replicate_zero, List.replicate_one, rep2, rep3, rep4, rep5, rep6, rep7, rep8, rep9, List.append_nil, List.map_cons, List.map_nil, List.cons_append, List.nil_append, List.getElem?_cons_zero, List.getElem?_cons_succ, List.set_cons_succ, List.set_cons_zero, setE, wipeE, rv_ok, rv_er, od_some, mv_ok, mv_er, sv_some, bv_bl, iv_int, tv_str, lv_lst, outB_ret, outB_nxf, outB_exc, th_nx, th_ret, th_exc, th_brk, th_ct, ro_nx, ro_ret, ro_exc, ro_brk, ro_ct, rv_bind, rv_okE, rv_okL, rv_var, rv_c, rv_nil, rv_cons, rv_e1, rv_e2, rv_eN, rv_eMt, rv_eB, rv_and, rv_or, rv_if, rv_tup, rv_lst, rv_call, rv_callM, rv_it, rv_cut, rv_cutL, rv_pn, rv_ps, rv_chain, rv_M1, rv_range1, rv_zip, rv_zip3, sv_nil, sv_brk, sv_ct, sv_cons, sv_drop, sv_ret, sv_if, sv_asg, od_gN, sv_raise, sv_par, sv_for, sv_x, sv_asgX, rx_own, rx_ownX, sv_put, dNot_bl, true_and, and_true, if_true, if_false, ite_true, ite_false, Bool.false_eq_true, reduceIte, Bool.not_true, Bool.not_false, dAbs, abs_nat]
  refine gcd_loop _ _ _ s.natAbs a.natAbs ?_
  simp only [mv_runP, rv_runB, List.length_cons, List.length_nil, Nat.reduceAdd, Nat.reduceSub, Nat.zero_add, List.replicate_zero, List.replicate_one, rep2, rep3, rep4, rep5, rep6, rep7, rep8, rep9, List.append_nil, List.map_cons, List.map_nil, List.cons_append, List.nil_append, List.getElem?_cons_zero, List.getElem?_cons_succ, List.set_cons_succ, List.set_cons_zero, setE, wipeE, rv_ok, rv_er, od_some, mv_ok, mv_er, sv_some, bv_bl, iv_int, tv_str, lv_lst, outB_ret, outB_nxf, outB_exc, th_nx, th_ret, th_exc, th_brk, th_ct, ro_nx, ro_ret, ro_exc, ro_brk, ro_ct, rv_bind, rv_okE, rv_okL, rv_var, rv_c, rv_nil, rv_cons, rv_e1, rv_e2, rv_eN, rv_eMt, rv_eB, rv_and, rv_or, rv_if, rv_tup, rv_lst, rv_call, rv_callM, rv_it, rv_cut, rv_cutL, rv_pn, rv_ps, rv_chain, rv_M1, rv_range1, rv_zip, rv_zip3, sv_nil, sv_brk, sv_ct, sv_cons, sv_drop, sv_ret, sv_if, sv_asg, od_gN, sv_raise, sv_par, sv_for, sv_x, sv_asgX, rx_own, rx_ownX, sv_put, dNot_bl, true_and, and_true, if_true, if_false, ite_true, ite_false, Bool.false_eq_true, reduceIte, Bool.not_true, Bool.not_false, e1, fdiv_g hs hb]
  rfl
/-! ### alike: a value and itself -/
theorem g_is_truth_eq {a b : Bool} : g__law_is_truth [.bl a, .bl b] = some (.ok (.bl (decide (a = b)))) := by
  rw [← mv_eq]
  unfold g__law_is_truth m__law_is_truth
  simp only [mv_runP, rv_runB, List.length_cons, List.length_nil, Nat.reduceAdd, Nat.reduceSub, Nat.zero_add, List.replicate_zero, List.replicate_one, rep2, rep3, rep4, rep5, rep6, rep7, rep8, rep9, List.append_nil, List.map_cons, List.map_nil, List.cons_append, List.nil_append, List.getElem?_cons_zero, List.getElem?_cons_succ, List.set_cons_succ, List.set_cons_zero, setE, wipeE, rv_ok, rv_er, od_some, mv_ok, mv_er, sv_some, bv_bl, iv_int, tv_str, lv_lst, outB_ret, outB_nxf, outB_exc, th_nx, th_ret, th_exc, th_brk, th_ct, ro_nx, ro_ret, ro_exc, ro_brk, ro_ct, rv_bind, rv_okE, rv_okL, rv_var, rv_c, rv_nil, rv_cons, rv_e1, rv_e2, rv_eN, rv_eMt, rv_eB, rv_and, rv_or, rv_if, rv_tup, rv_lst, rv_call, rv_callM, rv_it, rv_cut, rv_cutL, rv_pn, rv_ps, rv_chain, rv_M1, rv_range1, rv_zip, rv_zip3, sv_nil, sv_brk, sv_ct, sv_cons, sv_drop, sv_ret, sv_if, sv_asg, od_gN, sv_raise, sv_par, sv_for, sv_x, sv_asgX, rx_own, rx_ownX, sv_put, dNot_bl, true_and, and_true, if_true, if_false, ite_true, ite_false, Bool.false_eq_true, reduceIte, Bool.not_true, Bool.not_false, dIs]
  cases a <;> cases b <;> simp
mutual
def szD : D → Nat
  | .tup l => 1 + szs l
  | .lst l => 1 + szs l
  | _ => 1
def szs : List D → Nat
  | [] => 0
  | d :: l => szD d + szs l
end
theorem szs_app : ∀ l m : List D, szs (l ++ m) = szs l + szs m
  | [], m => by simp [szs]
  | d :: l, m => by
    rw [List.cons_append, szs, szs, szs_app l m]
    omega
theorem szs_len : ∀ l : List D, l.length ≤ szs l
  | [] => by simp [szs]
  | d :: l => by
    have := szs_len l
    have : 1 ≤ szD d := by cases d <;> simp [szD]
    rw [szs, List.length_cons]
    omega
def dup (z : D) : D := .tup [z, z]
theorem zip_dup : ∀ l : List D, zipD l l = l.map dup
  | [] => rfl
  | d :: l => by
    rw [zipD, zip_dup l]
    rfl
theorem dup_sh {b : Nat} {l : List D} (h : ∀ z ∈ l, FiB b z) : shD 60 (.lst (l.map dup)) = true := by
  rw [shD]
  induction l with
  | nil => rfl
  | cons d l ih =>
    have h1 : shD 58 d = true := fiD_sh 58 d (fiD_up 12 58 d (by omega) (h d List.mem_cons_self).top)
    have h2 : shD 59 (dup d) = true := by
      unfold dup
      simp [shD, shDs, h1]
    rw [List.map_cons, shDs, h2, ih fun x hx => h x (List.mem_cons_of_mem _ hx)]
    rfl
theorem dNe_nil {l : List D} (h : shD 60 (.lst l) = true) : dNe (.lst l) (.lst []) = some (.bl (!l.isEmpty)) := by
  show (if shD 60 (.lst l) && shD 60 (.lst []) then some (D.bl (!PyData.eqv (toPy (.lst l)) (toPy (.lst [])))) else none) = _
  rw [h]
  cases l <;> simp [toPy, toPys, PyData.eqv, PyData.eqvAll, shD, shDs]
def cSame : Fe Unit := eB (e2 dNe (eVar 2) (eLst fNil))
def bSame : Fs Unit := (sCons (sAsgX (xOwn 2 opPop fNil) (gT (gsCons (gN 3) (gsCons (gN 4) gsNil))))
  (sIf (eOr (eB (e2 dIs (eVar 4) (eC .non))) (eB (eN dIsi (fCons (eVar 4) (fCons (eC (.ty "bool")) fNil)))))
  (sIf (eIf (eB (e2 dIs (eVar 4) (eC .non))) (eB (e2 dIsNot (eVar 3) (eC .non))) (e1 dNot (eB (eCall g__law_is_truth (fCons (eVar 3) (fCons (eVar 4) fNil))))))
  (sRet (eC (.bl false)))
  sNil)
  (sIf (eB (e1 (dIsiT ["int", "str"]) (eVar 4)))
  (sIf (eOr (eB (eN dIsi (fCons (eVar 3) (fCons (eC (.ty "bool")) fNil)))) (eOr (eB (e2 dNe (eN dIsi (fCons (eVar 3) (fCons (eC (.ty "int")) fNil))) (eN dIsi (fCons (eVar 4) (fCons (eC (.ty "int")) fNil))))) (eB (e2 dNe (eVar 3) (eVar 4)))))
  (sRet (eC (.bl false)))
  sNil)
  (sIf (eB (eN dIsi (fCons (eVar 4) (fCons (eC (.ty "dict")) fNil))))
  sNo
  (sCons (sAsg (eLst (fCons (eAnd (eN dIsi (fCons (eVar 3) (fCons (eC (.ty "tuple")) fNil))) (eN dIsi (fCons (eVar 4) (fCons (eC (.ty "tuple")) fNil)))) (fCons (eAnd (eN dIsi (fCons (eVar 3) (fCons (eC (.ty "list")) fNil))) (eN dIsi (fCons (eVar 4) (fCons (eC (.ty "list")) fNil)))) fNil))) (gN 5))
  (sCons (sIf (eOr (eB (e2 dNotIn (eC (.bl true)) (eVar 5))) (eB (e2 dNe (eN dLen (fCons (eVar 3) fNil)) (eN dLen (fCons (eVar 4) fNil)))))
  (sRet (eC (.bl false)))
  sNil)
  (sX (xOwn 2 opExt (fCons (eComp (fZip (eVar 3) (eVar 4)) [7, 8] (gT (gsCons (gN 7) (gsCons (gN 8) gsNil))) (eC (.bl true)) (eTup (fCons (eVar 7) (fCons (eVar 8) fNil)))) fNil)))))))))
/-- what is behind a value in the work list -/
def kids : D → List D
  | .tup l => l
  | .lst l => l
  | _ => []
theorem isi_dct {b : Nat} {d : D} (h : FiB b d) : dIsi [d, .ty "dict"] = some (.bl false) := by
  obtain ⟨n, _, h⟩ := h
  cases d <;> first | (exact isi_val rfl rfl) | (cases n <;> simp [fiD] at h; done)
theorem comp_dup (ds : List D) (x0 x1 x2 x3 x4 x5 x6 : Option D) : compL (A := Unit) (gT (gsCons (gN 7) (gsCons (gN 8) gsNil))) (eC (.bl true)) (eTup (fCons (eVar 7) (fCons (eVar 8) fNil))) (ds.map dup) () [x0, x1, x2, x3, x4, x5, x6, none, none] = some (.ok (ds.map dup, ())) := by
  have := comp_all (A := Unit) (g := gT (gsCons (gN 7) (gsCons (gN 8) gsNil))) (te := eTup (fCons (eVar 7) (fCons (eVar 8) fNil))) (w := ()) (ρ := [x0, x1, x2, x3, x4, x5, x6, none, none]) id (ds.map dup) fun d hd => by
    obtain ⟨r, _, rfl⟩ := List.mem_map.mp hd
    exact ⟨_, rfl, rfl⟩
  rw [this, List.map_id]
theorem same_body {b : Nat} (W : List D) (z : D) (hz : FiB b z) (hl : (W ++ kids z).length ≤ 15000000) (x0 x1 x3 x4 x5 x6 x7 x8 : Option D) : ∃ y3 y4 y5,
    bSame () [x0, x1, some (.lst ((W ++ [z]).map dup)), x3, x4, x5, x6, x7, x8] = some (.nx () [x0, x1, some (.lst ((W ++ kids z).map dup)), y3, y4, y5, x6, x7, x8]) := by
  have key : Sv (bSame () [x0, x1, some (.lst ((W ++ [z]).map dup)), x3, x4, x5, x6, x7, x8]) (fun o => ∃ y3 y4 y5, o = .nx () [x0, x1, some (.lst ((W ++ kids z).map dup)), y3, y4, y5, x6, x7, x8]) := by
    have ep : opPop ((W ++ [z]).map dup) [] = some (dup z, W.map dup) := by
      unfold opPop
      dsimp only
      rw [List.map_append, List.length_append, List.length_map, List.map_cons, List.map_nil, List.length_singleton, Nat.add_sub_cancel, List.getElem?_append_right (by rw [List.length_map]; exact Nat.le_refl _), List.length_map, Nat.sub_self]
      dsimp only [List.getElem?_cons_zero]
      rw [List.dropLast_concat]
    have eg : ∀ ρ : Env, ρ = [x0, x1, some (.lst (W.map dup)), x3, x4, x5, x6, x7, x8] → gT (gsCons (gN 3) (gsCons (gN 4) gsNil)) (dup z) ρ = some [x0, x1, some (.lst (W.map dup)), some z, some z, x5, x6, x7, x8] := fun ρ h => by
      rw [h] <;> rfl
    unfold bSame
    simp only [mv_runP, rv_runB, List.length_cons, List.length_nil, Nat.reduceAdd, Nat.reduceSub, Nat.zero_add, List.replicate_zero, List.replicate_one, rep2, rep3, rep4, rep5, rep6, rep7, rep8, rep9, List.append_nil, List.map_cons, List.map_nil, List.cons_append, List.nil_append, List.getElem?_cons_zero, List.getElem?_cons_succ, List.set_cons_succ, List.set_cons_zero, setE, wipeE, rv_ok, rv_er, od_some, mv_ok, mv_er, sv_some, bv_bl, iv_int, tv_str, lv_lst, outB_ret, outB_nxf, outB_exc, th_nx, th_ret, th_exc, th_brk, th_ct, ro_nx, ro_ret, ro_exc, ro_brk, ro_ct, rv_bind, rv_okE, rv_okL, rv_var, rv_c, rv_nil, rv_cons, rv_e1, rv_e2, rv_eN, rv_eMt, rv_eB, rv_and, rv_or, rv_if, rv_tup, rv_lst, rv_call, rv_callM, rv_it, rv_cut, rv_cutL, rv_pn, rv_ps, rv_chain, rv_M1, rv_range1, rv_zip, rv_zip3, sv_nil, sv_brk, sv_ct, sv_cons, sv_drop, sv_ret, sv_if, sv_asg, od_gN, sv_raise, sv_par, sv_for, sv_x, sv_asgX, rx_own, rx_ownX, sv_put, dNot_bl, true_and, and_true, if_true, if_false, ite_true, ite_false, Bool.false_eq_true, reduceIte, Bool.not_true, Bool.not_false, ep, eg _ rfl]
    have hb := isi_bl hz.ty
    have hi := isi_int hz.ty
    have ht := isi_tup hz.ty
    have hll := isi_lst hz.ty
    have hd := isi_dct hz
    cases z with
    | non =>
      simp only [mv_runP, rv_runB, List.length_cons, List.length_nil, Nat.reduceAdd, Nat.reduceSub, Nat.zero_add, List.replicate_zero, List.replicate_one, rep2, rep3, rep4, rep5, rep6, rep7, rep8, rep9, List.append_nil, List.map_cons, List.map_nil, List.cons_append, List.nil_append, List.getElem?_cons_zero, List.getElem?_cons_succ, List.set_cons_succ, List.set_cons_zero, setE, wipeE, rv_ok, rv_er, od_some, mv_ok, mv_er, sv_some, bv_bl, iv_int, tv_str, lv_lst, outB_ret, outB_nxf, outB_exc, th_nx, th_ret, th_exc, th_brk, th_ct, ro_nx, ro_ret, ro_exc, ro_brk, ro_ct, rv_bind, rv_okE, rv_okL, rv_var, rv_c, rv_nil, rv_cons, rv_e1, rv_e2, rv_eN, rv_eMt, rv_eB, rv_and, rv_or, rv_if, rv_tup, rv_lst, rv_call, rv_callM, rv_it, rv_cut, rv_cutL, rv_pn, rv_ps, rv_chain, rv_M1, rv_range1, rv_zip, rv_zip3, sv_nil, sv_brk, sv_ct, sv_cons, sv_drop, sv_ret, sv_if, sv_asg, od_gN, sv_raise, sv_par, sv_for, sv_x, sv_asgX, rx_own, rx_ownX, sv_put, dNot_bl, true_and, and_true, if_true, if_false, ite_true, ite_false, Bool.false_eq_true, reduceIte, Bool.not_true, Bool.not_false, dIs, isNon, Option.map, dIsNot]
      simp [kids]
    | bl bb =>
      simp only [mv_runP, rv_runB, List.length_cons, List.length_nil, Nat.reduceAdd, Nat.reduceSub, Nat.zero_add, List.replicate_zero, List.replicate_one, rep2, rep3, rep4, rep5, rep6, rep7, rep8, rep9, List.append_nil, List.map_cons, List.map_nil, List.cons_append, List.nil_append, List.getElem?_cons_zero, List.getElem?_cons_succ, List.set_cons_succ, List.set_cons_zero, setE, wipeE, rv_ok, rv_er, od_some, mv_ok, mv_er, sv_some, bv_bl, iv_int, tv_str, lv_lst, outB_ret, outB_nxf, outB_exc, th_nx, th_ret, th_exc, th_brk, th_ct, ro_nx, ro_ret, ro_exc, ro_brk, ro_ct, rv_bind, rv_okE, rv_okL, rv_var, rv_c, rv_nil, rv_cons, rv_e1, rv_e2, rv_eN, rv_eMt, rv_eB, rv_and, rv_or, rv_if, rv_tup, rv_lst, rv_call, rv_callM, rv_it, rv_cut, rv_cutL, rv_pn, rv_ps, rv_chain, rv_M1, rv_range1, rv_zip, rv_zip3, sv_nil, sv_brk, sv_ct, sv_cons, sv_drop, sv_ret, sv_if, sv_asg, od_gN, sv_raise, sv_par, sv_for, sv_x, sv_asgX, rx_own, rx_ownX, sv_put, dNot_bl, true_and, and_true, if_true, if_false, ite_true, ite_false, Bool.false_eq_true, reduceIte, Bool.not_true, Bool.not_false, dIs, isNon, Option.map, dIsNot, hb, kBl, g_is_truth_eq]
      simp [kids]
    | int i =>
      have e1 : dIsiT ["int", "str"] (.int i) = some (.bl true) := rfl
      have e3 : dNe (.bl (kInt (.int i))) (.bl (kInt (.int i))) = some (.bl false) := rfl
      have e2' : dNe (.int i) (.int i) = some (.bl false) := by
        show some (D.bl (!decide (i = i))) = _
        simp
      simp only [mv_runP, rv_runB, List.length_cons, List.length_nil, Nat.reduceAdd, Nat.reduceSub, Nat.zero_add, List.replicate_zero, List.replicate_one, rep2, rep3, rep4, rep5, rep6, rep7, rep8, rep9, List.append_nil, List.map_cons, List.map_nil, List.cons_append, List.nil_append, List.getElem?_cons_zero, List.getElem?_cons_succ, List.set_cons_succ, List.set_cons_zero, setE, wipeE, rv_ok, rv_er, od_some, mv_ok, mv_er, sv_some, bv_bl, iv_int, tv_str, lv_lst, outB_ret, outB_nxf, outB_exc, th_nx, th_ret, th_exc, th_brk, th_ct, ro_nx, ro_ret, ro_exc, ro_brk, ro_ct, rv_bind, rv_okE, rv_okL, rv_var, rv_c, rv_nil, rv_cons, rv_e1, rv_e2, rv_eN, rv_eMt, rv_eB, rv_and, rv_or, rv_if, rv_tup, rv_lst, rv_call, rv_callM, rv_it, rv_cut, rv_cutL, rv_pn, rv_ps, rv_chain, rv_M1, rv_range1, rv_zip, rv_zip3, sv_nil, sv_brk, sv_ct, sv_cons, sv_drop, sv_ret, sv_if, sv_asg, od_gN, sv_raise, sv_par, sv_for, sv_x, sv_asgX, rx_own, rx_ownX, sv_put, dNot_bl, true_and, and_true, if_true, if_false, ite_true, ite_false, Bool.false_eq_true, reduceIte, Bool.not_true, Bool.not_false, dIs, isNon, Option.map, hb, kBl, e1, hi, e2', e3]
      simp [kids]
    | str s =>
      have e1 : dIsiT ["int", "str"] (.str s) = some (.bl true) := rfl
      have e3 : dNe (.bl (kInt (.str s))) (.bl (kInt (.str s))) = some (.bl false) := rfl
      have e2' : dNe (.str s) (.str s) = some (.bl false) := by
        show some (D.bl (!decide (s = s))) = _
        simp
      simp only [mv_runP, rv_runB, List.length_cons, List.length_nil, Nat.reduceAdd, Nat.reduceSub, Nat.zero_add, List.replicate_zero, List.replicate_one, rep2, rep3, rep4, rep5, rep6, rep7, rep8, rep9, List.append_nil, List.map_cons, List.map_nil, List.cons_append, List.nil_append, List.getElem?_cons_zero, List.getElem?_cons_succ, List.set_cons_succ, List.set_cons_zero, setE, wipeE, rv_ok, rv_er, od_some, mv_ok, mv_er, sv_some, bv_bl, iv_int, tv_str, lv_lst, outB_ret, outB_nxf, outB_exc, th_nx, th_ret, th_exc, th_brk, th_ct, ro_nx, ro_ret, ro_exc, ro_brk, ro_ct, rv_bind, rv_okE, rv_okL, rv_var, rv_c, rv_nil, rv_cons, rv_e1, rv_e2, rv_eN, rv_eMt, rv_eB, rv_and, rv_or, rv_if, rv_tup, rv_lst, rv_call, rv_callM, rv_it, rv_cut, rv_cutL, rv_pn, rv_ps, rv_chain, rv_M1, rv_range1, rv_zip, rv_zip3, sv_nil, sv_brk, sv_ct, sv_cons, sv_drop, sv_ret, sv_if, sv_asg, od_gN, sv_raise, sv_par, sv_for, sv_x, sv_asgX, rx_own, rx_ownX, sv_put, dNot_bl, true_and, and_true, if_true, if_false, ite_true, ite_false, Bool.false_eq_true, reduceIte, Bool.not_true, Bool.not_false, dIs, isNon, Option.map, hb, kBl, e1, hi, e2', e3]
      simp [kids]
    | tup l =>
      have e1 : dIsiT ["int", "str"] (.tup l) = some (.bl false) := rfl
      have e2' : dNe (.int (l.length : Int)) (.int (l.length : Int)) = some (.bl false) := by
        show some (D.bl (!decide ((l.length : Int) = (l.length : Int)))) = _
        simp
      have e4 : dNotIn (.bl true) (.lst [.bl true, .bl false]) = some (.bl false) := by simp [dNotIn, dIn, shD, shDs, toPy, PyData.eqv]
      have ez : zipOf (.tup l) (.tup l) = some (l.map dup) := by
        show some (zipD l l) = _
        rw [zip_dup]
      have hll' : (W ++ l).length ≤ 15000000 := hl
      rw [List.length_append] at hll'
      have eo : opExt (W.map dup) [.lst (l.map dup)] = some (.non, (W ++ l).map dup) := by
        unfold opExt
        dsimp only
        rw [if_pos (by rw [List.length_map, List.length_map]; omega), List.map_append]
      simp only [mv_runP, rv_runB, List.length_cons, List.length_nil, Nat.reduceAdd, Nat.reduceSub, Nat.zero_add, List.replicate_zero, List.replicate_one, rep2, rep3, rep4, rep5, rep6, rep7, rep8, rep9, List.append_nil, List.map_cons, List.map_nil, List.cons_append, List.nil_append, List.getElem?_cons_zero, List.getElem?_cons_succ, List.set_cons_succ, List.set_cons_zero, setE, wipeE, rv_ok, rv_er, od_some, mv_ok, mv_er, sv_some, bv_bl, iv_int, tv_str, lv_lst, outB_ret, outB_nxf, outB_exc, th_nx, th_ret, th_exc, th_brk, th_ct, ro_nx, ro_ret, ro_exc, ro_brk, ro_ct, rv_bind, rv_okE, rv_okL, rv_var, rv_c, rv_nil, rv_cons, rv_e1, rv_e2, rv_eN, rv_eMt, rv_eB, rv_and, rv_or, rv_if, rv_tup, rv_lst, rv_call, rv_callM, rv_it, rv_cut, rv_cutL, rv_pn, rv_ps, rv_chain, rv_M1, rv_range1, rv_zip, rv_zip3, sv_nil, sv_brk, sv_ct, sv_cons, sv_drop, sv_ret, sv_if, sv_asg, od_gN, sv_raise, sv_par, sv_for, sv_x, sv_asgX, rx_own, rx_ownX, sv_put, dNot_bl, true_and, and_true, if_true, if_false, ite_true, ite_false, Bool.false_eq_true, reduceIte, Bool.not_true, Bool.not_false, dIs, isNon, Option.map, hb, kBl, e1, hd, ht, hll, kTup, kLst, e4, dLen, e2', rv_comp, ez, comp_dup, List.length_map, eo]
      exact ⟨by omega, _, _, _, rfl⟩
    | lst l =>
      have e1 : dIsiT ["int", "str"] (.lst l) = some (.bl false) := rfl
      have e2' : dNe (.int (l.length : Int)) (.int (l.length : Int)) = some (.bl false) := by
        show some (D.bl (!decide ((l.length : Int) = (l.length : Int)))) = _
        simp
      have e4 : dNotIn (.bl true) (.lst [.bl false, .bl true]) = some (.bl false) := by simp [dNotIn, dIn, shD, shDs, toPy, PyData.eqv]
      have ez : zipOf (.lst l) (.lst l) = some (l.map dup) := by
        show some (zipD l l) = _
        rw [zip_dup]
      have hll' : (W ++ l).length ≤ 15000000 := hl
      rw [List.length_append] at hll'
      have eo : opExt (W.map dup) [.lst (l.map dup)] = some (.non, (W ++ l).map dup) := by
        unfold opExt
        dsimp only
        rw [if_pos (by rw [List.length_map, List.length_map]; omega), List.map_append]
      simp only [mv_runP, rv_runB, List.length_cons, List.length_nil, Nat.reduceAdd, Nat.reduceSub, Nat.zero_add, List.replicate_zero, List.replicate_one, rep2, rep3, rep4, rep5, rep6, rep7, rep8, rep9, List.append_nil, List.map_cons, List.map_nil, List.cons_append, List.nil_append, List.getElem?_cons_zero, List.getElem?_cons_succ, List.set_cons_succ, List.set_cons_zero, setE, wipeE, rv_ok, rv_er, od_some, mv_ok, mv_er, sv_some, bv_bl, iv_int, tv_str, lv_lst, outB_ret, outB_nxf, outB_exc, th_nx, th_ret, th_exc, th_brk, th_ct, ro_nx, ro_ret, ro_exc, ro_brk, ro_ct, rv_bind, rv_okE, rv_okL, rv_var, rv_c, rv_nil, rv_cons, rv_e1, rv_e2, rv_eN, rv_eMt, rv_eB, rv_and, rv_or, rv_if, rv_tup, rv_lst, rv_call, rv_callM, rv_it, rv_cut, rv_cutL, rv_pn, rv_ps, rv_chain, rv_M1, rv_range1, rv_zip, rv_zip3, sv_nil, sv_brk, sv_ct, sv_cons, sv_drop, sv_ret, sv_if, sv_asg, od_gN, sv_raise, sv_par, sv_for, sv_x, sv_asgX, rx_own, rx_ownX, sv_put, dNot_bl, true_and, and_true, if_true, if_false, ite_true, ite_false, Bool.false_eq_true, reduceIte, Bool.not_true, Bool.not_false, dIs, isNon, Option.map, hb, kBl, e1, hd, ht, hll, kTup, kLst, e4, dLen, e2', rv_comp, ez, comp_dup, List.length_map, eo]
      exact ⟨by omega, _, _, _, rfl⟩
    | _ =>
      exfalso
      obtain ⟨n, _, h⟩ := hz
      cases n <;> simp [fiD] at h
  unfold Sv at key
  split at key
  · exact key.elim
  · rename_i e
    obtain ⟨y3, y4, y5, h⟩ := key
    exact ⟨y3, y4, y5, by rw [e, h]⟩
theorem kids_fi {b : Nat} {z : D} (h : FiB b z) : ∀ d ∈ kids z, FiB b d := fun d hd => by
  cases z with
  | tup l => exact h.tup.2 d hd
  | lst l => exact h.lst.2 d hd
  | _ => cases hd
theorem kids_sz (z : D) : szs (kids z) < szD z := by
  cases z <;> simp [kids, szD, szs] <;> omega
theorem same_loop {b : Nat} (x0 x1 x6 x7 x8 : Option D) (QS : Out Unit → Prop) (hQ : ∀ y2 y3 y4 y5, QS (.nx () [x0, x1, y2, y3, y4, y5, x6, x7, x8])) : ∀ (n : Nat) (l : List D) (x3 x4 x5 : Option D), szs l ≤ n → n ≤ 15000000 → (∀ z ∈ l, FiB b z) →
    Sv (sWhile cSame bSame () [x0, x1, some (.lst (l.map dup)), x3, x4, x5, x6, x7, x8]) QS
  | 0, l, x3, x4, x5, hn, _, hf => by
    have : l = [] := by
      have := szs_len l
      exact List.length_eq_zero_iff.mp (by omega)
    subst this
    rw [sv_while]
    unfold cSame
    have e := dNe_nil (dup_sh (b := b) (l := []) fun z hz => by cases hz)
    simp only [mv_runP, rv_runB, List.length_cons, List.length_nil, Nat.reduceAdd, Nat.reduceSub, Nat.zero_add, List.replicate_zero, List.replicate_one, rep2, rep3, rep4, rep5, rep6, rep7, rep8, rep9, List.append_nil, List.map_cons, List.map_nil, List.cons_append, List.nil_append, List.getElem?_cons_zero, List.getElem?_cons_succ, List.set_cons_succ, List.set_cons_zero, setE, wipeE, rv_ok, rv_er, od_some, mv_ok, mv_er, sv_some, bv_bl, iv_int, tv_str, lv_lst, outB_ret, outB_nxf, outB_exc, th_nx, th_ret, th_exc, th_brk, th_ct, ro_nx, ro_ret, ro_exc, ro_brk, ro_ct, rv_bind, rv_okE, rv_okL, rv_var, rv_c, rv_nil, rv_cons, rv_e1, rv_e2, rv_eN, rv_eMt, rv_eB, rv_and, rv_or, rv_if, rv_tup, rv_lst, rv_call, rv_callM, rv_it, rv_cut, rv_cutL, rv_pn, rv_ps, rv_chain, rv_M1, rv_range1, rv_zip, rv_zip3, sv_nil, sv_brk, sv_ct, sv_cons, sv_drop, sv_ret, sv_if, sv_asg, od_gN, sv_raise, sv_par, sv_for, sv_x, sv_asgX, rx_own, rx_ownX, sv_put, dNot_bl, true_and, and_true, if_true, if_false, ite_true, ite_false, Bool.false_eq_true, reduceIte, Bool.not_true, Bool.not_false, e]
    exact hQ _ _ _ _
  | n + 1, l, x3, x4, x5, hn, hl, hf => by
    rw [sv_while]
    unfold cSame
    have e := dNe_nil (dup_sh hf)
    simp only [mv_runP, rv_runB, List.length_cons, List.length_nil, Nat.reduceAdd, Nat.reduceSub, Nat.zero_add, List.replicate_zero, List.replicate_one, rep2, rep3, rep4, rep5, rep6, rep7, rep8, rep9, List.append_nil, List.map_cons, List.map_nil, List.cons_append, List.nil_append, List.getElem?_cons_zero, List.getElem?_cons_succ, List.set_cons_succ, List.set_cons_zero, setE, wipeE, rv_ok, rv_er, od_some, mv_ok, mv_er, sv_some, bv_bl, iv_int, tv_str, lv_lst, outB_ret, outB_nxf, outB_exc, th_nx, th_ret, th_exc, th_brk, th_ct, ro_nx, ro_ret, ro_exc, ro_brk, ro_ct, rv_bind, rv_okE, rv_okL, rv_var, rv_c, rv_nil, rv_cons, rv_e1, rv_e2, rv_eN, rv_eMt, rv_eB, rv_and, rv_or, rv_if, rv_tup, rv_lst, rv_call, rv_callM, rv_it, rv_cut, rv_cutL, rv_pn, rv_ps, rv_chain, rv_M1, rv_range1, rv_zip, rv_zip3, sv_nil, sv_brk, sv_ct, sv_cons, sv_drop, sv_ret, sv_if, sv_asg, od_gN, sv_raise, sv_par, sv_for, sv_x, sv_asgX, rx_own, rx_ownX, sv_put, dNot_bl, true_and, and_true, if_true, if_false, ite_true, ite_false, Bool.false_eq_true, reduceIte, Bool.not_true, Bool.not_false, e]
    rcases List.eq_nil_or_concat l with rfl | ⟨W, z, rfl⟩
    · simp only [mv_runP, rv_runB, List.length_cons, List.length_nil, Nat.reduceAdd, Nat.reduceSub, Nat.zero_add, List.replicate_zero, List.replicate_one, rep2, rep3, rep4, rep5, rep6, rep7, rep8, rep9, List.append_nil, List.map_cons, List.map_nil, List.cons_append, List.nil_append, List.getElem?_cons_zero, List.getElem?_cons_succ, List.set_cons_succ, List.set_cons_zero, setE, wipeE, rv_ok, rv_er, od_some, mv_ok, mv_er, sv_some, bv_bl, iv_int, tv_str, lv_lst, outB_ret, outB_nxf, outB_exc, th_nx, th_ret, th_exc, th_brk, th_ct, ro_nx, ro_ret, ro_exc, ro_brk, ro_ct, rv_bind, rv_okE, rv_okL, rv_var, rv_c, rv_nil, rv_cons, rv_e1, rv_e2, rv_eN, rv_eMt, rv_eB, rv_and, rv_or, rv_if, rv_tup, rv_lst, rv_call, rv_callM, rv_it, rv_cut, rv_cutL, rv_pn, rv_ps, rv_chain, rv_M1, rv_range1, rv_zip, rv_zip3, sv_nil, sv_brk, sv_ct, sv_cons, sv_drop, sv_ret, sv_if, sv_asg, od_gN, sv_raise, sv_par, sv_for, sv_x, sv_asgX, rx_own, rx_ownX, sv_put, dNot_bl, true_and, and_true, if_true, if_false, ite_true, ite_false, Bool.false_eq_true, reduceIte, Bool.not_true, Bool.not_false, List.isEmpty_nil]
      exact hQ _ _ _ _
    · have hf' : ∀ y ∈ W ++ kids z, FiB b y := fun y hy => by
        rcases List.mem_append.mp hy with q | q
        · exact hf y (by simp [q])
        · exact kids_fi (hf z (by simp)) y q
      have s1 : szs (W ++ [z]) = szs W + szD z := by
        rw [szs_app]
        simp [szs]
      have s2 := szs_app W (kids z)
      have s3 := kids_sz z
      have s4 := szs_len (W ++ kids z)
      have hne : ((W ++ [z]).map dup).isEmpty = false := by cases W <;> rfl
      rw [List.concat_eq_append] at hn hf ⊢
      obtain ⟨y3, y4, y5, hb⟩ := same_body W z (hf z (by simp)) (by omega) x0 x1 x3 x4 x5 x6 x7 x8
      simp only [mv_runP, rv_runB, List.length_cons, List.length_nil, Nat.reduceAdd, Nat.reduceSub, Nat.zero_add, List.replicate_zero, List.replicate_one, rep2, rep3, rep4, rep5, rep6, rep7, rep8, rep9, List.append_nil, List.map_cons, List.map_nil, List.cons_append, List.nil_append, List.getElem?_cons_zero, List.getElem?_cons_succ, List.set_cons_succ, List.set_cons_zero, setE, wipeE, rv_ok, rv_er, od_some, mv_ok, mv_er, sv_some, bv_bl, iv_int, tv_str, lv_lst, outB_ret, outB_nxf, outB_exc, th_nx, th_ret, th_exc, th_brk, th_ct, ro_nx, ro_ret, ro_exc, ro_brk, ro_ct, rv_bind, rv_okE, rv_okL, rv_var, rv_c, rv_nil, rv_cons, rv_e1, rv_e2, rv_eN, rv_eMt, rv_eB, rv_and, rv_or, rv_if, rv_tup, rv_lst, rv_call, rv_callM, rv_it, rv_cut, rv_cutL, rv_pn, rv_ps, rv_chain, rv_M1, rv_range1, rv_zip, rv_zip3, sv_nil, sv_brk, sv_ct, sv_cons, sv_drop, sv_ret, sv_if, sv_asg, od_gN, sv_raise, sv_par, sv_for, sv_x, sv_asgX, rx_own, rx_ownX, sv_put, dNot_bl, true_and, and_true, if_true, if_false, ite_true, ite_false, Bool.false_eq_true, reduceIte, Bool.not_true, Bool.not_false, hne, hb]
      exact same_loop x0 x1 x6 x7 x8 QS hQ n (W ++ kids z) y3 y4 y5 (by omega) (by omega) hf'
theorem g_same_refl {b : Nat} {z : D} (h : FiB b z) (hs : szD z ≤ 15000000) : g__law_same [z, z] = some (.ok (.bl true)) := by
  rw [← mv_eq]
  unfold g__law_same m__law_same
  simp only [mv_runP, rv_runB, List.length_cons, List.length_nil, Nat.reduceAdd, Nat.reduceSub, Nat.zero_add, List.replicate_zero, List.replicate_one, rep2, rep3, rep4, rep5, rep6, rep7, rep8, rep9, List.append_nil, List.map_cons, List.map_nil, List.cons_append, List.nil_append, List.getElem?_cons_zero, List.getElem?_cons_succ, List.set_cons_succ, List.set_cons_zero, setE, wipeE, rv_ok, rv_er, od_some, mv_ok, mv_er, sv_some, bv_bl, iv_int, tv_str, lv_lst, outB_ret, outB_nxf, outB_exc, th_nx, th_ret, th_exc, th_brk, th_ct, ro_nx, ro_ret, ro_exc, ro_brk, ro_ct, rv_bind, rv_okE, rv_okL, rv_var, rv_c, rv_nil, rv_cons, rv_e1, rv_e2, rv_eN, rv_eMt, rv_eB, rv_and, rv_or, rv_if, rv_tup, rv_lst, rv_call, rv_callM, rv_it, rv_cut, rv_cutL, rv_pn, rv_ps, rv_chain, rv_M1, rv_range1, rv_zip, rv_zip3, sv_nil, sv_brk, sv_ct, sv_cons, sv_drop, sv_ret, sv_if, sv_asg, od_gN, sv_raise, sv_par, sv_for, sv_x, sv_asgX, rx_own, rx_ownX, sv_put, dNot_bl, true_and, and_true, if_true, if_false, ite_true, ite_false, Bool.false_eq_true, reduceIte, Bool.not_true, Bool.not_false]
  refine same_loop _ _ _ _ _ _ (fun y2 y3 y4 y5 => ?_) (szD z) [z] _ _ _ (by simp [szs]) hs (fun y hy => by rw [List.mem_singleton.mp hy]; exact h)
  simp only [mv_runP, rv_runB, List.length_cons, List.length_nil, Nat.reduceAdd, Nat.reduceSub, Nat.zero_add, List.replicate_zero, List.replicate_one, rep2, rep3, rep4, rep5, rep6, rep7, rep8, rep9, List.append_nil, List.map_cons, List.map_nil, List.cons_append, List.nil_append, List.getElem?_cons_zero, List.getElem?_cons_succ, List.set_cons_succ, List.set_cons_zero, setE, wipeE, rv_ok, rv_er, od_some, mv_ok, mv_er, sv_some, bv_bl, iv_int, tv_str, lv_lst, outB_ret, outB_nxf, outB_exc, th_nx, th_ret, th_exc, th_brk, th_ct, ro_nx, ro_ret, ro_exc, ro_brk, ro_ct, rv_bind, rv_okE, rv_okL, rv_var, rv_c, rv_nil, rv_cons, rv_e1, rv_e2, rv_eN, rv_eMt, rv_eB, rv_and, rv_or, rv_if, rv_tup, rv_lst, rv_call, rv_callM, rv_it, rv_cut, rv_cutL, rv_pn, rv_ps, rv_chain, rv_M1, rv_range1, rv_zip, rv_zip3, sv_nil, sv_brk, sv_ct, sv_cons, sv_drop, sv_ret, sv_if, sv_asg, od_gN, sv_raise, sv_par, sv_for, sv_x, sv_asgX, rx_own, rx_ownX, sv_put, dNot_bl, true_and, and_true, if_true, if_false, ite_true, ite_false, Bool.false_eq_true, reduceIte, Bool.not_true, Bool.not_false]
/-! ### fine texts -/
theorem fiD_tup {b n : Nat} {l : List D} (h : ∀ d ∈ l, fiD b n d = true) (hl : l.length ≤ 100000) : fiD b (n + 1) (.tup l) = true := by
  rw [fiD, Bool.and_eq_true, decide_eq_true_eq, fiDs_iff]
  exact ⟨hl, h⟩
theorem fiD_lst {b n : Nat} {l : List D} (h : ∀ d ∈ l, fiD b n d = true) (hl : l.length ≤ 100000) : fiD b (n + 1) (.lst l) = true := by
  rw [fiD, Bool.and_eq_true, decide_eq_true_eq, fiDs_iff]
  exact ⟨hl, h⟩
theorem fiD_int {b n : Nat} {i : Int} (h : i.natAbs < 2 ^ b) : fiD b n (.int i) = true := by
  cases n <;> exact decide_eq_true h
theorem fiD_str {b n : Nat} {s : Str} (h : PyData.strOk s = true) (hl : s.length ≤ 1000) : fiD b n (.str s) = true := by
  cases n <;> (rw [fiD, h, decide_eq_true hl]; rfl)
theorem FiB.strok {b : Nat} {s : Str} (h : FiB b (.str s)) : PyData.strOk s = true := by
  have := h.sh
  simpa [shD] using this
theorem strOk_app {s t : Str} (h1 : PyData.strOk s = true) (h2 : PyData.strOk t = true) : PyData.strOk (s ++ t) = true := by
  unfold PyData.strOk at *
  rw [← Array.all_toList] at *
  show ((s.cps ++ t.cps).toList).all _ = true
  rw [Array.toList_append, List.all_append, h1, h2]
  rfl
theorem len_app (s t : Str) : (s ++ t).length = s.length + t.length := by
  show (s.cps ++ t.cps).size = _
  rw [Array.size_append]
  rfl
theorem rep9_ok {s : Str} (h : PyData.strOk s = true) : PyData.strOk (repS s 9) = true ∧ (repS s 9).length = 9 * s.length := by
  constructor
  · unfold PyData.strOk at *
    rw [← Array.all_toList] at *
    unfold repS
    rw [List.all_eq_true] at *
    intro c hc
    have hc' : c ∈ (List.replicate 9 s.cps.toList).flatten := hc
    obtain ⟨l, hl, hcl⟩ := List.mem_flatten.mp hc'
    rw [(List.mem_replicate.mp hl).2] at hcl
    exact h c hcl
  · show ((List.replicate 9 s.cps.toList).flatten.toArray).size = _
    have e : s.length = s.cps.toList.length := rfl
    rw [List.size_toArray, e]
    simp only [show List.replicate 9 s.cps.toList = [s.cps.toList, s.cps.toList, s.cps.toList, s.cps.toList, s.cps.toList, s.cps.toList, s.cps.toList, s.cps.toList, s.cps.toList] from rfl, List.flatten_cons, List.flatten_nil, List.length_append, List.length_nil]
    omega
theorem mul9 {s : Str} (h : s.length ≤ 8) : dMul (.str s) (.int 9) = some (.str (repS s 9)) := by
  show (if decide (-1000000 ≤ (9 : Int)) && decide ((9 : Int) ≤ 1000000) && decide (s.length * ((9 : Int)).toNat ≤ 16000000) then some (D.str (repS s 9)) else none) = _
  rw [if_pos]
  rw [Bool.and_eq_true]
  refine ⟨by decide, decide_eq_true ?_⟩
  show s.length * 9 ≤ 16000000
  omega
theorem add_str {s t : Str} (h : s.length ≤ 8) (ht : t.length ≤ 8) : dAdd (.str s) (.str t) = some (.str (s ++ t)) := by
  unfold dAdd
  dsimp only
  rw [if_pos (by omega)]
end DL
end
namespace DL
open L2 PySem PyProof.Rows PySem.Spec

/-! ### the head by names -/
/-- a def of the top -/
def dD (x : Str) (st : Stmt) : He.DefD := ⟨(x, none), x, x, defArgs st, defBody st, defScope st, [], []⟩
/-- the classes of errors that the law lets rise -/
def clsL (K : PySem.W.Frag) (L : List Str) (x : Str) : Option Addr := if L.contains x then some (He.ga K x) else none
def kB (a : Option Bool) (b : Bool) : Bool := match a with
  | some c => c == b
  | none => false
theorem kB_ok {a : Option Bool} {b : Bool} (h : kB a b = true) : a = some b := by
  cases a with
  | none => cases h
  | some c => exact congrArg some (beq_iff_eq.mp h)
/-- what is asked of one class -/
def excB (K : PySem.W.Frag) (D : Addr) : Bool :=
  He.eqO (PySem.W.findIn K (.ref D) "__getattribute__") (some (some (.builtin "BaseException.__getattribute__"))) && (He.eqO (PySem.W.findIn K (.ref D) "__getattr__") (some none) &&
  (kB (PySem.W.subIn K (.ref D) (.type "BaseException")) true && (PySem.W.hasDictIn K D && (He.eqO (PySem.W.findIn K (.ref D) "__class__") (some (some (.builtin "object.__class__"))) &&
  (He.eqO (PySem.W.specialIn K (.builtin "object.__class__") "__get__") (some (some (.builtin "getset_descriptor.__get__"))) && (kB (PySem.W.takesIn K (.builtin "object.__class__")) true && kB (PySem.W.mroIn K D (.type "object")) true))))))
theorem excB_ok {K : PySem.W.Frag} {D : Addr} (h : excB K D = true) : ExcC K D := by
  obtain ⟨h1, h⟩ := He.ba h
  obtain ⟨h2, h⟩ := He.ba h
  obtain ⟨h3, h⟩ := He.ba h
  obtain ⟨h4, h⟩ := He.ba h
  obtain ⟨h5, h⟩ := He.ba h
  obtain ⟨h6, h⟩ := He.ba h
  obtain ⟨h7, h8⟩ := He.ba h
  exact ⟨He.eqO_ok h1, He.eqO_ok h2, kB_ok h3, h4, He.eqO_ok h5, He.eqO_ok h6, kB_ok h7, kB_ok h8⟩
def tyL : List String := ["NoneType", "bool", "int", "str", "tuple", "list", "dict"]
/-- what is asked of the classes L, S the class of «except» -/
def errB (K : PySem.W.Frag) (L : List Str) (S : Str) : Bool := L.all fun x => excB K (He.ga K x) && ((L.all fun y => kB (PySem.W.kitOne K (.ref (He.ga K x)) (.ref (He.ga K y))) (decide (x = y))) &&
  ((tyL.all fun t => kB (PySem.W.kitOne K (.type t) (.ref (He.ga K x))) false) && kB (PySem.W.exmOne K (.ref (He.ga K x)) (.ref (He.ga K S))) true))
theorem clsL_some {K : PySem.W.Frag} {L : List Str} {x : Str} {C : Addr} (h : clsL K L x = some C) : x ∈ L ∧ C = He.ga K x := by
  unfold clsL at h
  split at h
  · rename_i c
    cases h
    exact ⟨List.contains_iff_mem.mp c, rfl⟩
  · cases h
theorem errK_of {K : PySem.W.Frag} {L : List Str} {S : Str} {tk : Nat → V} (h : errB K L S = true) : ErrK ⟨K, tk, clsL K L⟩ where
  exc := fun c C e => by
    obtain ⟨m, rfl⟩ := clsL_some e
    exact excB_ok (He.ba (List.all_eq_true.mp h c m)).1
  one := fun c C c2 C2 e e2 => by
    obtain ⟨m, rfl⟩ := clsL_some e
    obtain ⟨m2, rfl⟩ := clsL_some e2
    exact kB_ok (List.all_eq_true.mp (He.ba (He.ba (List.all_eq_true.mp h c m)).2).1 c2 m2)
  ty := fun t ht c C e => by
    obtain ⟨m, rfl⟩ := clsL_some e
    exact kB_ok (List.all_eq_true.mp (He.ba (He.ba (He.ba (List.all_eq_true.mp h c m)).2).2).1 t ht)
theorem errS_of {K : PySem.W.Frag} {L : List Str} {S : Str} (h : errB K L S = true) (n : Str) (C : Addr) (e : clsL K L n = some C) : PySem.W.exmOne K (.ref C) (.ref (He.ga K S)) = some true := by
  obtain ⟨m, rfl⟩ := clsL_some e
  exact kB_ok (He.ba (He.ba (He.ba (List.all_eq_true.mp h n m)).2).2).2
theorem clsR_of {K : PySem.W.Frag} {h : Heap} {mg : Str → Option Value} (X : K.In h) (G : h.Ns mainGlobals mg) {L : List Str} {x : Str} (hL : L.contains x = true) (c1 : (He.Fa.glo x).ok K = true) (c2 : (He.Fa.exc x).ok K = true) : ClsR K mg (clsL K L) x := by
  obtain ⟨h1, h2, h3, h4⟩ := He.exc_ok c2
  exact ⟨He.ga K x, He.glo_ok X G c1, by unfold clsL; rw [if_pos hL], h1, h2, h3, h4⟩
/-- the defs with lambdas: their tables, apart from one another -/
def tabsL (K : PySem.W.Frag) (tf : List (Str × Str)) : List (Addr × Str) := tf.map fun p => ((He.cT K (p.1, none)).2, p.2)
def apart : List Addr → Bool
  | [] => true
  | a :: r => r.all (fun b => a != b) && apart r
theorem apart_uni : ∀ {l : List (Addr × Str)}, apart (l.map (·.1)) = true → ∀ p ∈ l, ∀ q ∈ l, p.1 = q.1 → p.2 = q.2
  | [], _, p, hp, _, _, _ => by cases hp
  | x :: l, h, p, hp, q, hq, e => by
    rw [List.map_cons] at h
    unfold apart at h
    obtain ⟨h1, h2⟩ := He.ba h
    have far : ∀ y ∈ l, x.1 ≠ y.1 := fun y hy => by
      have z := List.all_eq_true.mp h1 y.1 (List.mem_map.mpr ⟨y, hy, rfl⟩)
      simpa using z
    rcases List.mem_cons.mp hp with z1 | z1
    · rcases List.mem_cons.mp hq with z2 | z2
      · rw [z1, z2]
      · rw [z1] at e
        exact absurd e (far q z2)
    · rcases List.mem_cons.mp hq with z2 | z2
      · rw [z2] at e
        exact absurd e.symm (far p z1)
      · exact apart_uni h2 p z1 q z2 e
section
variable {K : PySem.W.Frag} {mg : Str → Option Value} {fa : List He.Fa} {fn : List He.DefD}
theorem funC_of (c : He.SaysD fa fn K) {x : Str} {st : Stmt} (i : Nat) (hi : fn[i]? = some (dD x st) := by rfl) : ∃ fd, Fun K x x st (He.ga K x) fd ∧ FunC K x x st (He.ga K x) fd (He.codeOf K (x, none)) := by
  obtain ⟨fd, F⟩ := c.def_ i hi
  obtain ⟨oc, od, dV, kV, doc, pm, an, cdv, ct, osl, e, lk, hcd, hD, _⟩ := F.ex
  rcases hD with ⟨_, rfl⟩ | ⟨z, _⟩
  · obtain ⟨cc, rfl⟩ := He.codeIn_ref hcd
    have ec : He.codeOf K (x, none) = cc := He.codeOf_eq lk (by rw [e] <;> rfl)
    refine ⟨fd, ⟨⟨oc, od, kV, doc, pm, an, .ref cc, ct, osl, e, lk, hcd⟩, F.kp⟩, ⟨oc, od, kV, doc, pm, an, ct, osl, ?_, lk, ?_⟩⟩
    · rw [ec]; exact e
    · rw [ec]; exact hcd
  · exact absurd rfl z
theorem cal_of {P : Program} {w0 : World} {base : Heap} {x : Str} {st : Stmt} {fd : FuncData} {k : Nat} {ps : List Str} {kws : List (List Str × List Nat)} {sp : Sp} (F : Fun K x x st (He.ga K x) fd) (hm : mg x = some (.ref (He.ga K x)))
    (hb : ∀ (kV doc pm : Value) (an : Option Addr) (cdv ct : Value) (us : List Value), us.length = ps.length → bindArgs (PySem.W.fnOf x x (defArgs st) (defBody st) (defScope st) .none kV doc pm an cdv ct) ⟨us, []⟩ = pure (ps.zip us))
    (hk : ∀ (kV doc pm : Value) (an : Option Addr) (cdv ct : Value), ∀ p ∈ kws, ∀ ws : List Value, ws.length = p.1.length → bindArgs (PySem.W.fnOf x x (defArgs st) (defBody st) (defScope st) .none kV doc pm an cdv ct) ⟨[], p.1.zip ws⟩ = pure (ps.zip (p.2.filterMap fun j => ws[j]?)))
    (ok : FnOk P w0 K mg base (L2.CX P w0) k (He.ga K x) fd ps sp) : Cal P w0 K mg base x k ps kws sp := by
  refine ⟨He.ga K x, fd, hm, F.kp, ?_, ?_, ok⟩
  · obtain ⟨oc, od, kV, doc, pm, an, cdv, ct, osl, rfl, lk, hcd⟩ := F.ex
    exact hb kV doc pm an cdv ct
  · obtain ⟨oc, od, kV, doc, pm, an, cdv, ct, osl, rfl, lk, hcd⟩ := F.ex
    exact hk kV doc pm an cdv ct
theorem kwsN {x : Str} {st : Stmt} {ps : List Str} : ∀ (kV doc pm : Value) (an : Option Addr) (cdv ct : Value), ∀ p ∈ ([] : List (List Str × List Nat)), ∀ ws : List Value, ws.length = p.1.length → bindArgs (PySem.W.fnOf x x (defArgs st) (defBody st) (defScope st) .none kV doc pm an cdv ct) ⟨[], p.1.zip ws⟩ = pure (ps.zip (p.2.filterMap fun j => ws[j]?)) :=
  fun _ _ _ _ _ _ p hp => nomatch hp
theorem caught_of {st : Stmt} {fd : FuncData} {p1 p2 p3 p4 p5 p6 p7 p8 p9 p10 p11 p12 p13 p14 : Pos} {L : List Str} (F : Fun K "_law_caught" "_law_caught" st (He.ga K "_law_caught") fd) (hm : mg "_law_caught" = some (.ref (He.ga K "_law_caught")))
    (hb : defBody st = caughtBody p1 p2 p3 p4 p5 p6 p7 p8 p9 p10 p11 p12 p13 p14) (hs : defScope st = caughtScope)
    (hbd : ∀ (kV doc pm : Value) (an : Option Addr) (cdv ct : Value) (us : List Value), us.length = 1 → bindArgs (PySem.W.fnOf "_law_caught" "_law_caught" (defArgs st) (defBody st) (defScope st) .none kV doc pm an cdv ct) ⟨us, []⟩ = pure ((["action"] : List Str).zip us))
    (ht : mg "TellError" = some (.ref (He.ga K "TellError"))) (he : errB K L "TellError" = true) : CaughtK K mg (clsL K L) := by
  refine ⟨He.ga K "_law_caught", st, fd, p1, p2, p3, p4, p5, p6, p7, p8, p9, p10, p11, p12, p13, p14, He.ga K "TellError", hm, F, hb, hs, ?_, ht, errS_of he⟩
  obtain ⟨oc, od, kV, doc, pm, an, cdv, ct, osl, rfl, lk, hcd⟩ := F.ex
  exact hbd kV doc pm an cdv ct
theorem lamK_of {base : Heap} {tf : List (Str × Str)} (hT : ∀ p ∈ tf.map (fun p => He.cT K (p.1, none)), LamX.TabB base mg p.1 p.2) (ha : apart ((tabsL K tf).map (·.1)) = true) {x q : Str} (h : (x, q) ∈ tf) :
    LamK base mg (tabsL K tf) (He.codeOf K (x, none)) (He.cT K (x, none)).2 q :=
  ⟨hT _ (List.mem_map.mpr ⟨_, h, rfl⟩), List.mem_map.mpr ⟨_, h, rfl⟩, fun p hp e => apart_uni ha p hp _ (List.mem_map.mpr ⟨_, h, rfl⟩) e⟩
/-- the law's end -/
theorem lawAt_of {l : PySem.W.OpenLaw} {w : World} {h : Heap} {tf : List (Str × Str)} {ts : List He.Tab} {ex : PySem.W.Frag → Bool} {st : Stmt} {fd : FuncData} {k : Nat} {f : Addr} (X : K.In h) (G : h.Ns mainGlobals mg) (c : He.SaysX fa fn ts (tf.map fun p => (p.1, none)) ex w h K)
    (F : Fun K "law" "law" st (He.ga K "law") fd) (hf : mg "law" = some (.ref f)) (hm : mg "law" = some (.ref (He.ga K "law")))
    (hb : ∀ (kV doc pm : Value) (an : Option Addr) (cdv ct : Value) (us : List Value), us.length = 1 → bindArgs (PySem.W.fnOf "law" "law" (defArgs st) (defBody st) (defScope st) .none kV doc pm an cdv ct) ⟨us, []⟩ = pure ((["script"] : List Str).zip us))
    (ok : ∀ base : Heap, K.In base → base.Ns mainGlobals mg → (∀ p ∈ tf.map (fun p => He.cT K (p.1, none)), LamX.TabB base mg p.1 p.2) → FnOk l.prog w K mg base (L2.CX l.prog w) k (He.ga K "law") fd ["script"] (spLawT K (tabsL K tf))) :
    LamX.LawAtS l w K (L2.CX l.prog w) k 63 "script" mg f h := by
  have ef : f = He.ga K "law" := by
    have e := hf.symm.trans hm
    cases e
    rfl
  subst ef
  have mem : ∀ p ∈ tf.map (fun p => He.cT K (p.1, none)), ∃ q ∈ tf.map (fun p => (p.1, (none : Option Str))), p = He.cT K q := fun p hp => by
    obtain ⟨q, hq, e⟩ := List.mem_map.mp hp
    exact ⟨_, List.mem_map.mpr ⟨q, hq, rfl⟩, e.symm⟩
  refine ⟨fd, tf.map (fun p => He.cT K (p.1, none)), spLawT K (tabsL K tf), fun p hp => ?_, fun p hp => ?_, fun p hp => ?_, fun s u => ?_, fun H a ns hl hbits hT hS => ?_, ok⟩
  · obtain ⟨q, hq, rfl⟩ := mem p hp
    exact c.empty q hq
  · obtain ⟨q, hq, rfl⟩ := mem p hp
    exact c.out q hq
  · obtain ⟨q, hq, rfl⟩ := mem p hp
    exact PySem.W.codeHd_of_K X (c.hd q hq)
  · obtain ⟨oc, od, kV, doc, pm, an, cdv, ct, osl, rfl, lk, hcd⟩ := F.ex
    exact .of_eq (hb kV doc pm an cdv ct [u] rfl)
  · refine ⟨a, ns, rfl, hS, hl, hbits, fun p hp => ?_, fun _ => rfl⟩
    obtain ⟨q, hq, rfl⟩ := List.mem_map.mp hp
    exact LamX.TabS.nil (hT _ (List.mem_map.mpr ⟨q, hq, rfl⟩))
theorem cx_no (P : Program) (w : World) (H : Hp) (s : Shared) (e : Value) (s1 : Shared) (h : L2.CX P w [] H s (fun _ _ _ => False) e s1) : False := by
  obtain ⟨a, B, H1, cls, d, _, _, _, _, _, _, _, z⟩ := h
  exact z
end
end DL
namespace DL
open L2 PySem PyProof.Rows PySem.Spec PySem.W PySem.Calls

/-! ### super().__init__(part) of an own error, whose class stands above ValueError through others -/
/-- what the written part says of such a class and of its __init__'s code -/
structure SupC (K : PySem.W.Frag) (mg : Str → Option Value) (file : Str) (C f cda cc : Addr) : Prop where
  oex : OexC K C
  up : ks_superIn K C C "__init__" = some (some (.builtin "ValueError.__init__"))
  ve : subIn K (.ref C) (.type "ValueError") = some true
  own : mroIn K C (.ref C) = some true
  any : nsIn K cStatics "thirdparty.any" = some none
  cell : ∃ cl cld csl, K.lookup cc = some ⟨cl, cld, .cell (some (.ref C)), csl⟩
  code : ∃ ccl cdd vs ccs tf, K.lookup cda = some ⟨ccl, cdd, .fields vs, ccs⟩ ∧ vs[2]? = some (.str file tf)
  sup : mg "super" = none
section
variable {X : Cx} {pins : List (Addr × Obj)} {σ : L2.St} {H : Hp} {s : Shared} {body : List Stmt} {a C cc f cda : Addr} {fd : FuncData} {file n0 n1 : Str} {ar : Arg} {y : V} {p0 p1 p2 p3 p4 : Pos} {Q : Value → Shared → Prop} {E : Value → Shared → Prop}
theorem sup_init {pl : Sem Bool} (T : SupC X.K X.mg file C f cda cc) (I : Inv X pins σ H s) (hks : X.env.kindOf "super" = some .globalImplicit) (hkc : X.env.kindOf "__class__" = some .free) (hcc : X.env.cells.lookup ("__class__" : Str) = some cc) (hfu : X.env.func = some f)
    (hf : ∃ oc od osl, X.K.lookup f = some ⟨oc, od, .func fd, osl⟩) (hp : (fd.params.posonlyargs ++ fd.params.args).head? = some ar) (hn0 : ar.arg = n0) (hco : X.env.code = .ref cda) (hfile : ((X.prog.main.file : Str) == file) = true)
    (htop : (X.prog.main.scope.names.lookup ("super" : Str)).isSome = false) (hk0 : X.env.kindOf n0 = some .local) (hk1 : X.env.kindOf n1 = some .local) (hN0 : X.N[0]? = some n0) (hN1 : X.N[1]? = some n1) (hs0 : σ[0]? = some (some (.ref a))) (hs1 : σ[1]? = some (some y))
    (hd0 : (n0 == ("__debug__" : Str)) = false) (hd1 : (n1 == ("__debug__" : Str)) = false) (ea : H a = some (exo a C none)) (hQ : ∀ s', Inv X pins σ H s' → Q .none s')
    (hc : eval (.Call (.Attribute (.Call (.Name "super" p0) [] [] p1) "__init__" p2) [.Name n1 p4] [] p3) X.env = (do
      let ov ← attributeBase (.Call (.Name "super" p0) [] [] p1) "__init__" X.env (eval (.Call (.Name "super" p0) [] [] p1) X.env)
      standAt p2.atName
      let (f, first) ← holding [ov] (getMethod ov "__init__" pl)
      callWith p3 f first (backTo p3 (starEach [.Name n1 p4] X.env)) []) := by rfl)
    (he : starEach [.Name n1 p4] X.env = (false, eval (.Name n1 p4) X.env) :: starEach [] X.env := by rfl) :
    _root_.PySem.wpAt (model X.prog X.w) X.A (.func body X.env) (eval (.Call (.Attribute (.Call (.Name "super" p0) [] [] p1) "__init__" p2) [.Name n1 p4] [] p3) X.env) Q E s := by
  obtain ⟨oc, od, osl, hf⟩ := hf
  obtain ⟨cl, cld, csl, hcell⟩ := T.cell
  obtain ⟨ccl, cdd, vs, ccs, tf, hcode, hvs⟩ := T.code
  obtain ⟨nm, q, N, bs, bm, sn, sub, ab, col, dd, k0, k1, k2, k3, k5, hC, hbm⟩ := T.oex.cls
  obtain ⟨t1, ho⟩ := exo_at I.hok ea
  obtain ⟨m, hns, hlook⟩ := I.loc
  have hcl : clsIn X.K C = some { name := nm, bases := bs, mro := .ref C :: bm, ns := N, qualname := q, hasDict := true, slotNames := sn, subclasses := sub, abstract := ab, collection := col, hasDel := false } := by
    unfold clsIn
    rw [hC] <;> rfl
  have v0 : m n0 = some (.ref a) := by
    obtain ⟨u, r, l⟩ := hlook 0 n0 _ hN0 hs0 (.inl hk0)
    rcases l with ⟨_, l⟩ | ⟨l, _⟩
    · rw [l]
      exact congrArg some r
    · rw [hk0] at l
      rcases l with l | l <;> cases l
  obtain ⟨u1, r1, v1⟩ : ∃ u, RelV y u ∧ m n1 = some u := by
    obtain ⟨u, r, l⟩ := hlook 1 n1 _ hN1 hs1 (.inl hk1)
    rcases l with ⟨_, l⟩ | ⟨l, _⟩
    · exact ⟨u, r, l⟩
    · rw [hk1] at l
      rcases l with l | l <;> cases l
  have KX := I.kIn
  have hk := I.ok.kind
  obtain ⟨mb, hnb, hmb⟩ := I.mod.blt
  have aC : a ≠ C := fun z => by
    have kin := I.ok.mod.kin _ _ hC
    have := (I.bs C _ kin).2
    rw [← z, ea] at this
    cases this
  refine ks_wpAt_MethodCall ?_ hc
  refine ks_wpAt_super_base hks hkc (by decide) hfu (KX _ _ hf) rfl hp hco (KX _ _ hcode) rfl hvs hfile htop ?_
  refine ks_loadName_global hk hks (loadGlobal_builtin (by rw [I.ok.glob]; exact I.mod.glob.keeps I.bk) T.sup (by rw [I.ok.blt]; exact hnb.keeps I.bk) ((hmb _ (by decide)).trans (show bootBuiltins "super" = some (.type "super") by decide +kernel)) ⟨rfl, ?_⟩)
  refine wpAny_loadName_free hk hkc hcc ⟨_, KX _ _ hcell, rfl⟩ ?_
  rw [hn0]
  refine wpAny_loadName_local hk hk0 hns v0 ?_
  refine ks_wpAny_isType_cls (KX _ _ hC) rfl ⟨rfl, ?_⟩
  obtain ⟨hh, g, d, t, os⟩ := s
  refine ks_wpAny_call_super (KX _ _ hC) rfl ho rfl (fun c e => nomatch e) (looks_mroIn KX T.own) (fun h1 e1 k1 => ?_)
  have K1 : X.K.In h1 := KX.keeps k1
  have IA : InstAt h1 a _ C none := ⟨k1 _ _ ho, rfl, rfl, trivial⟩
  have hup : alongIn X.K "__init__" (((Value.ref C :: bm).dropWhile (· != .ref C)).drop 1) = some (some (.builtin "ValueError.__init__")) := by
    have z := T.up
    unfold ks_superIn at z
    rw [hcl] at z
    exact z
  refine kxs_getMethod kxs_ValueError e1 (looks_opaque K1 T.any) (l₀ := Value.ref C :: bm) (fun A Q E s k q => wpAny_bind ((looks_clsIn K1 hcl) A _ E s k (wpAny_pure q))) rfl K1 hup (IA.type.andThen (looks_subIn K1 T.ve)) aC (by decide) ?_
  have k2 : ∀ b o, hh.get? b = some o → (h1.push (kxs_mw "ValueError.__init__" a)).get? b = some o := fun b o e => Heap.get?_push_of_some _ (k1 b o e)
  have hu : (h1.push (kxs_mw "ValueError.__init__" a)).get? h1.objs.size = some (kxs_mw "ValueError.__init__" a) := Heap.get?_push_size h1 rfl
  show wpAny _ _ (callWith p3 (.ref h1.objs.size) [] (backTo p3 (starEach [.Name n1 p4] X.env)) []) _ _ _
  rw [he]
  refine kxs_callWith (i := "ValueError.__init__") (x := a) (by rfl) (evalArgs_plain ?_)
  refine Calls.spliced_cons (wpAny_Name (wpAny_loadName_local hk hk1 (hns.keeps k2) v1 ?_) hd1)
  refine Calls.spliced_nil ⟨hu, ?_⟩
  refine wpAny_call (codeAny_of_tree ?_)
  show wpAny _ X.A.in1 (callAny (.ref h1.objs.size) ⟨[u1], []⟩) _ _ _
  simp only [callAny]
  refine wpAny_bind (wpAny_load hu ?_)
  simp only [kxs_mw, show (Value.type "method-wrapper" == Value.type "method" || Value.type "method-wrapper" == Value.type "builtin_function_or_method" || Value.type "method-wrapper" == Value.type "method-wrapper") = true by decide, if_true]
  refine KFB.if_so (by decide) ?_
  refine wpAny_bind (check_bound_init PySem.F.excBase_ValueError.toExcCallFacts (k2 _ _ (KX _ _ hC)) (k2 _ _ ho) rfl ?_)
  refine wpAny_bind (wpAny_pure (wpAny_pure ?_))
  refine ⟨plainId_quiet PySem.F.excBase_ValueError.init.plain _, codeAny_builtin PySem.F.excBase_ValueError.initEntry ?_⟩
  refine exc_init_tree (cls := .ref C) (t0 := t1) (dv := none) (c2 := .none) (c3 := .none) (b4 := .bool false) (k2 _ _ ho) (by rw [sizeLine_eq]; simp) fun h' k3 e3 _ => ?_
  have J0 : Inv X pins σ H ⟨h1.push (kxs_mw "ValueError.__init__" a), g, d, t, os⟩ := I.kept (t' := t) k2
  have J := J0.write (t' := t + 1) (x := a) (e := a) (o := exo a C none) (by rw [ea]; exact True.intro) (.inl rfl) k3 ⟨_, e3⟩ (exo_ok e3)
  have eu : upd H a (exo a C none) = H := by
    funext b
    by_cases hb : b = a
    · rw [hb, upd_same, ea]
    · rw [upd_ne hb]
  rw [eu] at J
  exact hQ _ J
end
end DL
namespace DL
open L2 PySem PyProof.Rows PySem.Spec PySem.W PySem.Calls

/-! ### an own error's __init__ as a def: super().__init__(part); self.f = part -/
/-- the context of its body -/
def cxI (CX : CXT) (P : Program) (w : World) (K : PySem.W.Frag) (mg : Str → Option Value) (base : Heap) (N : List Str) (qual : Str) (scope : Scope) (f cc : Addr) (cd : Value) (A : Around) (outer : List PySem.Env) (s : Shared) (H : Hp) (E : XK) : Cx where
  prog := P
  w := w
  K := K
  mg := mg
  base := base
  A := A.deeper (ksEnv qual scope s.heap.objs.size f cd cc)
  N := N
  s_0 := s
  H_0 := H
  env := ksEnv qual scope s.heap.objs.size f cd cc
  outer := outer
  stack := ksEnv qual scope s.heap.objs.size f cd cc :: outer
  ex := []
  calm := true
  fn := fun _ => false
  pn := []
  xe := fun e s' => wpAny (model P w) (A.deeper (ksEnv qual scope s.heap.objs.size f cd cc)) (leaving (ksEnv qual scope s.heap.objs.size f cd cc) e) (fun _ s'' => CX outer H s E e s'') (fun e' s'' => CX outer H s E e' s'') s'
/-- what of the names of such an __init__ is asked -/
structure InitS (n0 n1 : Str) (scope : Scope) : Prop where
  kind : scope.kind = .function
  co : scope.isCoroutine = false
  gen : scope.isGenerator = false
  nocell : ∀ x ∈ scope.names, x.2 ≠ .cell
  free : ∀ x ∈ scope.names, x.2 = .free → x.1 = "__class__"
  k0 : scope.names.lookup n0 = some .local
  k1 : scope.names.lookup n1 = some .local
  ks : scope.names.lookup ("super" : Str) = some .globalImplicit
  kc : scope.names.lookup ("__class__" : Str) = some .free
  ne : n0 ≠ n1
section
variable {CX : CXT} {P : Program} {w : World} {K : PySem.W.Frag} {mg : Str → Option Value} {base : Heap} {n0 n1 qual : Str} {scope : Scope} {f cc : Addr} {cd : Value} {A : Around} {outer : List PySem.Env} {s : Shared} {H : Hp} {E : XK}
theorem inv_startI {us : List Value} {vs : List V} {h0 : Heap} {tk : Nat} (S : InitS n0 n1 scope) (hd : A.handled = none) (e0 : Env0 P w K mg base A outer s H) (hc : ∃ cl cld v csl, K.lookup cc = some ⟨cl, cld, .cell v, csl⟩) (hl : vs.length = 2) (r : Vals vs us)
    (hns : h0.Ns s.heap.objs.size fun x => (([n0, n1] : List Str).zip us).reverse.lookup x) (hk : ∀ b o, s.heap.get? b = some o → h0.get? b = some o) :
    Inv (cxI CX P w K mg base [n0, n1] qual scope f cc cd A outer s H E) [] (vs.map some) H { s with heap := h0, toks := tk } := by
  obtain ⟨cl, cld, cv, csl, hc⟩ := hc
  have hcb := e0.bs cc _ (e0.mod.kin _ _ hc)
  have one : ∀ x c, (ksEnv qual scope s.heap.objs.size f cd cc).cells.lookup x = some c → x = "__class__" ∧ c = cc := fun x c h => by
    have h : ([(("__class__" : Str), cc)] : List (Str × Addr)).lookup x = some c := h
    rw [List.lookup_cons] at h
    split at h
    · rename_i z
      cases h
      exact ⟨beq_iff_eq.mp z, rfl⟩
    · cases h
  have noA : ∀ b : Addr, b ∉ (cxI CX P w K mg base [n0, n1] qual scope f cc cd A outer s H E).ex := fun b z => absurd (show b ∈ ([] : List Addr) from z) (by simp)
  refine ⟨⟨e0.mod, S.kind, rfl, rfl, Nat.le_refl _, fun y z c h1 h2 => ?_, fun y hy => ?_, fun y c z => ?_, fun _ => hd, Around.frames_deeper e0.frames, .inr ⟨rfl, rfl⟩, fun b z => absurd z (noA b), e0.bs, e0.bsz, fun b _ _ => noA b, fun b z => absurd z (noA b), e0.funs, e0.frf⟩,
    rfl, e0.bare, Un.kept hk, ⟨_, hns, fun i y v h1 h2 h3 => ?_⟩, fun y c h => ?_, e0.hok.fresh (Nat.le_refl _), fun y c h => ?_, fun p hp => absurd (show p ∈ ([] : List (Addr × Obj)) from hp) (by simp), e0.hok.kept hk, by rw [List.length_map, hl] <;> rfl⟩
  · rw [(one _ _ h1).1, (one _ _ h2).1]
  · have hy : scope.names.lookup y = some .cell ∨ scope.names.lookup y = some .free := hy
    rcases hy with hy | hy
    · exact absurd rfl (S.nocell _ (PySem.mem_of_lookup hy))
    · have := S.free _ (PySem.mem_of_lookup hy) rfl
      have this : y = "__class__" := this
      subst this
      exact ⟨cc, rfl⟩
  · cases z
  · have hN : i < 2 := by
      have := List.getElem?_eq_some_iff.mp h1
      exact this.1
    rw [List.getElem?_map] at h2
    obtain ⟨u0, v0, rfl⟩ : ∃ a b, vs = [a, b] := by
      rcases vs with _ | ⟨a, _ | ⟨b, _ | ⟨c, l⟩⟩⟩ <;> simp at hl
      exact ⟨a, b, rfl⟩
    cases r with
    | cons ra r =>
      cases r with
      | cons rb r =>
        cases r
        rename_i ua ub
        have hne : (n0 == n1) = false := by simpa using S.ne
        have hne' : (n1 == n0) = false := by simpa using fun z => S.ne z.symm
        have l0 : ([(n0, ua), (n1, ub)] : List (Str × Value)).reverse.lookup n0 = some ua := by
          show ([(n1, ub), (n0, ua)] : List (Str × Value)).lookup n0 = some ua
          rw [List.lookup_cons, hne, List.lookup_cons]
          simp
        have l1 : ([(n0, ua), (n1, ub)] : List (Str × Value)).reverse.lookup n1 = some ub := by
          show ([(n1, ub), (n0, ua)] : List (Str × Value)).lookup n1 = some ub
          rw [List.lookup_cons]
          simp
        rcases i with _ | _ | i
        · cases h1
          cases h2
          exact ⟨ua, ra, .inl ⟨S.k0, l0⟩⟩
        · cases h1
          cases h2
          exact ⟨ub, rb, .inl ⟨S.k1, l1⟩⟩
        · omega
  · obtain ⟨_, rfl⟩ := one _ _ h
    exact ⟨cv, _, hk _ _ hcb.1, rfl⟩
  · obtain ⟨_, rfl⟩ := one _ _ h
    exact hcb.2
/-- its promise: the exception has one field then -/
def spI (fld : Str) : Sp := fun vs H Q _ => ∃ (a C : Addr) (y : V), vs = [.ref a, y] ∧ H a = some (exo a C none) ∧ ∀ dx, H dx = none → dx ≠ a → Q .non (upd (upd H dx (exd dx [(fld, y)])) a (exo a C (some dx)))
def spIC (fld : Str) (C : Addr) : Sp := fun vs H Q _ => ∃ (a : Addr) (y : V), vs = [.ref a, y] ∧ H a = some (exo a C none) ∧ ∀ dx, H dx = none → dx ≠ a → Q .non (upd (upd H dx (exd dx [(fld, y)])) a (exo a C (some dx)))
theorem fn_sup {k : Nat} {params : Arguments} {body : List Stmt} {fld file : Str} {dV kV doc pm ct oc : Value} {an od : Option Addr} {osl : Array (Option Value)} {C cda : Addr} {ar : Arg} {p0 p1 p2 p3 p4 p5 q0 q1 q2 q3 : Pos} {pl : PySem.Env → Sem Bool}
    (lk : K.lookup f = some ⟨oc, od, .func (ksFn "__init__" qual params body scope dV kV doc pm an (.ref cda) ct cc), osl⟩) (hcd : codeIn K (.ref cda) qual = true) (S : InitS n0 n1 scope) (T : SupC K mg file C f cda cc)
    (hp : (params.posonlyargs ++ params.args).head? = some ar) (hn0 : ar.arg = n0) (hfile : ((P.main.file : Str) == file) = true) (htop : (P.main.scope.names.lookup ("super" : Str)).isSome = false)
    (hb : body = [.Expr (.Call (.Attribute (.Call (.Name "super" p0) [] [] p1) "__init__" p2) [.Name n1 p4] [] p3) p5, .Assign [.Attribute (.Name n0 q0) fld q1] (.Name n1 q2) q3])
    (hno : findIn K (.ref C) fld = some none) (hd0 : (n0 == ("__debug__" : Str)) = false) (hd1 : (n1 == ("__debug__" : Str)) = false) (hc0 : (n0 == ("__classdict__" : Str)) = false) (hc1 : (n1 == ("__classdict__" : Str)) = false)
    (hev : ∀ env : PySem.Env, eval (.Call (.Attribute (.Call (.Name "super" p0) [] [] p1) "__init__" p2) [.Name n1 p4] [] p3) env = (do
      let ov ← attributeBase (.Call (.Name "super" p0) [] [] p1) "__init__" env (eval (.Call (.Name "super" p0) [] [] p1) env)
      standAt p2.atName
      let (f, first) ← holding [ov] (getMethod ov "__init__" (pl env))
      callWith p3 f first (backTo p3 (starEach [.Name n1 p4] env)) []))
    (hsw1 : ∀ env : PySem.Env, env.scope.kind = .function → swapsWith (.Call (.Attribute (.Call (.Name "super" p0) [] [] p1) "__init__" p2) [.Name n1 p4] [] p3) none p5.line env = pure false) (hsw : ∀ env : PySem.Env, swapsWith (.Name n1 q2) (some (.Attribute (.Name n0 q0) fld q1)) q3.line env = pure false) :
    FnOk P w K mg base CX (k + 1) f (ksFn "__init__" qual params body scope dV kV doc pm an (.ref cda) ct cc) [n0, n1] (spIC fld C) := by
  subst hb
  refine ⟨fun vs H Q E ⟨a, y, e, _⟩ => by rw [e] <;> rfl, fun A outer s H args us vs Q E hr e0 hb r hsp => ?_⟩
  obtain ⟨a, y, rfl, ea, hq⟩ := hsp
  have KX : K.In s.heap := e0.mod.kin.keeps fun b o e => (e0.bs b o e).1
  have lim : s.heap.NoLimit := e0.mod.nolimit.keeps fun b o e => (e0.bs b o e).1
  refine ks_codeAny_call_defAt (fd := ksFn "__init__" qual params _ scope dV kV doc pm an (.ref cda) ct cc) hr.depth (KX _ _ lk) rfl lim (codeRec_of KX hcd) rfl hb S.nocell (fun x hx => ?_) (fun h0 hns hk => ?_) S.co S.gen S.kind
  · have hx := (List.of_mem_zip (show (x.1, x.2) ∈ ([n0, n1] : List Str).zip us from hx)).1
    rcases List.mem_cons.mp hx with z | z
    · rw [z]; exact S.k0
    · rw [List.mem_singleton.mp z]; exact S.k1
  · have I : Inv (cxI CX P w K mg base [n0, n1] qual scope f cc (.ref cda) A outer s H E) [] [some (.ref a), some y] H { s with heap := h0, toks := s.toks + (([n0, n1] : List Str).zip us).length } :=
      inv_startI (vs := [.ref a, y]) S hr.hd e0 (by obtain ⟨x1, x2, x3, x4⟩ := T.cell; exact ⟨x1, x2, _, x3, x4⟩) rfl r hns hk
    refine ks_wpAt_execs_cons (ks_wpAt_Expr_any (sup_init (X := cxI CX P w K mg base [n0, n1] qual scope f cc (.ref cda) A outer s H E) (pl := pl _) (file := file) (n0 := n0) T I S.ks S.kc rfl rfl ⟨oc, od, osl, lk⟩ hp hn0 rfl hfile htop S.k0 S.k1 rfl rfl rfl rfl hd0 hd1 ea (fun s1 I1 => ?_) (hev _)) (by
      show (scope.kind == .module && _) = false
      rw [S.kind]
      rfl) (hsw1 _ S.kind))
    have p1 := ps_ost (X := cxI CX P w K mg base [n0, n1] qual scope f cc (.ref cda) A outer s H E) (f := fld) (o := .Name n0 q0) (e := .Name n1 q2) (pos := q3) (p' := q1) (pe_var (i := 0) (pos := q0) rfl (.inl S.k0) hd0 hc0) (pe_var (i := 1) (pos := q2) rfl (.inl S.k1) hd1 hc1) (hsw _)
    have p2 := pss_cons p1 pss_nil
    refine wpAt_of_wpAny (wpAny_mono (p2.run [] s1 _ H { nx := fun _ H' => Q .non H', rt := Q } I1 ?_) (fun fl s' hs => ?_) fun e s' hs => hs)
    · exact ⟨y, rfl, .ref a, rfl, a, C, rfl, T.oex, hno, .inl ⟨ea, fun dx n ne => hq dx n ne⟩⟩
    · have fin : ∀ {σ' : L2.St} {H' : Hp} {v : V} {u : Value}, Inv (cxI CX P w K mg base [n0, n1] qual scope f cc (.ref cda) A outer s H E) [] σ' H' s' → RelV v u → Q v H' → CE outer P w H s Q u s' :=
        fun {σ' H' v u} J rv q => ⟨v, H', J.os, J.bare, J.base, J.hok, rv, q⟩
      cases fl with
      | ret u =>
        obtain ⟨v, σ', H', J, rv, q⟩ := hs
        exact fin J rv q
      | next =>
        obtain ⟨σ', H', J, q⟩ := hs
        exact fin (v := V.non) (u := Value.none) J rfl q
      | brk =>
        obtain ⟨_, _, _, q⟩ := hs
        exact False.elim q
      | cont =>
        obtain ⟨_, _, _, q⟩ := hs
        exact False.elim q
end
end DL
namespace DL
open L2 PySem PyProof.Rows PySem.Spec

/-! ### raise X(e), X with its own __init__ that keeps e as a field -/
def sRaise1 {A : Type} (x f : Str) (g : Fe A) : Fs A := seqE g fun d w _ => some (.exc (⟨x, [(f, d)]⟩, w))
structure ClsI (P : Program) (w0 : World) (K : PySem.W.Frag) (mg : Str → Option Value) (base : Heap) (cls : Str → Option Addr) (x fld : Str) : Prop where
  ex : ∃ C fI fd n0 n1, mg x = some (.ref C) ∧ cls x = some C ∧ OexC K C ∧ PySem.W.findIn K (.ref C) "__init__" = some (some (.ref fI)) ∧ PySem.W.typeIn K (.ref fI) = some (.type "function") ∧ L2.Binds K fd [n0, n1] [] ∧
    FnOk P w0 K mg base (L2.CX P w0) 1 fI fd [n0, n1] (spIC fld C)
section
variable {J : Jc} {O : List Nat} {fr : Bool} {X : Cx} {f : Fe J.G.A} {pos p0 p2 : Pos} {e : Expr}
theorem heap_made {H : Hp} {a dx C : Addr} {fs : List (Str × V)} (n : H a = none) (nd : H dx = none) (ne : dx ≠ a) :
    upd (L2.del (upd (upd (upd H a (exo a C none)) dx (exd dx fs)) a (exo a C (some dx))) a) dx (.xd fs) = upd H dx (.xd fs) := by
  funext b
  by_cases hb : b = dx
  · rw [hb, upd_same, upd_same]
  · rw [upd_ne hb, upd_ne hb]
    by_cases ha : b = a
    · rw [ha, L2.del_same, n]
    · rw [L2.del_ne ha, upd_ne ha, upd_ne hb, upd_ne ha]
theorem rC1 {x fld : Str} {n : Nat} (c : ClsI X.prog X.w X.K X.mg X.base J.p.cls x fld) (hr : Room n X.A) (hn : 2 ≤ n) (tk : Takes X (fun cls d _ H => J.E cls d H)) (h : EM J O X false e f) (hc : X.calm = true := by rfl) (hg : Gl X x := by rfl) (hdb : (x == ("__debug__" : Str)) = false := by decide)
    (he : starEach [e] X.env = (false, eval e X.env) :: starEach [] X.env := by rfl) (hpl : (backTo p2 (starEach [] X.env)).any (·.1) = false := by rfl) :
    SM J O fr X (.Raise (some (.Call (.Name x p0) [e] [] p2)) none pos) (sRaise1 x fld f) := by
  obtain ⟨C, fI, fd, n0, n1, hm, hcl, T, iC, tI, hb, F⟩ := c.ex
  have mk := pmk_oex (X := X) (p := p0) (pos := p2) (dvs := []) T iC tI F (hr.mono hn) hb .nil passK hg hm (pa_cons h.pe pa_nil he) hdb he hpl
  refine ⟨PS.imp (ps_raise hc tk mk) fun Z σ H => ?_⟩
  rintro ⟨w, ρ, xs, q⟩
  refine ⟨w, ρ, xs, PQ.mono (PQ.stmt q) fun v H1 ⟨d, w1, f1, r1, rl, q1⟩ => ?_⟩
  have x1 := xs.step f1 r1
  refine ⟨by simp, fun a n => ⟨a, v, rfl, upd_same, fun dx nd ne => ⟨rfl, dx, [(fld, v)], upd_same, by rw [upd_ne ne, upd_same], ?_, ?_⟩⟩⟩
  · rw [upd_ne ne] at nd
    exact nd
  · rw [upd_ne ne] at nd
    rw [heap_made n nd ne]
    have sm : Same H1 (upd H1 dx (.xd [(fld, v)])) := same_new nd
    have hS : ¬ J.S0 dx := fun z => by
      obtain ⟨o, e⟩ := J.hS dx z
      obtain ⟨u, e2⟩ := x1.fr.dom dx o e
      rw [nd] at e2
      cases e2
    refine q1 (.ref C) (some dx) _ (GW.fr_trans x1.fr (GW.fr_same sm)) (J.G.same r1 sm) ⟨C, hcl, rfl, .inr ⟨fld, d, dx, v, rfl, rfl, ?_, ?_⟩⟩
    · unfold hide
      rw [if_neg hS, upd_same]
    · exact rl.plain.mono (hide_le fun b o n e _ => ⟨sm b o e, fun z => n (.inl z)⟩)
end
end DL
namespace DL
open L2 PySem PyProof.Rows PySem.Spec

/-! ### such classes, at the head -/
/-- an own error with an __init__ : its name, the __init__ as it is written -/
structure IniD where
  cls : Str
  qual : Str
  params : Arguments
  body : List Stmt
  scope : Scope
abbrev IniV := Option (Str × Str × Arguments × FuncBody × Scope × Addr × List Str × Value × Addr)
def iniA (K : PySem.W.Frag) (x : Str) : Addr := match PySem.W.findIn K (.ref (He.ga K x)) "__init__" with
  | some (some (.ref f)) => f
  | _ => 0
def iniW (K : PySem.W.Frag) (x : Str) : IniV := match K.lookup (iniA K x) with
  | some ⟨_, _, .func fd, _⟩ => some (fd.name, fd.qualname, fd.params, fd.body, fd.scope, fd.globals, fd.closure.map (·.1), fd.defaults, fd.builtins)
  | _ => none
def IniD.val (d : IniD) : IniV := some ("__init__", d.qual, d.params, .stmts d.body, d.scope, mainGlobals, ["__class__"], .none, builtinsNs)
def oexB (K : PySem.W.Frag) (C : Addr) : Bool := match K.lookup C with
  | some ⟨.type "type", _, .cls cd, sl⟩ => (match cd.mro, sl.toList with
    | .ref C' :: bm, [_, _, _, _, some (.builtin n), _] => C' == C && n == "ValueError.__new__" && !cd.hasDel && cd.hasDict && PySem.HandSPX.refsVE bm
    | _, _ => false)
  | _ => false
theorem oexB_ok {K : PySem.W.Frag} {C : Addr} (q : oexB K C = true) : ∃ nm q N bs bm sn sub ab col dd k0 k1 k2 k3 k5, K.lookup C = some (excClassObj nm q C N bs bm true sn sub ab col dd k0 k1 k2 k3 k5 "ValueError.__new__") ∧ PySem.HandSPX.refsVE bm = true := by
  unfold oexB at q
  split at q
  · rename_i dd cd sl ho
    split at q
    · rename_i C' bm k0 k1 k2 k3 n k5 hm hs
      simp only [Bool.and_eq_true, beq_iff_eq, Bool.not_eq_true'] at q
      obtain ⟨⟨⟨⟨rfl, rfl⟩, hdel⟩, hd⟩, ht⟩ := q
      obtain ⟨nm, bs, mro, ns, qn, hd', sn, sub, ab, col, del⟩ := cd
      dsimp only at hm hdel hd
      subst hm hdel hd
      have hsl : sl = #[k0, k1, k2, k3, some (.builtin "ValueError.__new__"), k5] := by
        obtain ⟨l⟩ := sl
        simp only at hs
        rw [hs]
      subst hsl
      exact ⟨nm, qn, ns, bs, bm, sn, sub, ab, col, dd, k0, k1, k2, k3, k5, ho, ht⟩
    · cases q
  · cases q
def cellB (K : PySem.W.Frag) (cc C : Addr) : Bool := match K.lookup cc with
  | some ⟨_, _, .cell (some (.ref D)), _⟩ => D == C
  | _ => false
theorem cellB_ok {K : PySem.W.Frag} {cc C : Addr} (h : cellB K cc C = true) : ∃ cl cld csl, K.lookup cc = some ⟨cl, cld, .cell (some (.ref C)), csl⟩ := by
  unfold cellB at h
  split at h
  · rename_i a b D c e
    rw [beq_iff_eq] at h
    subst h
    exact ⟨a, b, c, e⟩
  · cases h
def fileB (K : PySem.W.Frag) (c : Addr) (file : Str) : Bool := match K.lookup c with
  | some ⟨_, _, .fields vs, _⟩ => (match vs[2]? with
    | some (Value.str g _) => g == file
    | _ => false)
  | _ => false
theorem fileB_ok {K : PySem.W.Frag} {c : Addr} {file : Str} (h : fileB K c file = true) : ∃ ccl cdd vs ccs tf, K.lookup c = some ⟨ccl, cdd, .fields vs, ccs⟩ ∧ vs[2]? = some (.str file tf) := by
  unfold fileB at h
  split at h
  · rename_i a b vs d e
    split at h
    · rename_i g t e2
      rw [beq_iff_eq] at h
      subst h
      exact ⟨a, b, vs, d, t, e, e2⟩
    · cases h
  · cases h
def tyB (a : Option Value) (b : Value) : Bool := decide (a = some b)
def iniB (K : PySem.W.Frag) (file : Str) (x fld qual : Str) : Bool :=
  oexB K (He.ga K x) && (He.eqO (PySem.W.findIn K (.ref (He.ga K x)) "__setattr__") (some (some (.builtin "object.__setattr__"))) && (kB (PySem.W.subIn K (.ref (He.ga K x)) (.type "BaseException")) true && (tyB (PySem.W.typeIn K (.ref (He.ga K x))) (.type "type") && (PySem.W.keepIn K (.ref (He.ga K x)) &&
  (He.eqO (PySem.W.findIn K (.ref (He.ga K x)) "__init__") (some (some (.ref (iniA K x)))) && (tyB (PySem.W.typeIn K (.ref (iniA K x))) (.type "function") && (He.eqO (PySem.W.findIn K (.ref (He.ga K x)) fld) (some none) &&
  (He.eqO (PySem.W.ks_superIn K (He.ga K x) (He.ga K x) "__init__") (some (some (.builtin "ValueError.__init__"))) && (kB (PySem.W.subIn K (.ref (He.ga K x)) (.type "ValueError")) true && (kB (PySem.W.mroIn K (He.ga K x) (.ref (He.ga K x))) true && (He.eqO (PySem.W.nsIn K cStatics "thirdparty.any") (some none) &&
  (match K.lookup (iniA K x) with
    | some ⟨_, _, .func fd, _⟩ => PySem.W.codeIn K fd.code qual && ((match fd.closure with
      | [(_, cc)] => cellB K cc (He.ga K x)
      | _ => false) && (match fd.code with
      | .ref c => fileB K c file
      | _ => false))
    | _ => false))))))))))))
section
variable {P : Program} {w0 : World} {K : PySem.W.Frag} {mg : Str → Option Value} {base : Heap} {file x fld : Str} {cls : Str → Option Addr} {d : IniD} {n0 n1 : Str} {ar : Arg} {p0 p1 p2 p3 p4 p5 q0 q1 q2 q3 : Pos} {pl : PySem.Env → Sem Bool}
theorem clsI_of (hW : iniW K x = d.val) (hB : iniB K file x fld d.qual = true) (hm : mg x = some (.ref (He.ga K x))) (hcl : cls x = some (He.ga K x)) (hsup : mg "super" = none) (S : InitS n0 n1 d.scope)
    (hp : (d.params.posonlyargs ++ d.params.args).head? = some ar) (hn0 : ar.arg = n0) (hfile : ((P.main.file : Str) == file) = true) (htop : (P.main.scope.names.lookup ("super" : Str)).isSome = false)
    (hb : d.body = [.Expr (.Call (.Attribute (.Call (.Name "super" p0) [] [] p1) "__init__" p2) [.Name n1 p4] [] p3) p5, .Assign [.Attribute (.Name n0 q0) fld q1] (.Name n1 q2) q3])
    (hd0 : (n0 == ("__debug__" : Str)) = false) (hd1 : (n1 == ("__debug__" : Str)) = false) (hc0 : (n0 == ("__classdict__" : Str)) = false) (hc1 : (n1 == ("__classdict__" : Str)) = false)
    (hev : ∀ env : PySem.Env, eval (.Call (.Attribute (.Call (.Name "super" p0) [] [] p1) "__init__" p2) [.Name n1 p4] [] p3) env = (do
      let ov ← attributeBase (.Call (.Name "super" p0) [] [] p1) "__init__" env (eval (.Call (.Name "super" p0) [] [] p1) env)
      standAt p2.atName
      let (f, first) ← holding [ov] (getMethod ov "__init__" (pl env))
      callWith p3 f first (backTo p3 (starEach [.Name n1 p4] env)) []))
    (hsw1 : ∀ env : PySem.Env, env.scope.kind = .function → swapsWith (.Call (.Attribute (.Call (.Name "super" p0) [] [] p1) "__init__" p2) [.Name n1 p4] [] p3) none p5.line env = pure false) (hsw : ∀ env : PySem.Env, swapsWith (.Name n1 q2) (some (.Attribute (.Name n0 q0) fld q1)) q3.line env = pure false)
    (hbd : ∀ (kV doc pm : Value) (an : Option Addr) (cdv ct : Value) (cc : Addr) (us : List Value), us.length = 2 → bindArgs (PySem.W.ksFn "__init__" d.qual d.params d.body d.scope .none kV doc pm an cdv ct cc) ⟨us, []⟩ = pure (([n0, n1] : List Str).zip us)) : ClsI P w0 K mg base cls x fld := by
  unfold iniB at hB
  obtain ⟨b1, hB⟩ := He.ba hB
  obtain ⟨b2, hB⟩ := He.ba hB
  obtain ⟨b3, hB⟩ := He.ba hB
  obtain ⟨b4, hB⟩ := He.ba hB
  obtain ⟨b5, hB⟩ := He.ba hB
  obtain ⟨b6, hB⟩ := He.ba hB
  obtain ⟨b7, hB⟩ := He.ba hB
  obtain ⟨b8, hB⟩ := He.ba hB
  obtain ⟨b9, hB⟩ := He.ba hB
  obtain ⟨b10, hB⟩ := He.ba hB
  obtain ⟨b11, hB⟩ := He.ba hB
  obtain ⟨b12, hB⟩ := He.ba hB
  unfold iniW at hW
  cases q : K.lookup (iniA K x) with
  | none =>
    rw [q] at hB
    cases hB
  | some o =>
    obtain ⟨oc, od, dt, osl⟩ := o
    rw [q] at hW hB
    cases dt with
    | func fd =>
      obtain ⟨n1', n2', n3', n4', n5', n6', n7', n8', n9', n10', n11', n12', n13', n14', n15'⟩ := fd
      have e2 : (some (n1', n2', n3', n4', n5', n6', n7'.map (·.1), n8', n15') : IniV) = (some ("__init__", d.qual, d.params, .stmts d.body, d.scope, mainGlobals, ["__class__"], .none, builtinsNs) : IniV) := hW
      simp only [Option.some.injEq, Prod.mk.injEq] at e2
      obtain ⟨h1, h2, h3, h4, h5, h6, h7, h9, h8⟩ := e2
      subst h1 h2 h3 h4 h5 h6 h8 h9
      dsimp only at hB
      obtain ⟨c1, hB⟩ := He.ba hB
      obtain ⟨c2, c3⟩ := He.ba hB
      cases n7' with
      | nil => simp at h7
      | cons z l =>
        cases l with
        | cons y l => simp at h7
        | nil =>
          obtain ⟨nm, cc⟩ := z
          have h7 : nm = "__class__" := by simpa using h7
          subst h7
          have c2 : cellB K cc (He.ga K x) = true := c2
          cases n13' with
          | ref cda =>
            have c3 : fileB K cda file = true := c3
            have T : OexC K (He.ga K x) := ⟨oexB_ok b1, He.eqO_ok b2, kB_ok b3, of_decide_eq_true b4, b5⟩
            have SC : SupC K mg file (He.ga K x) (iniA K x) cda cc := ⟨T, He.eqO_ok b9, kB_ok b10, kB_ok b11, He.eqO_ok b12, cellB_ok c2, fileB_ok c3, hsup⟩
            exact ⟨He.ga K x, iniA K x, _, n0, n1, hm, hcl, T, He.eqO_ok b6, of_decide_eq_true b7, Binds.all (hbd _ _ _ _ _ _ _),
              fn_sup (k := 0) (fld := fld) q c1 S SC hp hn0 hfile htop hb (He.eqO_ok b8) hd0 hd1 hc0 hc1 hev hsw1 hsw⟩
          | _ => cases c3
    | _ => cases hB
end
/-! ### the Hook: HandS's, and these -/
structure SaysI (fa : List He.Fa) (fn : List He.DefD) (ts : List He.Tab) (tf : List He.Defn) (ex : PySem.W.Frag → Bool) (ins : List IniD) (w : World) (h : Heap) (K : PySem.W.Frag) : Prop where
  x : He.SaysX fa fn ts tf ex w h K
  i : ∀ d ∈ ins, iniW K d.cls = d.val
abbrev AlI : Type := He.AlX × List IniV
/-- the part that is looked at: what n steps reach from the top, and the statics -/
def partI (n : Nat) (g : Addr → Option Obj) : PySem.W.Frag := He.frT g (He.asD g n ++ [cStatics])
def obsI (n : Nat) (fa : List He.Fa) (fn : List He.DefD) (ts : List He.Tab) (tf : List He.Defn) (ex : PySem.W.Frag → Bool) (ins : List IniD) (g : Addr → Option Obj) : AlI :=
  ((He.obsT fa fn ts (partI n g), ex (partI n g) && He.tabsB g tf (partI n g)), ins.map fun d => iniW (partI n g) d.cls)
def valI (fn : List He.DefD) (ts : List He.Tab) (ins : List IniD) (w : World) : AlI := (He.valX fn ts w, ins.map IniD.val)
theorem saysI_of {n : Nat} {fa : List He.Fa} {fn : List He.DefD} {ts : List He.Tab} {tf : List He.Defn} {ex : PySem.W.Frag → Bool} {ins : List IniD} {w : World} {h : Heap} (e : obsI n fa fn ts tf ex ins h.get? = valI fn ts ins w) : SaysI fa fn ts tf ex ins w h (partI n h.get?) := by
  have e1 : He.obsT fa fn ts (partI n h.get?) = He.valT fn ts w := congrArg (fun z : AlI => z.1.1) e
  have e2 : (ex (partI n h.get?) && He.tabsB h.get? tf (partI n h.get?)) = true := congrArg (fun z : AlI => z.1.2) e
  have e3 := List.map_inj_left.mp (congrArg (fun z : AlI => z.2) e)
  obtain ⟨hex, htb⟩ := He.ba e2
  have one : ∀ p ∈ tf, PySem.W.codeHdIn (partI n h.get?) (He.cT (partI n h.get?) p).1 (He.cT (partI n h.get?) p).2 = true ∧ ∃ o, h.get? (He.cT (partI n h.get?) p).2 = some o ∧ He.emptyTab o = true := fun p hp => by
    obtain ⟨z1, z2⟩ := He.ba (List.all_eq_true.mp htb p hp)
    refine ⟨z1, ?_⟩
    split at z2
    · rename_i o eo
      exact ⟨o, eo, z2⟩
    · cases z2
  refine ⟨⟨e1, hex, fun p hp => (one p hp).1, fun p hp => ?_, fun p hp => ?_⟩, e3⟩
  · obtain ⟨_, o, eo, z⟩ := one p hp
    exact He.frT_none eo z
  · obtain ⟨_, o, eo, z⟩ := one p hp
    rw [eo, He.emptyTab_eq z]
def hookI (n : Nat) (fa : List He.Fa) (fn : List He.DefD) (ts : List He.Tab) (tf : List He.Defn) (ex : PySem.W.Frag → Bool) (ins : List IniD) : PySem.W.Hook where
  α := AlI
  obs := fun s => obsI n fa fn ts tf ex ins s.heap.get?
  val := fun w => valI fn ts ins w
  says := fun w h => ∃ K : PySem.W.Frag, K.In h ∧ SaysI fa fn ts tf ex ins w h K
  of := fun _ _ e => ⟨_, He.frT_in, saysI_of e⟩
  keeps := fun _ _ _ ⟨K, hK, c⟩ k => ⟨K, PySem.W.Frag.In.keeps hK k, ⟨⟨c.x.t, c.x.more, c.x.hd, c.x.out, fun p hp => k _ _ (c.x.empty p hp)⟩, c.i⟩⟩
theorem obsI_eq {n : Nat} {fa : List He.Fa} {fn : List He.DefD} {ts : List He.Tab} {tf : List He.Defn} {ex : PySem.W.Frag → Bool} {ins : List IniD} {g : Addr → Option Obj} {s : Shared} (h : ∀ a, g a = s.heap.get? a) : obsI n fa fn ts tf ex ins g = (hookI n fa fn ts tf ex ins).obs s := by
  have e : g = s.heap.get? := funext h
  rw [e] <;> rfl
end DL
namespace DL
open L2 PySem PyProof.Rows PySem.Spec

/-! ### a caught error with a field: isinstance, the field -/
theorem exc_at {X : Cx} {pins : List (Addr × Obj)} {σ : L2.St} {H : Hp} {s : Shared} {a C dd : Addr} {fs : List (Str × V)} (I : Inv X pins σ H s) (h1 : H a = some (ExcAt a C (some dd))) (h2 : H dd = some (.xd fs)) :
    ∃ o od, PySem.W.InstAt s.heap a o C (some od) ∧ ∃ mA, (∀ f, RelO (fs.lookup f) (mA f)) ∧ s.heap.Ns1 dd mA ∧ s.heap.get? dd = some od := by
  obtain ⟨o, vs, g, ⟨z1, z2⟩, hd⟩ := (I.hok a _ h1).1
  have hx : ObjOk X.prog X.w H s.heap dd (.xd fs) := I.hok dd _ h2
  obtain ⟨mA, hns, hr⟩ := hx
  obtain ⟨od, ho, hl⟩ := lookIn_ns hns
  exact ⟨o, od, ⟨g, z1, by unfold PySem.W.notCls; rw [hd] <;> rfl, by rw [z2]; exact ho⟩, mA, hr, hns, ho⟩
def rIsF (K : PySem.W.Frag) : List V → Hp → VK → Prop := fun xs H Q => ∃ (a C C' dd : Addr) (fs : List (Str × V)) (b : Bool), xs = [.ref a, .ref C'] ∧ ExcC K C ∧ H a = some (ExcAt a C (some dd)) ∧ H dd = some (.xd fs) ∧ PySem.W.kitOne K (.ref C) (.ref C') = some b ∧ Q (.bl b) H
theorem call_isF {X : Cx} : CallR X (.builtin "isinstance") (rIsF X.K) := by
  intro pins s σ H xs us Q I r0 h
  obtain ⟨a, C, C', dd, fs, b, rfl, E, h1, h2, e, q⟩ := h
  obtain ⟨u1, u2, rfl, r1, r2⟩ := vals2 r0
  cases (show u1 = Value.ref a from r1)
  cases (show u2 = Value.ref C' from r2)
  obtain ⟨o, od, J, _⟩ := exc_at I h1 h2
  obtain ⟨cd, hcd, _⟩ := PySem.W.any_some E.hd
  exact PySem.W.kia_one (PySem.W.kitx_exc (by rw [hcd]; rfl) E.hg E.hk E.hs E.ha E.hn E.ht E.hm) I.kIn J e (fun z => nomatch z) fun tk => ⟨.bl b, H, I.kept (t' := tk) fun _ _ z => z, rfl, q⟩
/-- isinstance(x, an error class), x with a field or without -/
def dIsE : List D → Option D
  | [.exc c _, .cls c'] => some (.bl (decide (c = c')))
  | [d, .cls _] => (tyN d).map fun _ => .bl false
  | _ => none
theorem o_isE {p : Rp} (E : ErrK p) : OpN p (fun xs H Q => (rIsi p.K xs H Q ∨ rIsX p.K xs H Q) ∨ rIsF p.K xs H Q) dIsE := fun F H xs ds d Q s rs h q => by
  unfold dIsE at h
  split at h
  · rename_i c fs c'
    cases fs with
    | nil => exact .inl (o_isC E F H xs _ d Q s rs h q)
    | cons f fs =>
      cases h
      obtain ⟨x, y, rfl, r1, r2⟩ := p2 rs
      rcases r1 with r1 | ⟨_, _, o⟩
      · rcases r2 with r2 | ⟨_, _, o⟩
        · cases r2 with
          | cls hc' =>
            cases r1 with
            | exc1 hc e e2 rv => exact .inr ⟨_, _, _, _, _, _, rfl, E.exc _ _ hc, s.le _ _ e, s.le _ _ e2, E.one _ _ _ _ hc hc', fin s (.bl _) q⟩
        · exact o.elim
      · exact o.elim
  · rename_i d0 c' hn
    refine .inl (o_isC E F H xs [d0, .cls c'] d Q s rs ?_ q)
    unfold dIsC
    split
    · rename_i c2 c3 z
      simp only [List.cons.injEq] at z
      exact absurd z.1 (fun w => by subst w; exact hn _ _ rfl)
    · rename_i d1 c3 _ z
      simp only [List.cons.injEq, D.cls.injEq, and_true] at z
      rw [← z.1]
      exact h
    · rename_i hno
      exact absurd rfl (hno _ _)
  · cases h
/-! ### error.f -/
def dFld (f : Str) : D → Option D
  | .exc _ [.str g, d] => if g = f then some d else none
  | _ => none
def rFld (K : PySem.W.Frag) (f : Str) : V → Hp → VK → Prop := fun x H Q => ∃ (a C dd : Addr) (v : V), x = .ref a ∧ ExcC K C ∧ PySem.W.findIn K (.ref C) f = some none ∧ H a = some (ExcAt a C (some dd)) ∧ H dd = some (.xd [(f, v)]) ∧ Q v H
theorem pe_fld {X : Cx} {e : Expr} {te : TE} {f : Str} {pos : Pos} (he : PE X e te) (hb : attributeBase e f X.env (eval e X.env) = eval e X.env := by rfl) : PE X (.Attribute e f pos) (fun σ H Q => te σ H fun x H1 => rFld X.K f x H1 Q) := by
  refine ⟨fun pins s σ H Q I h => ?_⟩
  refine attr_of hb (thn (he.run pins s σ H _ I h) fun u s1 hh => ?_)
  obtain ⟨x, H1, I1, rx, a, C, dd, v, ex, E, hno, ea, ed, q⟩ := hh
  subst ex
  obtain rfl : u = Value.ref a := rx
  obtain ⟨o, od, J, mA, hr, hns, ho⟩ := exc_at I1 ea ed
  obtain ⟨od', ho', hl⟩ := lookIn_ns hns
  rw [ho] at ho'
  cases ho'
  obtain ⟨u, hu, ru⟩ := RelO.some_of (v := v) (o := mA f) (by
    have := hr f
    rw [List.lookup_cons, beq_self_eq_true] at this
    exact this)
  exact HandSPX.exc_get I1.kIn J E.hg E.hk E.hs (PySem.W.findObj_own E.hd hno rfl (by rw [hl, hu])) (handed_of ru) ⟨v, H1, I1.tok _, ru, q⟩
theorem o_fld {p : Rp} {f : Str} (E : ErrK p) (hf : ∀ c C, p.cls c = some C → PySem.W.findIn p.K (.ref C) f = some none) : Op1 p (rFld p.K f) (dFld f) := fun F H x d1 d Q s r h q => by
  unfold dFld at h
  split at h
  · rename_i c g d0
    split at h
    · rename_i eg
      cases h
      subst eg
      rcases r with r | ⟨_, _, o⟩
      · cases r with
        | exc1 hc e e2 rv => exact ⟨_, _, _, _, rfl, E.exc _ _ hc, hf _ _ hc, s.le _ _ e, s.le _ _ e2, fin s rv q⟩
      · exact o.elim
    · cases h
  · cases h
section
variable {J : Jc} {O : List Nat} {X : Cx} {pk1 : Bool} {a : Expr} {es : List Expr} {f1 : Fe J.G.A} {fl : Fl J.G.A} {pos p0 : Pos}
theorem cIsE (E : ErrK J.p) (hm : X.mg "isinstance" = none) (h : EMs J O X pk1 (a :: es) fl) (hg : Gl X "isinstance" := by rfl) (hK : X.K = J.p.K := by rfl) (he : starEach (a :: es) X.env = (false, eval a X.env) :: starEach es X.env := by rfl) (hpl : (backTo pos (starEach es X.env)).any (·.1) = false := by rfl) :
    EM J O X false (.Call (.Name "isinstance" p0) (a :: es) [] pos) (eN dIsE fl) := em_opN (fun ha => pe_callB (cl_isC.or call_isF) hg hm PyProof.Rows.boot_isinstance ha (by decide) (by decide) he hpl) (hK ▸ o_isE E) h
theorem xFld {f : Str} (E : ErrK J.p) (hf : ∀ c C, J.p.cls c = some C → PySem.W.findIn J.p.K (.ref C) f = some none) (h : EM J O X pk1 a f1) (hK : X.K = J.p.K := by rfl) (hb : attributeBase a f X.env (eval a X.env) = eval a X.env := by rfl) :
    EM J O X false (.Attribute a f pos) (e1 (dFld f) f1) := em_op1 (fun ha => pe_fld ha hb) (hK ▸ o_fld E hf) h
end
end DL
namespace DL
open L2 PySem PyProof.Rows PySem.Spec

/-! ### x.upper(), str(i), {(i, j): k} -/
def dUpper : D → Option D
  | .str a => if a.length ≤ 5000000 then some (.str (Txt.upper a)) else none
  | _ => none
def rUpper : V → Hp → VK → Prop := fun x H Q => ∃ a, x = .str a ∧ a.length ≤ 5592405 ∧ Q (.str (Txt.upper a)) H
theorem o_upper {p : Rp} : Op1 p rUpper dUpper := fun F H x d1 d Q s r h q => by
  unfold dUpper at h
  split at h
  · split at h
    · rename_i c
      cases h
      exact ⟨_, r.strv, by omega, fin s (.str _) q⟩
    · cases h
  · cases h
def dStr : List D → Option D
  | [.int i] => if i.natAbs.log2 < 1920 then some (.str (toString i : String)) else none
  | _ => none
theorem o_str {p : Rp} : OpN p (fun xs H Q => ∃ i : Int, xs = [.int i] ∧ i.natAbs.log2 < 1920 ∧ Q (.str (toString i : String)) H) dStr := fun F H xs ds d Q s rs h q => by
  unfold dStr at h
  split at h
  · split at h
    · rename_i c
      cases h
      obtain ⟨x, rfl, r⟩ := p1 rs
      exact ⟨_, by rw [r.intv], c, fin s (.str _) q⟩
    · cases h
  · cases h
section
variable {J : Jc} {O : List Nat} {X : Cx} {pk pk1 : Bool} {a o : Expr} {es : List Expr} {f1 : Fe J.G.A} {fl : Fl J.G.A} {pos p0 p1 p2 apos : Pos}
theorem xUpper (h1 : EM J O X pk1 o f1) (hbase : attributeBase o "upper" X.env (eval o X.env) = eval o X.env := by rfl) (hline : (apos.endLine == pos.line) = true := by rfl) : EM J O X false (.Call (.Attribute o "upper" apos) [] [] pos) (e1 dUpper f1) := ⟨PE.imp (pe_upper h1.pe hbase hline) fun σ H Q => by
  rintro ⟨w, ρ, x, q⟩
  refine em_seq x q fun v1 H1 d1 w1 x1 fr1 r1 q1 => ?_
  obtain ⟨d, hd, q3⟩ := okE_some q1
  have z : rUpper v1 H1 Q := o_upper _ H1 v1 d1 d _ sit (Rl.rv x1 r1) hd fun v H3 s r => q3.ok (GW.fr_same s) (J.G.same x1.rel s) (.inl (r.mono (x1.newF s)))
  obtain ⟨a, e, l, q4⟩ := z
  exact ⟨⟨a, e⟩, a, e, rfl, l, q4⟩⟩
theorem cStr (hm : X.mg "str" = none) (h : EMs J O X pk1 (a :: es) fl) (hg : Gl X "str" := by rfl) (he : starEach (a :: es) X.env = (false, eval a X.env) :: starEach es X.env := by rfl) (hpl : (backTo pos (starEach es X.env)).any (·.1) = false := by rfl) :
    EM J O X false (.Call (.Name "str" p0) (a :: es) [] pos) (eN dStr fl) := em_opN (fun ha => pe_callTy (call_str_int) hg hm PyProof.Rows.boot_str ha (by decide) (by decide) he hpl) o_str h
/-- {(i, j): k}: a dict of tuple keys; nothing is told of what it holds -/
theorem xOpq {n : Nat} {i j k : Int} {c1 c2 c3 k1 : Nat} (hr : Room n X.A) (he1 : starEach [.Constant (.int i) c1 p0, .Constant (.int j) c2 p1] X.env = (false, eval (.Constant (.int i) c1 p0) X.env) :: starEach [.Constant (.int j) c2 p1] X.env := by rfl) (he2 : starEach [.Constant (.int j) c2 p1] X.env = (false, eval (.Constant (.int j) c2 p1) X.env) :: starEach [] X.env := by rfl) :
    EM J O X false (.Dict [some (.Tuple [.Constant (.int i) c1 p0, .Constant (.int j) c2 p1] k1 p2)] [.Constant (.int k) c3 apos] pos) (eC .opq) := by
  refine ⟨⟨fun pins s σ H Q I h => ?_⟩⟩
  obtain ⟨w, ρ, x, q⟩ := h
  have hn : H s.heap.objs.size = none := I.hok.fresh (Nat.le_refl _)
  have I1 := I.laid (a := s.heap.objs.size) (o := .dT []) (h' := s.heap.push { cls := .type "dict", data := .dict #[] }) (t' := s.toks) (fun _ _ q => Heap.get?_push_of_some _ q) (Nat.le_refl _) (dt_empty s.heap I.big)
  have pk := pe_tup (X := X) (pos := p2) (x1 := k1) (pa_cons (pe_int (i := i) (j := c1) (pos := p0)) (pa_cons (pe_int (i := j) (j := c2) (pos := p1)) pa_nil he2) he1)
  rw [arm_eval_Dict, zip_pairTrees [some (.Tuple [.Constant (.int i) c1 p0, .Constant (.int j) c2 p1] k1 p2)] [.Constant (.int k) c3 apos] X.env pos rfl rfl, dictDisplay_pairs (pairTrees [some (.Tuple [.Constant (.int i) c1 p0, .Constant (.int j) c2 p1] k1 p2)] [.Constant (.int k) c3 apos] X.env pos) (fun z => nomatch z) (by rw [pairTrees_length _ _ _ _ rfl rfl]; show 1 < 17; decide)]
  have hu : X.A.units < cLine := by
    have := hr.un
    omega
  refine wpAny_bind (wpAny_standAt (wpAny_bind (wpAny_subDictH (knd := tupleKind (mixKind X.prog X.w)) hu (by rw [pairTrees_length _ _ _ _ rfl rfl]; show 1 ≤ 15; decide) (pairTrees_cons_walk ?_))))
  refine thn (pk.run pins _ σ _ (fun v H1 => ∃ b, v = .ref b ∧ upd H s.heap.objs.size (.dT []) b = none ∧ H1 = upd (upd H s.heap.objs.size (.dT [])) b (.tup [.int i, .int j])) I1 ⟨by rw [sizeLine_eq]; simp, fun b nb => ⟨b, rfl, nb, rfl⟩⟩) fun u s1 ⟨v, H1, I2, rv, b, ev, nb, eH⟩ => ?_
  subst ev eH
  obtain rfl : u = Value.ref b := rv
  refine thn (pe_int.run pins s1 σ _ (fun v H2 => v = .int k ∧ H2 = upd (upd H s.heap.objs.size (.dT [])) b (.tup [.int i, .int j])) I2 ⟨rfl, rfl⟩) fun u2 s2 ⟨v2, H2, I3, rv2, ev2, eH2⟩ => pairTrees_nil_walk ?_
  subst ev2 eH2
  have hne : s.heap.objs.size ≠ b := fun z => by
    rw [← z, upd_same] at nb
    cases nb
  have nbH : H b = none := by
    rw [upd_ne (Ne.symm hne)] at nb
    exact nb
  have ed : upd (upd H s.heap.objs.size (.dT [])) b (.tup [.int i, .int j]) s.heap.objs.size = some (.dT []) := by rw [upd_ne hne, upd_same]
  obtain ⟨z, hd, xs, rel, dd⟩ := dt_of I3.hok ed
  cases rel
  refine ⟨[([.inl i, .inl j], b, u2)], ⟨rfl, rfl, key_of (ks := [.inl i, .inl j]) I3.hok (by rw [upd_same] <;> rfl), True.intro⟩, dd, fun h' tk dd' hs => wpAny_pure ?_⟩
  obtain ⟨q1, es, ep, hq, h2, h3, h4, _, h5⟩ := dd'
  have J3 := d_write (t' := tk) (ob := .dT [([.inl i, .inl j], .int k)]) I3 (by rw [ed]; exact True.intro) hs ⟨q1, hq⟩ ⟨by rw [sizeLine_eq]; simp, hd, [([.inl i, .inl j], b, u2)], .cons ⟨rfl, by rw [upd_ne (Ne.symm hne), upd_same] <;> rfl, rv2⟩ .nil, q1, es, ep, hq, h2, h3, h4, h5⟩
  refine ⟨.ref s.heap.objs.size, _, J3, rfl, ?_⟩
  have sm : Same H (upd (upd (upd H s.heap.objs.size (.dT [])) b (.tup [.int i, .int j])) s.heap.objs.size (.dT [([.inl i, .inl j], .int k)])) := fun c o e => by
    rw [upd_ne (ne_of_none e hn), upd_ne (ne_of_none e nbH), upd_ne (ne_of_none e hn)]
    exact e
  have hS : ¬ SS J O σ s.heap.objs.size := fun y => by
    obtain ⟨o, e⟩ := x.subS _ y
    rw [hn] at e
    cases e
  exact PQ.ok (rel := Rl J O σ ρ false) q (GW.fr_same sm) (J.G.same x.rel sm) (.inl (.opq (kvs := [([.inl i, .inl j], .int k)]) (by
    show hide _ _ _ = _
    rw [hide_of hS, upd_same])))
end
end DL
namespace DL
open L2 PySem PyProof.Rows PySem.Spec

/-! ### written tuples of the top -/
mutual
def cstB (K : PySem.W.Frag) : D → Value → Bool
  | .non, .none => true
  | .bl b, .bool c => b == c
  | .int i, .int j _ => i == j
  | .str x, .str y _ => x == y
  | .tup ds, .ref a => (match K.lookup a with
    | some ⟨.type c, _, .seq its _, _⟩ => decide (c = "tuple") && (decide (its.size ≤ sizeLine) && cstBs K ds its.toList)
    | _ => false)
  | _, _ => false
def cstBs (K : PySem.W.Frag) : List D → List Value → Bool
  | [], [] => true
  | d :: ds, u :: us => cstB K d u && cstBs K ds us
  | _, _ => false
end
mutual
theorem cstB_ok {p : Rp} : ∀ (d : D) (u : Value), cstB p.K d u = true → ∃ v, RelV v u ∧ ∀ F, R p F v d
  | .non, u, h => by
    cases u <;> simp [cstB] at h
    exact ⟨.non, rfl, fun _ => .non⟩
  | .bl b, u, h => by
    cases u <;> simp [cstB] at h
    subst h
    exact ⟨.bl _, rfl, fun _ => .bl _⟩
  | .int i, u, h => by
    cases u <;> simp [cstB] at h
    subst h
    exact ⟨.int _, ⟨_, rfl⟩, fun _ => .int _⟩
  | .str i, u, h => by
    cases u <;> simp [cstB] at h
    subst h
    exact ⟨.str _, ⟨_, rfl⟩, fun _ => .str _⟩
  | .tup ds, u, h => by
    cases u <;> simp only [cstB] at h <;> first | (cases h; done) | skip
    rename_i a
    split at h
    · rename_i c dd its n sl e
      obtain ⟨h1, h⟩ := He.ba h
      obtain ⟨h2, h3⟩ := He.ba h
      obtain ⟨vs, r, k⟩ := cstBs_ok ds its.toList h3
      have h1 := of_decide_eq_true h1
      subst h1
      exact ⟨.ref a, rfl, fun F => .tup (.inr ⟨_, its, n, e, rfl, rfl, of_decide_eq_true h2, r⟩) (k F)⟩
    · cases h
  | .lst l, u, h => by cases u <;> simp [cstB] at h
  | .dct l, u, h => by cases u <;> simp [cstB] at h
  | .frl l, u, h => by cases u <;> simp [cstB] at h
  | .opq, u, h => by cases u <;> simp [cstB] at h
  | .exc c l, u, h => by cases u <;> simp [cstB] at h
  | .ty c, u, h => by cases u <;> simp [cstB] at h
  | .cls c, u, h => by cases u <;> simp [cstB] at h
  | .tok c, u, h => by cases u <;> simp [cstB] at h
theorem cstBs_ok {p : Rp} : ∀ (ds : List D) (us : List Value), cstBs p.K ds us = true → ∃ vs, Vals vs us ∧ ∀ F, RA p F vs ds
  | [], [], _ => ⟨[], .nil, fun _ => .nil⟩
  | [], u :: us, h => by simp [cstBs] at h
  | d :: ds, [], h => by simp [cstBs] at h
  | d :: ds, u :: us, h => by
    rw [cstBs] at h
    obtain ⟨h1, h2⟩ := He.ba h
    obtain ⟨v, r, k⟩ := cstB_ok d u h1
    obtain ⟨vs, rs, ks⟩ := cstBs_ok ds us h2
    exact ⟨v :: vs, .cons r rs, fun F => .cons (k F) (ks F)⟩
end
def cstG (K : PySem.W.Frag) (x : Str) (d : D) : Bool := match PySem.W.nsIn K mainGlobals x with
  | some (some u) => cstB K d u
  | _ => false
/-- the name x stands for the constant d -/
def GCst (p : Rp) (mg : Str → Option Value) (x : Str) (d : D) : Prop := ∃ u v, mg x = some u ∧ RelV v u ∧ ∀ F, R p F v d
theorem gcst_of {p : Rp} {h : Heap} {mg : Str → Option Value} (X : p.K.In h) (G : h.Ns mainGlobals mg) {x : Str} {d : D} (c : cstG p.K x d = true) : GCst p mg x d := by
  unfold cstG at c
  split at c
  · rename_i u e
    obtain ⟨v, r, k⟩ := cstB_ok (p := p) d u c
    exact ⟨u, v, PySem.W.mg_of X G e, r, k⟩
  · cases c
section
variable {J : Jc} {O : List Nat} {X : Cx} {p0 : Pos}
theorem xGd {x : Str} {d : D} (c : GCst J.p X.mg x d) (hg : Gl X x := by rfl) (hd : (x == ("__debug__" : Str)) = false := by decide) : EM J O X false (.Name x p0) (eC d) := by
  obtain ⟨u, v, hm, r, k⟩ := c
  exact xG (v := v) hm r k hg hd
end
/-- a class by its name only -/
def ClsN (mg : Str → Option Value) (cls : Str → Option Addr) (x : Str) : Prop := ∃ C, mg x = some (.ref C) ∧ cls x = some C
theorem clsN_of {K : PySem.W.Frag} {h : Heap} {mg : Str → Option Value} (X : K.In h) (G : h.Ns mainGlobals mg) {L : List Str} {x : Str} (hL : L.contains x = true) (c1 : (He.Fa.glo x).ok K = true) : ClsN mg (clsL K L) x :=
  ⟨He.ga K x, He.glo_ok X G c1, by unfold clsL; rw [if_pos hL]⟩
section
variable {J : Jc} {O : List Nat} {X : Cx} {p0 : Pos}
theorem xClN {x : Str} (c : ClsN X.mg J.p.cls x) (hg : Gl X x := by rfl) (hd : (x == ("__debug__" : Str)) = false := by decide) : EM J O X false (.Name x p0) (eC (.cls x)) := by
  obtain ⟨C, h1, h2⟩ := c
  exact xC h1 h2 hg hd
end
/-- none of the classes of errors has the attribute f -/
def noAt (K : PySem.W.Frag) (L : List Str) (f : Str) : Bool := L.all fun x => He.eqO (PySem.W.findIn K (.ref (He.ga K x)) f) (some none)
theorem noAt_ok {K : PySem.W.Frag} {L : List Str} {f : Str} (h : noAt K L f = true) (c : Str) (C : Addr) (e : clsL K L c = some C) : PySem.W.findIn K (.ref C) f = some none := by
  obtain ⟨m, rfl⟩ := clsL_some e
  exact He.eqO_ok (List.all_eq_true.mp h c m)
/-- the __init__ of a class of the top -/
def clsInit (st : Stmt) : Stmt := match st with
  | .ClassDef _ _ _ (f :: _) _ _ _ _ _ _ _ => f
  | _ => .Pass ⟨0, 0, 0, 0⟩
def iniD (x : Str) (qual : Str) (st : Stmt) : IniD := ⟨x, qual, defArgs (clsInit st), defBody (clsInit st), defScope (clsInit st)⟩
end DL
noncomputable section
namespace DL
open L2 PySem PyProof.Rows PySem.Spec
def k_ZERO : D := .tup [.int 0, .int 1]
def m_is_ratio : Fs Unit := (sCons (sIf (eOr (e1 dNot (eB (eN dIsi (fCons (eVar 0) (fCons (eC (.ty "tuple")) fNil))))) (eOr (eB (e2 dNe (eN dLen (fCons (eVar 0) fNil)) (eC (.int 2)))) (e1 dNot (eB (eN dAll (fCons (eComp (fIt (eVar 0)) [1] (gN 1) (eC (.bl true)) (eCall g_is_whole (fCons (eVar 1) fNil))) fNil))))))
  (sRet (eC (.bl false)))
  sNil)
  (sRet (eAnd (e2 dGt (e2 dIdx (eVar 0) (eC (.int 1))) (eC (.int 0))) (e2 dEq (eN dGcd (fCons (e2 dIdx (eVar 0) (eC (.int 0))) (fCons (e2 dIdx (eVar 0) (eC (.int 1))) fNil))) (eC (.int 1))))))
def g_is_ratio : List D → Rq D := runP false 2 1 m_is_ratio
def m_plus : Fs Unit := (sRet (eCall g_lowest (fCons (e2 dAdd (e2 dMul (e2 dIdx (eVar 0) (eC (.int 0))) (e2 dIdx (eVar 1) (eC (.int 1)))) (e2 dMul (e2 dIdx (eVar 1) (eC (.int 0))) (e2 dIdx (eVar 0) (eC (.int 1))))) (fCons (e2 dMul (e2 dIdx (eVar 0) (eC (.int 1))) (e2 dIdx (eVar 1) (eC (.int 1)))) fNil))))
def g_plus : List D → Rq D := runP false 2 2 m_plus
def m_is_less : Fs Unit := (sRet (e2 dLt (e2 dMul (e2 dIdx (eVar 0) (eC (.int 0))) (e2 dIdx (eVar 1) (eC (.int 1)))) (e2 dMul (e2 dIdx (eVar 1) (eC (.int 0))) (e2 dIdx (eVar 0) (eC (.int 1))))))
def g_is_less : List D → Rq D := runP false 2 2 m_is_less
def m_total : Fs Unit := (sCons (sAsg (eC k_ZERO) (gN 1))
  (sCons (sFor (fIt (eVar 0)) (gN 2)
  (sAsg (eCall g_plus (fCons (eVar 1) (fCons (eVar 2) fNil))) (gN 1)))
  (sRet (eVar 1))))
def g_total : List D → Rq D := runP false 3 1 m_total
def m_ratio : Fs Unit := (sCons (sIf (e1 dNot (eB (eCall g_is_whole (fCons (eVar 0) fNil))))
  (sRaise1 "BadNumber" "part" (eC (.str "n")))
  sNil)
  (sCons (sIf (eOr (e1 dNot (eB (eCall g_is_whole (fCons (eVar 1) fNil)))) (eB (e2 dEq (eVar 1) (eC (.int 0)))))
  (sRaise1 "BadNumber" "part" (eC (.str "d")))
  sNil)
  (sRet (eCall g_lowest (fCons (eVar 0) (fCons (eVar 1) fNil))))))
def g_ratio : List D → Rq D := runP false 2 2 m_ratio
def m_added : Fs Unit := (sCons (sIf (eOr (e1 dNot (eB (e1 (dIsiT ["list", "tuple"]) (eVar 0)))) (e1 dNot (eB (eN dAll (fCons (eComp (fIt (eVar 0)) [1] (gN 1) (eC (.bl true)) (eCall g_is_ratio (fCons (eVar 1) fNil))) fNil)))))
  (sRaise ⟨"BadRatios", []⟩)
  sNil)
  (sRet (eCall g_total (fCons (eVar 0) fNil))))
def g_added : List D → Rq D := runP false 2 1 m_added
def m_is_below : Fs Unit := (sCons (sIf (eOr (e1 dNot (eB (eCall g_is_ratio (fCons (eVar 0) fNil)))) (e1 dNot (eB (eCall g_is_ratio (fCons (eVar 1) fNil)))))
  (sRaise ⟨"BadRatio", []⟩)
  sNil)
  (sRet (eCall g_is_less (fCons (eVar 0) (fCons (eVar 1) fNil)))))
def g_is_below : List D → Rq D := runP false 2 2 m_is_below
def m__law_plus : Fs Unit := (sRet (eCall g__law_q (fCons (e2 dAdd (e2 dMul (e2 dIdx (eVar 0) (eC (.int 0))) (e2 dIdx (eVar 1) (eC (.int 1)))) (e2 dMul (e2 dIdx (eVar 1) (eC (.int 0))) (e2 dIdx (eVar 0) (eC (.int 1))))) (fCons (e2 dMul (e2 dIdx (eVar 0) (eC (.int 1))) (e2 dIdx (eVar 1) (eC (.int 1)))) fNil))))
def g__law_plus : List D → Rq D := runP false 2 2 m__law_plus
def m__law_less : Fs Unit := (sRet (e2 dLt (e2 dMul (e2 dIdx (eVar 0) (eC (.int 0))) (e2 dIdx (eVar 1) (eC (.int 1)))) (e2 dMul (e2 dIdx (eVar 1) (eC (.int 0))) (e2 dIdx (eVar 0) (eC (.int 1))))))
def g__law_less : List D → Rq D := runP false 2 2 m__law_less
def m__law_sum : Fs Unit := (sCons (sAsg (eTup (fCons (eC (.int 0)) (fCons (eC (.int 1)) fNil))) (gN 1))
  (sCons (sFor (fIt (eVar 0)) (gN 2)
  (sAsg (eCall g__law_plus (fCons (eVar 1) (fCons (eVar 2) fNil))) (gN 1)))
  (sRet (eVar 1))))
def g__law_sum : List D → Rq D := runP false 3 1 m__law_sum
def m__law_is_ratio : Fs Unit := (sCons (sIf (eOr (e1 dNot (eB (eN dIsi (fCons (eVar 0) (fCons (eC (.ty "tuple")) fNil))))) (eOr (eB (e2 dNe (eN dLen (fCons (eVar 0) fNil)) (eC (.int 2)))) (eB (e2 dNe (eComp (fIt (eVar 0)) [1] (gN 1) (eOr (e1 dNot (eB (eN dIsi (fCons (eVar 1) (fCons (eC (.ty "int")) fNil))))) (eB (eN dIsi (fCons (eVar 1) (fCons (eC (.ty "bool")) fNil))))) (eC (.int 1))) (eLst fNil)))))
  (sRet (eC (.bl false)))
  sNil)
  (sRet (eAnd (e2 dGt (e2 dIdx (eVar 0) (eC (.int 1))) (eC (.int 0))) (e2 dEq (eCall g__law_q (fCons (e2 dIdx (eVar 0) (eC (.int 0))) (fCons (e2 dIdx (eVar 0) (eC (.int 1))) fNil))) (eVar 0)))))
def g__law_is_ratio : List D → Rq D := runP false 2 1 m__law_is_ratio
def m__law_number : Fs DW := (sCons (sAsg (eCallM g__law_draw (fCons (eVar 0) (fCons (eCallM g__law_pick (fCons (eVar 0) (fCons (eLst (fCons (eC (.int 4)) (fCons (eC (.int 30)) (fCons (e2 dPow (eC (.int 10)) (eC (.int 6))) (fCons (e2 dPow (eC (.int 10)) (eC (.int 15))) (fCons (e2 dPow (eC (.int 10)) (eC (.int 30))) fNil)))))) fNil))) fNil))) (gN 1))
  (sRet (eIf (eB (e2 dGt (eCallM g__law_draw (fCons (eVar 0) (fCons (eC (.int 3)) fNil))) (eC (.int 0)))) (eVar 1) (e2 dSub (eC (.int 0)) (eVar 1)))))
def g__law_number : DW → List D → Rs D DW := runB false 2 1 m__law_number
def m__law_near : Fs DW := (sCons (sPar [2, 3] (fCons (eCallM g__law_number (fCons (eVar 0) fNil)) (fCons (e2 dAdd (eC (.int 1)) (eN dAbs (fCons (eCallM g__law_number (fCons (eVar 0) fNil)) fNil))) fNil)))
  (sCons (sAsg (eLst (fCons (eCall g__law_q (fCons (eVar 2) (fCons (eVar 3) fNil))) (fCons (eCall g__law_q (fCons (eVar 2) (fCons (eVar 3) fNil))) (fCons (eTup (fCons (eVar 2) (fCons (eVar 3) fNil))) (fCons (eTup (fCons (e2 dMul (eVar 2) (eC (.int 7))) (fCons (e2 dMul (eVar 3) (eC (.int 7))) fNil))) (fCons (eTup (fCons (eVar 2) (fCons (e2 dSub (eC (.int 0)) (eVar 3)) fNil))) (fCons (eLst (fCons (eVar 2) (fCons (eVar 3) fNil))) (fCons (eTup (fCons (eVar 2) fNil)) (fCons (eTup (fCons (eVar 2) (fCons (eVar 3) (fCons (eC (.int 1)) fNil)))) (fCons (eTup (fCons (eVar 2) (fCons (eC (.bl true)) fNil))) (fCons (eTup (fCons (eC (.bl false)) (fCons (eC (.int 1)) fNil))) (fCons (eTup (fCons (eVar 2) (fCons (eC (.int 0)) fNil))) fNil)))))))))))) (gN 1))
  (sRet (eCallM g__law_pick (fCons (eVar 0) (fCons (e2 dAdd (eVar 1) (eLst (fCons (eTup (fCons (eN dStr (fCons (eVar 2) fNil)) (fCons (eVar 3) fNil))) (fCons (eTup (fCons (eC (.int 0)) (fCons (eC (.int 1)) fNil))) (fCons (eTup (fCons (eC (.int 0)) (fCons (eC (.int 2)) fNil))) (fCons (eTup (fCons (eC .non) (fCons (eC (.int 1)) fNil))) (fCons (eC .non) (fCons (eVar 2) (fCons (eC (.str "1/2")) (fCons (eTup (fCons (eC (.int 1)) (fCons (eC (.int 1)) fNil))) (fCons (eTup (fCons (eC (.bl true)) (fCons (eC (.int 1)) fNil))) (fCons (eTup (fCons (eTup (fCons (eVar 2) (fCons (eVar 3) fNil))) (fCons (eC (.int 1)) fNil))) fNil)))))))))))) fNil))))))
def g__law_near : DW → List D → Rs D DW := runB false 4 1 m__law_near
def m__law_word_right : Fs DW := (sCons (sAsg (e2 dIdx (eCallM g__law_words (fCons (eVar 0) (fCons (eC (.int 1)) fNil))) (eC (.int 0))) (gN 1))
  (sCons (sAsg (eCallM g__law_draw (fCons (eVar 0) (fCons (eN dLen (fCons (eVar 1) fNil)) fNil))) (gN 2))
  (sCons (sAsg (eCallM g__law_pick (fCons (eVar 0) (fCons (eLst (fCons (eC (.str "A")) (fCons (eC (.str "Z")) (fCons (eC (.str "0")) (fCons (eC (.str " ")) (fCons (eC (.str "_")) (fCons (eC (.str "\n")) (fCons (eC (.str "-")) (fCons (eC (.str "")) (fCons (eC (.str "z")) (fCons (eC (.str "a")) fNil))))))))))) fNil))) (gN 3))
  (sCons (sAsg (e2 dAdd (e2 dAdd (eCut (eVar 1) fPn (fPs (eVar 2))) (eVar 3)) (eCut (eVar 1) (fPs (e2 dAdd (eVar 2) (eC (.int 1)))) fPn)) (gN 4))
  (sCons (sFor (fIt (eLst (fCons (eVar 1) (fCons (eVar 4) (fCons (e2 dMul (eVar 1) (eC (.int 9))) (fCons (eCut (e2 dMul (eVar 1) (eC (.int 9))) fPn (fPs (eC (.int 8)))) (fCons (eCut (e2 dMul (eVar 1) (eC (.int 9))) fPn (fPs (eC (.int 9)))) (fCons (eC (.str "")) (fCons (eTup (fCons (eVar 1) fNil)) (fCons (eLst (fCons (eVar 1) fNil)) (fCons (eC .non) (fCons (eC (.int 7)) (fCons (eC (.bl true)) (fCons (e1 dUpper (eVar 1)) fNil)))))))))))))) (gN 5)
  (sCons (sAsg (eAnd (eN dIsi (fCons (eVar 5) (fCons (eC (.ty "str")) fNil))) (eChain dLe dLe (eC (.int 1)) (eN dLen (fCons (eVar 5) fNil)) (eC (.int 8)))) (gN 6))
  (sCons (sAsg (eAnd (eVar 6) (e2 dEq (eComp (fIt (eVar 5)) [7] (gN 7) (eB (e2 dNotIn (eVar 7) (eC (.str "abcdefghijklmnopqrstuvwxyz")))) (eVar 7)) (eLst fNil))) (gN 6))
  (sIf (e1 dNot (eB (eCall g__law_is_truth (fCons (eCall g_is_word (fCons (eVar 5) fNil)) (fCons (eVar 6) fNil)))))
  (sRet (eC (.bl false)))
  sNil))))
  (sRet (eC (.bl true))))))))
def g__law_word_right : DW → List D → Rs D DW := runB false 8 1 m__law_word_right
def m__law_reckoned_right : Fs DW := (sCons (sPar [2, 3] (fCons (eCallM g__law_number (fCons (eVar 0) fNil)) (fCons (eCallM g__law_number (fCons (eVar 0) fNil)) fNil)))
  (sCons (sIf (eAnd (eB (e2 dNe (eVar 3) (eC (.int 0)))) (eOr (e1 dNot (eB (eCall g__law_same (fCons (eCall g_ratio (fCons (eVar 2) (fCons (eVar 3) fNil))) (fCons (eCall g__law_q (fCons (eVar 2) (fCons (eVar 3) fNil))) fNil))))) (e1 dNot (eB (eCall g__law_same (fCons (bindE (fCons (eVar 3) (fCons (eVar 2) fNil)) fun ds w ρ => if ds.length = 2 then eCall g_ratio (fun w _ => some (.ok ([1, 0].filterMap fun j => ds[j]?, w))) w ρ else none) (fCons (eCall g__law_q (fCons (eVar 2) (fCons (eVar 3) fNil))) fNil)))))))
  (sRet (eC (.bl false)))
  sNil)
  (sCons (sAsg (eComp (fRange1 (eCallM g__law_draw (fCons (eVar 0) (fCons (eC (.int 7)) fNil)))) [8] (gN 8) (eC (.bl true)) (eCall g__law_q (fCons (eCallM g__law_number (fCons (eVar 0) fNil)) (fCons (e2 dAdd (eC (.int 1)) (eN dAbs (fCons (eCallM g__law_number (fCons (eVar 0) fNil)) fNil))) fNil)))) (gN 1))
  (sCons (sIf (eOr (e1 dNot (eB (eCall g__law_same (fCons (eCall g_added (fCons (eVar 1) fNil)) (fCons (eCall g__law_sum (fCons (eVar 1) fNil)) fNil))))) (e1 dNot (eB (eCall g__law_same (fCons (bindE (fCons (eN dTuple (fCons (eVar 1) fNil)) fNil) fun ds w ρ => if ds.length = 1 then eCall g_added (fun w _ => some (.ok ([0].filterMap fun j => ds[j]?, w))) w ρ else none) (fCons (eCall g__law_sum (fCons (eVar 1) fNil)) fNil))))))
  (sRet (eC (.bl false)))
  sNil)
  (sCons (sPar [4, 5] (fCons (eCall g__law_q (fCons (eVar 2) (fCons (e2 dAdd (eC (.int 1)) (eN dAbs (fCons (eVar 3) fNil))) fNil))) (fCons (eCall g__law_q (fCons (eCallM g__law_number (fCons (eVar 0) fNil)) (fCons (e2 dAdd (eC (.int 1)) (eN dAbs (fCons (eVar 3) fNil))) fNil))) fNil)))
  (sCons (sFor (fIt (eLst (fCons (eTup (fCons (eVar 4) (fCons (eVar 5) fNil))) (fCons (eTup (fCons (eVar 5) (fCons (eVar 4) fNil))) (fCons (eTup (fCons (eVar 4) (fCons (eVar 4) fNil))) fNil))))) (gT (gsCons (gN 6) (gsCons (gN 7) gsNil)))
  (sIf (eOr (e1 dNot (eB (eCall g__law_is_truth (fCons (eCall g_is_below (fCons (eVar 6) (fCons (eVar 7) fNil))) (fCons (eCall g__law_less (fCons (eVar 6) (fCons (eVar 7) fNil))) fNil))))) (eB (e2 dNe (bindE (fCons (eVar 7) (fCons (eVar 6) fNil)) fun ds w ρ => if ds.length = 2 then eCall g_is_below (fun w _ => some (.ok ([1, 0].filterMap fun j => ds[j]?, w))) w ρ else none) (eCall g__law_less (fCons (eVar 6) (fCons (eVar 7) fNil))))))
  (sRet (eC (.bl false)))
  sNil))
  (sRet (eC (.bl true)))))))))
def g__law_reckoned_right : DW → List D → Rs D DW := runB false 9 1 m__law_reckoned_right
def m__law_refused : Fs DW := (sCons (sPar [3, 4] (fCons (eCallM g__law_pick (fCons (eVar 0) (fCons (eLst (fCons (eC .non) (fCons (eC (.bl true)) (fCons (eC (.str "1")) (fCons (eTup (fCons (eC (.int 1)) (fCons (eC (.int 1)) fNil))) (fCons (eLst (fCons (eC (.int 1)) fNil)) fNil)))))) fNil))) (fCons (eCallM g__law_pick (fCons (eVar 0) (fCons (eLst (fCons (eC .non) (fCons (eC (.int 5)) (fCons (eTup (fCons (eC (.int 2)) (fCons (eC (.int 4)) fNil))) (fCons (eLst (fCons (eC (.int 1)) (fCons (eC (.int 2)) fNil))) (fCons (eTup (fCons (eC (.int 1)) (fCons (eC (.int 0)) fNil))) (fCons (eC (.str "a")) fNil))))))) fNil))) fNil)))
  (sCons (sAsg (eCaught [] (eCall g_ratio (fCons (eVar 3) (fCons (eC (.int 0)) fNil)))) (gN 1))
  (sCons (sIf (eOr (e1 dNot (eB (eN dIsE (fCons (eVar 1) (fCons (eC (.cls "BadNumber")) fNil))))) (eB (e2 dNe (e1 (dFld "part") (eVar 1)) (eC (.str "n")))))
  (sRet (eC (.bl false)))
  sNil)
  (sCons (sAsg (eCaught [] (eCall g_ratio (fCons (eC (.int 3)) (fCons (eCallM g__law_pick (fCons (eVar 0) (fCons (eLst (fCons (eC (.int 0)) (fCons (eVar 3) fNil))) fNil))) fNil)))) (gN 1))
  (sCons (sIf (eOr (e1 dNot (eB (eN dIsE (fCons (eVar 1) (fCons (eC (.cls "BadNumber")) fNil))))) (eB (e2 dNe (e1 (dFld "part") (eVar 1)) (eC (.str "d")))))
  (sRet (eC (.bl false)))
  sNil)
  (sCons (sFor (fIt (eLst (fCons (eC .non) (fCons (eC (.int 5)) (fCons (eC (.str "")) (fCons (eTup (fCons (eC (.int 1)) (fCons (eC (.int 2)) fNil))) (fCons (eLst (fCons (eVar 4) fNil)) (fCons (eLst (fCons (eTup (fCons (eC (.int 1)) (fCons (eC (.int 2)) fNil))) (fCons (eVar 4) fNil))) (fCons (eC (.dct [])) (fCons (eC .opq) fNil)))))))))) (gN 2)
  (sIf (e1 dNot (eB (eN dIsE (fCons (eCaught [] (eCall g_added (fCons (eVar 2) fNil))) (fCons (eC (.cls "BadRatios")) fNil)))))
  (sRet (eC (.bl false)))
  sNil))
  (sCons (sIf (e1 dNot (eB (eN dIsE (fCons (eCaught [] (eCall g_is_below (fCons (eVar 4) (fCons (eTup (fCons (eC (.int 1)) (fCons (eC (.int 2)) fNil))) fNil)))) (fCons (eC (.cls "BadRatio")) fNil)))))
  (sRet (eC (.bl false)))
  sNil)
  (sRet (eN dIsE (fCons (eCaught [] (eCall g_is_below (fCons (eTup (fCons (eC (.int 1)) (fCons (eC (.int 2)) fNil))) (fCons (eVar 4) fNil)))) (fCons (eC (.cls "BadRatio")) fNil)))))))))))
def g__law_refused : DW → List D → Rs D DW := runB false 5 1 m__law_refused
noncomputable def m_law : Fs DW := (sCons (sFor (fRange1 (e2 dAdd (eC (.int 3)) (eN dMin2 (fCons (eN dLen (fCons (eVar 0) fNil)) (fCons (eC (.int 5)) fNil))))) (gN 2)
  (sCons (sFor (fRange1 (eC (.int 6))) (gN 3)
  (sCons (sAsg (eCallM g__law_near (fCons (eVar 1) fNil)) (gN 4))
  (sIf (e1 dNot (eB (eCall g__law_is_truth (fCons (eCall g_is_ratio (fCons (eVar 4) fNil)) (fCons (eCall g__law_is_ratio (fCons (eVar 4) fNil)) fNil)))))
  (sRet (eC (.bl false)))
  sNil)))
  (sIf (eOr (e1 dNot (eB (eCallM g__law_word_right (fCons (eVar 1) fNil)))) (eOr (e1 dNot (eB (eCallM g__law_reckoned_right (fCons (eVar 1) fNil)))) (e1 dNot (eB (eCallM g__law_refused (fCons (eVar 1) fNil))))))
  (sRet (eC (.bl false)))
  sNil)))
  (sRet (eC (.bl true))))
end DL
end
noncomputable section
namespace DL
open L2 PySem PyProof.Rows PySem.Spec

theorem sv_raise1 {A : Type} {x f : Str} {g : Fe A} {w : A} {ρ : Env} {QS : Out A → Prop} : Sv (sRaise1 x f g w ρ) QS ↔ Rv (g w ρ) (fun d w1 => QS (.exc (⟨x, [(f, d)]⟩, w1))) (fun x w1 => QS (.exc (x, w1))) := by
  unfold sRaise1
  exact sv_seq
/-! ### ratios -/
/-- a value whose own and whose parts' kinds are Python's -/
def TyD (d : D) : Prop := (tyN d).isSome = true ∧ ∀ l, d = .tup l ∨ d = .lst l → (∀ x ∈ l, (tyN x).isSome = true) ∧ l.length ≤ 100000
def isRatD : D → Bool
  | .tup [.int n, .int d] => decide (0 < d) && decide (Nat.gcd n.natAbs d.natAbs = 1)
  | _ => false
theorem g_is_whole_ty {d : D} (h : (tyN d).isSome = true) : g_is_whole [d] = some (.ok (.bl (isWhD d))) := by
  rw [← mv_eq]
  unfold g_is_whole m_is_whole
  have h1 := isi_int h
  have h2 := isi_bl h
  simp only [mv_runP, rv_runB, List.length_cons, List.length_nil, Nat.reduceAdd, Nat.reduceSub, Nat.zero_add, List.replicate_zero, List.replicate_one, rep2, rep3, rep4, rep5, rep6, rep7, rep8, rep9, List.append_nil, List.map_cons, List.map_nil, List.cons_append, List.nil_append, List.getElem?_cons_zero, List.getElem?_cons_succ, List.set_cons_succ, List.set_cons_zero, setE, wipeE, rv_ok, rv_er, od_some, mv_ok, mv_er, sv_some, bv_bl, iv_int, tv_str, lv_lst, outB_ret, outB_nxf, outB_exc, th_nx, th_ret, th_exc, th_brk, th_ct, ro_nx, ro_ret, ro_exc, ro_brk, ro_ct, rv_bind, rv_okE, rv_okL, rv_var, rv_c, rv_nil, rv_cons, rv_e1, rv_e2, rv_eN, rv_eMt, rv_eB, rv_and, rv_or, rv_if, rv_tup, rv_lst, rv_call, rv_callM, rv_it, rv_cut, rv_cutL, rv_pn, rv_ps, rv_chain, rv_M1, rv_range1, rv_zip, rv_zip3, sv_nil, sv_brk, sv_ct, sv_cons, sv_drop, sv_ret, sv_if, sv_asg, od_gN, sv_raise, sv_par, sv_for, sv_x, sv_asgX, rx_own, rx_ownX, sv_put, dNot_bl, true_and, and_true, if_true, if_false, ite_true, ite_false, Bool.false_eq_true, reduceIte, Bool.not_true, Bool.not_false, h1, h2]
  cases d <;> simp [kInt, kBl, isWhD]
theorem dEq_one {n : Nat} : dEq (.int (n : Int)) (.int 1) = some (.bl (decide (n = 1))) := by
  show some (D.bl (decide ((n : Int) = 1))) = _
  congr 2
  exact decide_eq_decide.mpr (by omega)
theorem g_is_ratio_eq {d : D} (h : TyD d) : g_is_ratio [d] = some (.ok (.bl (isRatD d))) := by
  rw [← mv_eq]
  unfold g_is_ratio m_is_ratio
  have hi := isi_tup h.1
  simp only [mv_runP, rv_runB, List.length_cons, List.length_nil, Nat.reduceAdd, Nat.reduceSub, Nat.zero_add, List.replicate_zero, List.replicate_one, rep2, rep3, rep4, rep5, rep6, rep7, rep8, rep9, List.append_nil, List.map_cons, List.map_nil, List.cons_append, List.nil_append, List.getElem?_cons_zero, List.getElem?_cons_succ, List.set_cons_succ, List.set_cons_zero, setE, wipeE, rv_ok, rv_er, od_some, mv_ok, mv_er, sv_some, bv_bl, iv_int, tv_str, lv_lst, outB_ret, outB_nxf, outB_exc, th_nx, th_ret, th_exc, th_brk, th_ct, ro_nx, ro_ret, ro_exc, ro_brk, ro_ct, rv_bind, rv_okE, rv_okL, rv_var, rv_c, rv_nil, rv_cons, rv_e1, rv_e2, rv_eN, rv_eMt, rv_eB, rv_and, rv_or, rv_if, rv_tup, rv_lst, rv_call, rv_callM, rv_it, rv_cut, rv_cutL, rv_pn, rv_ps, rv_chain, rv_M1, rv_range1, rv_zip, rv_zip3, sv_nil, sv_brk, sv_ct, sv_cons, sv_drop, sv_ret, sv_if, sv_asg, od_gN, sv_raise, sv_par, sv_for, sv_x, sv_asgX, rx_own, rx_ownX, sv_put, dNot_bl, true_and, and_true, if_true, if_false, ite_true, ite_false, Bool.false_eq_true, reduceIte, Bool.not_true, Bool.not_false, hi]
  cases d with
  | tup l =>
    have e : dNe (.int (l.length : Int)) (.int 2) = some (.bl (!decide (l.length = 2))) := dNe_len
    obtain ⟨ht, hl⟩ := h.2 l (.inl rfl)
    have em : ∀ ρ : Env, compL (gN 1) (eC (.bl true)) (eCall g_is_whole (fCons (eVar 1) fNil)) l () (some (.tup l) :: none :: ρ) = some (.ok (l.map fun d => .bl (isWhD d), ())) := fun ρ => comp_all _ _ fun d hd => by
      refine ⟨_, rfl, ?_⟩
      rw [← rv_eq]
      simp only [mv_runP, rv_runB, List.length_cons, List.length_nil, Nat.reduceAdd, Nat.reduceSub, Nat.zero_add, List.replicate_zero, List.replicate_one, rep2, rep3, rep4, rep5, rep6, rep7, rep8, rep9, List.append_nil, List.map_cons, List.map_nil, List.cons_append, List.nil_append, List.getElem?_cons_zero, List.getElem?_cons_succ, List.set_cons_succ, List.set_cons_zero, setE, wipeE, rv_ok, rv_er, od_some, mv_ok, mv_er, sv_some, bv_bl, iv_int, tv_str, lv_lst, outB_ret, outB_nxf, outB_exc, th_nx, th_ret, th_exc, th_brk, th_ct, ro_nx, ro_ret, ro_exc, ro_brk, ro_ct, rv_bind, rv_okE, rv_okL, rv_var, rv_c, rv_nil, rv_cons, rv_e1, rv_e2, rv_eN, rv_eMt, rv_eB, rv_and, rv_or, rv_if, rv_tup, rv_lst, rv_call, rv_callM, rv_it, rv_cut, rv_cutL, rv_pn, rv_ps, rv_chain, rv_M1, rv_range1, rv_zip, rv_zip3, sv_nil, sv_brk, sv_ct, sv_cons, sv_drop, sv_ret, sv_if, sv_asg, od_gN, sv_raise, sv_par, sv_for, sv_x, sv_asgX, rx_own, rx_ownX, sv_put, dNot_bl, true_and, and_true, if_true, if_false, ite_true, ite_false, Bool.false_eq_true, reduceIte, Bool.not_true, Bool.not_false, g_is_whole_ty (ht d hd)]
    simp only [mv_runP, rv_runB, List.length_cons, List.length_nil, Nat.reduceAdd, Nat.reduceSub, Nat.zero_add, List.replicate_zero, List.replicate_one, rep2, rep3, rep4, rep5, rep6, rep7, rep8, rep9, List.append_nil, List.map_cons, List.map_nil, List.cons_append, List.nil_append, List.getElem?_cons_zero, List.getElem?_cons_succ, List.set_cons_succ, List.set_cons_zero, setE, wipeE, rv_ok, rv_er, od_some, mv_ok, mv_er, sv_some, bv_bl, iv_int, tv_str, lv_lst, outB_ret, outB_nxf, outB_exc, th_nx, th_ret, th_exc, th_brk, th_ct, ro_nx, ro_ret, ro_exc, ro_brk, ro_ct, rv_bind, rv_okE, rv_okL, rv_var, rv_c, rv_nil, rv_cons, rv_e1, rv_e2, rv_eN, rv_eMt, rv_eB, rv_and, rv_or, rv_if, rv_tup, rv_lst, rv_call, rv_callM, rv_it, rv_cut, rv_cutL, rv_pn, rv_ps, rv_chain, rv_M1, rv_range1, rv_zip, rv_zip3, sv_nil, sv_brk, sv_ct, sv_cons, sv_drop, sv_ret, sv_if, sv_asg, od_gN, sv_raise, sv_par, sv_for, sv_x, sv_asgX, rx_own, rx_ownX, sv_put, dNot_bl, true_and, and_true, if_true, if_false, ite_true, ite_false, Bool.false_eq_true, reduceIte, Bool.not_true, Bool.not_false, kTup, dLen, e]
    by_cases c : l.length = 2
    · obtain ⟨x, y, rfl⟩ := len2 c
      simp only [mv_runP, rv_runB, List.length_cons, List.length_nil, Nat.reduceAdd, Nat.reduceSub, Nat.zero_add, List.replicate_zero, List.replicate_one, rep2, rep3, rep4, rep5, rep6, rep7, rep8, rep9, List.append_nil, List.map_cons, List.map_nil, List.cons_append, List.nil_append, List.getElem?_cons_zero, List.getElem?_cons_succ, List.set_cons_succ, List.set_cons_zero, setE, wipeE, rv_ok, rv_er, od_some, mv_ok, mv_er, sv_some, bv_bl, iv_int, tv_str, lv_lst, outB_ret, outB_nxf, outB_exc, th_nx, th_ret, th_exc, th_brk, th_ct, ro_nx, ro_ret, ro_exc, ro_brk, ro_ct, rv_bind, rv_okE, rv_okL, rv_var, rv_c, rv_nil, rv_cons, rv_e1, rv_e2, rv_eN, rv_eMt, rv_eB, rv_and, rv_or, rv_if, rv_tup, rv_lst, rv_call, rv_callM, rv_it, rv_cut, rv_cutL, rv_pn, rv_ps, rv_chain, rv_M1, rv_range1, rv_zip, rv_zip3, sv_nil, sv_brk, sv_ct, sv_cons, sv_drop, sv_ret, sv_if, sv_asg, od_gN, sv_raise, sv_par, sv_for, sv_x, sv_asgX, rx_own, rx_ownX, sv_put, dNot_bl, true_and, and_true, if_true, if_false, ite_true, ite_false, Bool.false_eq_true, reduceIte, Bool.not_true, Bool.not_false, decide_eq_true c, rv_comp, itemsOf, em, all2, idx0, idx1]
      simp only [show (2 : Nat) < 16000000 from by decide, true_and]
      cases x with
      | int n =>
        cases y with
        | int d =>
          have e2' : dGt (.int d) (.int 0) = some (.bl (decide (0 < d))) := rfl
          have e3 : dGcd [.int n, .int d] = some (.int ((Nat.gcd n.natAbs d.natAbs : Nat) : Int)) := rfl
          simp only [isWhD, Bool.and_self]
          simp only [mv_runP, rv_runB, List.length_cons, List.length_nil, Nat.reduceAdd, Nat.reduceSub, Nat.zero_add, List.replicate_zero, List.replicate_one, rep2, rep3, rep4, rep5, rep6, rep7, rep8, rep9, List.append_nil, List.map_cons, List.map_nil, List.cons_append, List.nil_append, List.getElem?_cons_zero, List.getElem?_cons_succ, List.set_cons_succ, List.set_cons_zero, setE, wipeE, rv_ok, rv_er, od_some, mv_ok, mv_er, sv_some, bv_bl, iv_int, tv_str, lv_lst, outB_ret, outB_nxf, outB_exc, th_nx, th_ret, th_exc, th_brk, th_ct, ro_nx, ro_ret, ro_exc, ro_brk, ro_ct, rv_bind, rv_okE, rv_okL, rv_var, rv_c, rv_nil, rv_cons, rv_e1, rv_e2, rv_eN, rv_eMt, rv_eB, rv_and, rv_or, rv_if, rv_tup, rv_lst, rv_call, rv_callM, rv_it, rv_cut, rv_cutL, rv_pn, rv_ps, rv_chain, rv_M1, rv_range1, rv_zip, rv_zip3, sv_nil, sv_brk, sv_ct, sv_cons, sv_drop, sv_ret, sv_if, sv_asg, od_gN, sv_raise, sv_par, sv_for, sv_x, sv_asgX, rx_own, rx_ownX, sv_put, dNot_bl, true_and, and_true, if_true, if_false, ite_true, ite_false, Bool.false_eq_true, reduceIte, Bool.not_true, Bool.not_false, e2', e3, dEq_one]
          by_cases c2 : 0 < d
          · simp [isRatD, c2]
          · simp [isRatD, c2]
        | _ => simp [isWhD, isRatD]
      | _ => cases y <;> simp [isWhD, isRatD]
    · rw [decide_eq_false c]
      simp only [mv_runP, rv_runB, List.length_cons, List.length_nil, Nat.reduceAdd, Nat.reduceSub, Nat.zero_add, List.replicate_zero, List.replicate_one, rep2, rep3, rep4, rep5, rep6, rep7, rep8, rep9, List.append_nil, List.map_cons, List.map_nil, List.cons_append, List.nil_append, List.getElem?_cons_zero, List.getElem?_cons_succ, List.set_cons_succ, List.set_cons_zero, setE, wipeE, rv_ok, rv_er, od_some, mv_ok, mv_er, sv_some, bv_bl, iv_int, tv_str, lv_lst, outB_ret, outB_nxf, outB_exc, th_nx, th_ret, th_exc, th_brk, th_ct, ro_nx, ro_ret, ro_exc, ro_brk, ro_ct, rv_bind, rv_okE, rv_okL, rv_var, rv_c, rv_nil, rv_cons, rv_e1, rv_e2, rv_eN, rv_eMt, rv_eB, rv_and, rv_or, rv_if, rv_tup, rv_lst, rv_call, rv_callM, rv_it, rv_cut, rv_cutL, rv_pn, rv_ps, rv_chain, rv_M1, rv_range1, rv_zip, rv_zip3, sv_nil, sv_brk, sv_ct, sv_cons, sv_drop, sv_ret, sv_if, sv_asg, od_gN, sv_raise, sv_par, sv_for, sv_x, sv_asgX, rx_own, rx_ownX, sv_put, dNot_bl, true_and, and_true, if_true, if_false, ite_true, ite_false, Bool.false_eq_true, reduceIte, Bool.not_true, Bool.not_false]
      have : isRatD (.tup l) = false := by
        unfold isRatD
        split
        · rename_i z
          cases z
          exact absurd rfl c
        · rfl
      rw [this]
  | _ => simp only [mv_runP, rv_runB, List.length_cons, List.length_nil, Nat.reduceAdd, Nat.reduceSub, Nat.zero_add, List.replicate_zero, List.replicate_one, rep2, rep3, rep4, rep5, rep6, rep7, rep8, rep9, List.append_nil, List.map_cons, List.map_nil, List.cons_append, List.nil_append, List.getElem?_cons_zero, List.getElem?_cons_succ, List.set_cons_succ, List.set_cons_zero, setE, wipeE, rv_ok, rv_er, od_some, mv_ok, mv_er, sv_some, bv_bl, iv_int, tv_str, lv_lst, outB_ret, outB_nxf, outB_exc, th_nx, th_ret, th_exc, th_brk, th_ct, ro_nx, ro_ret, ro_exc, ro_brk, ro_ct, rv_bind, rv_okE, rv_okL, rv_var, rv_c, rv_nil, rv_cons, rv_e1, rv_e2, rv_eN, rv_eMt, rv_eB, rv_and, rv_or, rv_if, rv_tup, rv_lst, rv_call, rv_callM, rv_it, rv_cut, rv_cutL, rv_pn, rv_ps, rv_chain, rv_M1, rv_range1, rv_zip, rv_zip3, sv_nil, sv_brk, sv_ct, sv_cons, sv_drop, sv_ret, sv_if, sv_asg, od_gN, sv_raise, sv_par, sv_for, sv_x, sv_asgX, rx_own, rx_ownX, sv_put, dNot_bl, true_and, and_true, if_true, if_false, ite_true, ite_false, Bool.false_eq_true, reduceIte, Bool.not_true, Bool.not_false, kTup, isRatD]
/-- in lowest terms, whatever the signs -/
def qZ (n d : Int) : D := if 0 < d then qR n d else .tup [.int ((-n).fdiv ((Nat.gcd n.natAbs d.natAbs : Nat) : Int)), .int ((-d).fdiv ((Nat.gcd n.natAbs d.natAbs : Nat) : Int))]
theorem qZ_pos {n d : Int} (h : 0 < d) : qZ n d = qR n d := if_pos h
theorem fdiv_gz {a s z : Int} (hs : s ≠ 0) (hb : s.natAbs < 2 ^ 4000) : dFdiv (.int z) (.int ((Nat.gcd a.natAbs s.natAbs : Nat) : Int)) = some (.int (z.fdiv ((Nat.gcd a.natAbs s.natAbs : Nat) : Int))) ∧
    dFdiv (.int z) (.int (-((Nat.gcd a.natAbs s.natAbs : Nat) : Int))) = some (.int ((-z).fdiv ((Nat.gcd a.natAbs s.natAbs : Nat) : Int))) := by
  have h1 : 0 < Nat.gcd a.natAbs s.natAbs := Nat.gcd_pos_of_pos_right _ (by omega)
  have h2 : Nat.gcd a.natAbs s.natAbs < 2 ^ 4000 := Nat.lt_of_le_of_lt (Nat.gcd_le_right _ (by omega)) hb
  refine ⟨dFdiv_int (by omega) (by rw [Int.natAbs_natCast]; exact h2), ?_⟩
  rw [dFdiv_int (by omega) (by rw [Int.natAbs_neg, Int.natAbs_natCast]; exact h2)]
  have := Int.neg_fdiv_neg (-z) ((Nat.gcd a.natAbs s.natAbs : Nat) : Int)
  rw [Int.neg_neg] at this
  rw [this]
theorem g_lowest_z {a s : Int} (hs : s ≠ 0) (hb : s.natAbs < 2 ^ 4000) : g_lowest [.int a, .int s] = some (.ok (qZ a s)) := by
  by_cases c : 0 < s
  · rw [qZ_pos c]
    exact g_lowest_eq c hb
  · rw [← mv_eq]
    unfold g_lowest m_lowest
    have e1 : dGt (.int s) (.int 0) = some (.bl false) := by
      show some (D.bl (decide (0 < s))) = _
      rw [decide_eq_false c]
    have e2' : dGcd [.int a, .int s] = some (.int ((Nat.gcd a.natAbs s.natAbs : Nat) : Int)) := rfl
    have e3 : dNeg (.int ((Nat.gcd a.natAbs s.natAbs : Nat) : Int)) = some (.int (-((Nat.gcd a.natAbs s.natAbs : Nat) : Int))) := rfl
    simp only [mv_runP, rv_runB, List.length_cons, List.length_nil, Nat.reduceAdd, Nat.reduceSub, Nat.zero_add, List.replicate_zero, List.replicate_one, rep2, rep3, rep4, rep5, rep6, rep7, rep8, rep9, List.append_nil, List.map_cons, List.map_nil, List.cons_append, List.nil_append, List.getElem?_cons_zero, List.getElem?_cons_succ, List.set_cons_succ, List.set_cons_zero, setE, wipeE, rv_ok, rv_er, od_some, mv_ok, mv_er, sv_some, bv_bl, iv_int, tv_str, lv_lst, outB_ret, outB_nxf, outB_exc, th_nx, th_ret, th_exc, th_brk, th_ct, ro_nx, ro_ret, ro_exc, ro_brk, ro_ct, rv_bind, rv_okE, rv_okL, rv_var, rv_c, rv_nil, rv_cons, rv_e1, rv_e2, rv_eN, rv_eMt, rv_eB, rv_and, rv_or, rv_if, rv_tup, rv_lst, rv_call, rv_callM, rv_it, rv_cut, rv_cutL, rv_pn, rv_ps, rv_chain, rv_M1, rv_range1, rv_zip, rv_zip3, sv_nil, sv_brk, sv_ct, sv_cons, sv_drop, sv_ret, sv_if, sv_asg, od_gN, sv_raise, sv_par, sv_for, sv_x, sv_asgX, rx_own, rx_ownX, sv_put, dNot_bl, true_and, and_true, if_true, if_false, ite_true, ite_false, Bool.false_eq_true, reduceIte, Bool.not_true, Bool.not_false, e1, e2', e3, (fdiv_gz (a := a) (z := a) hs hb).2, (fdiv_gz (a := a) (z := s) hs hb).2]
    unfold qZ
    rw [if_neg c]
theorem g_q_z {a s : Int} (hs : s ≠ 0) (hb : s.natAbs < 2 ^ 4000) : g__law_q [.int a, .int s] = some (.ok (qZ a s)) := by
  by_cases c : 0 < s
  · rw [qZ_pos c]
    exact g_q_eq c hb
  · rw [← mv_eq]
    unfold g__law_q m__law_q
    have e1 : dGt (.int s) (.int 0) = some (.bl false) := by
      show some (D.bl (decide (0 < s))) = _
      rw [decide_eq_false c]
    have n1 : dNeg (.int a) = some (.int (-a)) := rfl
    have n2 : dNeg (.int s) = some (.int (-s)) := rfl
    simp only [mv_runP, rv_runB, List.length_cons, List.length_nil, Nat.reduceAdd, Nat.reduceSub, Nat.zero_add, List.replicate_zero, List.replicate_one, rep2, rep3, rep4, rep5, rep6, rep7, rep8, rep9, List.append_nil, List.map_cons, List.map_nil, List.cons_append, List.nil_append, List.getElem?_cons_zero, List.getElem?_cons_succ, List.set_cons_succ, List.set_cons_zero, setE, wipeE, rv_ok, rv_er, od_some, mv_ok, mv_er, sv_some, bv_bl, iv_int, tv_str, lv_lst, outB_ret, outB_nxf, outB_exc, th_nx, th_ret, th_exc, th_brk, th_ct, ro_nx, ro_ret, ro_exc, ro_brk, ro_ct, rv_bind, rv_okE, rv_okL, rv_var, rv_c, rv_nil, rv_cons, rv_e1, rv_e2, rv_eN, rv_eMt, rv_eB, rv_and, rv_or, rv_if, rv_tup, rv_lst, rv_call, rv_callM, rv_it, rv_cut, rv_cutL, rv_pn, rv_ps, rv_chain, rv_M1, rv_range1, rv_zip, rv_zip3, sv_nil, sv_brk, sv_ct, sv_cons, sv_drop, sv_ret, sv_if, sv_asg, od_gN, sv_raise, sv_par, sv_for, sv_x, sv_asgX, rx_own, rx_ownX, sv_put, dNot_bl, true_and, and_true, if_true, if_false, ite_true, ite_false, Bool.false_eq_true, reduceIte, Bool.not_true, Bool.not_false, dAbs, abs_nat]
    refine gcd_loop _ _ _ s.natAbs a.natAbs ?_
    simp only [mv_runP, rv_runB, List.length_cons, List.length_nil, Nat.reduceAdd, Nat.reduceSub, Nat.zero_add, List.replicate_zero, List.replicate_one, rep2, rep3, rep4, rep5, rep6, rep7, rep8, rep9, List.append_nil, List.map_cons, List.map_nil, List.cons_append, List.nil_append, List.getElem?_cons_zero, List.getElem?_cons_succ, List.set_cons_succ, List.set_cons_zero, setE, wipeE, rv_ok, rv_er, od_some, mv_ok, mv_er, sv_some, bv_bl, iv_int, tv_str, lv_lst, outB_ret, outB_nxf, outB_exc, th_nx, th_ret, th_exc, th_brk, th_ct, ro_nx, ro_ret, ro_exc, ro_brk, ro_ct, rv_bind, rv_okE, rv_okL, rv_var, rv_c, rv_nil, rv_cons, rv_e1, rv_e2, rv_eN, rv_eMt, rv_eB, rv_and, rv_or, rv_if, rv_tup, rv_lst, rv_call, rv_callM, rv_it, rv_cut, rv_cutL, rv_pn, rv_ps, rv_chain, rv_M1, rv_range1, rv_zip, rv_zip3, sv_nil, sv_brk, sv_ct, sv_cons, sv_drop, sv_ret, sv_if, sv_asg, od_gN, sv_raise, sv_par, sv_for, sv_x, sv_asgX, rx_own, rx_ownX, sv_put, dNot_bl, true_and, and_true, if_true, if_false, ite_true, ite_false, Bool.false_eq_true, reduceIte, Bool.not_true, Bool.not_false, e1, n1, n2, (fdiv_gz (a := a) (z := -a) hs hb).1, (fdiv_gz (a := a) (z := -s) hs hb).1]
    unfold qZ
    rw [if_neg c]
/-- the law's own judge of ratios -/
theorem ones_sh (n : Nat) : shD 60 (.lst (List.replicate n (.int 1))) = true := by
  rw [shD]
  induction n with
  | zero => rfl
  | succ n ih =>
    rw [List.replicate_succ, shDs, ih]
    rfl
theorem dEq_pair {a b c d : Int} : dEq (.tup [.int a, .int b]) (.tup [.int c, .int d]) = some (.bl (decide (a = c) && decide (b = d))) := by
  show (if shD 60 (.tup [.int a, .int b]) && shD 60 (.tup [.int c, .int d]) then some (D.bl (PyData.eqv (toPy (.tup [.int a, .int b])) (toPy (.tup [.int c, .int d])))) else none) = _
  rw [if_pos (show (shD 60 (.tup [.int a, .int b]) && shD 60 (.tup [.int c, .int d])) = true from by simp [shD, shDs])]
  simp [toPy, toPys, PyData.eqv, PyData.eqvAll]
  by_cases c1 : a = c <;> by_cases c2 : b = d <;> simp [c1, c2]
theorem low_self {n d : Int} (hd : 0 < d) : (decide (n.fdiv ((Nat.gcd n.natAbs d.natAbs : Nat) : Int) = n) && decide (d.fdiv ((Nat.gcd n.natAbs d.natAbs : Nat) : Int) = d)) = decide (Nat.gcd n.natAbs d.natAbs = 1) := by
  by_cases c : Nat.gcd n.natAbs d.natAbs = 1
  · have e1 : n.fdiv ((1 : Nat) : Int) = n := Int.fdiv_one n
    have e2 : d.fdiv ((1 : Nat) : Int) = d := Int.fdiv_one d
    simp only [c, e1, e2, decide_true, Bool.and_self]
  · have hg : 0 < Nat.gcd n.natAbs d.natAbs := Nat.gcd_pos_of_pos_right _ (by omega)
    have hne : d.fdiv ((Nat.gcd n.natAbs d.natAbs : Nat) : Int) ≠ d := fun z => by
      obtain ⟨m, rfl⟩ := Int.eq_ofNat_of_zero_le (show 0 ≤ d by omega)
      rw [fdiv_nat] at z
      have z2 : m / Nat.gcd n.natAbs (m : Int).natAbs = m := by exact_mod_cast z
      have lt := Nat.div_lt_self (n := m) (k := Nat.gcd n.natAbs (m : Int).natAbs) (by omega) (by omega)
      omega
    rw [decide_eq_false hne, decide_eq_false c, Bool.and_false]
theorem g_law_is_ratio_eq {d : D} (h : TyD d) (hb : ∀ x y, d = .tup [.int x, .int y] → y.natAbs < 2 ^ 4000) : g__law_is_ratio [d] = some (.ok (.bl (isRatD d))) := by
  rw [← mv_eq]
  unfold g__law_is_ratio m__law_is_ratio
  have hi := isi_tup h.1
  simp only [mv_runP, rv_runB, List.length_cons, List.length_nil, Nat.reduceAdd, Nat.reduceSub, Nat.zero_add, List.replicate_zero, List.replicate_one, rep2, rep3, rep4, rep5, rep6, rep7, rep8, rep9, List.append_nil, List.map_cons, List.map_nil, List.cons_append, List.nil_append, List.getElem?_cons_zero, List.getElem?_cons_succ, List.set_cons_succ, List.set_cons_zero, setE, wipeE, rv_ok, rv_er, od_some, mv_ok, mv_er, sv_some, bv_bl, iv_int, tv_str, lv_lst, outB_ret, outB_nxf, outB_exc, th_nx, th_ret, th_exc, th_brk, th_ct, ro_nx, ro_ret, ro_exc, ro_brk, ro_ct, rv_bind, rv_okE, rv_okL, rv_var, rv_c, rv_nil, rv_cons, rv_e1, rv_e2, rv_eN, rv_eMt, rv_eB, rv_and, rv_or, rv_if, rv_tup, rv_lst, rv_call, rv_callM, rv_it, rv_cut, rv_cutL, rv_pn, rv_ps, rv_chain, rv_M1, rv_range1, rv_zip, rv_zip3, sv_nil, sv_brk, sv_ct, sv_cons, sv_drop, sv_ret, sv_if, sv_asg, od_gN, sv_raise, sv_par, sv_for, sv_x, sv_asgX, rx_own, rx_ownX, sv_put, dNot_bl, true_and, and_true, if_true, if_false, ite_true, ite_false, Bool.false_eq_true, reduceIte, Bool.not_true, Bool.not_false, hi]
  cases d with
  | tup l =>
    have e : dNe (.int (l.length : Int)) (.int 2) = some (.bl (!decide (l.length = 2))) := dNe_len
    obtain ⟨ht, hl⟩ := h.2 l (.inl rfl)
    have em : ∀ ρ : Env, compL (gN 1) (eOr (e1 dNot (eB (eN dIsi (fCons (eVar 1) (fCons (eC (.ty "int")) fNil))))) (eB (eN dIsi (fCons (eVar 1) (fCons (eC (.ty "bool")) fNil))))) (eC (.int 1)) l () (some (.tup l) :: none :: ρ) =
        some (.ok ((l.filter fun d => !isWhD d).map fun _ => .int 1, ())) := fun ρ => comp_map _ _ _ fun d hd => by
      refine ⟨_, rfl, ?_, fun _ => rfl⟩
      rw [← rv_eq]
      simp only [mv_runP, rv_runB, List.length_cons, List.length_nil, Nat.reduceAdd, Nat.reduceSub, Nat.zero_add, List.replicate_zero, List.replicate_one, rep2, rep3, rep4, rep5, rep6, rep7, rep8, rep9, List.append_nil, List.map_cons, List.map_nil, List.cons_append, List.nil_append, List.getElem?_cons_zero, List.getElem?_cons_succ, List.set_cons_succ, List.set_cons_zero, setE, wipeE, rv_ok, rv_er, od_some, mv_ok, mv_er, sv_some, bv_bl, iv_int, tv_str, lv_lst, outB_ret, outB_nxf, outB_exc, th_nx, th_ret, th_exc, th_brk, th_ct, ro_nx, ro_ret, ro_exc, ro_brk, ro_ct, rv_bind, rv_okE, rv_okL, rv_var, rv_c, rv_nil, rv_cons, rv_e1, rv_e2, rv_eN, rv_eMt, rv_eB, rv_and, rv_or, rv_if, rv_tup, rv_lst, rv_call, rv_callM, rv_it, rv_cut, rv_cutL, rv_pn, rv_ps, rv_chain, rv_M1, rv_range1, rv_zip, rv_zip3, sv_nil, sv_brk, sv_ct, sv_cons, sv_drop, sv_ret, sv_if, sv_asg, od_gN, sv_raise, sv_par, sv_for, sv_x, sv_asgX, rx_own, rx_ownX, sv_put, dNot_bl, true_and, and_true, if_true, if_false, ite_true, ite_false, Bool.false_eq_true, reduceIte, Bool.not_true, Bool.not_false, isi_int (ht d hd), isi_bl (ht d hd)]
      cases d <;> simp [kInt, kBl, isWhD]
    have hlen : ((l.filter fun d => !isWhD d).map fun _ => D.int 1).length < 16000000 := by
      rw [List.length_map]
      have := List.length_filter_le (fun d => !isWhD d) l
      omega
    have hone : ((l.filter fun d => !isWhD d).map fun _ => D.int 1) = List.replicate (l.filter fun d => !isWhD d).length (.int 1) := List.map_const'
    have hne : dNe (.lst ((l.filter fun d => !isWhD d).map fun _ => D.int 1)) (.lst []) = some (.bl (!((l.filter fun d => !isWhD d).map fun _ => D.int 1).isEmpty)) := dNe_nil (by rw [hone]; exact ones_sh _)
    simp only [mv_runP, rv_runB, List.length_cons, List.length_nil, Nat.reduceAdd, Nat.reduceSub, Nat.zero_add, List.replicate_zero, List.replicate_one, rep2, rep3, rep4, rep5, rep6, rep7, rep8, rep9, List.append_nil, List.map_cons, List.map_nil, List.cons_append, List.nil_append, List.getElem?_cons_zero, List.getElem?_cons_succ, List.set_cons_succ, List.set_cons_zero, setE, wipeE, rv_ok, rv_er, od_some, mv_ok, mv_er, sv_some, bv_bl, iv_int, tv_str, lv_lst, outB_ret, outB_nxf, outB_exc, th_nx, th_ret, th_exc, th_brk, th_ct, ro_nx, ro_ret, ro_exc, ro_brk, ro_ct, rv_bind, rv_okE, rv_okL, rv_var, rv_c, rv_nil, rv_cons, rv_e1, rv_e2, rv_eN, rv_eMt, rv_eB, rv_and, rv_or, rv_if, rv_tup, rv_lst, rv_call, rv_callM, rv_it, rv_cut, rv_cutL, rv_pn, rv_ps, rv_chain, rv_M1, rv_range1, rv_zip, rv_zip3, sv_nil, sv_brk, sv_ct, sv_cons, sv_drop, sv_ret, sv_if, sv_asg, od_gN, sv_raise, sv_par, sv_for, sv_x, sv_asgX, rx_own, rx_ownX, sv_put, dNot_bl, true_and, and_true, if_true, if_false, ite_true, ite_false, Bool.false_eq_true, reduceIte, Bool.not_true, Bool.not_false, kTup, dLen, e]
    by_cases c : l.length = 2
    · obtain ⟨x, y, rfl⟩ := len2 c
      simp only [mv_runP, rv_runB, List.length_cons, List.length_nil, Nat.reduceAdd, Nat.reduceSub, Nat.zero_add, List.replicate_zero, List.replicate_one, rep2, rep3, rep4, rep5, rep6, rep7, rep8, rep9, List.append_nil, List.map_cons, List.map_nil, List.cons_append, List.nil_append, List.getElem?_cons_zero, List.getElem?_cons_succ, List.set_cons_succ, List.set_cons_zero, setE, wipeE, rv_ok, rv_er, od_some, mv_ok, mv_er, sv_some, bv_bl, iv_int, tv_str, lv_lst, outB_ret, outB_nxf, outB_exc, th_nx, th_ret, th_exc, th_brk, th_ct, ro_nx, ro_ret, ro_exc, ro_brk, ro_ct, rv_bind, rv_okE, rv_okL, rv_var, rv_c, rv_nil, rv_cons, rv_e1, rv_e2, rv_eN, rv_eMt, rv_eB, rv_and, rv_or, rv_if, rv_tup, rv_lst, rv_call, rv_callM, rv_it, rv_cut, rv_cutL, rv_pn, rv_ps, rv_chain, rv_M1, rv_range1, rv_zip, rv_zip3, sv_nil, sv_brk, sv_ct, sv_cons, sv_drop, sv_ret, sv_if, sv_asg, od_gN, sv_raise, sv_par, sv_for, sv_x, sv_asgX, rx_own, rx_ownX, sv_put, dNot_bl, true_and, and_true, if_true, if_false, ite_true, ite_false, Bool.false_eq_true, reduceIte, Bool.not_true, Bool.not_false, decide_eq_true c, rv_comp, itemsOf, em, hne, idx0, idx1]
      refine ⟨hlen, ?_⟩
      cases x with
      | int n =>
        cases y with
        | int d =>
          have e2' : dGt (.int d) (.int 0) = some (.bl (decide (0 < d))) := rfl
          simp only [List.filter_cons, isWhD, Bool.not_true, Bool.false_eq_true, if_false, List.filter_nil, List.map_nil, List.isEmpty_nil]
          simp only [mv_runP, rv_runB, List.length_cons, List.length_nil, Nat.reduceAdd, Nat.reduceSub, Nat.zero_add, List.replicate_zero, List.replicate_one, rep2, rep3, rep4, rep5, rep6, rep7, rep8, rep9, List.append_nil, List.map_cons, List.map_nil, List.cons_append, List.nil_append, List.getElem?_cons_zero, List.getElem?_cons_succ, List.set_cons_succ, List.set_cons_zero, setE, wipeE, rv_ok, rv_er, od_some, mv_ok, mv_er, sv_some, bv_bl, iv_int, tv_str, lv_lst, outB_ret, outB_nxf, outB_exc, th_nx, th_ret, th_exc, th_brk, th_ct, ro_nx, ro_ret, ro_exc, ro_brk, ro_ct, rv_bind, rv_okE, rv_okL, rv_var, rv_c, rv_nil, rv_cons, rv_e1, rv_e2, rv_eN, rv_eMt, rv_eB, rv_and, rv_or, rv_if, rv_tup, rv_lst, rv_call, rv_callM, rv_it, rv_cut, rv_cutL, rv_pn, rv_ps, rv_chain, rv_M1, rv_range1, rv_zip, rv_zip3, sv_nil, sv_brk, sv_ct, sv_cons, sv_drop, sv_ret, sv_if, sv_asg, od_gN, sv_raise, sv_par, sv_for, sv_x, sv_asgX, rx_own, rx_ownX, sv_put, dNot_bl, true_and, and_true, if_true, if_false, ite_true, ite_false, Bool.false_eq_true, reduceIte, Bool.not_true, Bool.not_false, e2']
          by_cases c2 : 0 < d
          · rw [decide_eq_true c2]
            simp only [mv_runP, rv_runB, List.length_cons, List.length_nil, Nat.reduceAdd, Nat.reduceSub, Nat.zero_add, List.replicate_zero, List.replicate_one, rep2, rep3, rep4, rep5, rep6, rep7, rep8, rep9, List.append_nil, List.map_cons, List.map_nil, List.cons_append, List.nil_append, List.getElem?_cons_zero, List.getElem?_cons_succ, List.set_cons_succ, List.set_cons_zero, setE, wipeE, rv_ok, rv_er, od_some, mv_ok, mv_er, sv_some, bv_bl, iv_int, tv_str, lv_lst, outB_ret, outB_nxf, outB_exc, th_nx, th_ret, th_exc, th_brk, th_ct, ro_nx, ro_ret, ro_exc, ro_brk, ro_ct, rv_bind, rv_okE, rv_okL, rv_var, rv_c, rv_nil, rv_cons, rv_e1, rv_e2, rv_eN, rv_eMt, rv_eB, rv_and, rv_or, rv_if, rv_tup, rv_lst, rv_call, rv_callM, rv_it, rv_cut, rv_cutL, rv_pn, rv_ps, rv_chain, rv_M1, rv_range1, rv_zip, rv_zip3, sv_nil, sv_brk, sv_ct, sv_cons, sv_drop, sv_ret, sv_if, sv_asg, od_gN, sv_raise, sv_par, sv_for, sv_x, sv_asgX, rx_own, rx_ownX, sv_put, dNot_bl, true_and, and_true, if_true, if_false, ite_true, ite_false, Bool.false_eq_true, reduceIte, Bool.not_true, Bool.not_false, g_q_eq c2 (hb n d rfl)]
            unfold qR
            rw [dEq_pair, low_self c2, od_some]
            simp [isRatD, c2]
          · rw [decide_eq_false c2]
            simp [isRatD, c2]
        | _ => simp [isWhD, isRatD]
      | _ => cases y <;> simp [isWhD, isRatD]
    · rw [decide_eq_false c]
      simp only [mv_runP, rv_runB, List.length_cons, List.length_nil, Nat.reduceAdd, Nat.reduceSub, Nat.zero_add, List.replicate_zero, List.replicate_one, rep2, rep3, rep4, rep5, rep6, rep7, rep8, rep9, List.append_nil, List.map_cons, List.map_nil, List.cons_append, List.nil_append, List.getElem?_cons_zero, List.getElem?_cons_succ, List.set_cons_succ, List.set_cons_zero, setE, wipeE, rv_ok, rv_er, od_some, mv_ok, mv_er, sv_some, bv_bl, iv_int, tv_str, lv_lst, outB_ret, outB_nxf, outB_exc, th_nx, th_ret, th_exc, th_brk, th_ct, ro_nx, ro_ret, ro_exc, ro_brk, ro_ct, rv_bind, rv_okE, rv_okL, rv_var, rv_c, rv_nil, rv_cons, rv_e1, rv_e2, rv_eN, rv_eMt, rv_eB, rv_and, rv_or, rv_if, rv_tup, rv_lst, rv_call, rv_callM, rv_it, rv_cut, rv_cutL, rv_pn, rv_ps, rv_chain, rv_M1, rv_range1, rv_zip, rv_zip3, sv_nil, sv_brk, sv_ct, sv_cons, sv_drop, sv_ret, sv_if, sv_asg, od_gN, sv_raise, sv_par, sv_for, sv_x, sv_asgX, rx_own, rx_ownX, sv_put, dNot_bl, true_and, and_true, if_true, if_false, ite_true, ite_false, Bool.false_eq_true, reduceIte, Bool.not_true, Bool.not_false]
      have : isRatD (.tup l) = false := by
        unfold isRatD
        split
        · rename_i z
          cases z
          exact absurd rfl c
        · rfl
      rw [this]
  | _ => simp only [mv_runP, rv_runB, List.length_cons, List.length_nil, Nat.reduceAdd, Nat.reduceSub, Nat.zero_add, List.replicate_zero, List.replicate_one, rep2, rep3, rep4, rep5, rep6, rep7, rep8, rep9, List.append_nil, List.map_cons, List.map_nil, List.cons_append, List.nil_append, List.getElem?_cons_zero, List.getElem?_cons_succ, List.set_cons_succ, List.set_cons_zero, setE, wipeE, rv_ok, rv_er, od_some, mv_ok, mv_er, sv_some, bv_bl, iv_int, tv_str, lv_lst, outB_ret, outB_nxf, outB_exc, th_nx, th_ret, th_exc, th_brk, th_ct, ro_nx, ro_ret, ro_exc, ro_brk, ro_ct, rv_bind, rv_okE, rv_okL, rv_var, rv_c, rv_nil, rv_cons, rv_e1, rv_e2, rv_eN, rv_eMt, rv_eB, rv_and, rv_or, rv_if, rv_tup, rv_lst, rv_call, rv_callM, rv_it, rv_cut, rv_cutL, rv_pn, rv_ps, rv_chain, rv_M1, rv_range1, rv_zip, rv_zip3, sv_nil, sv_brk, sv_ct, sv_cons, sv_drop, sv_ret, sv_if, sv_asg, od_gN, sv_raise, sv_par, sv_for, sv_x, sv_asgX, rx_own, rx_ownX, sv_put, dNot_bl, true_and, and_true, if_true, if_false, ite_true, ite_false, Bool.false_eq_true, reduceIte, Bool.not_true, Bool.not_false, kTup, isRatD]
end DL
end
noncomputable section
namespace DL
open L2 PySem PyProof.Rows PySem.Spec

/-! ### sums of ratios -/
theorem low_props {a s : Int} (hs : 0 < s) : ∃ k m : Int, qR a s = .tup [.int k, .int m] ∧ 0 < m ∧ k.natAbs ≤ a.natAbs ∧ m.natAbs ≤ s.natAbs ∧ Nat.gcd k.natAbs m.natAbs = 1 := by
  have hg : 0 < Nat.gcd a.natAbs s.natAbs := gcd_pos hs
  have hg0 : ((Nat.gcd a.natAbs s.natAbs : Nat) : Int) ≠ 0 := by omega
  obtain ⟨k, hk⟩ : ((Nat.gcd a.natAbs s.natAbs : Nat) : Int) ∣ a := Int.ofNat_dvd_left.mpr (Nat.gcd_dvd_left _ _)
  obtain ⟨m, hm⟩ : ((Nat.gcd a.natAbs s.natAbs : Nat) : Int) ∣ s := Int.ofNat_dvd_left.mpr (Nat.gcd_dvd_right _ _)
  have ea : a.fdiv ((Nat.gcd a.natAbs s.natAbs : Nat) : Int) = k := by
    conv => lhs; arg 1; rw [hk]
    exact Int.mul_fdiv_cancel_left _ hg0
  have es : s.fdiv ((Nat.gcd a.natAbs s.natAbs : Nat) : Int) = m := by
    conv => lhs; arg 1; rw [hm]
    exact Int.mul_fdiv_cancel_left _ hg0
  have na : a.natAbs = Nat.gcd a.natAbs s.natAbs * k.natAbs := by
    have := congrArg Int.natAbs hk
    rw [Int.natAbs_mul, Int.natAbs_natCast] at this
    exact this
  have ns : s.natAbs = Nat.gcd a.natAbs s.natAbs * m.natAbs := by
    have := congrArg Int.natAbs hm
    rw [Int.natAbs_mul, Int.natAbs_natCast] at this
    exact this
  refine ⟨k, m, by unfold qR; rw [ea, es], ?_, ?_, ?_, ?_⟩
  · rcases Int.lt_trichotomy m 0 with h | h | h
    · have := Int.mul_neg_of_pos_of_neg (show (0 : Int) < ((Nat.gcd a.natAbs s.natAbs : Nat) : Int) by omega) h
      omega
    · rw [h, Int.mul_zero] at hm
      omega
    · exact h
  · conv => rhs; rw [na]
    exact Nat.le_mul_of_pos_left _ hg
  · conv => rhs; rw [ns]
    exact Nat.le_mul_of_pos_left _ hg
  · have z : Nat.gcd a.natAbs s.natAbs * Nat.gcd k.natAbs m.natAbs = Nat.gcd a.natAbs s.natAbs * 1 := by
      rw [← Nat.gcd_mul_left, ← na, ← ns, Nat.mul_one]
    exact Nat.eq_of_mul_eq_mul_left hg z
/-- a ratio in lowest terms, its parts below 2 ^ b -/
def RatB (b : Nat) (d : D) : Prop := ∃ k m : Int, d = .tup [.int k, .int m] ∧ 0 < m ∧ k.natAbs < 2 ^ b ∧ m.natAbs < 2 ^ b ∧ Nat.gcd k.natAbs m.natAbs = 1
theorem RatB.up {a b : Nat} {d : D} (h : RatB a d) (hl : a ≤ b) : RatB b d := by
  obtain ⟨k, m, e, h1, h2, h3, h4⟩ := h
  have := Nat.pow_le_pow_right (show 0 < 2 by decide) hl
  exact ⟨k, m, e, h1, by omega, by omega, h4⟩
theorem qR_rat {b : Nat} {a s : Int} (hs : 0 < s) (h1 : a.natAbs < 2 ^ b) (h2 : s.natAbs < 2 ^ b) : RatB b (qR a s) := by
  obtain ⟨k, m, e, q1, q2, q3, q4⟩ := low_props (a := a) hs
  exact ⟨k, m, e, q1, by omega, by omega, q4⟩
theorem RatB.is {b : Nat} {d : D} (h : RatB b d) : isRatD d = true := by
  obtain ⟨k, m, rfl, h1, _, _, h4⟩ := h
  simp [isRatD, h1, h4]
theorem RatB.ty {b : Nat} {d : D} (h : RatB b d) : TyD d := by
  obtain ⟨k, m, rfl, h1, _, _, h4⟩ := h
  refine ⟨rfl, fun l e => ?_⟩
  rcases e with e | e
  · cases e
    exact ⟨fun x hx => by
      rcases List.mem_cons.mp hx with rfl | hx
      · rfl
      · rw [List.mem_singleton.mp hx]; rfl, by simp⟩
  · cases e
def plusV : D → D → D
  | .tup [.int n1, .int d1], .tup [.int n2, .int d2] => qR (n1 * d2 + n2 * d1) (d1 * d2)
  | _, _ => .non
theorem pow_lt4 {b : Nat} {n : Nat} (h : n < 2 ^ b) (hb : b ≤ 4000) : n < 2 ^ 4000 := Nat.lt_of_lt_of_le h (Nat.pow_le_pow_right (by decide) hb)
theorem mul_lt_pow {x y : Int} {a b : Nat} (hx : x.natAbs < 2 ^ a) (hy : y.natAbs < 2 ^ b) : (x * y).natAbs < 2 ^ (a + b) := by
  rw [Int.natAbs_mul, Nat.pow_add]
  exact Nat.mul_lt_mul_of_lt_of_lt hx hy
theorem plus_b {a b : Nat} {x y : D} (hx : RatB a x) (hy : RatB b y) (hab : a + b + 1 ≤ 4000) : g_plus [x, y] = some (.ok (plusV x y)) ∧ g__law_plus [x, y] = some (.ok (plusV x y)) ∧ RatB (a + b + 1) (plusV x y) := by
  obtain ⟨n1, d1, rfl, p1, u1, v1, _⟩ := hx
  obtain ⟨n2, d2, rfl, p2, u2, v2, _⟩ := hy
  have hd : 0 < d1 * d2 := Int.mul_pos p1 p2
  have b1 := mul_lt_pow u1 v2
  have b2 := mul_lt_pow u2 v1
  have b3 := mul_lt_pow v1 v2
  rw [Nat.add_comm b a] at b2
  have hn : (n1 * d2 + n2 * d1).natAbs < 2 ^ (a + b + 1) := by
    have := Int.natAbs_add_le (n1 * d2) (n2 * d1)
    rw [Nat.pow_succ]
    omega
  have hden : (d1 * d2).natAbs < 2 ^ (a + b + 1) := by
    rw [Nat.pow_succ]
    omega
  have m1 : dMul (.int n1) (.int d2) = some (.int (n1 * d2)) := dMul_int (pow_lt4 u1 (by omega)) (pow_lt4 v2 (by omega))
  have m2 : dMul (.int n2) (.int d1) = some (.int (n2 * d1)) := dMul_int (pow_lt4 u2 (by omega)) (pow_lt4 v1 (by omega))
  have m3 : dMul (.int d1) (.int d2) = some (.int (d1 * d2)) := dMul_int (pow_lt4 v1 (by omega)) (pow_lt4 v2 (by omega))
  have m4 : dAdd (.int (n1 * d2)) (.int (n2 * d1)) = some (.int (n1 * d2 + n2 * d1)) := rfl
  refine ⟨?_, ?_, qR_rat hd hn hden⟩
  · rw [← mv_eq]
    unfold g_plus m_plus
    simp only [mv_runP, rv_runB, List.length_cons, List.length_nil, Nat.reduceAdd, Nat.reduceSub, Nat.zero_add, List.replicate_zero, List.replicate_one, rep2, rep3, rep4, rep5, rep6, rep7, rep8, rep9, List.append_nil, List.map_cons, List.map_nil, List.cons_append, List.nil_append, List.getElem?_cons_zero, List.getElem?_cons_succ, List.set_cons_succ, List.set_cons_zero, setE, wipeE, rv_ok, rv_er, od_some, mv_ok, mv_er, sv_some, bv_bl, iv_int, tv_str, lv_lst, outB_ret, outB_nxf, outB_exc, th_nx, th_ret, th_exc, th_brk, th_ct, ro_nx, ro_ret, ro_exc, ro_brk, ro_ct, rv_bind, rv_okE, rv_okL, rv_var, rv_c, rv_nil, rv_cons, rv_e1, rv_e2, rv_eN, rv_eMt, rv_eB, rv_and, rv_or, rv_if, rv_tup, rv_lst, rv_call, rv_callM, rv_it, rv_cut, rv_cutL, rv_pn, rv_ps, rv_chain, rv_M1, rv_range1, rv_zip, rv_zip3, sv_nil, sv_brk, sv_ct, sv_cons, sv_drop, sv_ret, sv_if, sv_asg, od_gN, sv_raise, sv_par, sv_for, sv_x, sv_asgX, rx_own, rx_ownX, sv_put, dNot_bl, true_and, and_true, if_true, if_false, ite_true, ite_false, Bool.false_eq_true, reduceIte, Bool.not_true, Bool.not_false, idx0, idx1, m1, m2, m3, m4, g_lowest_eq hd (pow_lt4 hden hab)]
    rfl
  · rw [← mv_eq]
    unfold g__law_plus m__law_plus
    simp only [mv_runP, rv_runB, List.length_cons, List.length_nil, Nat.reduceAdd, Nat.reduceSub, Nat.zero_add, List.replicate_zero, List.replicate_one, rep2, rep3, rep4, rep5, rep6, rep7, rep8, rep9, List.append_nil, List.map_cons, List.map_nil, List.cons_append, List.nil_append, List.getElem?_cons_zero, List.getElem?_cons_succ, List.set_cons_succ, List.set_cons_zero, setE, wipeE, rv_ok, rv_er, od_some, mv_ok, mv_er, sv_some, bv_bl, iv_int, tv_str, lv_lst, outB_ret, outB_nxf, outB_exc, th_nx, th_ret, th_exc, th_brk, th_ct, ro_nx, ro_ret, ro_exc, ro_brk, ro_ct, rv_bind, rv_okE, rv_okL, rv_var, rv_c, rv_nil, rv_cons, rv_e1, rv_e2, rv_eN, rv_eMt, rv_eB, rv_and, rv_or, rv_if, rv_tup, rv_lst, rv_call, rv_callM, rv_it, rv_cut, rv_cutL, rv_pn, rv_ps, rv_chain, rv_M1, rv_range1, rv_zip, rv_zip3, sv_nil, sv_brk, sv_ct, sv_cons, sv_drop, sv_ret, sv_if, sv_asg, od_gN, sv_raise, sv_par, sv_for, sv_x, sv_asgX, rx_own, rx_ownX, sv_put, dNot_bl, true_and, and_true, if_true, if_false, ite_true, ite_false, Bool.false_eq_true, reduceIte, Bool.not_true, Bool.not_false, idx0, idx1, m1, m2, m3, m4, g_q_eq hd (pow_lt4 hden hab)]
    rfl
def zeroD : D := .tup [.int 0, .int 1]
theorem zero_rat : RatB 1 zeroD := ⟨0, 1, rfl, by decide, by decide, by decide, by decide⟩
def sumV (l : List D) : D := l.foldl plusV zeroD
theorem total_loop {v : D} {l : List D} {b0 : Nat} (QS : Out Unit → Prop) (te : Fs Unit) (hte : ∀ (acc d : D) (x : D) (a : Nat), RatB a acc → RatB b0 d → a + b0 + 1 ≤ 4000 → te () [some v, some acc, some d] = some (.nx () [some v, some (plusV acc d), some d]))
    (hQ : ∀ x2, QS (.nx () [some v, some (sumV l), x2])) (hl : ∀ d ∈ l, RatB b0 d) (hb : 1 + (b0 + 1) * l.length ≤ 4000) : Sv (forL (gN 2) te l () [some v, some zeroD, none]) QS := by
  refine sv_forI (fun ds w ρ => ∃ (acc : D) (x2 : Option D) (a : Nat), ρ = [some v, some acc, x2] ∧ RatB a acc ∧ a + (b0 + 1) * ds.length ≤ 4000 ∧ (∀ d ∈ ds, RatB b0 d) ∧ ds.foldl plusV acc = sumV l) ?_ ?_ l () _ ⟨zeroD, none, 1, rfl, zero_rat, hb, hl, rfl⟩
  · rintro d ds w ρ ⟨acc, x2, a, rfl, h1, h2, h3, h4⟩
    rw [List.length_cons, Nat.mul_succ] at h2
    have hd := h3 d List.mem_cons_self
    have st := hte acc d d a h1 hd (by omega)
    rw [od_gN]
    simp only [List.set_cons_succ, List.set_cons_zero]
    show Sv (te () _) _
    rw [st, sv_some, ro_nx]
    have hb2 := a + b0 + 1
    exact ⟨plusV acc d, _, a + b0 + 1, rfl, (show RatB (a + b0 + 1) (plusV acc d) from (plus_b h1 hd (by omega)).2.2), by omega, fun y hy => h3 y (List.mem_cons_of_mem _ hy), h4⟩
  · rintro w ρ ⟨acc, x2, a, rfl, h1, h2, h3, h4⟩
    have h4 : acc = sumV l := h4
    rw [h4]
    exact hQ x2
theorem sumV_rat {b0 : Nat} {l : List D} (hl : ∀ d ∈ l, RatB b0 d) (hb : 1 + (b0 + 1) * l.length ≤ 4000) : ∃ b, b ≤ 4000 ∧ RatB b (sumV l) := by
  have key : ∀ (ds : List D) (acc : D) (a : Nat), RatB a acc → (∀ d ∈ ds, RatB b0 d) → a + (b0 + 1) * ds.length ≤ 4000 → ∃ b, b ≤ 4000 ∧ RatB b (ds.foldl plusV acc) := by
    intro ds
    induction ds with
    | nil => exact fun acc a h1 _ h3 => ⟨a, by omega, h1⟩
    | cons d ds ih =>
      intro acc a h1 h2 h3
      rw [List.length_cons, Nat.mul_succ] at h3
      exact ih (plusV acc d) (a + b0 + 1) (plus_b h1 (h2 d List.mem_cons_self) (by omega)).2.2 (fun y hy => h2 y (List.mem_cons_of_mem _ hy)) (by omega)
  exact key l zeroD 1 zero_rat hl hb
theorem g_total_eq {v : D} {l : List D} {b0 : Nat} (hv : itemsOf v = some l) (hl : ∀ d ∈ l, RatB b0 d) (hb : 1 + (b0 + 1) * l.length ≤ 4000) : g_total [v] = some (.ok (sumV l)) := by
  rw [← mv_eq]
  unfold g_total m_total
  simp only [mv_runP, rv_runB, List.length_cons, List.length_nil, Nat.reduceAdd, Nat.reduceSub, Nat.zero_add, List.replicate_zero, List.replicate_one, rep2, rep3, rep4, rep5, rep6, rep7, rep8, rep9, List.append_nil, List.map_cons, List.map_nil, List.cons_append, List.nil_append, List.getElem?_cons_zero, List.getElem?_cons_succ, List.set_cons_succ, List.set_cons_zero, setE, wipeE, rv_ok, rv_er, od_some, mv_ok, mv_er, sv_some, bv_bl, iv_int, tv_str, lv_lst, outB_ret, outB_nxf, outB_exc, th_nx, th_ret, th_exc, th_brk, th_ct, ro_nx, ro_ret, ro_exc, ro_brk, ro_ct, rv_bind, rv_okE, rv_okL, rv_var, rv_c, rv_nil, rv_cons, rv_e1, rv_e2, rv_eN, rv_eMt, rv_eB, rv_and, rv_or, rv_if, rv_tup, rv_lst, rv_call, rv_callM, rv_it, rv_cut, rv_cutL, rv_pn, rv_ps, rv_chain, rv_M1, rv_range1, rv_zip, rv_zip3, sv_nil, sv_brk, sv_ct, sv_cons, sv_drop, sv_ret, sv_if, sv_asg, od_gN, sv_raise, sv_par, sv_for, sv_x, sv_asgX, rx_own, rx_ownX, sv_put, dNot_bl, true_and, and_true, if_true, if_false, ite_true, ite_false, Bool.false_eq_true, reduceIte, Bool.not_true, Bool.not_false, hv]
  refine total_loop (b0 := b0) _ _ (fun acc d x a h1 h2 h3 => ?_) (fun x2 => ?_) hl hb
  · simp only [sAsg, seqE, eCall, bindE, fCons, fNil, eVar, List.getElem?_cons_zero, List.getElem?_cons_succ, (plus_b h1 h2 h3).1, gN, List.set_cons_succ, List.set_cons_zero]
  · simp only [mv_runP, rv_runB, List.length_cons, List.length_nil, Nat.reduceAdd, Nat.reduceSub, Nat.zero_add, List.replicate_zero, List.replicate_one, rep2, rep3, rep4, rep5, rep6, rep7, rep8, rep9, List.append_nil, List.map_cons, List.map_nil, List.cons_append, List.nil_append, List.getElem?_cons_zero, List.getElem?_cons_succ, List.set_cons_succ, List.set_cons_zero, setE, wipeE, rv_ok, rv_er, od_some, mv_ok, mv_er, sv_some, bv_bl, iv_int, tv_str, lv_lst, outB_ret, outB_nxf, outB_exc, th_nx, th_ret, th_exc, th_brk, th_ct, ro_nx, ro_ret, ro_exc, ro_brk, ro_ct, rv_bind, rv_okE, rv_okL, rv_var, rv_c, rv_nil, rv_cons, rv_e1, rv_e2, rv_eN, rv_eMt, rv_eB, rv_and, rv_or, rv_if, rv_tup, rv_lst, rv_call, rv_callM, rv_it, rv_cut, rv_cutL, rv_pn, rv_ps, rv_chain, rv_M1, rv_range1, rv_zip, rv_zip3, sv_nil, sv_brk, sv_ct, sv_cons, sv_drop, sv_ret, sv_if, sv_asg, od_gN, sv_raise, sv_par, sv_for, sv_x, sv_asgX, rx_own, rx_ownX, sv_put, dNot_bl, true_and, and_true, if_true, if_false, ite_true, ite_false, Bool.false_eq_true, reduceIte, Bool.not_true, Bool.not_false]
theorem g_law_sum_eq {v : D} {l : List D} {b0 : Nat} (hv : itemsOf v = some l) (hl : ∀ d ∈ l, RatB b0 d) (hb : 1 + (b0 + 1) * l.length ≤ 4000) : g__law_sum [v] = some (.ok (sumV l)) := by
  rw [← mv_eq]
  unfold g__law_sum m__law_sum
  simp only [mv_runP, rv_runB, List.length_cons, List.length_nil, Nat.reduceAdd, Nat.reduceSub, Nat.zero_add, List.replicate_zero, List.replicate_one, rep2, rep3, rep4, rep5, rep6, rep7, rep8, rep9, List.append_nil, List.map_cons, List.map_nil, List.cons_append, List.nil_append, List.getElem?_cons_zero, List.getElem?_cons_succ, List.set_cons_succ, List.set_cons_zero, setE, wipeE, rv_ok, rv_er, od_some, mv_ok, mv_er, sv_some, bv_bl, iv_int, tv_str, lv_lst, outB_ret, outB_nxf, outB_exc, th_nx, th_ret, th_exc, th_brk, th_ct, ro_nx, ro_ret, ro_exc, ro_brk, ro_ct, rv_bind, rv_okE, rv_okL, rv_var, rv_c, rv_nil, rv_cons, rv_e1, rv_e2, rv_eN, rv_eMt, rv_eB, rv_and, rv_or, rv_if, rv_tup, rv_lst, rv_call, rv_callM, rv_it, rv_cut, rv_cutL, rv_pn, rv_ps, rv_chain, rv_M1, rv_range1, rv_zip, rv_zip3, sv_nil, sv_brk, sv_ct, sv_cons, sv_drop, sv_ret, sv_if, sv_asg, od_gN, sv_raise, sv_par, sv_for, sv_x, sv_asgX, rx_own, rx_ownX, sv_put, dNot_bl, true_and, and_true, if_true, if_false, ite_true, ite_false, Bool.false_eq_true, reduceIte, Bool.not_true, Bool.not_false, hv]
  refine total_loop (b0 := b0) _ _ (fun acc d x a h1 h2 h3 => ?_) (fun x2 => ?_) hl hb
  · simp only [sAsg, seqE, eCall, bindE, fCons, fNil, eVar, List.getElem?_cons_zero, List.getElem?_cons_succ, (plus_b h1 h2 h3).2.1, gN, List.set_cons_succ, List.set_cons_zero]
  · simp only [mv_runP, rv_runB, List.length_cons, List.length_nil, Nat.reduceAdd, Nat.reduceSub, Nat.zero_add, List.replicate_zero, List.replicate_one, rep2, rep3, rep4, rep5, rep6, rep7, rep8, rep9, List.append_nil, List.map_cons, List.map_nil, List.cons_append, List.nil_append, List.getElem?_cons_zero, List.getElem?_cons_succ, List.set_cons_succ, List.set_cons_zero, setE, wipeE, rv_ok, rv_er, od_some, mv_ok, mv_er, sv_some, bv_bl, iv_int, tv_str, lv_lst, outB_ret, outB_nxf, outB_exc, th_nx, th_ret, th_exc, th_brk, th_ct, ro_nx, ro_ret, ro_exc, ro_brk, ro_ct, rv_bind, rv_okE, rv_okL, rv_var, rv_c, rv_nil, rv_cons, rv_e1, rv_e2, rv_eN, rv_eMt, rv_eB, rv_and, rv_or, rv_if, rv_tup, rv_lst, rv_call, rv_callM, rv_it, rv_cut, rv_cutL, rv_pn, rv_ps, rv_chain, rv_M1, rv_range1, rv_zip, rv_zip3, sv_nil, sv_brk, sv_ct, sv_cons, sv_drop, sv_ret, sv_if, sv_asg, od_gN, sv_raise, sv_par, sv_for, sv_x, sv_asgX, rx_own, rx_ownX, sv_put, dNot_bl, true_and, and_true, if_true, if_false, ite_true, ite_false, Bool.false_eq_true, reduceIte, Bool.not_true, Bool.not_false]
theorem comp_rat {l : List D} (h : ∀ d ∈ l, TyD d) (x0 x1 : Option D) (ρ : Env) : compL (A := Unit) (gN 1) (eC (.bl true)) (eCall g_is_ratio (fCons (eVar 1) fNil)) l () (x0 :: x1 :: ρ) = some (.ok (l.map fun d => .bl (isRatD d), ())) := comp_all _ _ fun d hd => by
  refine ⟨_, rfl, ?_⟩
  rw [← rv_eq]
  simp only [mv_runP, rv_runB, List.length_cons, List.length_nil, Nat.reduceAdd, Nat.reduceSub, Nat.zero_add, List.replicate_zero, List.replicate_one, rep2, rep3, rep4, rep5, rep6, rep7, rep8, rep9, List.append_nil, List.map_cons, List.map_nil, List.cons_append, List.nil_append, List.getElem?_cons_zero, List.getElem?_cons_succ, List.set_cons_succ, List.set_cons_zero, setE, wipeE, rv_ok, rv_er, od_some, mv_ok, mv_er, sv_some, bv_bl, iv_int, tv_str, lv_lst, outB_ret, outB_nxf, outB_exc, th_nx, th_ret, th_exc, th_brk, th_ct, ro_nx, ro_ret, ro_exc, ro_brk, ro_ct, rv_bind, rv_okE, rv_okL, rv_var, rv_c, rv_nil, rv_cons, rv_e1, rv_e2, rv_eN, rv_eMt, rv_eB, rv_and, rv_or, rv_if, rv_tup, rv_lst, rv_call, rv_callM, rv_it, rv_cut, rv_cutL, rv_pn, rv_ps, rv_chain, rv_M1, rv_range1, rv_zip, rv_zip3, sv_nil, sv_brk, sv_ct, sv_cons, sv_drop, sv_ret, sv_if, sv_asg, od_gN, sv_raise, sv_par, sv_for, sv_x, sv_asgX, rx_own, rx_ownX, sv_put, dNot_bl, true_and, and_true, if_true, if_false, ite_true, ite_false, Bool.false_eq_true, reduceIte, Bool.not_true, Bool.not_false, g_is_ratio_eq (h d hd)]
theorem g_added_ok {v : D} {l : List D} {b0 : Nat} (hi : dIsiT ["list", "tuple"] v = some (.bl true)) (hv : itemsOf v = some l) (hl : ∀ d ∈ l, RatB b0 d) (hb : 1 + (b0 + 1) * l.length ≤ 4000) : g_added [v] = some (.ok (sumV l)) := by
  rw [← mv_eq]
  unfold g_added m_added
  have ha : l.all isRatD = true := List.all_eq_true.mpr fun d hd => (hl d hd).is
  have hlen : l.length < 16000000 := by
    have : l.length ≤ (b0 + 1) * l.length := Nat.le_mul_of_pos_left _ (by omega)
    omega
  simp only [mv_runP, rv_runB, List.length_cons, List.length_nil, Nat.reduceAdd, Nat.reduceSub, Nat.zero_add, List.replicate_zero, List.replicate_one, rep2, rep3, rep4, rep5, rep6, rep7, rep8, rep9, List.append_nil, List.map_cons, List.map_nil, List.cons_append, List.nil_append, List.getElem?_cons_zero, List.getElem?_cons_succ, List.set_cons_succ, List.set_cons_zero, setE, wipeE, rv_ok, rv_er, od_some, mv_ok, mv_er, sv_some, bv_bl, iv_int, tv_str, lv_lst, outB_ret, outB_nxf, outB_exc, th_nx, th_ret, th_exc, th_brk, th_ct, ro_nx, ro_ret, ro_exc, ro_brk, ro_ct, rv_bind, rv_okE, rv_okL, rv_var, rv_c, rv_nil, rv_cons, rv_e1, rv_e2, rv_eN, rv_eMt, rv_eB, rv_and, rv_or, rv_if, rv_tup, rv_lst, rv_call, rv_callM, rv_it, rv_cut, rv_cutL, rv_pn, rv_ps, rv_chain, rv_M1, rv_range1, rv_zip, rv_zip3, sv_nil, sv_brk, sv_ct, sv_cons, sv_drop, sv_ret, sv_if, sv_asg, od_gN, sv_raise, sv_par, sv_for, sv_x, sv_asgX, rx_own, rx_ownX, sv_put, dNot_bl, true_and, and_true, if_true, if_false, ite_true, ite_false, Bool.false_eq_true, reduceIte, Bool.not_true, Bool.not_false, hi, rv_comp, hv, comp_rat (fun d hd => (hl d hd).ty), List.length_map, dAll_map, ha, hlen, g_total_eq hv hl hb]
def badRs : Ex := ⟨"BadRatios", []⟩
theorem g_added_bad {v : D} (hi : dIsiT ["list", "tuple"] v = some (.bl false)) : g_added [v] = some (.error badRs) := by
  have key : Mv (g_added [v]) (fun r => False) (fun x => x = badRs) := by
    unfold g_added m_added
    simp only [mv_runP, rv_runB, List.length_cons, List.length_nil, Nat.reduceAdd, Nat.reduceSub, Nat.zero_add, List.replicate_zero, List.replicate_one, rep2, rep3, rep4, rep5, rep6, rep7, rep8, rep9, List.append_nil, List.map_cons, List.map_nil, List.cons_append, List.nil_append, List.getElem?_cons_zero, List.getElem?_cons_succ, List.set_cons_succ, List.set_cons_zero, setE, wipeE, rv_ok, rv_er, od_some, mv_ok, mv_er, sv_some, bv_bl, iv_int, tv_str, lv_lst, outB_ret, outB_nxf, outB_exc, th_nx, th_ret, th_exc, th_brk, th_ct, ro_nx, ro_ret, ro_exc, ro_brk, ro_ct, rv_bind, rv_okE, rv_okL, rv_var, rv_c, rv_nil, rv_cons, rv_e1, rv_e2, rv_eN, rv_eMt, rv_eB, rv_and, rv_or, rv_if, rv_tup, rv_lst, rv_call, rv_callM, rv_it, rv_cut, rv_cutL, rv_pn, rv_ps, rv_chain, rv_M1, rv_range1, rv_zip, rv_zip3, sv_nil, sv_brk, sv_ct, sv_cons, sv_drop, sv_ret, sv_if, sv_asg, od_gN, sv_raise, sv_par, sv_for, sv_x, sv_asgX, rx_own, rx_ownX, sv_put, dNot_bl, true_and, and_true, if_true, if_false, ite_true, ite_false, Bool.false_eq_true, reduceIte, Bool.not_true, Bool.not_false, hi]
    rfl
  unfold Mv at key
  split at key
  · exact key.elim
  · exact key.elim
  · rename_i e
    rw [e, key]
theorem g_added_badL {v : D} {l : List D} (hi : dIsiT ["list", "tuple"] v = some (.bl true)) (hv : itemsOf v = some l) (ht : ∀ d ∈ l, TyD d) (hl : l.length ≤ 1000) (ha : l.all isRatD = false) : g_added [v] = some (.error badRs) := by
  have key : Mv (g_added [v]) (fun r => False) (fun x => x = badRs) := by
    unfold g_added m_added
    simp only [mv_runP, rv_runB, List.length_cons, List.length_nil, Nat.reduceAdd, Nat.reduceSub, Nat.zero_add, List.replicate_zero, List.replicate_one, rep2, rep3, rep4, rep5, rep6, rep7, rep8, rep9, List.append_nil, List.map_cons, List.map_nil, List.cons_append, List.nil_append, List.getElem?_cons_zero, List.getElem?_cons_succ, List.set_cons_succ, List.set_cons_zero, setE, wipeE, rv_ok, rv_er, od_some, mv_ok, mv_er, sv_some, bv_bl, iv_int, tv_str, lv_lst, outB_ret, outB_nxf, outB_exc, th_nx, th_ret, th_exc, th_brk, th_ct, ro_nx, ro_ret, ro_exc, ro_brk, ro_ct, rv_bind, rv_okE, rv_okL, rv_var, rv_c, rv_nil, rv_cons, rv_e1, rv_e2, rv_eN, rv_eMt, rv_eB, rv_and, rv_or, rv_if, rv_tup, rv_lst, rv_call, rv_callM, rv_it, rv_cut, rv_cutL, rv_pn, rv_ps, rv_chain, rv_M1, rv_range1, rv_zip, rv_zip3, sv_nil, sv_brk, sv_ct, sv_cons, sv_drop, sv_ret, sv_if, sv_asg, od_gN, sv_raise, sv_par, sv_for, sv_x, sv_asgX, rx_own, rx_ownX, sv_put, dNot_bl, true_and, and_true, if_true, if_false, ite_true, ite_false, Bool.false_eq_true, reduceIte, Bool.not_true, Bool.not_false, hi, rv_comp, hv, comp_rat ht, List.length_map, dAll_map, ha]
    exact ⟨by omega, rfl⟩
  unfold Mv at key
  split at key
  · exact key.elim
  · exact key.elim
  · rename_i e
    rw [e, key]
end DL
end
noncomputable section
namespace DL
open L2 PySem PyProof.Rows PySem.Spec

theorem number_b {k : Nat} {w : DW} (h : Wd (k + 3) w) : ∃ (n : Int) (w' : DW), g__law_number w [.tok 0] = some (.ok (.int n, w')) ∧ n.natAbs < 2 ^ 100 ∧ Wd k w' := by
  have key : Rv (g__law_number w [.tok 0]) (fun d w' => ∃ n : Int, d = .int n ∧ n.natAbs < 2 ^ 100 ∧ Wd k w') (fun _ _ => False) := by
    unfold g__law_number m__law_number
    have p6 : dPow (.int 10) (.int 6) = some (.int (10 ^ 6)) := dPow_int (i := 10) (n := 6) (by decide) (by decide)
    have p15 : dPow (.int 10) (.int 15) = some (.int (10 ^ 15)) := dPow_int (i := 10) (n := 15) (by decide) (by decide)
    have p30 : dPow (.int 10) (.int 30) = some (.int (10 ^ 30)) := dPow_int (i := 10) (n := 30) (by decide) (by decide)
    obtain ⟨d1, w1, e1, h1, hw1⟩ := pick_b (k := k + 2) (l := [.int 4, .int 30, .int (10 ^ 6), .int (10 ^ 15), .int (10 ^ 30)]) h (by simp) (by simp)
    have hr : ∃ room : Nat, d1 = .int (room : Int) ∧ 0 < room ∧ room < 2 ^ 100 := by
      simp only [List.mem_cons, List.not_mem_nil, or_false] at h1
      rcases h1 with rfl | rfl | rfl | rfl | rfl
      · exact ⟨4, rfl, by decide, by decide⟩
      · exact ⟨30, rfl, by decide, by decide⟩
      · exact ⟨10 ^ 6, rfl, by decide, by decide⟩
      · exact ⟨10 ^ 15, rfl, by decide, by decide⟩
      · exact ⟨10 ^ 30, rfl, by decide, by decide⟩
    obtain ⟨room, rfl, r0, r1⟩ := hr
    obtain ⟨m, w2, e2', lm, hw2⟩ := draw_b (k := k + 1) (room := room) hw1 r0 (Nat.lt_trans r1 (by decide))
    obtain ⟨t, w3, e3, lt3, hw3⟩ := draw_b (k := k) (room := 3) hw2 (by decide) (by decide)
    have e3 : g__law_draw w2 [.tok 0, .int 3] = some (.ok (.int (t : Int), w3)) := e3
    have cg : dGt (.int (t : Int)) (.int 0) = some (.bl (decide (0 < t))) := by
      show some (D.bl (decide ((0 : Int) < (t : Int)))) = _
      congr 2
      exact decide_eq_decide.mpr (by omega)
    have cs : dSub (.int 0) (.int (m : Int)) = some (.int (0 - (m : Int))) := rfl
    simp only [mv_runP, rv_runB, List.length_cons, List.length_nil, Nat.reduceAdd, Nat.reduceSub, Nat.zero_add, List.replicate_zero, List.replicate_one, rep2, rep3, rep4, rep5, rep6, rep7, rep8, rep9, List.append_nil, List.map_cons, List.map_nil, List.cons_append, List.nil_append, List.getElem?_cons_zero, List.getElem?_cons_succ, List.set_cons_succ, List.set_cons_zero, setE, wipeE, rv_ok, rv_er, od_some, mv_ok, mv_er, sv_some, bv_bl, iv_int, tv_str, lv_lst, outB_ret, outB_nxf, outB_exc, th_nx, th_ret, th_exc, th_brk, th_ct, ro_nx, ro_ret, ro_exc, ro_brk, ro_ct, rv_bind, rv_okE, rv_okL, rv_var, rv_c, rv_nil, rv_cons, rv_e1, rv_e2, rv_eN, rv_eMt, rv_eB, rv_and, rv_or, rv_if, rv_tup, rv_lst, rv_call, rv_callM, rv_it, rv_cut, rv_cutL, rv_pn, rv_ps, rv_chain, rv_M1, rv_range1, rv_zip, rv_zip3, sv_nil, sv_brk, sv_ct, sv_cons, sv_drop, sv_ret, sv_if, sv_asg, od_gN, sv_raise, sv_par, sv_for, sv_x, sv_asgX, rx_own, rx_ownX, sv_put, dNot_bl, true_and, and_true, if_true, if_false, ite_true, ite_false, Bool.false_eq_true, reduceIte, Bool.not_true, Bool.not_false, p6, p15, p30, e1, e2', e3, cg, cs]
    by_cases c : 0 < t
    · rw [decide_eq_true c]
      simp only [mv_runP, rv_runB, List.length_cons, List.length_nil, Nat.reduceAdd, Nat.reduceSub, Nat.zero_add, List.replicate_zero, List.replicate_one, rep2, rep3, rep4, rep5, rep6, rep7, rep8, rep9, List.append_nil, List.map_cons, List.map_nil, List.cons_append, List.nil_append, List.getElem?_cons_zero, List.getElem?_cons_succ, List.set_cons_succ, List.set_cons_zero, setE, wipeE, rv_ok, rv_er, od_some, mv_ok, mv_er, sv_some, bv_bl, iv_int, tv_str, lv_lst, outB_ret, outB_nxf, outB_exc, th_nx, th_ret, th_exc, th_brk, th_ct, ro_nx, ro_ret, ro_exc, ro_brk, ro_ct, rv_bind, rv_okE, rv_okL, rv_var, rv_c, rv_nil, rv_cons, rv_e1, rv_e2, rv_eN, rv_eMt, rv_eB, rv_and, rv_or, rv_if, rv_tup, rv_lst, rv_call, rv_callM, rv_it, rv_cut, rv_cutL, rv_pn, rv_ps, rv_chain, rv_M1, rv_range1, rv_zip, rv_zip3, sv_nil, sv_brk, sv_ct, sv_cons, sv_drop, sv_ret, sv_if, sv_asg, od_gN, sv_raise, sv_par, sv_for, sv_x, sv_asgX, rx_own, rx_ownX, sv_put, dNot_bl, true_and, and_true, if_true, if_false, ite_true, ite_false, Bool.false_eq_true, reduceIte, Bool.not_true, Bool.not_false]
      exact ⟨_, rfl, by omega, hw3⟩
    · rw [decide_eq_false c]
      simp only [mv_runP, rv_runB, List.length_cons, List.length_nil, Nat.reduceAdd, Nat.reduceSub, Nat.zero_add, List.replicate_zero, List.replicate_one, rep2, rep3, rep4, rep5, rep6, rep7, rep8, rep9, List.append_nil, List.map_cons, List.map_nil, List.cons_append, List.nil_append, List.getElem?_cons_zero, List.getElem?_cons_succ, List.set_cons_succ, List.set_cons_zero, setE, wipeE, rv_ok, rv_er, od_some, mv_ok, mv_er, sv_some, bv_bl, iv_int, tv_str, lv_lst, outB_ret, outB_nxf, outB_exc, th_nx, th_ret, th_exc, th_brk, th_ct, ro_nx, ro_ret, ro_exc, ro_brk, ro_ct, rv_bind, rv_okE, rv_okL, rv_var, rv_c, rv_nil, rv_cons, rv_e1, rv_e2, rv_eN, rv_eMt, rv_eB, rv_and, rv_or, rv_if, rv_tup, rv_lst, rv_call, rv_callM, rv_it, rv_cut, rv_cutL, rv_pn, rv_ps, rv_chain, rv_M1, rv_range1, rv_zip, rv_zip3, sv_nil, sv_brk, sv_ct, sv_cons, sv_drop, sv_ret, sv_if, sv_asg, od_gN, sv_raise, sv_par, sv_for, sv_x, sv_asgX, rx_own, rx_ownX, sv_put, dNot_bl, true_and, and_true, if_true, if_false, ite_true, ite_false, Bool.false_eq_true, reduceIte, Bool.not_true, Bool.not_false]
      exact ⟨_, rfl, by omega, hw3⟩
  obtain ⟨d, w', e, n, hn, q⟩ := rv_ex.mp key
  rw [hn] at e
  exact ⟨n, w', e, q⟩
theorem pair_fb {b : Nat} {k m : Int} (h1 : k.natAbs < 2 ^ b) (h2 : m.natAbs < 2 ^ b) : FiB b (.tup [.int k, .int m]) := by
  refine ⟨1, by omega, ?_⟩
  have q1 : decide (k.natAbs < 2 ^ b) = true := decide_eq_true h1
  have q2 : decide (m.natAbs < 2 ^ b) = true := decide_eq_true h2
  simp only [fiD, fiDs, q1, q2, List.length_cons, List.length_nil]
  rfl
theorem RatB.fb {b : Nat} {d : D} (h : RatB b d) : FiB b d := by
  obtain ⟨k, m, rfl, _, h2, h3, _⟩ := h
  exact pair_fb h2 h3
theorem rat_sz {b : Nat} {d : D} (h : RatB b d) : szD d ≤ 15000000 := by
  obtain ⟨k, m, rfl, _⟩ := h
  simp [szD, szs]
theorem qZ_rat {b : Nat} {n d : Int} (hd : d ≠ 0) (h1 : n.natAbs < 2 ^ b) (h2 : d.natAbs < 2 ^ b) : RatB b (qZ n d) := by
  by_cases c : 0 < d
  · rw [qZ_pos c]
    exact qR_rat c h1 h2
  · have e : qZ n d = qR (-n) (-d) := by
      unfold qZ qR
      rw [if_neg c, Int.natAbs_neg, Int.natAbs_neg]
    rw [e]
    exact qR_rat (by omega) (by rw [Int.natAbs_neg]; exact h1) (by rw [Int.natAbs_neg]; exact h2)
theorem same_rat {b : Nat} {d : D} (h : RatB b d) : g__law_same [d, d] = some (.ok (.bl true)) := g_same_refl h.fb (rat_sz h)
theorem g_ratio_ok {n d : Int} (hd : d ≠ 0) (hb : d.natAbs < 2 ^ 4000) : g_ratio [.int n, .int d] = some (.ok (qZ n d)) := by
  rw [← mv_eq]
  unfold g_ratio m_ratio
  have w1 : g_is_whole [.int n] = some (.ok (.bl true)) := g_is_whole_ty rfl
  have w2 : g_is_whole [.int d] = some (.ok (.bl true)) := g_is_whole_ty rfl
  have e0 : dEq (.int d) (.int 0) = some (.bl false) := by
    show some (D.bl (decide (d = 0))) = _
    rw [decide_eq_false hd]
  simp only [mv_runP, rv_runB, List.length_cons, List.length_nil, Nat.reduceAdd, Nat.reduceSub, Nat.zero_add, List.replicate_zero, List.replicate_one, rep2, rep3, rep4, rep5, rep6, rep7, rep8, rep9, List.append_nil, List.map_cons, List.map_nil, List.cons_append, List.nil_append, List.getElem?_cons_zero, List.getElem?_cons_succ, List.set_cons_succ, List.set_cons_zero, setE, wipeE, rv_ok, rv_er, od_some, mv_ok, mv_er, sv_some, bv_bl, iv_int, tv_str, lv_lst, outB_ret, outB_nxf, outB_exc, th_nx, th_ret, th_exc, th_brk, th_ct, ro_nx, ro_ret, ro_exc, ro_brk, ro_ct, rv_bind, rv_okE, rv_okL, rv_var, rv_c, rv_nil, rv_cons, rv_e1, rv_e2, rv_eN, rv_eMt, rv_eB, rv_and, rv_or, rv_if, rv_tup, rv_lst, rv_call, rv_callM, rv_it, rv_cut, rv_cutL, rv_pn, rv_ps, rv_chain, rv_M1, rv_range1, rv_zip, rv_zip3, sv_nil, sv_brk, sv_ct, sv_cons, sv_drop, sv_ret, sv_if, sv_asg, od_gN, sv_raise, sv_par, sv_for, sv_x, sv_asgX, rx_own, rx_ownX, sv_put, dNot_bl, true_and, and_true, if_true, if_false, ite_true, ite_false, Bool.false_eq_true, reduceIte, Bool.not_true, Bool.not_false, w1, w2, e0, g_lowest_z hd hb]
def lessV : D → D → Bool
  | .tup [.int n1, .int d1], .tup [.int n2, .int d2] => decide (n1 * d2 < n2 * d1)
  | _, _ => false
theorem less_b {a b : Nat} {x y : D} (hx : RatB a x) (hy : RatB b y) (hab : a + b ≤ 4000) : g_is_less [x, y] = some (.ok (.bl (lessV x y))) ∧ g__law_less [x, y] = some (.ok (.bl (lessV x y))) := by
  obtain ⟨n1, d1, rfl, p1, u1, v1, _⟩ := hx
  obtain ⟨n2, d2, rfl, p2, u2, v2, _⟩ := hy
  have m1 : dMul (.int n1) (.int d2) = some (.int (n1 * d2)) := dMul_int (pow_lt4 u1 (by omega)) (pow_lt4 v2 (by omega))
  have m2 : dMul (.int n2) (.int d1) = some (.int (n2 * d1)) := dMul_int (pow_lt4 u2 (by omega)) (pow_lt4 v1 (by omega))
  have m3 : dLt (.int (n1 * d2)) (.int (n2 * d1)) = some (.bl (decide (n1 * d2 < n2 * d1))) := rfl
  constructor
  · rw [← mv_eq]
    unfold g_is_less m_is_less
    simp only [mv_runP, rv_runB, List.length_cons, List.length_nil, Nat.reduceAdd, Nat.reduceSub, Nat.zero_add, List.replicate_zero, List.replicate_one, rep2, rep3, rep4, rep5, rep6, rep7, rep8, rep9, List.append_nil, List.map_cons, List.map_nil, List.cons_append, List.nil_append, List.getElem?_cons_zero, List.getElem?_cons_succ, List.set_cons_succ, List.set_cons_zero, setE, wipeE, rv_ok, rv_er, od_some, mv_ok, mv_er, sv_some, bv_bl, iv_int, tv_str, lv_lst, outB_ret, outB_nxf, outB_exc, th_nx, th_ret, th_exc, th_brk, th_ct, ro_nx, ro_ret, ro_exc, ro_brk, ro_ct, rv_bind, rv_okE, rv_okL, rv_var, rv_c, rv_nil, rv_cons, rv_e1, rv_e2, rv_eN, rv_eMt, rv_eB, rv_and, rv_or, rv_if, rv_tup, rv_lst, rv_call, rv_callM, rv_it, rv_cut, rv_cutL, rv_pn, rv_ps, rv_chain, rv_M1, rv_range1, rv_zip, rv_zip3, sv_nil, sv_brk, sv_ct, sv_cons, sv_drop, sv_ret, sv_if, sv_asg, od_gN, sv_raise, sv_par, sv_for, sv_x, sv_asgX, rx_own, rx_ownX, sv_put, dNot_bl, true_and, and_true, if_true, if_false, ite_true, ite_false, Bool.false_eq_true, reduceIte, Bool.not_true, Bool.not_false, idx0, idx1, m1, m2, m3]
    rfl
  · rw [← mv_eq]
    unfold g__law_less m__law_less
    simp only [mv_runP, rv_runB, List.length_cons, List.length_nil, Nat.reduceAdd, Nat.reduceSub, Nat.zero_add, List.replicate_zero, List.replicate_one, rep2, rep3, rep4, rep5, rep6, rep7, rep8, rep9, List.append_nil, List.map_cons, List.map_nil, List.cons_append, List.nil_append, List.getElem?_cons_zero, List.getElem?_cons_succ, List.set_cons_succ, List.set_cons_zero, setE, wipeE, rv_ok, rv_er, od_some, mv_ok, mv_er, sv_some, bv_bl, iv_int, tv_str, lv_lst, outB_ret, outB_nxf, outB_exc, th_nx, th_ret, th_exc, th_brk, th_ct, ro_nx, ro_ret, ro_exc, ro_brk, ro_ct, rv_bind, rv_okE, rv_okL, rv_var, rv_c, rv_nil, rv_cons, rv_e1, rv_e2, rv_eN, rv_eMt, rv_eB, rv_and, rv_or, rv_if, rv_tup, rv_lst, rv_call, rv_callM, rv_it, rv_cut, rv_cutL, rv_pn, rv_ps, rv_chain, rv_M1, rv_range1, rv_zip, rv_zip3, sv_nil, sv_brk, sv_ct, sv_cons, sv_drop, sv_ret, sv_if, sv_asg, od_gN, sv_raise, sv_par, sv_for, sv_x, sv_asgX, rx_own, rx_ownX, sv_put, dNot_bl, true_and, and_true, if_true, if_false, ite_true, ite_false, Bool.false_eq_true, reduceIte, Bool.not_true, Bool.not_false, idx0, idx1, m1, m2, m3]
    rfl
theorem g_is_below_ok {a b : Nat} {x y : D} (hx : RatB a x) (hy : RatB b y) (hab : a + b ≤ 4000) : g_is_below [x, y] = some (.ok (.bl (lessV x y))) := by
  rw [← mv_eq]
  unfold g_is_below m_is_below
  simp only [mv_runP, rv_runB, List.length_cons, List.length_nil, Nat.reduceAdd, Nat.reduceSub, Nat.zero_add, List.replicate_zero, List.replicate_one, rep2, rep3, rep4, rep5, rep6, rep7, rep8, rep9, List.append_nil, List.map_cons, List.map_nil, List.cons_append, List.nil_append, List.getElem?_cons_zero, List.getElem?_cons_succ, List.set_cons_succ, List.set_cons_zero, setE, wipeE, rv_ok, rv_er, od_some, mv_ok, mv_er, sv_some, bv_bl, iv_int, tv_str, lv_lst, outB_ret, outB_nxf, outB_exc, th_nx, th_ret, th_exc, th_brk, th_ct, ro_nx, ro_ret, ro_exc, ro_brk, ro_ct, rv_bind, rv_okE, rv_okL, rv_var, rv_c, rv_nil, rv_cons, rv_e1, rv_e2, rv_eN, rv_eMt, rv_eB, rv_and, rv_or, rv_if, rv_tup, rv_lst, rv_call, rv_callM, rv_it, rv_cut, rv_cutL, rv_pn, rv_ps, rv_chain, rv_M1, rv_range1, rv_zip, rv_zip3, sv_nil, sv_brk, sv_ct, sv_cons, sv_drop, sv_ret, sv_if, sv_asg, od_gN, sv_raise, sv_par, sv_for, sv_x, sv_asgX, rx_own, rx_ownX, sv_put, dNot_bl, true_and, and_true, if_true, if_false, ite_true, ite_false, Bool.false_eq_true, reduceIte, Bool.not_true, Bool.not_false, g_is_ratio_eq hx.ty, g_is_ratio_eq hy.ty, hx.is, hy.is, (less_b hx hy hab).1]
def badR : Ex := ⟨"BadRatio", []⟩
theorem g_is_below_bad {x y : D} (hx : TyD x) (hy : TyD y) (h : isRatD x = false ∨ isRatD y = false) : g_is_below [x, y] = some (.error badR) := by
  have key : Mv (g_is_below [x, y]) (fun r => False) (fun x => x = badR) := by
    unfold g_is_below m_is_below
    simp only [mv_runP, rv_runB, List.length_cons, List.length_nil, Nat.reduceAdd, Nat.reduceSub, Nat.zero_add, List.replicate_zero, List.replicate_one, rep2, rep3, rep4, rep5, rep6, rep7, rep8, rep9, List.append_nil, List.map_cons, List.map_nil, List.cons_append, List.nil_append, List.getElem?_cons_zero, List.getElem?_cons_succ, List.set_cons_succ, List.set_cons_zero, setE, wipeE, rv_ok, rv_er, od_some, mv_ok, mv_er, sv_some, bv_bl, iv_int, tv_str, lv_lst, outB_ret, outB_nxf, outB_exc, th_nx, th_ret, th_exc, th_brk, th_ct, ro_nx, ro_ret, ro_exc, ro_brk, ro_ct, rv_bind, rv_okE, rv_okL, rv_var, rv_c, rv_nil, rv_cons, rv_e1, rv_e2, rv_eN, rv_eMt, rv_eB, rv_and, rv_or, rv_if, rv_tup, rv_lst, rv_call, rv_callM, rv_it, rv_cut, rv_cutL, rv_pn, rv_ps, rv_chain, rv_M1, rv_range1, rv_zip, rv_zip3, sv_nil, sv_brk, sv_ct, sv_cons, sv_drop, sv_ret, sv_if, sv_asg, od_gN, sv_raise, sv_par, sv_for, sv_x, sv_asgX, rx_own, rx_ownX, sv_put, dNot_bl, true_and, and_true, if_true, if_false, ite_true, ite_false, Bool.false_eq_true, reduceIte, Bool.not_true, Bool.not_false, g_is_ratio_eq hx, g_is_ratio_eq hy]
    rcases h with h | h
    · rw [h]
      simp only [mv_runP, rv_runB, List.length_cons, List.length_nil, Nat.reduceAdd, Nat.reduceSub, Nat.zero_add, List.replicate_zero, List.replicate_one, rep2, rep3, rep4, rep5, rep6, rep7, rep8, rep9, List.append_nil, List.map_cons, List.map_nil, List.cons_append, List.nil_append, List.getElem?_cons_zero, List.getElem?_cons_succ, List.set_cons_succ, List.set_cons_zero, setE, wipeE, rv_ok, rv_er, od_some, mv_ok, mv_er, sv_some, bv_bl, iv_int, tv_str, lv_lst, outB_ret, outB_nxf, outB_exc, th_nx, th_ret, th_exc, th_brk, th_ct, ro_nx, ro_ret, ro_exc, ro_brk, ro_ct, rv_bind, rv_okE, rv_okL, rv_var, rv_c, rv_nil, rv_cons, rv_e1, rv_e2, rv_eN, rv_eMt, rv_eB, rv_and, rv_or, rv_if, rv_tup, rv_lst, rv_call, rv_callM, rv_it, rv_cut, rv_cutL, rv_pn, rv_ps, rv_chain, rv_M1, rv_range1, rv_zip, rv_zip3, sv_nil, sv_brk, sv_ct, sv_cons, sv_drop, sv_ret, sv_if, sv_asg, od_gN, sv_raise, sv_par, sv_for, sv_x, sv_asgX, rx_own, rx_ownX, sv_put, dNot_bl, true_and, and_true, if_true, if_false, ite_true, ite_false, Bool.false_eq_true, reduceIte, Bool.not_true, Bool.not_false]
      rfl
    · rw [h]
      cases isRatD x <;> (simp; rfl)
  unfold Mv at key
  split at key
  · exact key.elim
  · exact key.elim
  · rename_i e
    rw [e, key]
theorem neB {a : Bool} : dNe (.bl a) (.bl a) = some (.bl false) := by
  show some (D.bl (!decide (a = a))) = _
  simp
theorem gT67 (x y x0 x1 x2 x3 x4 x5 x6 x7 x8 : Option D) (l r : D) : gT (gsCons (gN 6) (gsCons (gN 7) gsNil)) (.tup [l, r]) [x0, x1, x2, x3, x4, x5, x6, x7, x8] = some [x0, x1, x2, x3, x4, x5, some l, some r, x8] := rfl
theorem kw10 {u v : D} : ([1, 0].filterMap fun j => [u, v][j]?) = [v, u] := rfl
theorem kw0 {v : D} : ([0].filterMap fun j => [v][j]?) = [v] := rfl
theorem abs1 {d : Int} (h : d.natAbs < 2 ^ 100) : 0 < 1 + ((d.natAbs : Nat) : Int) ∧ (1 + ((d.natAbs : Nat) : Int)).natAbs < 2 ^ 110 := by
  constructor
  · omega
  · have : (1 + ((d.natAbs : Nat) : Int)).natAbs = 1 + d.natAbs := by omega
    rw [this]
    have : 1 + d.natAbs ≤ 2 ^ 100 := by omega
    exact Nat.lt_of_le_of_lt this (by decide)
theorem reckoned_b {k : Nat} {w : DW} (h : Wd (k + 60) w) : ∃ w' : DW, g__law_reckoned_right w [.tok 0] = some (.ok (.bl true, w')) ∧ Wd k w' := by
  have key : Rv (g__law_reckoned_right w [.tok 0]) (fun d w' => d = .bl true ∧ Wd k w') (fun _ _ => False) := by
    unfold g__law_reckoned_right m__law_reckoned_right
    obtain ⟨n, w1, e1, hn, hw1⟩ := number_b (k := k + 57) h
    obtain ⟨d, w2, e2', hd, hw2⟩ := number_b (k := k + 54) hw1
    have hn2 : n.natAbs < 2 ^ 110 := Nat.lt_trans hn (by decide)
    have hd2 : d.natAbs < 2 ^ 110 := Nat.lt_trans hd (by decide)
    have hd4 : d.natAbs < 2 ^ 4000 := Nat.lt_trans hd (by decide)
    have ne0 : dNe (.int d) (.int 0) = some (.bl (!decide (d = 0))) := rfl
    obtain ⟨m, w3, e3, lm, hw3⟩ := draw_b (k := k + 53) (room := 7) hw2 (by decide) (by decide)
    have e3 : g__law_draw w2 [.tok 0, .int 7] = some (.ok (.int (m : Int), w3)) := e3
    have ad : dAdd (.int 1) (.int ((d.natAbs : Nat) : Int)) = some (.int (1 + ((d.natAbs : Nat) : Int))) := rfl
    have rest : Rv (compL (A := DW) (gN 8) (eC (.bl true)) (eCall g__law_q (fCons (eCallM g__law_number (fCons (eVar 0) fNil)) (fCons (e2 dAdd (eC (.int 1)) (eN dAbs (fCons (eCallM g__law_number (fCons (eVar 0) fNil)) fNil))) fNil))) (rangeD 0 m) w3 [some (.tok 0), none, some (.int n), some (.int d), none, none, none, none, none])
        (fun zs w1 => (∀ y ∈ zs, RatB 110 y) ∧ zs.length = m ∧ Wd (k + 10) w1) (fun _ _ => False) := by
      refine (rv_compI (fun ds ys w => (∀ y ∈ ys, RatB 110 y) ∧ ys.length + ds.length = m ∧ Wd (k + 10 + 6 * ds.length) w) ?_ (rangeD 0 m) [] w3 ⟨(fun y hy => by cases hy), by simp [rangeD], hw3.mono (by simp [rangeD]; omega)⟩).mono (fun ys w1 q => ?_) (fun _ _ z => z)
      · rintro x ds ys w5 ⟨h1, h2, h3⟩
        rw [List.length_cons] at h2 h3
        obtain ⟨a, w6, e6, ha, hw6⟩ := number_b (k := k + 10 + 6 * ds.length + 3) (h3.mono (by omega))
        obtain ⟨b, w7, e7, hb, hw7⟩ := number_b (k := k + 10 + 6 * ds.length) hw6
        have adb : dAdd (.int 1) (.int ((b.natAbs : Nat) : Int)) = some (.int (1 + ((b.natAbs : Nat) : Int))) := rfl
        obtain ⟨p1, p2⟩ := abs1 hb
        simp only [mv_runP, rv_runB, List.length_cons, List.length_nil, Nat.reduceAdd, Nat.reduceSub, Nat.zero_add, List.replicate_zero, List.replicate_one, rep2, rep3, rep4, rep5, rep6, rep7, rep8, rep9, List.append_nil, List.map_cons, List.map_nil, List.cons_append, List.nil_append, List.getElem?_cons_zero, List.getElem?_cons_succ, List.set_cons_succ, List.set_cons_zero, setE, wipeE, rv_ok, rv_er, od_some, mv_ok, mv_er, sv_some, bv_bl, iv_int, tv_str, lv_lst, outB_ret, outB_nxf, outB_exc, th_nx, th_ret, th_exc, th_brk, th_ct, ro_nx, ro_ret, ro_exc, ro_brk, ro_ct, rv_bind, rv_okE, rv_okL, rv_var, rv_c, rv_nil, rv_cons, rv_e1, rv_e2, rv_eN, rv_eMt, rv_eB, rv_and, rv_or, rv_if, rv_tup, rv_lst, rv_call, rv_callM, rv_it, rv_cut, rv_cutL, rv_pn, rv_ps, rv_chain, rv_M1, rv_range1, rv_zip, rv_zip3, sv_nil, sv_brk, sv_ct, sv_cons, sv_drop, sv_ret, sv_if, sv_asg, od_gN, sv_raise, sv_par, sv_for, sv_x, sv_asgX, rx_own, rx_ownX, sv_put, dNot_bl, true_and, and_true, if_true, if_false, ite_true, ite_false, Bool.false_eq_true, reduceIte, Bool.not_true, Bool.not_false, e6, e7, dAbs, abs_nat, adb, g_q_eq (a := a) p1 (Nat.lt_trans p2 (by decide))]
        refine ⟨fun y hy => ?_, by rw [List.length_append]; simp; omega, hw7⟩
        rcases List.mem_append.mp hy with q | q
        · exact h1 y q
        · rw [List.mem_singleton.mp q]
          exact qR_rat p1 (Nat.lt_trans ha (by decide)) p2
      · obtain ⟨h1, h2, h3⟩ := q
        rw [List.nil_append] at h1 h2
        exact ⟨h1, by simpa using h2, by simpa using h3⟩
    obtain ⟨zs, w4, ec, q1, q2, q3⟩ := rv_ex.mp rest
    obtain ⟨a, w5, e5, ha, hw5⟩ := number_b (k := k + 7) q3
    obtain ⟨p1, p2⟩ := abs1 hd
    have p4 : (1 + ((d.natAbs : Nat) : Int)).natAbs < 2 ^ 4000 := Nat.lt_trans p2 (by decide)
    have o1 : RatB 110 (qR n (1 + ((d.natAbs : Nat) : Int))) := qR_rat p1 hn2 p2
    have o2 : RatB 110 (qR a (1 + ((d.natAbs : Nat) : Int))) := qR_rat p1 (Nat.lt_trans ha (by decide)) p2
    have hz : 1 + (110 + 1) * zs.length ≤ 4000 := by omega
    have hzl : zs.length < 16000000 := by omega
    have s1 := g_added_ok (v := .lst zs) rfl rfl q1 hz
    have s2 := g_added_ok (v := .tup zs) rfl rfl q1 hz
    have s3 := g_law_sum_eq (v := .lst zs) rfl q1 hz
    obtain ⟨bb, _, hsum⟩ := sumV_rat q1 hz
    have s4 := same_rat hsum
    have b12 := g_is_below_ok o1 o2 (by decide)
    have b21 := g_is_below_ok o2 o1 (by decide)
    have b11 := g_is_below_ok o1 o1 (by decide)
    have l12 := (less_b o1 o2 (by decide)).2
    have l21 := (less_b o2 o1 (by decide)).2
    have l11 := (less_b o1 o1 (by decide)).2
    have dt : dTuple [.lst zs] = some (.tup zs) := rfl
    have rb : (-(2 ^ 62) ≤ ((m : Nat) : Int) ∧ ((m : Nat) : Int) < 2 ^ 62) := by omega
    by_cases c : d = 0
    · have n0 : dNe (.int d) (.int 0) = some (.bl false) := by rw [ne0, decide_eq_true c] <;> rfl
      simp only [mv_runP, rv_runB, List.length_cons, List.length_nil, Nat.reduceAdd, Nat.reduceSub, Nat.zero_add, List.replicate_zero, List.replicate_one, rep2, rep3, rep4, rep5, rep6, rep7, rep8, rep9, List.append_nil, List.map_cons, List.map_nil, List.cons_append, List.nil_append, List.getElem?_cons_zero, List.getElem?_cons_succ, List.set_cons_succ, List.set_cons_zero, setE, wipeE, rv_ok, rv_er, od_some, mv_ok, mv_er, sv_some, bv_bl, iv_int, tv_str, lv_lst, outB_ret, outB_nxf, outB_exc, th_nx, th_ret, th_exc, th_brk, th_ct, ro_nx, ro_ret, ro_exc, ro_brk, ro_ct, rv_bind, rv_okE, rv_okL, rv_var, rv_c, rv_nil, rv_cons, rv_e1, rv_e2, rv_eN, rv_eMt, rv_eB, rv_and, rv_or, rv_if, rv_tup, rv_lst, rv_call, rv_callM, rv_it, rv_cut, rv_cutL, rv_pn, rv_ps, rv_chain, rv_M1, rv_range1, rv_zip, rv_zip3, sv_nil, sv_brk, sv_ct, sv_cons, sv_drop, sv_ret, sv_if, sv_asg, od_gN, sv_raise, sv_par, sv_for, sv_x, sv_asgX, rx_own, rx_ownX, sv_put, dNot_bl, true_and, and_true, if_true, if_false, ite_true, ite_false, Bool.false_eq_true, reduceIte, Bool.not_true, Bool.not_false, e1, e2', n0, rv_comp, e3, Int.toNat_natCast, ec, s1, s2, s3, s4, dt, kw0, dAbs, abs_nat, ad, g_q_eq (a := n) p1 p4, g_q_eq (a := a) p1 p4, e5, itemsOf, sv_forL, sv_forN, gT67, b12, b21, b11, l12, l21, l11, g_is_truth_eq, decide_true, neB, kw10, hzl]
      exact ⟨rb, hw5.mono (by omega)⟩
    · have n0 : dNe (.int d) (.int 0) = some (.bl true) := by rw [ne0, decide_eq_false c] <;> rfl
      have r1 := g_ratio_ok (n := n) c hd4
      have r2 := g_q_z (a := n) c hd4
      have r3 := same_rat (qZ_rat c hn2 hd2)
      simp only [mv_runP, rv_runB, List.length_cons, List.length_nil, Nat.reduceAdd, Nat.reduceSub, Nat.zero_add, List.replicate_zero, List.replicate_one, rep2, rep3, rep4, rep5, rep6, rep7, rep8, rep9, List.append_nil, List.map_cons, List.map_nil, List.cons_append, List.nil_append, List.getElem?_cons_zero, List.getElem?_cons_succ, List.set_cons_succ, List.set_cons_zero, setE, wipeE, rv_ok, rv_er, od_some, mv_ok, mv_er, sv_some, bv_bl, iv_int, tv_str, lv_lst, outB_ret, outB_nxf, outB_exc, th_nx, th_ret, th_exc, th_brk, th_ct, ro_nx, ro_ret, ro_exc, ro_brk, ro_ct, rv_bind, rv_okE, rv_okL, rv_var, rv_c, rv_nil, rv_cons, rv_e1, rv_e2, rv_eN, rv_eMt, rv_eB, rv_and, rv_or, rv_if, rv_tup, rv_lst, rv_call, rv_callM, rv_it, rv_cut, rv_cutL, rv_pn, rv_ps, rv_chain, rv_M1, rv_range1, rv_zip, rv_zip3, sv_nil, sv_brk, sv_ct, sv_cons, sv_drop, sv_ret, sv_if, sv_asg, od_gN, sv_raise, sv_par, sv_for, sv_x, sv_asgX, rx_own, rx_ownX, sv_put, dNot_bl, true_and, and_true, if_true, if_false, ite_true, ite_false, Bool.false_eq_true, reduceIte, Bool.not_true, Bool.not_false, e1, e2', n0, r1, r2, r3, rv_comp, e3, Int.toNat_natCast, ec, s1, s2, s3, s4, dt, kw0, dAbs, abs_nat, ad, g_q_eq (a := n) p1 p4, g_q_eq (a := a) p1 p4, e5, itemsOf, sv_forL, sv_forN, gT67, b12, b21, b11, l12, l21, l11, g_is_truth_eq, decide_true, neB, kw10, hzl]
      exact ⟨rb, hw5.mono (by omega)⟩
  obtain ⟨d, w', e, hd, q⟩ := rv_ex.mp key
  rw [hd] at e
  exact ⟨w', e, q⟩
end DL
end
noncomputable section
namespace DL
open L2 PySem PyProof.Rows PySem.Spec

/-! ### what is refused -/
theorem tyD_of {d : D} (h : Fi d) : TyD d := ⟨h.ty, fun l e => by
  rcases e with rfl | rfl
  · exact ⟨fun x hx => (h.tup.2 x hx).ty, h.tup.1⟩
  · exact ⟨fun x hx => (h.lst.2 x hx).ty, h.lst.1⟩⟩
def oddL : List D := [.non, .bl true, .str "1", .tup [.int 1, .int 1], .lst [.int 1]]
def badL : List D := [.non, .int 5, .tup [.int 2, .int 4], .lst [.int 1, .int 2], .tup [.int 1, .int 0], .str "a"]
theorem odd_ty {d : D} (h : d ∈ oddL) : (tyN d).isSome = true ∧ isWhD d = false := by
  simp only [oddL, List.mem_cons, List.not_mem_nil, or_false] at h
  rcases h with rfl | rfl | rfl | rfl | rfl <;> exact ⟨rfl, rfl⟩
theorem bad_ty {d : D} (h : d ∈ badL) : TyD d ∧ isRatD d = false := by
  simp only [badL, List.mem_cons, List.not_mem_nil, or_false] at h
  rcases h with rfl | rfl | rfl | rfl | rfl | rfl
  all_goals refine ⟨⟨rfl, fun l e => ?_⟩, by first | rfl | decide +kernel⟩
  all_goals (rcases e with e | e <;> first | (cases e; done) | skip)
  all_goals (cases e; exact ⟨fun x hx => by
    simp only [List.mem_cons, List.not_mem_nil, or_false] at hx
    rcases hx with rfl | rfl <;> rfl, by simp⟩)
def badN (p : Str) : Ex := ⟨"BadNumber", [("part", .str p)]⟩
theorem g_ratio_n {n d : D} (h1 : (tyN n).isSome = true) (h2 : isWhD n = false) : g_ratio [n, d] = some (.error (badN "n")) := by
  have key : Mv (g_ratio [n, d]) (fun r => False) (fun x => x = badN "n") := by
    unfold g_ratio m_ratio
    simp only [mv_runP, rv_runB, List.length_cons, List.length_nil, Nat.reduceAdd, Nat.reduceSub, Nat.zero_add, List.replicate_zero, List.replicate_one, rep2, rep3, rep4, rep5, rep6, rep7, rep8, rep9, List.append_nil, List.map_cons, List.map_nil, List.cons_append, List.nil_append, List.getElem?_cons_zero, List.getElem?_cons_succ, List.set_cons_succ, List.set_cons_zero, setE, wipeE, rv_ok, rv_er, od_some, mv_ok, mv_er, sv_some, bv_bl, iv_int, tv_str, lv_lst, outB_ret, outB_nxf, outB_exc, th_nx, th_ret, th_exc, th_brk, th_ct, ro_nx, ro_ret, ro_exc, ro_brk, ro_ct, rv_bind, rv_okE, rv_okL, rv_var, rv_c, rv_nil, rv_cons, rv_e1, rv_e2, rv_eN, rv_eMt, rv_eB, rv_and, rv_or, rv_if, rv_tup, rv_lst, rv_call, rv_callM, rv_it, rv_cut, rv_cutL, rv_pn, rv_ps, rv_chain, rv_M1, rv_range1, rv_zip, rv_zip3, sv_nil, sv_brk, sv_ct, sv_cons, sv_drop, sv_ret, sv_if, sv_asg, od_gN, sv_raise, sv_par, sv_for, sv_x, sv_asgX, rx_own, rx_ownX, sv_put, dNot_bl, true_and, and_true, if_true, if_false, ite_true, ite_false, Bool.false_eq_true, reduceIte, Bool.not_true, Bool.not_false, g_is_whole_ty h1, h2, sv_raise1]
    rfl
  unfold Mv at key
  split at key
  · exact key.elim
  · exact key.elim
  · rename_i e
    rw [e, key]
theorem g_ratio_d {n : Int} {d : D} (h1 : (tyN d).isSome = true) (h2 : isWhD d = false ∨ d = .int 0) : g_ratio [.int n, d] = some (.error (badN "d")) := by
  have key : Mv (g_ratio [.int n, d]) (fun r => False) (fun x => x = badN "d") := by
    unfold g_ratio m_ratio
    have w1 : g_is_whole [.int n] = some (.ok (.bl true)) := g_is_whole_ty rfl
    rcases h2 with h2 | rfl
    · simp only [mv_runP, rv_runB, List.length_cons, List.length_nil, Nat.reduceAdd, Nat.reduceSub, Nat.zero_add, List.replicate_zero, List.replicate_one, rep2, rep3, rep4, rep5, rep6, rep7, rep8, rep9, List.append_nil, List.map_cons, List.map_nil, List.cons_append, List.nil_append, List.getElem?_cons_zero, List.getElem?_cons_succ, List.set_cons_succ, List.set_cons_zero, setE, wipeE, rv_ok, rv_er, od_some, mv_ok, mv_er, sv_some, bv_bl, iv_int, tv_str, lv_lst, outB_ret, outB_nxf, outB_exc, th_nx, th_ret, th_exc, th_brk, th_ct, ro_nx, ro_ret, ro_exc, ro_brk, ro_ct, rv_bind, rv_okE, rv_okL, rv_var, rv_c, rv_nil, rv_cons, rv_e1, rv_e2, rv_eN, rv_eMt, rv_eB, rv_and, rv_or, rv_if, rv_tup, rv_lst, rv_call, rv_callM, rv_it, rv_cut, rv_cutL, rv_pn, rv_ps, rv_chain, rv_M1, rv_range1, rv_zip, rv_zip3, sv_nil, sv_brk, sv_ct, sv_cons, sv_drop, sv_ret, sv_if, sv_asg, od_gN, sv_raise, sv_par, sv_for, sv_x, sv_asgX, rx_own, rx_ownX, sv_put, dNot_bl, true_and, and_true, if_true, if_false, ite_true, ite_false, Bool.false_eq_true, reduceIte, Bool.not_true, Bool.not_false, w1, g_is_whole_ty h1, h2, sv_raise1]
      rfl
    · have w2 : g_is_whole [.int 0] = some (.ok (.bl true)) := g_is_whole_ty rfl
      have e0 : dEq (.int 0) (.int 0) = some (.bl true) := rfl
      simp only [mv_runP, rv_runB, List.length_cons, List.length_nil, Nat.reduceAdd, Nat.reduceSub, Nat.zero_add, List.replicate_zero, List.replicate_one, rep2, rep3, rep4, rep5, rep6, rep7, rep8, rep9, List.append_nil, List.map_cons, List.map_nil, List.cons_append, List.nil_append, List.getElem?_cons_zero, List.getElem?_cons_succ, List.set_cons_succ, List.set_cons_zero, setE, wipeE, rv_ok, rv_er, od_some, mv_ok, mv_er, sv_some, bv_bl, iv_int, tv_str, lv_lst, outB_ret, outB_nxf, outB_exc, th_nx, th_ret, th_exc, th_brk, th_ct, ro_nx, ro_ret, ro_exc, ro_brk, ro_ct, rv_bind, rv_okE, rv_okL, rv_var, rv_c, rv_nil, rv_cons, rv_e1, rv_e2, rv_eN, rv_eMt, rv_eB, rv_and, rv_or, rv_if, rv_tup, rv_lst, rv_call, rv_callM, rv_it, rv_cut, rv_cutL, rv_pn, rv_ps, rv_chain, rv_M1, rv_range1, rv_zip, rv_zip3, sv_nil, sv_brk, sv_ct, sv_cons, sv_drop, sv_ret, sv_if, sv_asg, od_gN, sv_raise, sv_par, sv_for, sv_x, sv_asgX, rx_own, rx_ownX, sv_put, dNot_bl, true_and, and_true, if_true, if_false, ite_true, ite_false, Bool.false_eq_true, reduceIte, Bool.not_true, Bool.not_false, w1, w2, e0, sv_raise1]
      rfl
  unfold Mv at key
  split at key
  · exact key.elim
  · exact key.elim
  · rename_i e
    rw [e, key]
theorem mask0 {x : Env} : maskE [] x = x := by
  unfold maskE
  refine List.ext_getElem? fun i => ?_
  rw [List.getElem?_mapIdx]
  cases x[i]? <;> rfl
theorem isE_bad (p : Str) : dIsE [exD (badN p), .cls "BadNumber"] = some (.bl true) := by
  show some (D.bl (decide (("BadNumber" : Str) = "BadNumber"))) = _
  rw [decide_eq_true rfl]
theorem fld_bad (p : Str) : dFld "part" (exD (badN p)) = some (.str p) := by
  show (if ("part" : Str) = "part" then some (D.str p) else none) = _
  rw [if_pos rfl]
theorem isE_rs : dIsE [exD badRs, .cls "BadRatios"] = some (.bl true) := by
  show some (D.bl (decide (("BadRatios" : Str) = "BadRatios"))) = _
  rw [decide_eq_true rfl]
theorem isE_r : dIsE [exD badR, .cls "BadRatio"] = some (.bl true) := by
  show some (D.bl (decide (("BadRatio" : Str) = "BadRatio"))) = _
  rw [decide_eq_true rfl]
theorem ne_str (p : Str) : dNe (.str p) (.str p) = some (.bl false) := by
  show some (D.bl (!decide (p = p))) = _
  simp
theorem half_ty : TyD (.tup [.int 1, .int 2]) ∧ isRatD (.tup [.int 1, .int 2]) = true := by
  refine ⟨⟨rfl, fun l e => ?_⟩, by decide +kernel⟩
  rcases e with e | e
  · cases e
    exact ⟨fun x hx => by
      simp only [List.mem_cons, List.not_mem_nil, or_false] at hx
      rcases hx with rfl | rfl <;> rfl, by simp⟩
  · cases e
theorem refused_b {k : Nat} {w : DW} (h : Wd (k + 3) w) : ∃ w' : DW, g__law_refused w [.tok 0] = some (.ok (.bl true, w')) ∧ Wd k w' := by
  have key : Rv (g__law_refused w [.tok 0]) (fun d w' => d = .bl true ∧ Wd k w') (fun _ _ => False) := by
    unfold g__law_refused m__law_refused
    obtain ⟨odd, w1, e1, ho, hw1⟩ := pick_b (k := k + 2) (l := oddL) h (by simp [oddL]) (by simp [oddL])
    obtain ⟨bad, w2, e2', hb, hw2⟩ := pick_b (k := k + 1) (l := badL) hw1 (by simp [badL]) (by simp [badL])
    obtain ⟨z, w3, e3, hz, hw3⟩ := pick_b (k := k) (l := [.int 0, odd]) hw2 (by simp) (by simp)
    unfold oddL at e1
    unfold badL at e2'
    obtain ⟨o1, o2⟩ := odd_ty ho
    obtain ⟨b1, b2⟩ := bad_ty hb
    have hz2 : (tyN z).isSome = true ∧ (isWhD z = false ∨ z = .int 0) := by
      simp only [List.mem_cons, List.not_mem_nil, or_false] at hz
      rcases hz with rfl | rfl
      · exact ⟨rfl, .inr rfl⟩
      · exact ⟨o1, .inl o2⟩
    have r1 := g_ratio_n (d := .int 0) o1 o2
    have r2 := g_ratio_d (n := 3) hz2.1 hz2.2
    have a1 := g_added_bad (v := .non) rfl
    have a2 := g_added_bad (v := .int 5) rfl
    have a3 := g_added_bad (v := .str "") rfl
    have a4 := g_added_badL (v := .tup [.int 1, .int 2]) (l := [.int 1, .int 2]) rfl rfl (fun d hd => by
      simp only [List.mem_cons, List.not_mem_nil, or_false] at hd
      rcases hd with rfl | rfl <;> exact ⟨rfl, fun l e => by rcases e with e | e <;> cases e⟩) (by simp) rfl
    have a5 := g_added_badL (v := .lst [bad]) (l := [bad]) rfl rfl (fun d hd => by rw [List.mem_singleton.mp hd]; exact b1) (by simp) (by simp [b2])
    have a6 := g_added_badL (v := .lst [.tup [.int 1, .int 2], bad]) (l := [.tup [.int 1, .int 2], bad]) rfl rfl (fun d hd => by
      rcases List.mem_cons.mp hd with rfl | hd
      · exact half_ty.1
      · rw [List.mem_singleton.mp hd]; exact b1) (by simp) (by simp [b2])
    have a7 := g_added_bad (v := .dct []) rfl
    have a8 := g_added_bad (v := .opq) rfl
    have c1 := g_is_below_bad b1 half_ty.1 (.inl b2)
    have c2 := g_is_below_bad half_ty.1 b1 (.inr b2)
    simp only [mv_runP, rv_runB, List.length_cons, List.length_nil, Nat.reduceAdd, Nat.reduceSub, Nat.zero_add, List.replicate_zero, List.replicate_one, rep2, rep3, rep4, rep5, rep6, rep7, rep8, rep9, List.append_nil, List.map_cons, List.map_nil, List.cons_append, List.nil_append, List.getElem?_cons_zero, List.getElem?_cons_succ, List.set_cons_succ, List.set_cons_zero, setE, wipeE, rv_ok, rv_er, od_some, mv_ok, mv_er, sv_some, bv_bl, iv_int, tv_str, lv_lst, outB_ret, outB_nxf, outB_exc, th_nx, th_ret, th_exc, th_brk, th_ct, ro_nx, ro_ret, ro_exc, ro_brk, ro_ct, rv_bind, rv_okE, rv_okL, rv_var, rv_c, rv_nil, rv_cons, rv_e1, rv_e2, rv_eN, rv_eMt, rv_eB, rv_and, rv_or, rv_if, rv_tup, rv_lst, rv_call, rv_callM, rv_it, rv_cut, rv_cutL, rv_pn, rv_ps, rv_chain, rv_M1, rv_range1, rv_zip, rv_zip3, sv_nil, sv_brk, sv_ct, sv_cons, sv_drop, sv_ret, sv_if, sv_asg, od_gN, sv_raise, sv_par, sv_for, sv_x, sv_asgX, rx_own, rx_ownX, sv_put, dNot_bl, true_and, and_true, if_true, if_false, ite_true, ite_false, Bool.false_eq_true, reduceIte, Bool.not_true, Bool.not_false, e1, e2', rv_caught, mask0, r1, isE_bad, fld_bad, ne_str, e3, r2, itemsOf, sv_forL, sv_forN, a1, a2, a3, a4, a5, a6, a7, a8, isE_rs, c1, c2, isE_r]
    exact hw3
  obtain ⟨d, w', e, hd, q⟩ := rv_ex.mp key
  rw [hd] at e
  exact ⟨w', e, q⟩
end DL
end
noncomputable section
namespace DL
open L2 PySem PyProof.Rows PySem.Spec

def tyDB (d : D) : Bool := (tyN d).isSome && (match d with
  | .tup l => l.all (fun x => (tyN x).isSome) && decide (l.length ≤ 100000)
  | .lst l => l.all (fun x => (tyN x).isSome) && decide (l.length ≤ 100000)
  | _ => true)
theorem tyDB_ok {d : D} (h : tyDB d = true) : TyD d := by
  unfold tyDB at h
  rw [Bool.and_eq_true] at h
  refine ⟨h.1, fun l e => ?_⟩
  rcases e with rfl | rfl
  · have := h.2
    simp only [Bool.and_eq_true, List.all_eq_true, decide_eq_true_eq] at this
    exact this
  · have := h.2
    simp only [Bool.and_eq_true, List.all_eq_true, decide_eq_true_eq] at this
    exact this
/-- its second part is not huge -/
def SmD (d : D) : Prop := ∀ x y, d = .tup [.int x, .int y] → y.natAbs < 2 ^ 4000
def nearA (n m : Int) : List D := [qR n m, qR n m, .tup [.int n, .int m], .tup [.int (n * 7), .int (m * 7)], .tup [.int n, .int (0 - m)], .lst [.int n, .int m], .tup [.int n], .tup [.int n, .int m, .int 1], .tup [.int n, .bl true], .tup [.bl false, .int 1], .tup [.int n, .int 0]]
def nearB (n m : Int) : List D := [.tup [.str (toString n : String), .int m], .tup [.int 0, .int 1], .tup [.int 0, .int 2], .tup [.non, .int 1], .non, .int n, .str "1/2", .tup [.int 1, .int 1], .tup [.bl true, .int 1], .tup [.tup [.int n, .int m], .int 1]]
theorem near_ok {n m : Int} (hm : 0 < m) (hn : n.natAbs < 2 ^ 100) (hb : m.natAbs < 2 ^ 110) {d : D} (h : d ∈ nearA n m ++ nearB n m) : TyD d ∧ SmD d := by
  have s0 : SmD (qR n m) := fun x y e => by
    obtain ⟨k, j, e2, _, _, u, _⟩ := qR_rat (b := 110) hm (Nat.lt_trans hn (by decide)) hb
    rw [e2] at e
    cases e
    exact Nat.lt_trans u (by decide)
  have big : ∀ y : Int, y.natAbs < 2 ^ 200 → y.natAbs < 2 ^ 4000 := fun y hy => Nat.lt_trans hy (by decide)
  have m7 : (m * 7).natAbs < 2 ^ 200 := by
    have : (m * 7).natAbs = m.natAbs * 7 := by rw [Int.natAbs_mul] <;> rfl
    rw [this]
    have : m.natAbs * 7 < 2 ^ 110 * 7 := by omega
    exact Nat.lt_trans this (by decide)
  have m0 : (0 - m).natAbs < 2 ^ 200 := by
    have : (0 - m).natAbs = m.natAbs := by omega
    rw [this]
    exact Nat.lt_trans hb (by decide)
  have mm : m.natAbs < 2 ^ 200 := Nat.lt_trans hb (by decide)
  simp only [nearA, nearB, List.cons_append, List.nil_append, List.mem_cons, List.not_mem_nil, or_false] at h
  rcases h with rfl | rfl | rfl | rfl | rfl | rfl | rfl | rfl | rfl | rfl | rfl | rfl | rfl | rfl | rfl | rfl | rfl | rfl | rfl | rfl | rfl
  · exact ⟨tyDB_ok rfl, s0⟩
  · exact ⟨tyDB_ok rfl, s0⟩
  · exact ⟨tyDB_ok rfl, fun x y e => by cases e; exact big _ mm⟩
  · exact ⟨tyDB_ok rfl, fun x y e => by cases e; exact big _ m7⟩
  · exact ⟨tyDB_ok rfl, fun x y e => by cases e; exact big _ m0⟩
  all_goals exact ⟨tyDB_ok rfl, fun x y e => by cases e <;> decide⟩
theorem near_b {k : Nat} {w : DW} (h : Wd (k + 7) w) : ∃ (d : D) (w' : DW), g__law_near w [.tok 0] = some (.ok (d, w')) ∧ TyD d ∧ SmD d ∧ Wd k w' := by
  have key : Rv (g__law_near w [.tok 0]) (fun d w' => TyD d ∧ SmD d ∧ Wd k w') (fun _ _ => False) := by
    unfold g__law_near m__law_near
    obtain ⟨n, w1, e1, hn, hw1⟩ := number_b (k := k + 4) h
    obtain ⟨b, w2, e2', hb, hw2⟩ := number_b (k := k + 1) hw1
    obtain ⟨p1, p2⟩ := abs1 hb
    have ad : dAdd (.int 1) (.int ((b.natAbs : Nat) : Int)) = some (.int (1 + ((b.natAbs : Nat) : Int))) := rfl
    generalize 1 + ((b.natAbs : Nat) : Int) = m at p1 p2 ad
    obtain ⟨d, w3, e3, hd, hw3⟩ := pick_b (k := k) (l := nearA n m ++ nearB n m) hw2 (by simp [nearA]) (by simp [nearA, nearB])
    have m1 : dMul (.int n) (.int 7) = some (.int (n * 7)) := dMul_int (Nat.lt_trans hn (by decide)) (by decide)
    have m2 : dMul (.int m) (.int 7) = some (.int (m * 7)) := dMul_int (Nat.lt_trans p2 (by decide)) (by decide)
    have m3 : dSub (.int 0) (.int m) = some (.int (0 - m)) := rfl
    have m4 : dStr [.int n] = some (.str (toString n : String)) := by
      show (if n.natAbs.log2 < 1920 then some (D.str (toString n : String)) else none) = _
      rw [if_pos (by have := log_lt hn (by decide); omega)]
    have m5 : dAdd (.lst (nearA n m)) (.lst (nearB n m)) = some (.lst (nearA n m ++ nearB n m)) := dAdd_lst _ _ (by simp [nearA, nearB])
    unfold nearA nearB at m5 e3
    simp only [mv_runP, rv_runB, List.length_cons, List.length_nil, Nat.reduceAdd, Nat.reduceSub, Nat.zero_add, List.replicate_zero, List.replicate_one, rep2, rep3, rep4, rep5, rep6, rep7, rep8, rep9, List.append_nil, List.map_cons, List.map_nil, List.cons_append, List.nil_append, List.getElem?_cons_zero, List.getElem?_cons_succ, List.set_cons_succ, List.set_cons_zero, setE, wipeE, rv_ok, rv_er, od_some, mv_ok, mv_er, sv_some, bv_bl, iv_int, tv_str, lv_lst, outB_ret, outB_nxf, outB_exc, th_nx, th_ret, th_exc, th_brk, th_ct, ro_nx, ro_ret, ro_exc, ro_brk, ro_ct, rv_bind, rv_okE, rv_okL, rv_var, rv_c, rv_nil, rv_cons, rv_e1, rv_e2, rv_eN, rv_eMt, rv_eB, rv_and, rv_or, rv_if, rv_tup, rv_lst, rv_call, rv_callM, rv_it, rv_cut, rv_cutL, rv_pn, rv_ps, rv_chain, rv_M1, rv_range1, rv_zip, rv_zip3, sv_nil, sv_brk, sv_ct, sv_cons, sv_drop, sv_ret, sv_if, sv_asg, od_gN, sv_raise, sv_par, sv_for, sv_x, sv_asgX, rx_own, rx_ownX, sv_put, dNot_bl, true_and, and_true, if_true, if_false, ite_true, ite_false, Bool.false_eq_true, reduceIte, Bool.not_true, Bool.not_false, e1, e2', dAbs, abs_nat, ad, g_q_eq (a := n) p1 (Nat.lt_trans p2 (by decide)), m1, m2, m3, m4]
    simp only [mv_runP, rv_runB, List.length_cons, List.length_nil, Nat.reduceAdd, Nat.reduceSub, Nat.zero_add, List.replicate_zero, List.replicate_one, rep2, rep3, rep4, rep5, rep6, rep7, rep8, rep9, List.append_nil, List.map_cons, List.map_nil, List.cons_append, List.nil_append, List.getElem?_cons_zero, List.getElem?_cons_succ, List.set_cons_succ, List.set_cons_zero, setE, wipeE, rv_ok, rv_er, od_some, mv_ok, mv_er, sv_some, bv_bl, iv_int, tv_str, lv_lst, outB_ret, outB_nxf, outB_exc, th_nx, th_ret, th_exc, th_brk, th_ct, ro_nx, ro_ret, ro_exc, ro_brk, ro_ct, rv_bind, rv_okE, rv_okL, rv_var, rv_c, rv_nil, rv_cons, rv_e1, rv_e2, rv_eN, rv_eMt, rv_eB, rv_and, rv_or, rv_if, rv_tup, rv_lst, rv_call, rv_callM, rv_it, rv_cut, rv_cutL, rv_pn, rv_ps, rv_chain, rv_M1, rv_range1, rv_zip, rv_zip3, sv_nil, sv_brk, sv_ct, sv_cons, sv_drop, sv_ret, sv_if, sv_asg, od_gN, sv_raise, sv_par, sv_for, sv_x, sv_asgX, rx_own, rx_ownX, sv_put, dNot_bl, true_and, and_true, if_true, if_false, ite_true, ite_false, Bool.false_eq_true, reduceIte, Bool.not_true, Bool.not_false, m5]
    simp only [List.cons_append, List.nil_append] at e3
    simp only [mv_runP, rv_runB, List.length_cons, List.length_nil, Nat.reduceAdd, Nat.reduceSub, Nat.zero_add, List.replicate_zero, List.replicate_one, rep2, rep3, rep4, rep5, rep6, rep7, rep8, rep9, List.append_nil, List.map_cons, List.map_nil, List.cons_append, List.nil_append, List.getElem?_cons_zero, List.getElem?_cons_succ, List.set_cons_succ, List.set_cons_zero, setE, wipeE, rv_ok, rv_er, od_some, mv_ok, mv_er, sv_some, bv_bl, iv_int, tv_str, lv_lst, outB_ret, outB_nxf, outB_exc, th_nx, th_ret, th_exc, th_brk, th_ct, ro_nx, ro_ret, ro_exc, ro_brk, ro_ct, rv_bind, rv_okE, rv_okL, rv_var, rv_c, rv_nil, rv_cons, rv_e1, rv_e2, rv_eN, rv_eMt, rv_eB, rv_and, rv_or, rv_if, rv_tup, rv_lst, rv_call, rv_callM, rv_it, rv_cut, rv_cutL, rv_pn, rv_ps, rv_chain, rv_M1, rv_range1, rv_zip, rv_zip3, sv_nil, sv_brk, sv_ct, sv_cons, sv_drop, sv_ret, sv_if, sv_asg, od_gN, sv_raise, sv_par, sv_for, sv_x, sv_asgX, rx_own, rx_ownX, sv_put, dNot_bl, true_and, and_true, if_true, if_false, ite_true, ite_false, Bool.false_eq_true, reduceIte, Bool.not_true, Bool.not_false, e3]
    obtain ⟨t1, t2⟩ := near_ok p1 hn p2 hd
    exact ⟨t1, t2, hw3⟩
  rw [rv_ex] at key
  exact key
/-! ### words, and near them -/
theorem odd_letters {s : Str} (h : Fi (.str s)) : dEq (.lst ((s.cps.toList.map fun c => D.str ⟨#[c]⟩).filter fun d => !alD d)) (.lst []) = some (.bl (s.cps.toList.all inAl)) := by
  have key : ((s.cps.toList.map fun c => D.str ⟨#[c]⟩).filter fun d => !alD d) = (s.cps.toList.filter fun c => !inAl c).map fun c => D.str ⟨#[c]⟩ := by
    rw [List.filter_map]
    rfl
  rw [key]
  have hsub : ∀ c ∈ s.cps.toList.filter (fun c => !inAl c), shD 59 (.str ⟨#[c]⟩) = true := fun c hc => by
    have q := h.strok
    unfold PyData.strOk at q
    rw [← Array.all_toList, List.all_eq_true] at q
    show PyData.strOk ⟨#[c]⟩ = true
    unfold PyData.strOk
    rw [← Array.all_toList]
    simp only [List.all_cons, List.all_nil, Bool.and_true]
    exact q c (List.mem_filter.mp hc).1
  have hall : s.cps.toList.all inAl = (s.cps.toList.filter fun c => !inAl c).isEmpty := by
    induction s.cps.toList with
    | nil => rfl
    | cons c l ih =>
      rw [List.all_cons, List.filter_cons]
      cases inAl c <;> simp [ih]
  rw [hall]
  generalize s.cps.toList.filter (fun c => !inAl c) = m at hsub
  have sh1 : shD 60 (.lst (m.map fun c => D.str ⟨#[c]⟩)) = true := by
    rw [shD]
    induction m with
    | nil => rfl
    | cons c m ih =>
      rw [List.map_cons, shDs, hsub c List.mem_cons_self, ih fun x hx => hsub x (List.mem_cons_of_mem _ hx)]
      rfl
  show (if shD 60 (.lst (m.map fun c => D.str ⟨#[c]⟩)) && shD 60 (.lst []) then some (D.bl (PyData.eqv (toPy (.lst (m.map fun c => D.str ⟨#[c]⟩))) (toPy (.lst [])))) else none) = _
  rw [sh1]
  cases m <;> simp [toPy, toPys, PyData.eqv, PyData.eqvAll, shD, shDs]
def bWord : Fs DW := (sCons (sAsg (eAnd (eN dIsi (fCons (eVar 5) (fCons (eC (.ty "str")) fNil))) (eChain dLe dLe (eC (.int 1)) (eN dLen (fCons (eVar 5) fNil)) (eC (.int 8)))) (gN 6))
  (sCons (sAsg (eAnd (eVar 6) (e2 dEq (eComp (fIt (eVar 5)) [7] (gN 7) (eB (e2 dNotIn (eVar 7) (eC (.str "abcdefghijklmnopqrstuvwxyz")))) (eVar 7)) (eLst fNil))) (gN 6))
  (sIf (e1 dNot (eB (eCall g__law_is_truth (fCons (eCall g_is_word (fCons (eVar 5) fNil)) (fCons (eVar 6) fNil)))))
  (sRet (eC (.bl false)))
  sNil)))
theorem bWord_run (w : DW) (x0 x1 x2 x3 x4 x6 x7 : Option D) {d : D} (h : Fi d) : Sv (bWord w [x0, x1, x2, x3, x4, some d, x6, x7]) (fun o => ∃ y6, o = .nx w [x0, x1, x2, x3, x4, some d, y6, x7]) := by
  have hi := isi_str h.ty
  have hw := g_is_word_eq h
  unfold bWord
  cases d with
  | str s =>
    have l1 := h.str
    by_cases c1 : 1 ≤ s.length
    · by_cases c2 : s.length ≤ 8
      · have em : ∀ a b c d e f : Option D, compL (A := DW) (gN 7) (eB (e2 dNotIn (eVar 7) (eC (.str "abcdefghijklmnopqrstuvwxyz")))) (eVar 7) (s.cps.toList.map fun c => D.str ⟨#[c]⟩) w [a, b, c, d, e, some (.str s), f, none] =
            some (.ok (((s.cps.toList.map fun c => D.str ⟨#[c]⟩).filter fun d => !alD d).map id, w)) := fun a b c d e f => comp_map _ _ _ fun d hd => by
          obtain ⟨c, _, rfl⟩ := List.mem_map.mp hd
          refine ⟨_, rfl, ?_, fun _ => rfl⟩
          rw [← rv_eq]
          simp only [mv_runP, rv_runB, List.length_cons, List.length_nil, Nat.reduceAdd, Nat.reduceSub, Nat.zero_add, List.replicate_zero, List.replicate_one, rep2, rep3, rep4, rep5, rep6, rep7, rep8, rep9, List.append_nil, List.map_cons, List.map_nil, List.cons_append, List.nil_append, List.getElem?_cons_zero, List.getElem?_cons_succ, List.set_cons_succ, List.set_cons_zero, setE, wipeE, rv_ok, rv_er, od_some, mv_ok, mv_er, sv_some, bv_bl, iv_int, tv_str, lv_lst, outB_ret, outB_nxf, outB_exc, th_nx, th_ret, th_exc, th_brk, th_ct, ro_nx, ro_ret, ro_exc, ro_brk, ro_ct, rv_bind, rv_okE, rv_okL, rv_var, rv_c, rv_nil, rv_cons, rv_e1, rv_e2, rv_eN, rv_eMt, rv_eB, rv_and, rv_or, rv_if, rv_tup, rv_lst, rv_call, rv_callM, rv_it, rv_cut, rv_cutL, rv_pn, rv_ps, rv_chain, rv_M1, rv_range1, rv_zip, rv_zip3, sv_nil, sv_brk, sv_ct, sv_cons, sv_drop, sv_ret, sv_if, sv_asg, od_gN, sv_raise, sv_par, sv_for, sv_x, sv_asgX, rx_own, rx_ownX, sv_put, dNot_bl, true_and, and_true, if_true, if_false, ite_true, ite_false, Bool.false_eq_true, reduceIte, Bool.not_true, Bool.not_false, dNotIn_al]
          cases e : inAl c <;> simp [alD, e]
        have hl : ((s.cps.toList.map fun c => D.str ⟨#[c]⟩).filter fun d => !alD d).length < 16000000 := by
          have := List.length_filter_le (fun d => !alD d) (s.cps.toList.map fun c => D.str ⟨#[c]⟩)
          rw [List.length_map] at this
          have hs : s.cps.toList.length ≤ 1000 := h.str
          omega
        have hword : isWordD (.str s) = s.cps.toList.all inAl := by
          show isWd s = _
          rw [isWd_eq, decide_eq_true c1, decide_eq_true c2]
          rfl
        simp only [mv_runP, rv_runB, List.length_cons, List.length_nil, Nat.reduceAdd, Nat.reduceSub, Nat.zero_add, List.replicate_zero, List.replicate_one, rep2, rep3, rep4, rep5, rep6, rep7, rep8, rep9, List.append_nil, List.map_cons, List.map_nil, List.cons_append, List.nil_append, List.getElem?_cons_zero, List.getElem?_cons_succ, List.set_cons_succ, List.set_cons_zero, setE, wipeE, rv_ok, rv_er, od_some, mv_ok, mv_er, sv_some, bv_bl, iv_int, tv_str, lv_lst, outB_ret, outB_nxf, outB_exc, th_nx, th_ret, th_exc, th_brk, th_ct, ro_nx, ro_ret, ro_exc, ro_brk, ro_ct, rv_bind, rv_okE, rv_okL, rv_var, rv_c, rv_nil, rv_cons, rv_e1, rv_e2, rv_eN, rv_eMt, rv_eB, rv_and, rv_or, rv_if, rv_tup, rv_lst, rv_call, rv_callM, rv_it, rv_cut, rv_cutL, rv_pn, rv_ps, rv_chain, rv_M1, rv_range1, rv_zip, rv_zip3, sv_nil, sv_brk, sv_ct, sv_cons, sv_drop, sv_ret, sv_if, sv_asg, od_gN, sv_raise, sv_par, sv_for, sv_x, sv_asgX, rx_own, rx_ownX, sv_put, dNot_bl, true_and, and_true, if_true, if_false, ite_true, ite_false, Bool.false_eq_true, reduceIte, Bool.not_true, Bool.not_false, hi, kStr, dLen, if_pos (show s.length ≤ 16000000 by omega), dLe, len_dec, len_dec8, decide_eq_true c1, decide_eq_true c2, rv_comp, itemsOf, em, List.map_id, odd_letters h, hw, hword, g_is_truth_eq, decide_true]
        exact ⟨hl, _, rfl⟩
      · have hword : isWordD (.str s) = false := by
          show isWd s = _
          rw [isWd_eq, decide_eq_false c2]
          simp
        simp only [mv_runP, rv_runB, List.length_cons, List.length_nil, Nat.reduceAdd, Nat.reduceSub, Nat.zero_add, List.replicate_zero, List.replicate_one, rep2, rep3, rep4, rep5, rep6, rep7, rep8, rep9, List.append_nil, List.map_cons, List.map_nil, List.cons_append, List.nil_append, List.getElem?_cons_zero, List.getElem?_cons_succ, List.set_cons_succ, List.set_cons_zero, setE, wipeE, rv_ok, rv_er, od_some, mv_ok, mv_er, sv_some, bv_bl, iv_int, tv_str, lv_lst, outB_ret, outB_nxf, outB_exc, th_nx, th_ret, th_exc, th_brk, th_ct, ro_nx, ro_ret, ro_exc, ro_brk, ro_ct, rv_bind, rv_okE, rv_okL, rv_var, rv_c, rv_nil, rv_cons, rv_e1, rv_e2, rv_eN, rv_eMt, rv_eB, rv_and, rv_or, rv_if, rv_tup, rv_lst, rv_call, rv_callM, rv_it, rv_cut, rv_cutL, rv_pn, rv_ps, rv_chain, rv_M1, rv_range1, rv_zip, rv_zip3, sv_nil, sv_brk, sv_ct, sv_cons, sv_drop, sv_ret, sv_if, sv_asg, od_gN, sv_raise, sv_par, sv_for, sv_x, sv_asgX, rx_own, rx_ownX, sv_put, dNot_bl, true_and, and_true, if_true, if_false, ite_true, ite_false, Bool.false_eq_true, reduceIte, Bool.not_true, Bool.not_false, hi, kStr, dLen, if_pos (show s.length ≤ 16000000 by omega), dLe, len_dec, len_dec8, decide_eq_true c1, decide_eq_false c2, hw, hword, g_is_truth_eq, decide_true]
        exact ⟨_, rfl⟩
    · have hword : isWordD (.str s) = false := by
        show isWd s = _
        rw [isWd_eq, decide_eq_false c1]
        simp
      simp only [mv_runP, rv_runB, List.length_cons, List.length_nil, Nat.reduceAdd, Nat.reduceSub, Nat.zero_add, List.replicate_zero, List.replicate_one, rep2, rep3, rep4, rep5, rep6, rep7, rep8, rep9, List.append_nil, List.map_cons, List.map_nil, List.cons_append, List.nil_append, List.getElem?_cons_zero, List.getElem?_cons_succ, List.set_cons_succ, List.set_cons_zero, setE, wipeE, rv_ok, rv_er, od_some, mv_ok, mv_er, sv_some, bv_bl, iv_int, tv_str, lv_lst, outB_ret, outB_nxf, outB_exc, th_nx, th_ret, th_exc, th_brk, th_ct, ro_nx, ro_ret, ro_exc, ro_brk, ro_ct, rv_bind, rv_okE, rv_okL, rv_var, rv_c, rv_nil, rv_cons, rv_e1, rv_e2, rv_eN, rv_eMt, rv_eB, rv_and, rv_or, rv_if, rv_tup, rv_lst, rv_call, rv_callM, rv_it, rv_cut, rv_cutL, rv_pn, rv_ps, rv_chain, rv_M1, rv_range1, rv_zip, rv_zip3, sv_nil, sv_brk, sv_ct, sv_cons, sv_drop, sv_ret, sv_if, sv_asg, od_gN, sv_raise, sv_par, sv_for, sv_x, sv_asgX, rx_own, rx_ownX, sv_put, dNot_bl, true_and, and_true, if_true, if_false, ite_true, ite_false, Bool.false_eq_true, reduceIte, Bool.not_true, Bool.not_false, hi, kStr, dLen, if_pos (show s.length ≤ 16000000 by omega), dLe, len_dec, len_dec8, decide_eq_false c1, hw, hword, g_is_truth_eq, decide_true]
      exact ⟨_, rfl⟩
  | _ =>
    simp only [mv_runP, rv_runB, List.length_cons, List.length_nil, Nat.reduceAdd, Nat.reduceSub, Nat.zero_add, List.replicate_zero, List.replicate_one, rep2, rep3, rep4, rep5, rep6, rep7, rep8, rep9, List.append_nil, List.map_cons, List.map_nil, List.cons_append, List.nil_append, List.getElem?_cons_zero, List.getElem?_cons_succ, List.set_cons_succ, List.set_cons_zero, setE, wipeE, rv_ok, rv_er, od_some, mv_ok, mv_er, sv_some, bv_bl, iv_int, tv_str, lv_lst, outB_ret, outB_nxf, outB_exc, th_nx, th_ret, th_exc, th_brk, th_ct, ro_nx, ro_ret, ro_exc, ro_brk, ro_ct, rv_bind, rv_okE, rv_okL, rv_var, rv_c, rv_nil, rv_cons, rv_e1, rv_e2, rv_eN, rv_eMt, rv_eB, rv_and, rv_or, rv_if, rv_tup, rv_lst, rv_call, rv_callM, rv_it, rv_cut, rv_cutL, rv_pn, rv_ps, rv_chain, rv_M1, rv_range1, rv_zip, rv_zip3, sv_nil, sv_brk, sv_ct, sv_cons, sv_drop, sv_ret, sv_if, sv_asg, od_gN, sv_raise, sv_par, sv_for, sv_x, sv_asgX, rx_own, rx_ownX, sv_put, dNot_bl, true_and, and_true, if_true, if_false, ite_true, ite_false, Bool.false_eq_true, reduceIte, Bool.not_true, Bool.not_false, hi, kStr, hw, isWordD, g_is_truth_eq, decide_true]
    exact ⟨_, rfl⟩
end DL
end
noncomputable section
namespace DL
open L2 PySem PyProof.Rows PySem.Spec

theorem upper26 : (List.range 26).all (fun d => decide (Unicode.upperOf (97 + d) = [65 + d])) = true := by decide +kernel
theorem upper_at {c : Nat} (h : 97 ≤ c ∧ c ≤ 122) : Unicode.upperOf c = [c - 32] := by
  have := List.all_eq_true.mp upper26 (c - 97) (List.mem_range.mpr (by omega))
  have e := of_decide_eq_true this
  rw [show 97 + (c - 97) = c by omega, show 65 + (c - 97) = c - 32 by omega] at e
  exact e
theorem mapIdx_k {α β : Type} (g : α → β) (l : List α) : l.mapIdx (fun _ c => g c) = l.map g := by
  refine List.ext_getElem? fun i => ?_
  rw [List.getElem?_mapIdx, List.getElem?_map]
theorem upper_list (s : Str) : (Txt.upper s).cps.toList = (s.cps.toList.map Unicode.upperOf).flatten := by
  show (placed s fun _ c => Unicode.upperOf c).toList = _
  unfold placed
  rw [Array.toList_flatten, Array.toList_mapIdx, mapIdx_k, List.map_map]
  rfl
theorem upper_wd {s : Str} (h : isWd s = true) : (Txt.upper s).cps.toList = s.cps.toList.map (· - 32) := by
  rw [upper_list]
  have hs := (isWd_iff.mp h).2.2
  clear h
  generalize s.cps.toList = l at hs
  induction l with
  | nil => rfl
  | cons c l ih =>
    rw [List.map_cons, List.flatten_cons, upper_at (hs c List.mem_cons_self), ih fun x hx => hs x (List.mem_cons_of_mem _ hx), List.map_cons]
    rfl
theorem fi_str {s : Str} (h1 : PyData.strOk s = true) (h2 : s.length ≤ 1000) : Fi (.str s) := ⟨0, by omega, fiD_str h1 h2⟩
theorem strOk_of {s : Str} (h : ∀ c ∈ s.cps.toList, c < 55296) : PyData.strOk s = true := by
  unfold PyData.strOk
  rw [← Array.all_toList, List.all_eq_true]
  intro c hc
  have := h c hc
  exact decide_eq_true (by omega)
theorem upper_fi {s : Str} (h : isWd s = true) : Fi (.str (Txt.upper s)) := by
  have e := upper_wd h
  have hw := isWd_iff.mp h
  refine fi_str (strOk_of fun c hc => ?_) ?_
  · rw [e] at hc
    obtain ⟨x, hx, rfl⟩ := List.mem_map.mp hc
    have := hw.2.2 x hx
    omega
  · have : (Txt.upper s).length = (Txt.upper s).cps.toList.length := rfl
    rw [this, e, List.length_map]
    have : s.cps.toList.length = s.length := rfl
    omega
theorem cutS_ok {s : Str} (h : PyData.strOk s = true) (lo hi : Option Int) : PyData.strOk (cutS s lo hi) = true ∧ (cutS s lo hi).length ≤ s.length := by
  constructor
  · unfold PyData.strOk at *
    rw [← Array.all_toList, List.all_eq_true] at *
    intro c hc
    have hc' : c ∈ (s.cps.toList.drop (HT.sIx s.length 0 lo)).take (HT.sIx s.length s.length hi - HT.sIx s.length 0 lo) := hc
    exact h c (List.mem_of_mem_drop (List.mem_of_mem_take hc'))
  · show (((s.cps.toList.drop (HT.sIx s.length 0 lo)).take (HT.sIx s.length s.length hi - HT.sIx s.length 0 lo)).toArray).size ≤ _
    rw [List.size_toArray, List.length_take, List.length_drop]
    have : s.cps.toList.length = s.length := rfl
    omega
theorem cut_str {s : Str} (h : s.length ≤ 1000) (lo hi : Option Int) : dCut (.str s) lo hi = some (.str (cutS s lo hi)) := by
  unfold dCut
  dsimp only
  rw [if_pos (by omega)]
theorem add_strs {s t : Str} (h : s.length + t.length ≤ 1000) : dAdd (.str s) (.str t) = some (.str (s ++ t)) := by
  unfold dAdd
  dsimp only
  rw [if_pos (by omega)]
def signL : List D := [.str "A", .str "Z", .str "0", .str " ", .str "_", .str "\n", .str "-", .str "", .str "z", .str "a"]
theorem sign_ok {d : D} (h : d ∈ signL) : ∃ t : Str, d = .str t ∧ PyData.strOk t = true ∧ t.length ≤ 1 := by
  simp only [signL, List.mem_cons, List.not_mem_nil, or_false] at h
  rcases h with rfl | rfl | rfl | rfl | rfl | rfl | rfl | rfl | rfl | rfl <;> exact ⟨_, rfl, by decide +kernel, by decide +kernel⟩
theorem word_b {k : Nat} {w : DW} (h : Wd (k + 2 + wB) w) : ∃ w' : DW, g__law_word_right w [.tok 0] = some (.ok (.bl true, w')) ∧ Wd k w' := by
  have key : Rv (g__law_word_right w [.tok 0]) (fun d w' => d = .bl true ∧ Wd k w') (fun _ _ => False) := by
    unfold g__law_word_right m__law_word_right
    obtain ⟨f, w1, e1, g, _, hw1⟩ := words_b (k := k + 2) (many := 1) h (by decide)
    obtain ⟨s, rfl⟩ : ∃ s, f = [s] := List.length_eq_one_iff.mp g.1
    have hs : isWd s = true := g.2.1 s List.mem_cons_self
    have e1 : g__law_words w [.tok 0, .int 1] = some (.ok (.lst [.str s], w1)) := e1
    have hw := isWd_iff.mp hs
    have sok : PyData.strOk s = true := by
      have := isWd_ok hs 0
      simpa [shD] using this
    have i0 : dIdx (.lst [.str s]) (.int 0) = some (.str s) := by
      show atI [D.str s] 0 = _
      unfold atI ixN
      rw [if_pos (by omega), if_pos (by simp)]
      rfl
    have el : dLen [.str s] = some (.int (s.length : Int)) := by
      show (if s.length ≤ 16000000 then some (D.int (s.length : Int)) else none) = _
      rw [if_pos (by omega)]
    obtain ⟨i, w2, e2', li, hw2⟩ := draw_b (k := k + 1) (room := s.length) hw1 (by omega) (Nat.lt_of_le_of_lt hw.2.1 (by decide))
    obtain ⟨d, w3, e3, hd, hw3⟩ := pick_b (k := k) (l := signL) hw2 (by simp [signL]) (by simp [signL])
    obtain ⟨t, rfl, tok', tl⟩ := sign_ok hd
    unfold signL at e3
    have i1 : dAdd (.int (i : Int)) (.int 1) = some (.int ((i + 1 : Nat) : Int)) := rfl
    have c1 := cutS_ok sok none (some (i : Int))
    have c2 := cutS_ok sok (some ((i + 1 : Nat) : Int)) none
    have k1 := cut_str (show s.length ≤ 1000 by omega) none (some (i : Int))
    have k2 := cut_str (show s.length ≤ 1000 by omega) (some ((i + 1 : Nat) : Int)) none
    have a1 := add_strs (s := cutS s none (some (i : Int))) (t := t) (by omega)
    have l1 := len_app (cutS s none (some (i : Int))) t
    have a2 := add_strs (s := cutS s none (some (i : Int)) ++ t) (t := cutS s (some ((i + 1 : Nat) : Int)) none) (by omega)
    have l2 := len_app (cutS s none (some (i : Int)) ++ t) (cutS s (some ((i + 1 : Nat) : Int)) none)
    have r9 := rep9_ok sok
    have m9 := mul9 hw.2.1
    have k8 := cut_str (s := repS s 9) (by omega) none (some 8)
    have k9 := cut_str (s := repS s 9) (by omega) none (some 9)
    have c8 := cutS_ok r9.1 none (some 8)
    have c9 := cutS_ok r9.1 none (some 9)
    have eu : dUpper (.str s) = some (.str (Txt.upper s)) := by
      show (if s.length ≤ 5000000 then some (D.str (Txt.upper s)) else none) = _
      rw [if_pos (by omega)]
    simp only [mv_runP, rv_runB, List.length_cons, List.length_nil, Nat.reduceAdd, Nat.reduceSub, Nat.zero_add, List.replicate_zero, List.replicate_one, rep2, rep3, rep4, rep5, rep6, rep7, rep8, rep9, List.append_nil, List.map_cons, List.map_nil, List.cons_append, List.nil_append, List.getElem?_cons_zero, List.getElem?_cons_succ, List.set_cons_succ, List.set_cons_zero, setE, wipeE, rv_ok, rv_er, od_some, mv_ok, mv_er, sv_some, bv_bl, iv_int, tv_str, lv_lst, outB_ret, outB_nxf, outB_exc, th_nx, th_ret, th_exc, th_brk, th_ct, ro_nx, ro_ret, ro_exc, ro_brk, ro_ct, rv_bind, rv_okE, rv_okL, rv_var, rv_c, rv_nil, rv_cons, rv_e1, rv_e2, rv_eN, rv_eMt, rv_eB, rv_and, rv_or, rv_if, rv_tup, rv_lst, rv_call, rv_callM, rv_it, rv_cut, rv_cutL, rv_pn, rv_ps, rv_chain, rv_M1, rv_range1, rv_zip, rv_zip3, sv_nil, sv_brk, sv_ct, sv_cons, sv_drop, sv_ret, sv_if, sv_asg, od_gN, sv_raise, sv_par, sv_for, sv_x, sv_asgX, rx_own, rx_ownX, sv_put, dNot_bl, true_and, and_true, if_true, if_false, ite_true, ite_false, Bool.false_eq_true, reduceIte, Bool.not_true, Bool.not_false, e1, i0, el, e2', e3, k1, a1, i1, k2, a2, m9, k8, k9, eu, itemsOf]
    have hall : ∀ x ∈ [D.str s, .str (cutS s none (some (i : Int)) ++ t ++ cutS s (some ((i + 1 : Nat) : Int)) none), .str (repS s 9), .str (cutS (repS s 9) none (some 8)), .str (cutS (repS s 9) none (some 9)), .str "", .tup [.str s], .lst [.str s], .non, .int 7, .bl true, .str (Txt.upper s)], Fi x := fun x hx => by
      simp only [List.mem_cons, List.not_mem_nil, or_false] at hx
      rcases hx with rfl | rfl | rfl | rfl | rfl | rfl | rfl | rfl | rfl | rfl | rfl | rfl
      · exact fi_str sok (by omega)
      · exact fi_str (strOk_app (strOk_app c1.1 tok') c2.1) (by omega)
      · exact fi_str r9.1 (by omega)
      · exact fi_str c8.1 (by omega)
      · exact fi_str c9.1 (by omega)
      · exact fi_str (by decide +kernel) (by decide)
      · exact ⟨1, by omega, fiD_tup (fun d hd => by rw [List.mem_singleton.mp hd]; exact fiD_str sok (by omega)) (by simp)⟩
      · exact ⟨1, by omega, fiD_lst (fun d hd => by rw [List.mem_singleton.mp hd]; exact fiD_str sok (by omega)) (by simp)⟩
      · exact ⟨0, by omega, rfl⟩
      · exact ⟨0, by omega, by decide +kernel⟩
      · exact ⟨0, by omega, rfl⟩
      · exact upper_fi hs
    refine sv_forI (b := bWord) (fun ds w ρ => (∃ x0 x1 x2 x3 x4 x5 x6 x7, ρ = [x0, x1, x2, x3, x4, x5, x6, x7]) ∧ w = w3 ∧ ∀ d ∈ ds, Fi d) ?_ ?_ _ _ _ ⟨⟨_, _, _, _, _, _, _, _, rfl⟩, rfl, hall⟩
    · rintro d ds w ρ ⟨⟨x0, x1, x2, x3, x4, x5, x6, x7, rfl⟩, rfl, hf⟩
      rw [od_gN]
      simp only [List.set_cons_succ, List.set_cons_zero]
      refine (bWord_run w x0 x1 x2 x3 x4 x6 x7 (hf d List.mem_cons_self)).mono fun o ho => ?_
      obtain ⟨y6, rfl⟩ := ho
      exact ⟨⟨_, _, _, _, _, _, _, _, rfl⟩, rfl, fun y hy => hf y (List.mem_cons_of_mem _ hy)⟩
    · rintro w ρ ⟨⟨x0, x1, x2, x3, x4, x5, x6, x7, rfl⟩, rfl, _⟩
      simp only [mv_runP, rv_runB, List.length_cons, List.length_nil, Nat.reduceAdd, Nat.reduceSub, Nat.zero_add, List.replicate_zero, List.replicate_one, rep2, rep3, rep4, rep5, rep6, rep7, rep8, rep9, List.append_nil, List.map_cons, List.map_nil, List.cons_append, List.nil_append, List.getElem?_cons_zero, List.getElem?_cons_succ, List.set_cons_succ, List.set_cons_zero, setE, wipeE, rv_ok, rv_er, od_some, mv_ok, mv_er, sv_some, bv_bl, iv_int, tv_str, lv_lst, outB_ret, outB_nxf, outB_exc, th_nx, th_ret, th_exc, th_brk, th_ct, ro_nx, ro_ret, ro_exc, ro_brk, ro_ct, rv_bind, rv_okE, rv_okL, rv_var, rv_c, rv_nil, rv_cons, rv_e1, rv_e2, rv_eN, rv_eMt, rv_eB, rv_and, rv_or, rv_if, rv_tup, rv_lst, rv_call, rv_callM, rv_it, rv_cut, rv_cutL, rv_pn, rv_ps, rv_chain, rv_M1, rv_range1, rv_zip, rv_zip3, sv_nil, sv_brk, sv_ct, sv_cons, sv_drop, sv_ret, sv_if, sv_asg, od_gN, sv_raise, sv_par, sv_for, sv_x, sv_asgX, rx_own, rx_ownX, sv_put, dNot_bl, true_and, and_true, if_true, if_false, ite_true, ite_false, Bool.false_eq_true, reduceIte, Bool.not_true, Bool.not_false]
      exact hw3
  obtain ⟨d, w', e, hd, q⟩ := rv_ex.mp key
  rw [hd] at e
  exact ⟨w', e, q⟩
/-! ### the law -/
def tB0 : Nat := 200 + wB
theorem tB0_8 : tB0 * 8 ≤ 2 ^ 129 := by decide +kernel
def bNear : Fs DW := (sCons (sAsg (eCallM g__law_near (fCons (eVar 1) fNil)) (gN 4))
  (sIf (e1 dNot (eB (eCall g__law_is_truth (fCons (eCall g_is_ratio (fCons (eVar 4) fNil)) (fCons (eCall g__law_is_ratio (fCons (eVar 4) fNil)) fNil)))))
  (sRet (eC (.bl false)))
  sNil))
theorem nears {k : Nat} (x0 x2 : Option D) (QS : Out DW → Prop) (hQ : ∀ w x3 x4, Wd k w → QS (.nx w [x0, some (.tok 0), x2, x3, x4])) (ds : List D) (w : DW) (x3 x4 : Option D) (hw : Wd (k + 7 * ds.length) w) :
    Sv (forL (gN 3) bNear ds w [x0, some (.tok 0), x2, x3, x4]) QS := by
  refine sv_forI (fun ds w ρ => (∃ x3 x4, ρ = [x0, some (.tok 0), x2, x3, x4]) ∧ Wd (k + 7 * ds.length) w) ?_ ?_ ds w _ ⟨⟨_, _, rfl⟩, hw⟩
  · rintro d ds w ρ ⟨⟨x3, x4, rfl⟩, h⟩
    rw [List.length_cons] at h
    obtain ⟨v, w1, e1, t1, t2, hw1⟩ := near_b (k := k + 7 * ds.length) (h.mono (by omega))
    unfold bNear
    simp only [mv_runP, rv_runB, List.length_cons, List.length_nil, Nat.reduceAdd, Nat.reduceSub, Nat.zero_add, List.replicate_zero, List.replicate_one, rep2, rep3, rep4, rep5, rep6, rep7, rep8, rep9, List.append_nil, List.map_cons, List.map_nil, List.cons_append, List.nil_append, List.getElem?_cons_zero, List.getElem?_cons_succ, List.set_cons_succ, List.set_cons_zero, setE, wipeE, rv_ok, rv_er, od_some, mv_ok, mv_er, sv_some, bv_bl, iv_int, tv_str, lv_lst, outB_ret, outB_nxf, outB_exc, th_nx, th_ret, th_exc, th_brk, th_ct, ro_nx, ro_ret, ro_exc, ro_brk, ro_ct, rv_bind, rv_okE, rv_okL, rv_var, rv_c, rv_nil, rv_cons, rv_e1, rv_e2, rv_eN, rv_eMt, rv_eB, rv_and, rv_or, rv_if, rv_tup, rv_lst, rv_call, rv_callM, rv_it, rv_cut, rv_cutL, rv_pn, rv_ps, rv_chain, rv_M1, rv_range1, rv_zip, rv_zip3, sv_nil, sv_brk, sv_ct, sv_cons, sv_drop, sv_ret, sv_if, sv_asg, od_gN, sv_raise, sv_par, sv_for, sv_x, sv_asgX, rx_own, rx_ownX, sv_put, dNot_bl, true_and, and_true, if_true, if_false, ite_true, ite_false, Bool.false_eq_true, reduceIte, Bool.not_true, Bool.not_false, e1, g_is_ratio_eq t1, g_law_is_ratio_eq t1 t2, g_is_truth_eq, decide_true]
    exact ⟨⟨_, _, rfl⟩, hw1⟩
  · rintro w ρ ⟨⟨x3, x4, rfl⟩, h⟩
    exact hQ w x3 x4 h
theorem hv_law (ns : List Int) (h : ns.length ≤ 63) : ∃ w', m_law (begunW ns) (some (.frl (ns.map D.int)) :: some (.tok 0) :: List.replicate 3 none) = some (.ret (.bl true) w') := by
  have key : Sv (m_law (begunW ns) (some (.frl (ns.map D.int)) :: some (.tok 0) :: List.replicate 3 none)) (fun o => ∃ w', o = .ret (.bl true) w') := by
    unfold m_law
    have el : dLen [.frl (ns.map D.int)] = some (.int (ns.length : Int)) := by
      show some (D.int ((ns.map D.int).length : Int)) = _
      rw [List.length_map]
    have em : ∃ m : Nat, m ≤ 5 ∧ dMin2 [.int (ns.length : Int), .int 5] = some (.int (m : Int)) := by
      unfold dMin2
      dsimp only
      by_cases c : (5 : Int) < (ns.length : Int)
      · rw [if_pos c]
        exact ⟨5, by omega, rfl⟩
      · rw [if_neg c]
        exact ⟨ns.length, by omega, rfl⟩
    obtain ⟨m, hm, em⟩ := em
    have ea : dAdd (.int 3) (.int (m : Int)) = some (.int ((3 + m : Nat) : Int)) := by
      show some (D.int (3 + (m : Int))) = _
      rw [Int.natCast_add]
      rfl
    simp only [mv_runP, rv_runB, List.length_cons, List.length_nil, Nat.reduceAdd, Nat.reduceSub, Nat.zero_add, List.replicate_zero, List.replicate_one, rep2, rep3, rep4, rep5, rep6, rep7, rep8, rep9, List.append_nil, List.map_cons, List.map_nil, List.cons_append, List.nil_append, List.getElem?_cons_zero, List.getElem?_cons_succ, List.set_cons_succ, List.set_cons_zero, setE, wipeE, rv_ok, rv_er, od_some, mv_ok, mv_er, sv_some, bv_bl, iv_int, tv_str, lv_lst, outB_ret, outB_nxf, outB_exc, th_nx, th_ret, th_exc, th_brk, th_ct, ro_nx, ro_ret, ro_exc, ro_brk, ro_ct, rv_bind, rv_okE, rv_okL, rv_var, rv_c, rv_nil, rv_cons, rv_e1, rv_e2, rv_eN, rv_eMt, rv_eB, rv_and, rv_or, rv_if, rv_tup, rv_lst, rv_call, rv_callM, rv_it, rv_cut, rv_cutL, rv_pn, rv_ps, rv_chain, rv_M1, rv_range1, rv_zip, rv_zip3, sv_nil, sv_brk, sv_ct, sv_cons, sv_drop, sv_ret, sv_if, sv_asg, od_gN, sv_raise, sv_par, sv_for, sv_x, sv_asgX, rx_own, rx_ownX, sv_put, dNot_bl, true_and, and_true, if_true, if_false, ite_true, ite_false, Bool.false_eq_true, reduceIte, Bool.not_true, Bool.not_false, el, em, ea, Int.toNat_natCast]
    refine ⟨by omega, ?_⟩
    have hw0 := begun_b ns h
    have hl : (rangeD 0 (3 + m)).length = 3 + m := by simp [rangeD]
    refine sv_forI (fun ds w ρ => (∃ x2 x3 x4, ρ = [some (.frl (ns.map D.int)), some (.tok 0), x2, x3, x4]) ∧ Wd (tB0 * ds.length) w) ?_ ?_ (rangeD 0 (3 + m)) (begunW ns) _ ⟨⟨_, _, _, rfl⟩, hw0.mono (Nat.le_trans (Nat.mul_le_mul_left tB0 (show (rangeD 0 (3 + m)).length ≤ 8 by omega)) tB0_8)⟩
    · rintro d ds w ρ ⟨⟨x2, x3, x4, rfl⟩, hw⟩
      rw [List.length_cons, Nat.mul_succ] at hw
      obtain ⟨y, hy⟩ : ∃ y, y = tB0 * ds.length := ⟨_, rfl⟩
      rw [← hy] at hw ⊢
      unfold tB0 at hw
      simp only [mv_runP, rv_runB, List.length_cons, List.length_nil, Nat.reduceAdd, Nat.reduceSub, Nat.zero_add, List.replicate_zero, List.replicate_one, rep2, rep3, rep4, rep5, rep6, rep7, rep8, rep9, List.append_nil, List.map_cons, List.map_nil, List.cons_append, List.nil_append, List.getElem?_cons_zero, List.getElem?_cons_succ, List.set_cons_succ, List.set_cons_zero, setE, wipeE, rv_ok, rv_er, od_some, mv_ok, mv_er, sv_some, bv_bl, iv_int, tv_str, lv_lst, outB_ret, outB_nxf, outB_exc, th_nx, th_ret, th_exc, th_brk, th_ct, ro_nx, ro_ret, ro_exc, ro_brk, ro_ct, rv_bind, rv_okE, rv_okL, rv_var, rv_c, rv_nil, rv_cons, rv_e1, rv_e2, rv_eN, rv_eMt, rv_eB, rv_and, rv_or, rv_if, rv_tup, rv_lst, rv_call, rv_callM, rv_it, rv_cut, rv_cutL, rv_pn, rv_ps, rv_chain, rv_M1, rv_range1, rv_zip, rv_zip3, sv_nil, sv_brk, sv_ct, sv_cons, sv_drop, sv_ret, sv_if, sv_asg, od_gN, sv_raise, sv_par, sv_for, sv_x, sv_asgX, rx_own, rx_ownX, sv_put, dNot_bl, true_and, and_true, if_true, if_false, ite_true, ite_false, Bool.false_eq_true, reduceIte, Bool.not_true, Bool.not_false]
      refine ⟨by omega, ?_⟩
      refine nears (k := y + 65 + wB) _ _ _ (fun w5 x3 x4 hw5 => ?_) (rangeD 0 (6 : Int).toNat) w _ _ (hw.mono ?_)
      · obtain ⟨w6, e6, hw6⟩ := word_b (k := y + 63) (hw5.mono (by omega))
        obtain ⟨w7, e7, hw7⟩ := reckoned_b (k := y + 3) hw6
        obtain ⟨w8, e8, hw8⟩ := refused_b (k := y) hw7
        simp only [mv_runP, rv_runB, List.length_cons, List.length_nil, Nat.reduceAdd, Nat.reduceSub, Nat.zero_add, List.replicate_zero, List.replicate_one, rep2, rep3, rep4, rep5, rep6, rep7, rep8, rep9, List.append_nil, List.map_cons, List.map_nil, List.cons_append, List.nil_append, List.getElem?_cons_zero, List.getElem?_cons_succ, List.set_cons_succ, List.set_cons_zero, setE, wipeE, rv_ok, rv_er, od_some, mv_ok, mv_er, sv_some, bv_bl, iv_int, tv_str, lv_lst, outB_ret, outB_nxf, outB_exc, th_nx, th_ret, th_exc, th_brk, th_ct, ro_nx, ro_ret, ro_exc, ro_brk, ro_ct, rv_bind, rv_okE, rv_okL, rv_var, rv_c, rv_nil, rv_cons, rv_e1, rv_e2, rv_eN, rv_eMt, rv_eB, rv_and, rv_or, rv_if, rv_tup, rv_lst, rv_call, rv_callM, rv_it, rv_cut, rv_cutL, rv_pn, rv_ps, rv_chain, rv_M1, rv_range1, rv_zip, rv_zip3, sv_nil, sv_brk, sv_ct, sv_cons, sv_drop, sv_ret, sv_if, sv_asg, od_gN, sv_raise, sv_par, sv_for, sv_x, sv_asgX, rx_own, rx_ownX, sv_put, dNot_bl, true_and, and_true, if_true, if_false, ite_true, ite_false, Bool.false_eq_true, reduceIte, Bool.not_true, Bool.not_false, e6, e7, e8]
        exact ⟨⟨_, _, _, rfl⟩, hw8⟩
      · have : (rangeD 0 (6 : Int).toNat).length = 6 := by simp [rangeD]
        rw [this]
        omega
    · rintro w ρ ⟨⟨x2, x3, x4, rfl⟩, hw⟩
      simp only [mv_runP, rv_runB, List.length_cons, List.length_nil, Nat.reduceAdd, Nat.reduceSub, Nat.zero_add, List.replicate_zero, List.replicate_one, rep2, rep3, rep4, rep5, rep6, rep7, rep8, rep9, List.append_nil, List.map_cons, List.map_nil, List.cons_append, List.nil_append, List.getElem?_cons_zero, List.getElem?_cons_succ, List.set_cons_succ, List.set_cons_zero, setE, wipeE, rv_ok, rv_er, od_some, mv_ok, mv_er, sv_some, bv_bl, iv_int, tv_str, lv_lst, outB_ret, outB_nxf, outB_exc, th_nx, th_ret, th_exc, th_brk, th_ct, ro_nx, ro_ret, ro_exc, ro_brk, ro_ct, rv_bind, rv_okE, rv_okL, rv_var, rv_c, rv_nil, rv_cons, rv_e1, rv_e2, rv_eN, rv_eMt, rv_eB, rv_and, rv_or, rv_if, rv_tup, rv_lst, rv_call, rv_callM, rv_it, rv_cut, rv_cutL, rv_pn, rv_ps, rv_chain, rv_M1, rv_range1, rv_zip, rv_zip3, sv_nil, sv_brk, sv_ct, sv_cons, sv_drop, sv_ret, sv_if, sv_asg, od_gN, sv_raise, sv_par, sv_for, sv_x, sv_asgX, rx_own, rx_ownX, sv_put, dNot_bl, true_and, and_true, if_true, if_false, ite_true, ite_false, Bool.false_eq_true, reduceIte, Bool.not_true, Bool.not_false]
      exact ⟨w, rfl⟩
  unfold Sv at key
  split at key
  · exact key.elim
  · rename_i e
    obtain ⟨w', h⟩ := key
    exact ⟨w', by rw [e, h]⟩
end DL
end
noncomputable section
namespace DL
open L2 PySem PyProof.Rows PySem.Spec
def top (i : Nat) : Stmt := PySem.Challenge.pw_onedraw_k00_words_and_ratios.main.body.getD i (.Pass ⟨0, 0, 0, 0⟩)
abbrev s_is_whole : Stmt := top 8
abbrev s_is_ratio : Stmt := top 9
abbrev s_lowest : Stmt := top 10
abbrev s_plus : Stmt := top 11
abbrev s_is_less : Stmt := top 12
abbrev s_total : Stmt := top 13
abbrev s_ratio : Stmt := top 14
abbrev s_added : Stmt := top 15
abbrev s_is_below : Stmt := top 16
abbrev s_is_word : Stmt := top 19
abbrev s__law_begun : Stmt := top 21
abbrev s__law_blended : Stmt := top 22
abbrev s__law_draw : Stmt := top 23
abbrev s__law_pick : Stmt := top 24
abbrev s__law_caught : Stmt := top 25
abbrev s__law_is_truth : Stmt := top 26
abbrev s__law_same : Stmt := top 27
abbrev s__law_q : Stmt := top 28
abbrev s__law_plus : Stmt := top 29
abbrev s__law_less : Stmt := top 30
abbrev s__law_sum : Stmt := top 31
abbrev s__law_words : Stmt := top 32
abbrev s__law_is_ratio : Stmt := top 33
abbrev s__law_number : Stmt := top 34
abbrev s__law_near : Stmt := top 35
abbrev s__law_word_right : Stmt := top 36
abbrev s__law_reckoned_right : Stmt := top 37
abbrev s__law_refused : Stmt := top 38
abbrev s_law : Stmt := top 39
structure Tx (K : PySem.W.Frag) (mg : Str → Option Value) (tk : Nat → V) (cls : Str → Option Addr) : Prop where
  z_abs : mg "abs" = none
  z_all : mg "all" = none
  z_bool : mg "bool" = none
  z_dict : mg "dict" = none
  z_int : mg "int" = none
  z_isinstance : mg "isinstance" = none
  z_len : mg "len" = none
  z_list : mg "list" = none
  z_min : mg "min" = none
  z_range : mg "range" = none
  z_sorted : mg "sorted" = none
  z_str : mg "str" = none
  z_super : mg "super" = none
  z_tuple : mg "tuple" = none
  z_zip : mg "zip" = none
  c_ZERO : GCst ⟨K, tk, cls⟩ mg "ZERO" k_ZERO
  c_LETTERS : ∃ t, mg "LETTERS" = some (.str "abcdefghijklmnopqrstuvwxyz" t)
  gcd : mg "gcd" = some (.builtin "math.gcd")
  n_BadNumber : ClsN mg cls "BadNumber"
  r_BadRatio : ClsR K mg cls "BadRatio"
  r_BadRatios : ClsR K mg cls "BadRatios"
  f_part : ∀ c C, cls c = some C → PySem.W.findIn K (.ref C) "part" = some none
  err : ErrK ⟨K, tk, cls⟩
  caught : CaughtK K mg cls
section
variable {P : Program} {w0 : World} {K : PySem.W.Frag} {mg : Str → Option Value} {base : Heap} {tk : Nat → V} {cls : Str → Option Addr} {a g c : Addr} {TT : List (Addr × Str)}
theorem ok_is_whole {f : Addr} {fd : FuncData} (T : Tx K mg tk cls) (F : Fun K "is_whole" "is_whole" s_is_whole f fd)  : FnOk P w0 K mg base (L2.CX P w0) 1 f fd ["value"] (spP ⟨K, tk, cls⟩ false g_is_whole) :=
  fn_okP (fr := false) (N := ["value"]) (ps := ["value"]) (p := ⟨K, tk, cls⟩) (O := []) (b := m_is_whole) F ⟨rfl, rfl, rfl, by decide +kernel, rfl, by decide +kernel, by decide +kernel⟩ rfl fun cdv A outer s H E S0 hS hU hr =>
  have nd : (["value"] : List Str).Nodup := by decide +kernel
  (sm_one (sm_ret (em_and (cIsi T.z_isinstance (ems_cons (xN 0 (pv 0)) (ems_cons (xT T.z_int PyProof.Rows.boot_int) ems_nil))) (em_one (em_not (cIsi T.z_isinstance (ems_cons (xN 0 (pv 0)) (ems_cons (xT T.z_bool PyProof.Rows.boot_bool) ems_nil))))))))
theorem ok_is_ratio {f : Addr} {fd : FuncData} (T : Tx K mg tk cls) (F : Fun K "is_ratio" "is_ratio" s_is_ratio f fd) (f_is_whole : Cal P w0 K mg base "is_whole" 1 ["value"] [] (spP ⟨K, tk, cls⟩ false g_is_whole)) : FnOk P w0 K mg base (L2.CX P w0) 2 f fd ["value"] (spP ⟨K, tk, cls⟩ false g_is_ratio) :=
  fn_okP (fr := false) (N := ["value", "part"]) (ps := ["value"]) (p := ⟨K, tk, cls⟩) (O := []) (b := m_is_ratio) F ⟨rfl, rfl, rfl, by decide +kernel, rfl, by decide +kernel, by decide +kernel⟩ rfl fun cdv A outer s H E S0 hS hU hr =>
  have nd : (["value", "part"] : List Str).Nodup := by decide +kernel
  (sm_cons (sm_if (tm_bool (tw_or (tm_not (tV (cIsi T.z_isinstance (ems_cons (xN 0 (pv 0)) (ems_cons (xT T.z_tuple PyProof.Rows.boot_tuple) ems_nil))))) (tw_or (tNe hr (cLen T.z_len (ems_cons (xN 0 (pv 0)) ems_nil)) xI) (tw_or1 (tm_not (tV (cAll T.z_all (ems_cons (em_ef (ef_comp (pk := false) (own := [("part", 1)]) rfl nd (blkOk_by (N := ["value", "part"]) (sc := (defScope s_is_ratio)) (by decide +kernel)) (ei_val (xN 0 (pv 0))) (fun H0 S0 hS hU s H C cl fp => (gN1 1 nd)) (fun H0 S0 hS hU s H C cl fp => tms_nil) (fun H0 S0 hS hU s H C cl fp => (cF f_is_whole hr (by decide) passK (ems_cons (xN 1 (pv 1)) ems_nil))))) ems_nil))))))))
  (sm_one (sm_ret xB))
  sm_nil)
  (sm_one (sm_ret (em_and (xGt (xIx (xN 0 (pv 0)) xI) xI) (em_one (xEq hr (cGcd T.gcd (ems_cons (xIx (xN 0 (pv 0)) xI) (ems_cons (xIx (xN 0 (pv 0)) xI) ems_nil))) xI))))))
theorem ok_lowest {f : Addr} {fd : FuncData} (T : Tx K mg tk cls) (F : Fun K "lowest" "lowest" s_lowest f fd)  : FnOk P w0 K mg base (L2.CX P w0) 1 f fd ["n", "d"] (spP ⟨K, tk, cls⟩ false g_lowest) :=
  fn_okP (fr := false) (N := ["n", "d", "common"]) (ps := ["n", "d"]) (p := ⟨K, tk, cls⟩) (O := []) (b := m_lowest) F ⟨rfl, rfl, rfl, by decide +kernel, rfl, by decide +kernel, by decide +kernel⟩ rfl fun cdv A outer s H E S0 hS hU hr =>
  have nd : (["n", "d", "common"] : List Str).Nodup := by decide +kernel
  (sm_cons (aS 2 nd (em_if (tGt (xN 1 (pv 1)) xI) (cGcd T.gcd (ems_cons (xN 0 (pv 0)) (ems_cons (xN 1 (pv 1)) ems_nil))) (xNeg (cGcd T.gcd (ems_cons (xN 0 (pv 0)) (ems_cons (xN 1 (pv 1)) ems_nil))))))
  (sm_one (sm_ret (em_tup (ems_cons (xFdiv (xN 0 (pv 0)) (xN 2 (pv 2))) (ems_cons (xFdiv (xN 1 (pv 1)) (xN 2 (pv 2))) ems_nil))))))
theorem ok_plus {f : Addr} {fd : FuncData} (T : Tx K mg tk cls) (F : Fun K "plus" "plus" s_plus f fd) (f_lowest : Cal P w0 K mg base "lowest" 1 ["n", "d"] [] (spP ⟨K, tk, cls⟩ false g_lowest)) : FnOk P w0 K mg base (L2.CX P w0) 2 f fd ["one", "other"] (spP ⟨K, tk, cls⟩ false g_plus) :=
  fn_okP (fr := false) (N := ["one", "other"]) (ps := ["one", "other"]) (p := ⟨K, tk, cls⟩) (O := []) (b := m_plus) F ⟨rfl, rfl, rfl, by decide +kernel, rfl, by decide +kernel, by decide +kernel⟩ rfl fun cdv A outer s H E S0 hS hU hr =>
  have nd : (["one", "other"] : List Str).Nodup := by decide +kernel
  (sm_one (sm_ret (cF f_lowest hr (by decide) passB (ems_cons (xAdd (xMulA (xIx (xN 0 (pv 0)) xI) (xIx (xN 1 (pv 1)) xI)) (xMulA (xIx (xN 1 (pv 1)) xI) (xIx (xN 0 (pv 0)) xI))) (ems_cons (xMulA (xIx (xN 0 (pv 0)) xI) (xIx (xN 1 (pv 1)) xI)) ems_nil)))))
theorem ok_is_less {f : Addr} {fd : FuncData} (T : Tx K mg tk cls) (F : Fun K "is_less" "is_less" s_is_less f fd)  : FnOk P w0 K mg base (L2.CX P w0) 1 f fd ["one", "other"] (spP ⟨K, tk, cls⟩ false g_is_less) :=
  fn_okP (fr := false) (N := ["one", "other"]) (ps := ["one", "other"]) (p := ⟨K, tk, cls⟩) (O := []) (b := m_is_less) F ⟨rfl, rfl, rfl, by decide +kernel, rfl, by decide +kernel, by decide +kernel⟩ rfl fun cdv A outer s H E S0 hS hU hr =>
  have nd : (["one", "other"] : List Str).Nodup := by decide +kernel
  (sm_one (sm_ret (xLt (xMulA (xIx (xN 0 (pv 0)) xI) (xIx (xN 1 (pv 1)) xI)) (xMulA (xIx (xN 1 (pv 1)) xI) (xIx (xN 0 (pv 0)) xI)))))
theorem ok_total {f : Addr} {fd : FuncData} (T : Tx K mg tk cls) (F : Fun K "total" "total" s_total f fd) (f_plus : Cal P w0 K mg base "plus" 2 ["one", "other"] [] (spP ⟨K, tk, cls⟩ false g_plus)) : FnOk P w0 K mg base (L2.CX P w0) 3 f fd ["ratios"] (spP ⟨K, tk, cls⟩ false g_total) :=
  fn_okP (fr := false) (N := ["ratios", "found", "each"]) (ps := ["ratios"]) (p := ⟨K, tk, cls⟩) (O := []) (b := m_total) F ⟨rfl, rfl, rfl, by decide +kernel, rfl, by decide +kernel, by decide +kernel⟩ rfl fun cdv A outer s H E S0 hS hU hr =>
  have nd : (["ratios", "found", "each"] : List Str).Nodup := by decide +kernel
  (sm_cons (aS 1 nd (xGd T.c_ZERO))
  (sm_cons (sF ownB (ei_val (xN 0 (pv 0))) (gN1 2 nd)
  (sm_one (aS 1 nd (cF f_plus hr (by decide) passB (ems_cons (xN 1 (pv 1)) (ems_cons (xN 2 (pv 2)) ems_nil))))))
  (sm_one (sm_ret (xN 1 (pv 1))))))
theorem ok_ratio {f : Addr} {fd : FuncData} (T : Tx K mg tk cls) (F : Fun K "ratio" "ratio" s_ratio f fd) (i_BadNumber : ClsI P w0 K mg base cls "BadNumber" "part") (f_is_whole : Cal P w0 K mg base "is_whole" 1 ["value"] [] (spP ⟨K, tk, cls⟩ false g_is_whole)) (f_lowest : Cal P w0 K mg base "lowest" 1 ["n", "d"] [] (spP ⟨K, tk, cls⟩ false g_lowest)) : FnOk P w0 K mg base (L2.CX P w0) 3 f fd ["n", "d"] (spP ⟨K, tk, cls⟩ false g_ratio) :=
  fn_okP (fr := false) (N := ["n", "d"]) (ps := ["n", "d"]) (p := ⟨K, tk, cls⟩) (O := []) (b := m_ratio) F ⟨rfl, rfl, rfl, by decide +kernel, rfl, by decide +kernel, by decide +kernel⟩ rfl fun cdv A outer s H E S0 hS hU hr =>
  have nd : (["n", "d"] : List Str).Nodup := by decide +kernel
  (sm_cons (sm_if (tm_not (tV (cF f_is_whole hr (by decide) passB (ems_cons (xN 0 (pv 0)) ems_nil))))
  (sm_one (rC1 i_BadNumber hr (by decide) takesB xS))
  sm_nil)
  (sm_cons (sm_if (tm_bool (tw_or (tm_not (tV (cF f_is_whole hr (by decide) passB (ems_cons (xN 1 (pv 1)) ems_nil)))) (tw_or1 (tEq hr (xN 1 (pv 1)) xI))))
  (sm_one (rC1 i_BadNumber hr (by decide) takesB xS))
  sm_nil)
  (sm_one (sm_ret (cF f_lowest hr (by decide) passB (ems_cons (xN 0 (pv 0)) (ems_cons (xN 1 (pv 1)) ems_nil)))))))
theorem ok_added {f : Addr} {fd : FuncData} (T : Tx K mg tk cls) (F : Fun K "added" "added" s_added f fd) (f_is_ratio : Cal P w0 K mg base "is_ratio" 2 ["value"] [] (spP ⟨K, tk, cls⟩ false g_is_ratio)) (f_total : Cal P w0 K mg base "total" 3 ["ratios"] [] (spP ⟨K, tk, cls⟩ false g_total)) : FnOk P w0 K mg base (L2.CX P w0) 4 f fd ["ratios"] (spP ⟨K, tk, cls⟩ false g_added) :=
  fn_okP (fr := false) (N := ["ratios", "each"]) (ps := ["ratios"]) (p := ⟨K, tk, cls⟩) (O := []) (b := m_added) F ⟨rfl, rfl, rfl, by decide +kernel, rfl, by decide +kernel, by decide +kernel⟩ rfl fun cdv A outer s H E S0 hS hU hr =>
  have nd : (["ratios", "each"] : List Str).Nodup := by decide +kernel
  (sm_cons (sm_if (tm_bool (tw_or (tm_not (tV (em_isiT (tys := ["list", "tuple"]) (xN 0 (pv 0)) (pa_cons (pe_bltn (v := .ty "list") (by rfl) T.z_list PyProof.Rows.boot_list rfl) (pa_cons (pe_bltn (v := .ty "tuple") (by rfl) T.z_tuple PyProof.Rows.boot_tuple rfl) pa_nil)) (fun _ _ _ => rfl) (by rfl) T.z_isinstance))) (tw_or1 (tm_not (tV (cAll T.z_all (ems_cons (em_ef (ef_comp (pk := false) (own := [("each", 1)]) rfl nd (blkOk_by (N := ["ratios", "each"]) (sc := (defScope s_added)) (by decide +kernel)) (ei_val (xN 0 (pv 0))) (fun H0 S0 hS hU s H C cl fp => (gN1 1 nd)) (fun H0 S0 hS hU s H C cl fp => tms_nil) (fun H0 S0 hS hU s H C cl fp => (cF f_is_ratio hr (by decide) passK (ems_cons (xN 1 (pv 1)) ems_nil))))) ems_nil)))))))
  (sm_one (rC T.r_BadRatios takesB))
  sm_nil)
  (sm_one (sm_ret (cF f_total hr (by decide) passB (ems_cons (xN 0 (pv 0)) ems_nil)))))
theorem ok_is_below {f : Addr} {fd : FuncData} (T : Tx K mg tk cls) (F : Fun K "is_below" "is_below" s_is_below f fd) (f_is_ratio : Cal P w0 K mg base "is_ratio" 2 ["value"] [] (spP ⟨K, tk, cls⟩ false g_is_ratio)) (f_is_less : Cal P w0 K mg base "is_less" 1 ["one", "other"] [] (spP ⟨K, tk, cls⟩ false g_is_less)) : FnOk P w0 K mg base (L2.CX P w0) 3 f fd ["one", "other"] (spP ⟨K, tk, cls⟩ false g_is_below) :=
  fn_okP (fr := false) (N := ["one", "other"]) (ps := ["one", "other"]) (p := ⟨K, tk, cls⟩) (O := []) (b := m_is_below) F ⟨rfl, rfl, rfl, by decide +kernel, rfl, by decide +kernel, by decide +kernel⟩ rfl fun cdv A outer s H E S0 hS hU hr =>
  have nd : (["one", "other"] : List Str).Nodup := by decide +kernel
  (sm_cons (sm_if (tm_bool (tw_or (tm_not (tV (cF f_is_ratio hr (by decide) passB (ems_cons (xN 0 (pv 0)) ems_nil)))) (tw_or1 (tm_not (tV (cF f_is_ratio hr (by decide) passB (ems_cons (xN 1 (pv 1)) ems_nil)))))))
  (sm_one (rC T.r_BadRatio takesB))
  sm_nil)
  (sm_one (sm_ret (cF f_is_less hr (by decide) passB (ems_cons (xN 0 (pv 0)) (ems_cons (xN 1 (pv 1)) ems_nil))))))
theorem ok_is_word {f : Addr} {fd : FuncData} (T : Tx K mg tk cls) (F : Fun K "is_word" "is_word" s_is_word f fd)  : FnOk P w0 K mg base (L2.CX P w0) 1 f fd ["value"] (spP ⟨K, tk, cls⟩ false g_is_word) :=
  fn_okP (fr := false) (N := ["value", "letter"]) (ps := ["value"]) (p := ⟨K, tk, cls⟩) (O := []) (b := m_is_word) F ⟨rfl, rfl, rfl, by decide +kernel, rfl, by decide +kernel, by decide +kernel⟩ rfl fun cdv A outer s H E S0 hS hU hr =>
  have nd : (["value", "letter"] : List Str).Nodup := by decide +kernel
  (sm_one (sm_ret (em_and (cIsi T.z_isinstance (ems_cons (xN 0 (pv 0)) (ems_cons (xT T.z_str PyProof.Rows.boot_str) ems_nil))) (em_and (em_chain o_le op_leA o_le op_leA xI (cLen T.z_len (ems_cons (xN 0 (pv 0)) ems_nil)) xI) (em_one (cAll T.z_all (ems_cons (em_ef (ef_comp (pk := false) (own := [("letter", 1)]) rfl nd (blkOk_by (N := ["value", "letter"]) (sc := (defScope s_is_word)) (by decide +kernel)) (ei_val (xN 0 (pv 0))) (fun H0 S0 hS hU s H C cl fp => (gN1 1 nd)) (fun H0 S0 hS hU s H C cl fp => tms_nil) (fun H0 S0 hS hU s H C cl fp => (xIn hr (xN 1 (pv 1)) (xGs T.c_LETTERS))))) ems_nil)))))))
theorem ok__law_begun {f : Addr} {fd : FuncData} (T : Tx K mg tk cls) (F : Fun K "_law_begun" "_law_begun" s__law_begun f fd) : FnOk P w0 K mg base (L2.CX P w0) 1 f fd ["script"] (spBegun K) :=
  begun_ok (N := ["script", "great", "cell"]) (tk := tk) (cls := cls) (fG := bgG) (fC := bgC) F ⟨rfl, rfl, rfl, by decide +kernel, rfl, by decide +kernel, by decide +kernel⟩ rfl rfl rfl rfl (fun cdv A outer s H E hr => (have nd : (["script", "great", "cell"] : List Str).Nodup := (by decide +kernel); (sm_setComp (pk := false) (own := [("cell", 2)]) rfl nd (by rfl) (by rfl) (by rfl) (blkOk_by (N := ["script", "great", "cell"]) (sc := (defScope s__law_begun)) (by decide +kernel)) (ei_val (xN 0 (pv 0))) (fun H0 S0 hS hU s H C cl fp => (gN1 2 nd)) (fun H0 S0 hS hU s H C cl fp => (tms_one (tGe (cAbs T.z_abs (ems_cons (xN 2 (pv 2)) ems_nil)) (xPow xI xI)))) (fun H0 S0 hS hU s H C cl fp => (xSub (cAbs T.z_abs (ems_cons (xN 2 (pv 2)) ems_nil)) (xPow xI xI)))))) (fun cdv A outer s H E hr => (have nd : (["script", "great", "cell"] : List Str).Nodup := (by decide +kernel); (ef_comp (pk := false) (own := [("cell", 2)]) rfl nd (blkOk_by (N := ["script", "great", "cell"]) (sc := (defScope s__law_begun)) (by decide +kernel)) (ei_val (xN 0 (pv 0))) (fun H0 S0 hS hU s H C cl fp => (gN1 2 nd)) (fun H0 S0 hS hU s H C cl fp => tms_nil) (fun H0 S0 hS hU s H C cl fp => (cAbs T.z_abs (ems_cons (xN 2 (pv 2)) ems_nil)))))) (fun ns h => bgG_ok ns h _) (fun ns h => bgC_ok ns h _)
theorem ok__law_blended {f : Addr} {fd : FuncData} (T : Tx K mg tk cls) (F : Fun K "_law_blended" "_law_blended" s__law_blended f fd) (htk : tk 0 = V.ref a)  : FnOk P w0 K mg base (L2.CX P w0) 1 f fd ["state"] (spM (gD a g c TT) ⟨K, tk, cls⟩ false g__law_blended) :=
  fn_ok (G := (gD a g c TT)) (fr := false) (N := ["state", "prime", "turn", "found", "blend", "cell"]) (ps := ["state"]) (p := ⟨K, tk, cls⟩) (O := []) (b := m__law_blended) F ⟨rfl, rfl, rfl, by decide +kernel, rfl, by decide +kernel, by decide +kernel⟩ rfl fun cdv A outer s H E S0 hS hU hr =>
  have nd : (["state", "prime", "turn", "found", "blend", "cell"] : List Str).Nodup := by decide +kernel
  (sm_cons (sm_par2 rfl nd rfl rfl (by decide) (by rfl) (by rfl) (ek_val (xAdd (em_st hr (pv 0) htk (fun _ => val_turn)) xI) (ek_val xI ek_nil)) (by rfl))
  (sm_cons (sm_st (put := fun w z => { w with turn := z }) hr (pv 0) htk (xN 2 (pv 2)) (fun _ _ => put_turn) (fun _ _ => ⟨rfl, rfl⟩))
  (sm_cons (sF ownB (ei_val (em_lst (ems_cons xI (ems_cons xI (ems_cons xI ems_nil))))) (gN1 1 nd)
  (sm_cons (aS 4 nd (xAdd (xMulA xI (xN 2 (pv 2))) (xFdiv (xN 1 (pv 1)) xI)))
  (sm_cons (sm_forC hr ownB (pv 0) htk (gN1 5 nd)
  (sm_one (aS 4 nd (xMod (cInt T.z_int (ems_cons (xAdd (xAdd (xMulA (xN 4 (pv 4)) xI) (xN 5 (pv 5))) (xN 2 (pv 2))) ems_nil)) (xN 1 (pv 1))))))
  (sm_one (aS 3 nd (xAdd (xMulA (xN 3 (pv 3)) xI) (xMod (cInt T.z_int (ems_cons (xPow (xN 4 (pv 4)) xI) ems_nil)) (xN 1 (pv 1)))))))))
  (sm_one (sm_ret (xN 3 (pv 3)))))))
theorem ok__law_draw {f : Addr} {fd : FuncData} (T : Tx K mg tk cls) (F : Fun K "_law_draw" "_law_draw" s__law_draw f fd) (htk : tk 0 = V.ref a) (f__law_blended : Cal P w0 K mg base "_law_blended" 1 ["state"] [] (spM (gD a g c TT) ⟨K, tk, cls⟩ false g__law_blended)) : FnOk P w0 K mg base (L2.CX P w0) 2 f fd ["state", "room"] (spM (gD a g c TT) ⟨K, tk, cls⟩ false g__law_draw) :=
  fn_ok (G := (gD a g c TT)) (fr := false) (N := ["state", "room", "found"]) (ps := ["state", "room"]) (p := ⟨K, tk, cls⟩) (O := []) (b := m__law_draw) F ⟨rfl, rfl, rfl, by decide +kernel, rfl, by decide +kernel, by decide +kernel⟩ rfl fun cdv A outer s H E S0 hS hU hr =>
  have nd : (["state", "room", "found"] : List Str).Nodup := by decide +kernel
  (sm_cons (sm_if (tEq hr (em_st hr (pv 0) htk (fun _ => val_rest)) xI)
  (sm_one (sm_st (put := fun w z => { w with rest := z }) hr (pv 0) htk (em_if (em_great hr (pv 0) htk) (em_pop0 hr (pv 0) htk (he := fun h => pe_bm PySem.F.plainAttrs_list PySem.F.slot_list_pop PySem.F.type_list_pop mt_popAt h (pa_cons pe_int pa_nil))) (cM f__law_blended hr (by decide) passB (ems_cons (xN 0 (pv 0)) ems_nil))) (fun _ _ => put_rest) (fun _ _ => ⟨rfl, rfl⟩)))
  sm_nil)
  (sm_cons (aS 2 nd (xMod (cInt T.z_int (ems_cons (em_st hr (pv 0) htk (fun _ => val_rest)) ems_nil)) (xN 1 (pv 1))))
  (sm_cons (sm_st (put := fun w z => { w with rest := z }) hr (pv 0) htk (xFdiv (em_st hr (pv 0) htk (fun _ => val_rest)) (xN 1 (pv 1))) (fun _ _ => put_rest) (fun _ _ => ⟨rfl, rfl⟩))
  (sm_one (sm_ret (xN 2 (pv 2)))))))
theorem ok__law_pick {f : Addr} {fd : FuncData} (T : Tx K mg tk cls) (F : Fun K "_law_pick" "_law_pick" s__law_pick f fd) (f__law_draw : Cal P w0 K mg base "_law_draw" 2 ["state", "room"] [] (spM (gD a g c TT) ⟨K, tk, cls⟩ false g__law_draw)) : FnOk P w0 K mg base (L2.CX P w0) 3 f fd ["state", "some"] (spM (gD a g c TT) ⟨K, tk, cls⟩ false g__law_pick) :=
  fn_ok (G := (gD a g c TT)) (fr := false) (N := ["state", "some"]) (ps := ["state", "some"]) (p := ⟨K, tk, cls⟩) (O := []) (b := m__law_pick) F ⟨rfl, rfl, rfl, by decide +kernel, rfl, by decide +kernel, by decide +kernel⟩ rfl fun cdv A outer s H E S0 hS hU hr =>
  have nd : (["state", "some"] : List Str).Nodup := by decide +kernel
  (sm_one (sm_ret (xIx (xN 1 (pv 1)) (cM f__law_draw hr (by decide) passB (ems_cons (xN 0 (pv 0)) (ems_cons (cLen T.z_len (ems_cons (xN 1 (pv 1)) ems_nil)) ems_nil))))))
-- _law_caught: stmt Try
theorem ok__law_is_truth {f : Addr} {fd : FuncData} (T : Tx K mg tk cls) (F : Fun K "_law_is_truth" "_law_is_truth" s__law_is_truth f fd)  : FnOk P w0 K mg base (L2.CX P w0) 1 f fd ["found", "due"] (spP ⟨K, tk, cls⟩ false g__law_is_truth) :=
  fn_okP (fr := false) (N := ["found", "due"]) (ps := ["found", "due"]) (p := ⟨K, tk, cls⟩) (O := []) (b := m__law_is_truth) F ⟨rfl, rfl, rfl, by decide +kernel, rfl, by decide +kernel, by decide +kernel⟩ rfl fun cdv A outer s H E S0 hS hU hr =>
  have nd : (["found", "due"] : List Str).Nodup := by decide +kernel
  (sm_one (sm_ret (em_if (tV (xN 1 (pv 1))) (xIs (xN 0 (pv 0)) xB) (xIs (xN 0 (pv 0)) xB))))
theorem ok__law_same {f : Addr} {fd : FuncData} (T : Tx K mg tk cls) (F : Fun K "_law_same" "_law_same" s__law_same f fd) (f__law_is_truth : Cal P w0 K mg base "_law_is_truth" 1 ["found", "due"] [] (spP ⟨K, tk, cls⟩ false g__law_is_truth)) : FnOk P w0 K mg base (L2.CX P w0) 2 f fd ["found", "due"] (spP ⟨K, tk, cls⟩ false g__law_same) :=
  fn_okP (fr := false) (N := ["found", "due", "waiting", "one", "other", "alike", "key", "left", "right"]) (ps := ["found", "due"]) (p := ⟨K, tk, cls⟩) (O := [2]) (b := m__law_same) F ⟨rfl, rfl, rfl, by decide +kernel, rfl, by decide +kernel, by decide +kernel⟩ rfl fun cdv A outer s H E S0 hS hU hr =>
  have nd : (["found", "due", "waiting", "one", "other", "alike", "key", "left", "right"] : List Str).Nodup := by decide +kernel
  (sm_cons (aO 2 nd (ef_lst (ems_cons (em_tup (ems_cons (xN 0 (pv 0)) (ems_cons (xN 1 (pv 1)) ems_nil))) ems_nil)))
  (sm_cons (sm_while ownB (tNe hr (xO 2 (pv 2)) (em_lst ems_nil))
  (sm_cons (aTX (ex_pop (pv 2) (by rfl)) (gm_tup rfl (gms_cons (gN1 3 nd) (gms_cons (gN1 4 nd) gms_nil))))
  (sm_one (sm_if (tm_bool (tw_or (tIs (xN 4 (pv 4)) xZ) (tw_or1 (tV (cIsi T.z_isinstance (ems_cons (xN 4 (pv 4)) (ems_cons (xT T.z_bool PyProof.Rows.boot_bool) ems_nil)))))))
  (sm_one (sm_if (tm_if (tIs (xN 4 (pv 4)) xZ) (tIsNot (xN 3 (pv 3)) xZ) (tm_not (tV (cF f__law_is_truth hr (by decide) passB (ems_cons (xN 3 (pv 3)) (ems_cons (xN 4 (pv 4)) ems_nil))))))
  (sm_one (sm_ret xB))
  sm_nil))
  (sm_one (sm_if (tV (em_isiT (tys := ["int", "str"]) (xN 4 (pv 4)) (pa_cons (pe_bltn (v := .ty "int") (by rfl) T.z_int PyProof.Rows.boot_int rfl) (pa_cons (pe_bltn (v := .ty "str") (by rfl) T.z_str PyProof.Rows.boot_str rfl) pa_nil)) (fun _ _ _ => rfl) (by rfl) T.z_isinstance))
  (sm_one (sm_if (tm_bool (tw_or (tV (cIsi T.z_isinstance (ems_cons (xN 3 (pv 3)) (ems_cons (xT T.z_bool PyProof.Rows.boot_bool) ems_nil)))) (tw_or (tNe hr (cIsi T.z_isinstance (ems_cons (xN 3 (pv 3)) (ems_cons (xT T.z_int PyProof.Rows.boot_int) ems_nil))) (cIsi T.z_isinstance (ems_cons (xN 4 (pv 4)) (ems_cons (xT T.z_int PyProof.Rows.boot_int) ems_nil)))) (tw_or1 (tNe hr (xN 3 (pv 3)) (xN 4 (pv 4)))))))
  (sm_one (sm_ret xB))
  sm_nil))
  (sm_one (sm_if (tV (cIsi T.z_isinstance (ems_cons (xN 4 (pv 4)) (ems_cons (xT T.z_dict PyProof.Rows.boot_dict) ems_nil))))
  sms_no
  (sm_cons (aS 5 nd (em_lst (ems_cons (em_and (cIsi T.z_isinstance (ems_cons (xN 3 (pv 3)) (ems_cons (xT T.z_tuple PyProof.Rows.boot_tuple) ems_nil))) (em_one (cIsi T.z_isinstance (ems_cons (xN 4 (pv 4)) (ems_cons (xT T.z_tuple PyProof.Rows.boot_tuple) ems_nil))))) (ems_cons (em_and (cIsi T.z_isinstance (ems_cons (xN 3 (pv 3)) (ems_cons (xT T.z_list PyProof.Rows.boot_list) ems_nil))) (em_one (cIsi T.z_isinstance (ems_cons (xN 4 (pv 4)) (ems_cons (xT T.z_list PyProof.Rows.boot_list) ems_nil))))) ems_nil))))
  (sm_cons (sm_if (tm_bool (tw_or (tNotIn hr xB (xN 5 (pv 5))) (tw_or1 (tNe hr (cLen T.z_len (ems_cons (xN 3 (pv 3)) ems_nil)) (cLen T.z_len (ems_cons (xN 4 (pv 4)) ems_nil))))))
  (sm_one (sm_ret xB))
  sm_nil)
  (sm_one (sm_exprX (ex_extend (pv 2) (em_ef (ef_comp (pk := false) (own := [("left", 7), ("right", 8)]) rfl nd (blkOk_by (N := ["found", "due", "waiting", "one", "other", "alike", "key", "left", "right"]) (sc := (defScope s__law_same)) (by decide +kernel)) (ei_zip (xN 3 (pv 3)) (xN 4 (pv 4)) (by rfl) T.z_zip) (fun H0 S0 hS hU s H C cl fp => (gm_tup rfl (gms_cons (gN1 7 nd) (gms_cons (gN1 8 nd) gms_nil)))) (fun H0 S0 hS hU s H C cl fp => tms_nil) (fun H0 S0 hS hU s H C cl fp => (em_tup (ems_cons (xN 7 (pv 7)) (ems_cons (xN 8 (pv 8)) ems_nil)))))) (by rfl))))))))))))))
  (sm_one (sm_ret xB))))
theorem ok__law_q {f : Addr} {fd : FuncData} (T : Tx K mg tk cls) (F : Fun K "_law_q" "_law_q" s__law_q f fd)  : FnOk P w0 K mg base (L2.CX P w0) 1 f fd ["n", "d"] (spP ⟨K, tk, cls⟩ false g__law_q) :=
  fn_okP (fr := false) (N := ["n", "d", "one", "other"]) (ps := ["n", "d"]) (p := ⟨K, tk, cls⟩) (O := []) (b := m__law_q) F ⟨rfl, rfl, rfl, by decide +kernel, rfl, by decide +kernel, by decide +kernel⟩ rfl fun cdv A outer s H E S0 hS hU hr =>
  have nd : (["n", "d", "one", "other"] : List Str).Nodup := by decide +kernel
  (sm_cons (sm_par2 rfl nd rfl rfl (by decide) (by rfl) (by rfl) (ek_val (cAbs T.z_abs (ems_cons (xN 0 (pv 0)) ems_nil)) (ek_val (cAbs T.z_abs (ems_cons (xN 1 (pv 1)) ems_nil)) ek_nil)) (by rfl))
  (sm_cons (sm_while ownB (tGt (xN 3 (pv 3)) xI)
  (sm_one (sm_par2 rfl nd rfl rfl (by decide) (by rfl) (by rfl) (ek_val (xN 3 (pv 3)) (ek_val (xMod (cInt T.z_int (ems_cons (xN 2 (pv 2)) ems_nil)) (xN 3 (pv 3))) ek_nil)) (by rfl))))
  (sm_one (sm_ret (em_if (tGt (xN 1 (pv 1)) xI) (em_tup (ems_cons (xFdiv (xN 0 (pv 0)) (xN 2 (pv 2))) (ems_cons (xFdiv (xN 1 (pv 1)) (xN 2 (pv 2))) ems_nil))) (em_tup (ems_cons (xFdiv (xNeg (xN 0 (pv 0))) (xN 2 (pv 2))) (ems_cons (xFdiv (xNeg (xN 1 (pv 1))) (xN 2 (pv 2))) ems_nil))))))))
theorem ok__law_plus {f : Addr} {fd : FuncData} (T : Tx K mg tk cls) (F : Fun K "_law_plus" "_law_plus" s__law_plus f fd) (f__law_q : Cal P w0 K mg base "_law_q" 1 ["n", "d"] [] (spP ⟨K, tk, cls⟩ false g__law_q)) : FnOk P w0 K mg base (L2.CX P w0) 2 f fd ["one", "other"] (spP ⟨K, tk, cls⟩ false g__law_plus) :=
  fn_okP (fr := false) (N := ["one", "other"]) (ps := ["one", "other"]) (p := ⟨K, tk, cls⟩) (O := []) (b := m__law_plus) F ⟨rfl, rfl, rfl, by decide +kernel, rfl, by decide +kernel, by decide +kernel⟩ rfl fun cdv A outer s H E S0 hS hU hr =>
  have nd : (["one", "other"] : List Str).Nodup := by decide +kernel
  (sm_one (sm_ret (cF f__law_q hr (by decide) passB (ems_cons (xAdd (xMulA (xIx (xN 0 (pv 0)) xI) (xIx (xN 1 (pv 1)) xI)) (xMulA (xIx (xN 1 (pv 1)) xI) (xIx (xN 0 (pv 0)) xI))) (ems_cons (xMulA (xIx (xN 0 (pv 0)) xI) (xIx (xN 1 (pv 1)) xI)) ems_nil)))))
theorem ok__law_less {f : Addr} {fd : FuncData} (T : Tx K mg tk cls) (F : Fun K "_law_less" "_law_less" s__law_less f fd)  : FnOk P w0 K mg base (L2.CX P w0) 1 f fd ["one", "other"] (spP ⟨K, tk, cls⟩ false g__law_less) :=
  fn_okP (fr := false) (N := ["one", "other"]) (ps := ["one", "other"]) (p := ⟨K, tk, cls⟩) (O := []) (b := m__law_less) F ⟨rfl, rfl, rfl, by decide +kernel, rfl, by decide +kernel, by decide +kernel⟩ rfl fun cdv A outer s H E S0 hS hU hr =>
  have nd : (["one", "other"] : List Str).Nodup := by decide +kernel
  (sm_one (sm_ret (xLt (xMulA (xIx (xN 0 (pv 0)) xI) (xIx (xN 1 (pv 1)) xI)) (xMulA (xIx (xN 1 (pv 1)) xI) (xIx (xN 0 (pv 0)) xI)))))
theorem ok__law_sum {f : Addr} {fd : FuncData} (T : Tx K mg tk cls) (F : Fun K "_law_sum" "_law_sum" s__law_sum f fd) (f__law_plus : Cal P w0 K mg base "_law_plus" 2 ["one", "other"] [] (spP ⟨K, tk, cls⟩ false g__law_plus)) : FnOk P w0 K mg base (L2.CX P w0) 3 f fd ["some"] (spP ⟨K, tk, cls⟩ false g__law_sum) :=
  fn_okP (fr := false) (N := ["some", "found", "each"]) (ps := ["some"]) (p := ⟨K, tk, cls⟩) (O := []) (b := m__law_sum) F ⟨rfl, rfl, rfl, by decide +kernel, rfl, by decide +kernel, by decide +kernel⟩ rfl fun cdv A outer s H E S0 hS hU hr =>
  have nd : (["some", "found", "each"] : List Str).Nodup := by decide +kernel
  (sm_cons (aS 1 nd (em_tup (ems_cons xI (ems_cons xI ems_nil))))
  (sm_cons (sF ownB (ei_val (xN 0 (pv 0))) (gN1 2 nd)
  (sm_one (aS 1 nd (cF f__law_plus hr (by decide) passB (ems_cons (xN 1 (pv 1)) (ems_cons (xN 2 (pv 2)) ems_nil))))))
  (sm_one (sm_ret (xN 1 (pv 1))))))
theorem ok__law_words {f : Addr} {fd : FuncData} (T : Tx K mg tk cls) (F : Fun K "_law_words" "_law_words" s__law_words f fd) (f__law_draw : Cal P w0 K mg base "_law_draw" 2 ["state", "room"] [] (spM (gD a g c TT) ⟨K, tk, cls⟩ false g__law_draw)) (f__law_pick : Cal P w0 K mg base "_law_pick" 3 ["state", "some"] [] (spM (gD a g c TT) ⟨K, tk, cls⟩ false g__law_pick)) : FnOk P w0 K mg base (L2.CX P w0) 4 f fd ["draws", "many"] (spM (gD a g c TT) ⟨K, tk, cls⟩ false g__law_words) :=
  fn_ok (G := (gD a g c TT)) (fr := false) (N := ["draws", "many", "found", "word", "lap"]) (ps := ["draws", "many"]) (p := ⟨K, tk, cls⟩) (O := []) (b := m__law_words) F ⟨rfl, rfl, rfl, by decide +kernel, rfl, by decide +kernel, by decide +kernel⟩ rfl fun cdv A outer s H E S0 hS hU hr =>
  have nd : (["draws", "many", "found", "word", "lap"] : List Str).Nodup := by decide +kernel
  (sm_cons (aS 2 nd (em_lst ems_nil))
  (sm_cons (sm_while ownB (tLt (cLen T.z_len (ems_cons (xN 2 (pv 2)) ems_nil)) (xN 1 (pv 1)))
  (sm_cons (aS 3 nd (em_join xS (em_ef (ef_comp (pk := false) (own := [("lap", 4)]) rfl nd (blkOk_by (N := ["draws", "many", "found", "word", "lap"]) (sc := (defScope s__law_words)) (by decide +kernel)) (ei_range1 (xAdd xI (cM f__law_draw hr (by decide) passB (ems_cons (xN 0 (pv 0)) (ems_cons xI ems_nil)))) (by rfl) T.z_range) (fun H0 S0 hS hU s H C cl fp => (gN1 4 nd)) (fun H0 S0 hS hU s H C cl fp => tms_nil) (fun H0 S0 hS hU s H C cl fp => (cM f__law_pick hr (by decide) passK (ems_cons (xN 0 (pv 0)) (ems_cons (em_ef (cListS T.z_list (ems_cons xS ems_nil))) ems_nil))))))))
  (sm_one (aS 2 nd (xAdd (xN 2 (pv 2)) (em_if (tNotIn hr (xN 3 (pv 3)) (xN 2 (pv 2))) (em_lst (ems_cons (xN 3 (pv 3)) ems_nil)) (em_if (tm_bool (tw_and (tNotIn hr (xAdd (em_cut (xN 3 (pv 3)) ep_none (ep_some xI)) (xMulA xS (cLen T.z_len (ems_cons (xN 2 (pv 2)) ems_nil)))) (xN 2 (pv 2))) (tw_and1 (tLt (cLen T.z_len (ems_cons (xN 2 (pv 2)) ems_nil)) xI)))) (em_lst (ems_cons (xAdd (em_cut (xN 3 (pv 3)) ep_none (ep_some xI)) (xMulA xS (cLen T.z_len (ems_cons (xN 2 (pv 2)) ems_nil)))) ems_nil)) (em_lst ems_nil))))))))
  (sm_one (sm_ret (em_ef (cSorted T.z_sorted (ems_cons (xN 2 (pv 2)) ems_nil)))))))
theorem ok__law_is_ratio {f : Addr} {fd : FuncData} (T : Tx K mg tk cls) (F : Fun K "_law_is_ratio" "_law_is_ratio" s__law_is_ratio f fd) (f__law_q : Cal P w0 K mg base "_law_q" 1 ["n", "d"] [] (spP ⟨K, tk, cls⟩ false g__law_q)) : FnOk P w0 K mg base (L2.CX P w0) 2 f fd ["value"] (spP ⟨K, tk, cls⟩ false g__law_is_ratio) :=
  fn_okP (fr := false) (N := ["value", "part"]) (ps := ["value"]) (p := ⟨K, tk, cls⟩) (O := []) (b := m__law_is_ratio) F ⟨rfl, rfl, rfl, by decide +kernel, rfl, by decide +kernel, by decide +kernel⟩ rfl fun cdv A outer s H E S0 hS hU hr =>
  have nd : (["value", "part"] : List Str).Nodup := by decide +kernel
  (sm_cons (sm_if (tm_bool (tw_or (tm_not (tV (cIsi T.z_isinstance (ems_cons (xN 0 (pv 0)) (ems_cons (xT T.z_tuple PyProof.Rows.boot_tuple) ems_nil))))) (tw_or (tNe hr (cLen T.z_len (ems_cons (xN 0 (pv 0)) ems_nil)) xI) (tw_or1 (tNe hr (em_ef (ef_comp (pk := false) (own := [("part", 1)]) rfl nd (blkOk_by (N := ["value", "part"]) (sc := (defScope s__law_is_ratio)) (by decide +kernel)) (ei_val (xN 0 (pv 0))) (fun H0 S0 hS hU s H C cl fp => (gN1 1 nd)) (fun H0 S0 hS hU s H C cl fp => (tms_one (tm_bool (tw_or (tm_not (tV (cIsi T.z_isinstance (ems_cons (xN 1 (pv 1)) (ems_cons (xT T.z_int PyProof.Rows.boot_int) ems_nil))))) (tw_or1 (tV (cIsi T.z_isinstance (ems_cons (xN 1 (pv 1)) (ems_cons (xT T.z_bool PyProof.Rows.boot_bool) ems_nil))))))))) (fun H0 S0 hS hU s H C cl fp => xI))) (em_lst ems_nil))))))
  (sm_one (sm_ret xB))
  sm_nil)
  (sm_one (sm_ret (em_and (xGt (xIx (xN 0 (pv 0)) xI) xI) (em_one (xEq hr (cF f__law_q hr (by decide) passB (ems_cons (xIx (xN 0 (pv 0)) xI) (ems_cons (xIx (xN 0 (pv 0)) xI) ems_nil))) (xN 0 (pv 0))))))))
theorem ok__law_number {f : Addr} {fd : FuncData} (T : Tx K mg tk cls) (F : Fun K "_law_number" "_law_number" s__law_number f fd) (f__law_draw : Cal P w0 K mg base "_law_draw" 2 ["state", "room"] [] (spM (gD a g c TT) ⟨K, tk, cls⟩ false g__law_draw)) (f__law_pick : Cal P w0 K mg base "_law_pick" 3 ["state", "some"] [] (spM (gD a g c TT) ⟨K, tk, cls⟩ false g__law_pick)) : FnOk P w0 K mg base (L2.CX P w0) 4 f fd ["draws"] (spM (gD a g c TT) ⟨K, tk, cls⟩ false g__law_number) :=
  fn_ok (G := (gD a g c TT)) (fr := false) (N := ["draws", "found"]) (ps := ["draws"]) (p := ⟨K, tk, cls⟩) (O := []) (b := m__law_number) F ⟨rfl, rfl, rfl, by decide +kernel, rfl, by decide +kernel, by decide +kernel⟩ rfl fun cdv A outer s H E S0 hS hU hr =>
  have nd : (["draws", "found"] : List Str).Nodup := by decide +kernel
  (sm_cons (aS 1 nd (cM f__law_draw hr (by decide) passB (ems_cons (xN 0 (pv 0)) (ems_cons (cM f__law_pick hr (by decide) passB (ems_cons (xN 0 (pv 0)) (ems_cons (em_lst (ems_cons xI (ems_cons xI (ems_cons (xPow xI xI) (ems_cons (xPow xI xI) (ems_cons (xPow xI xI) ems_nil)))))) ems_nil))) ems_nil))))
  (sm_one (sm_ret (em_if (tGt (cM f__law_draw hr (by decide) passB (ems_cons (xN 0 (pv 0)) (ems_cons xI ems_nil))) xI) (xN 1 (pv 1)) (xSub xI (xN 1 (pv 1)))))))
theorem ok__law_near {f : Addr} {fd : FuncData} (T : Tx K mg tk cls) (F : Fun K "_law_near" "_law_near" s__law_near f fd) (f__law_pick : Cal P w0 K mg base "_law_pick" 3 ["state", "some"] [] (spM (gD a g c TT) ⟨K, tk, cls⟩ false g__law_pick)) (f__law_q : Cal P w0 K mg base "_law_q" 1 ["n", "d"] [] (spP ⟨K, tk, cls⟩ false g__law_q)) (f__law_number : Cal P w0 K mg base "_law_number" 4 ["draws"] [] (spM (gD a g c TT) ⟨K, tk, cls⟩ false g__law_number)) : FnOk P w0 K mg base (L2.CX P w0) 5 f fd ["draws"] (spM (gD a g c TT) ⟨K, tk, cls⟩ false g__law_near) :=
  fn_ok (G := (gD a g c TT)) (fr := false) (N := ["draws", "some", "n", "d"]) (ps := ["draws"]) (p := ⟨K, tk, cls⟩) (O := []) (b := m__law_near) F ⟨rfl, rfl, rfl, by decide +kernel, rfl, by decide +kernel, by decide +kernel⟩ rfl fun cdv A outer s H E S0 hS hU hr =>
  have nd : (["draws", "some", "n", "d"] : List Str).Nodup := by decide +kernel
  (sm_cons (sm_par2 rfl nd rfl rfl (by decide) (by rfl) (by rfl) (ek_val (cM f__law_number hr (by decide) passB (ems_cons (xN 0 (pv 0)) ems_nil)) (ek_val (xAdd xI (cAbs T.z_abs (ems_cons (cM f__law_number hr (by decide) passB (ems_cons (xN 0 (pv 0)) ems_nil)) ems_nil))) ek_nil)) (by rfl))
  (sm_cons (aS 1 nd (em_lst (ems_cons (cF f__law_q hr (by decide) passB (ems_cons (xN 2 (pv 2)) (ems_cons (xN 3 (pv 3)) ems_nil))) (ems_cons (cF f__law_q hr (by decide) passB (ems_cons (xN 2 (pv 2)) (ems_cons (xN 3 (pv 3)) ems_nil))) (ems_cons (em_tup (ems_cons (xN 2 (pv 2)) (ems_cons (xN 3 (pv 3)) ems_nil))) (ems_cons (em_tup (ems_cons (xMulA (xN 2 (pv 2)) xI) (ems_cons (xMulA (xN 3 (pv 3)) xI) ems_nil))) (ems_cons (em_tup (ems_cons (xN 2 (pv 2)) (ems_cons (xSub xI (xN 3 (pv 3))) ems_nil))) (ems_cons (em_lst (ems_cons (xN 2 (pv 2)) (ems_cons (xN 3 (pv 3)) ems_nil))) (ems_cons (em_tup (ems_cons (xN 2 (pv 2)) ems_nil)) (ems_cons (em_tup (ems_cons (xN 2 (pv 2)) (ems_cons (xN 3 (pv 3)) (ems_cons xI ems_nil)))) (ems_cons (em_tup (ems_cons (xN 2 (pv 2)) (ems_cons xB ems_nil))) (ems_cons (em_tup (ems_cons xB (ems_cons xI ems_nil))) (ems_cons (em_tup (ems_cons (xN 2 (pv 2)) (ems_cons xI ems_nil))) ems_nil)))))))))))))
  (sm_one (sm_ret (cM f__law_pick hr (by decide) passB (ems_cons (xN 0 (pv 0)) (ems_cons (xAdd (xN 1 (pv 1)) (em_lst (ems_cons (em_tup (ems_cons (cStr T.z_str (ems_cons (xN 2 (pv 2)) ems_nil)) (ems_cons (xN 3 (pv 3)) ems_nil))) (ems_cons (em_tup (ems_cons xI (ems_cons xI ems_nil))) (ems_cons (em_tup (ems_cons xI (ems_cons xI ems_nil))) (ems_cons (em_tup (ems_cons xZ (ems_cons xI ems_nil))) (ems_cons xZ (ems_cons (xN 2 (pv 2)) (ems_cons xS (ems_cons (em_tup (ems_cons xI (ems_cons xI ems_nil))) (ems_cons (em_tup (ems_cons xB (ems_cons xI ems_nil))) (ems_cons (em_tup (ems_cons (em_tup (ems_cons (xN 2 (pv 2)) (ems_cons (xN 3 (pv 3)) ems_nil))) (ems_cons xI ems_nil))) ems_nil)))))))))))) ems_nil)))))))
theorem ok__law_word_right {f : Addr} {fd : FuncData} (T : Tx K mg tk cls) (F : Fun K "_law_word_right" "_law_word_right" s__law_word_right f fd) (f_is_word : Cal P w0 K mg base "is_word" 1 ["value"] [] (spP ⟨K, tk, cls⟩ false g_is_word)) (f__law_draw : Cal P w0 K mg base "_law_draw" 2 ["state", "room"] [] (spM (gD a g c TT) ⟨K, tk, cls⟩ false g__law_draw)) (f__law_pick : Cal P w0 K mg base "_law_pick" 3 ["state", "some"] [] (spM (gD a g c TT) ⟨K, tk, cls⟩ false g__law_pick)) (f__law_is_truth : Cal P w0 K mg base "_law_is_truth" 1 ["found", "due"] [] (spP ⟨K, tk, cls⟩ false g__law_is_truth)) (f__law_words : Cal P w0 K mg base "_law_words" 4 ["draws", "many"] [] (spM (gD a g c TT) ⟨K, tk, cls⟩ false g__law_words)) : FnOk P w0 K mg base (L2.CX P w0) 5 f fd ["draws"] (spM (gD a g c TT) ⟨K, tk, cls⟩ false g__law_word_right) :=
  fn_ok (G := (gD a g c TT)) (fr := false) (N := ["draws", "word", "at", "sign", "near", "value", "due", "letter"]) (ps := ["draws"]) (p := ⟨K, tk, cls⟩) (O := []) (b := m__law_word_right) F ⟨rfl, rfl, rfl, by decide +kernel, rfl, by decide +kernel, by decide +kernel⟩ rfl fun cdv A outer s H E S0 hS hU hr =>
  have nd : (["draws", "word", "at", "sign", "near", "value", "due", "letter"] : List Str).Nodup := by decide +kernel
  (sm_cons (aS 1 nd (xIx (cM f__law_words hr (by decide) passB (ems_cons (xN 0 (pv 0)) (ems_cons xI ems_nil))) xI))
  (sm_cons (aS 2 nd (cM f__law_draw hr (by decide) passB (ems_cons (xN 0 (pv 0)) (ems_cons (cLen T.z_len (ems_cons (xN 1 (pv 1)) ems_nil)) ems_nil))))
  (sm_cons (aS 3 nd (cM f__law_pick hr (by decide) passB (ems_cons (xN 0 (pv 0)) (ems_cons (em_lst (ems_cons xS (ems_cons xS (ems_cons xS (ems_cons xS (ems_cons xS (ems_cons xS (ems_cons xS (ems_cons xS (ems_cons xS (ems_cons xS ems_nil))))))))))) ems_nil))))
  (sm_cons (aS 4 nd (xAdd (xAdd (em_cut (xN 1 (pv 1)) ep_none (ep_some (xN 2 (pv 2)))) (xN 3 (pv 3))) (em_cut (xN 1 (pv 1)) (ep_some (xAdd (xN 2 (pv 2)) xI)) ep_none)))
  (sm_cons (sF ownB (ei_val (em_lst (ems_cons (xN 1 (pv 1)) (ems_cons (xN 4 (pv 4)) (ems_cons (xMulA (xN 1 (pv 1)) xI) (ems_cons (em_cut (xMulA (xN 1 (pv 1)) xI) ep_none (ep_some xI)) (ems_cons (em_cut (xMulA (xN 1 (pv 1)) xI) ep_none (ep_some xI)) (ems_cons xS (ems_cons (em_tup (ems_cons (xN 1 (pv 1)) ems_nil)) (ems_cons (em_lst (ems_cons (xN 1 (pv 1)) ems_nil)) (ems_cons xZ (ems_cons xI (ems_cons xB (ems_cons (xUpper (xN 1 (pv 1))) ems_nil)))))))))))))) (gN1 5 nd)
  (sm_cons (aS 6 nd (em_and (cIsi T.z_isinstance (ems_cons (xN 5 (pv 5)) (ems_cons (xT T.z_str PyProof.Rows.boot_str) ems_nil))) (em_one (em_chain o_le op_leA o_le op_leA xI (cLen T.z_len (ems_cons (xN 5 (pv 5)) ems_nil)) xI))))
  (sm_cons (aS 6 nd (em_and (xN 6 (pv 6)) (em_one (xEq hr (em_ef (ef_comp (pk := false) (own := [("letter", 7)]) rfl nd (blkOk_by (N := ["draws", "word", "at", "sign", "near", "value", "due", "letter"]) (sc := (defScope s__law_word_right)) (by decide +kernel)) (ei_val (xN 5 (pv 5))) (fun H0 S0 hS hU s H C cl fp => (gN1 7 nd)) (fun H0 S0 hS hU s H C cl fp => (tms_one (tNotIn hr (xN 7 (pv 7)) xS))) (fun H0 S0 hS hU s H C cl fp => (xN 7 (pv 7))))) (em_lst ems_nil)))))
  (sm_one (sm_if (tm_not (tV (cF f__law_is_truth hr (by decide) passB (ems_cons (cF f_is_word hr (by decide) passB (ems_cons (xN 5 (pv 5)) ems_nil)) (ems_cons (xN 6 (pv 6)) ems_nil)))))
  (sm_one (sm_ret xB))
  sm_nil)))))
  (sm_one (sm_ret xB)))))))
theorem ok__law_reckoned_right {f : Addr} {fd : FuncData} (T : Tx K mg tk cls) (F : Fun K "_law_reckoned_right" "_law_reckoned_right" s__law_reckoned_right f fd) (f_ratio : Cal P w0 K mg base "ratio" 3 ["n", "d"] [(["d", "n"], [1, 0])] (spP ⟨K, tk, cls⟩ false g_ratio)) (f_added : Cal P w0 K mg base "added" 4 ["ratios"] [(["ratios"], [0])] (spP ⟨K, tk, cls⟩ false g_added)) (f_is_below : Cal P w0 K mg base "is_below" 3 ["one", "other"] [(["other", "one"], [1, 0])] (spP ⟨K, tk, cls⟩ false g_is_below)) (f__law_draw : Cal P w0 K mg base "_law_draw" 2 ["state", "room"] [] (spM (gD a g c TT) ⟨K, tk, cls⟩ false g__law_draw)) (f__law_is_truth : Cal P w0 K mg base "_law_is_truth" 1 ["found", "due"] [] (spP ⟨K, tk, cls⟩ false g__law_is_truth)) (f__law_same : Cal P w0 K mg base "_law_same" 2 ["found", "due"] [] (spP ⟨K, tk, cls⟩ false g__law_same)) (f__law_q : Cal P w0 K mg base "_law_q" 1 ["n", "d"] [] (spP ⟨K, tk, cls⟩ false g__law_q)) (f__law_less : Cal P w0 K mg base "_law_less" 1 ["one", "other"] [] (spP ⟨K, tk, cls⟩ false g__law_less)) (f__law_sum : Cal P w0 K mg base "_law_sum" 3 ["some"] [] (spP ⟨K, tk, cls⟩ false g__law_sum)) (f__law_number : Cal P w0 K mg base "_law_number" 4 ["draws"] [] (spM (gD a g c TT) ⟨K, tk, cls⟩ false g__law_number)) : FnOk P w0 K mg base (L2.CX P w0) 5 f fd ["draws"] (spM (gD a g c TT) ⟨K, tk, cls⟩ false g__law_reckoned_right) :=
  fn_ok (G := (gD a g c TT)) (fr := false) (N := ["draws", "some", "n", "d", "one", "other", "left", "right", "lap"]) (ps := ["draws"]) (p := ⟨K, tk, cls⟩) (O := []) (b := m__law_reckoned_right) F ⟨rfl, rfl, rfl, by decide +kernel, rfl, by decide +kernel, by decide +kernel⟩ rfl fun cdv A outer s H E S0 hS hU hr =>
  have nd : (["draws", "some", "n", "d", "one", "other", "left", "right", "lap"] : List Str).Nodup := by decide +kernel
  (sm_cons (sm_par2 rfl nd rfl rfl (by decide) (by rfl) (by rfl) (ek_val (cM f__law_number hr (by decide) passB (ems_cons (xN 0 (pv 0)) ems_nil)) (ek_val (cM f__law_number hr (by decide) passB (ems_cons (xN 0 (pv 0)) ems_nil)) ek_nil)) (by rfl))
  (sm_cons (sm_if (tm_bool (tw_and (tNe hr (xN 3 (pv 3)) xI) (tw_and1 (tm_bool (tw_or (tm_not (tV (cF f__law_same hr (by decide) passB (ems_cons (cF f_ratio hr (by decide) passB (ems_cons (xN 2 (pv 2)) (ems_cons (xN 3 (pv 3)) ems_nil))) (ems_cons (cF f__law_q hr (by decide) passB (ems_cons (xN 2 (pv 2)) (ems_cons (xN 3 (pv 3)) ems_nil))) ems_nil))))) (tw_or1 (tm_not (tV (cF f__law_same hr (by decide) passB (ems_cons (cK ["d", "n"] [1, 0] f_ratio hr (by decide) passB (kw_cons (xN 3 (pv 3)) (kw_cons (xN 2 (pv 2)) kw_nil)) (by decide) (by decide)) (ems_cons (cF f__law_q hr (by decide) passB (ems_cons (xN 2 (pv 2)) (ems_cons (xN 3 (pv 3)) ems_nil))) ems_nil)))))))))))
  (sm_one (sm_ret xB))
  sm_nil)
  (sm_cons (sm_setComp (pk := false) (own := [("lap", 8)]) rfl nd (by rfl) (by rfl) (by rfl) (blkOk_by (N := ["draws", "some", "n", "d", "one", "other", "left", "right", "lap"]) (sc := (defScope s__law_reckoned_right)) (by decide +kernel)) (ei_range1 (cM f__law_draw hr (by decide) passB (ems_cons (xN 0 (pv 0)) (ems_cons xI ems_nil))) (by rfl) T.z_range) (fun H0 S0 hS hU s H C cl fp => (gN1 8 nd)) (fun H0 S0 hS hU s H C cl fp => tms_nil) (fun H0 S0 hS hU s H C cl fp => (cF f__law_q hr (by decide) passK (ems_cons (cM f__law_number hr (by decide) passK (ems_cons (xN 0 (pv 0)) ems_nil)) (ems_cons (xAdd xI (cAbs T.z_abs (ems_cons (cM f__law_number hr (by decide) passK (ems_cons (xN 0 (pv 0)) ems_nil)) ems_nil))) ems_nil)))))
  (sm_cons (sm_if (tm_bool (tw_or (tm_not (tV (cF f__law_same hr (by decide) passB (ems_cons (cF f_added hr (by decide) passB (ems_cons (xN 1 (pv 1)) ems_nil)) (ems_cons (cF f__law_sum hr (by decide) passB (ems_cons (xN 1 (pv 1)) ems_nil)) ems_nil))))) (tw_or1 (tm_not (tV (cF f__law_same hr (by decide) passB (ems_cons (cK ["ratios"] [0] f_added hr (by decide) passB (kw_cons (cTuple T.z_tuple (ems_cons (xN 1 (pv 1)) ems_nil)) kw_nil) (by decide) (by decide)) (ems_cons (cF f__law_sum hr (by decide) passB (ems_cons (xN 1 (pv 1)) ems_nil)) ems_nil))))))))
  (sm_one (sm_ret xB))
  sm_nil)
  (sm_cons (sm_par2 rfl nd rfl rfl (by decide) (by rfl) (by rfl) (ek_val (cF f__law_q hr (by decide) passB (ems_cons (xN 2 (pv 2)) (ems_cons (xAdd xI (cAbs T.z_abs (ems_cons (xN 3 (pv 3)) ems_nil))) ems_nil))) (ek_val (cF f__law_q hr (by decide) passB (ems_cons (cM f__law_number hr (by decide) passB (ems_cons (xN 0 (pv 0)) ems_nil)) (ems_cons (xAdd xI (cAbs T.z_abs (ems_cons (xN 3 (pv 3)) ems_nil))) ems_nil))) ek_nil)) (by rfl))
  (sm_cons (sF ownB (ei_val (em_lst (ems_cons (em_tup (ems_cons (xN 4 (pv 4)) (ems_cons (xN 5 (pv 5)) ems_nil))) (ems_cons (em_tup (ems_cons (xN 5 (pv 5)) (ems_cons (xN 4 (pv 4)) ems_nil))) (ems_cons (em_tup (ems_cons (xN 4 (pv 4)) (ems_cons (xN 4 (pv 4)) ems_nil))) ems_nil))))) (gm_tup rfl (gms_cons (gN1 6 nd) (gms_cons (gN1 7 nd) gms_nil)))
  (sm_one (sm_if (tm_bool (tw_or (tm_not (tV (cF f__law_is_truth hr (by decide) passB (ems_cons (cF f_is_below hr (by decide) passB (ems_cons (xN 6 (pv 6)) (ems_cons (xN 7 (pv 7)) ems_nil))) (ems_cons (cF f__law_less hr (by decide) passB (ems_cons (xN 6 (pv 6)) (ems_cons (xN 7 (pv 7)) ems_nil))) ems_nil))))) (tw_or1 (tNe hr (cK ["other", "one"] [1, 0] f_is_below hr (by decide) passB (kw_cons (xN 7 (pv 7)) (kw_cons (xN 6 (pv 6)) kw_nil)) (by decide) (by decide)) (cF f__law_less hr (by decide) passB (ems_cons (xN 6 (pv 6)) (ems_cons (xN 7 (pv 7)) ems_nil)))))))
  (sm_one (sm_ret xB))
  sm_nil)))
  (sm_one (sm_ret xB))))))))
theorem ok__law_refused {f : Addr} {fd : FuncData} (T : Tx K mg tk cls) {cd Pd : Addr} (F : FunC K "_law_refused" "_law_refused" s__law_refused f fd cd) (Lk : LamK base mg TT cd Pd ((envOfC "_law_refused" (defScope s__law_refused) 0 0 .none).qual ++ "<lambda>")) (f_ratio : Cal P w0 K mg base "ratio" 3 ["n", "d"] [(["d", "n"], [1, 0])] (spP ⟨K, tk, cls⟩ false g_ratio)) (f_added : Cal P w0 K mg base "added" 4 ["ratios"] [(["ratios"], [0])] (spP ⟨K, tk, cls⟩ false g_added)) (f_is_below : Cal P w0 K mg base "is_below" 3 ["one", "other"] [(["other", "one"], [1, 0])] (spP ⟨K, tk, cls⟩ false g_is_below)) (f__law_pick : Cal P w0 K mg base "_law_pick" 3 ["state", "some"] [] (spM (gD a g c TT) ⟨K, tk, cls⟩ false g__law_pick)) : FnOk P w0 K mg base (L2.CX P w0) 7 f fd ["draws"] (spM (gD a g c TT) ⟨K, tk, cls⟩ false g__law_refused) :=
  fn_okC (G := (gD a g c TT)) (fr := false) (N := ["draws", "error", "value", "odd", "bad"]) (ps := ["draws"]) (p := ⟨K, tk, cls⟩) (O := []) (b := m__law_refused) F ⟨rfl, rfl, rfl, by decide +kernel, rfl, by decide +kernel, by decide +kernel⟩ rfl fun A outer s H E S0 hS hU hr =>
  have nd : (["draws", "error", "value", "odd", "bad"] : List Str).Nodup := by decide +kernel
  (sm_cons (sm_parT rfl (pgs_cons (pg_name (i := 3) nd rfl (by first | exact Or.inl rfl | exact Or.inr rfl)) (pgs_cons (pg_name (i := 4) nd rfl (by first | exact Or.inl rfl | exact Or.inr rfl)) pgs_nil)) (ek_val (cM f__law_pick hr (by decide) passB (ems_cons (xN 0 (pv 0)) (ems_cons (em_lst (ems_cons xZ (ems_cons xB (ems_cons xS (ems_cons (em_tup (ems_cons xI (ems_cons xI ems_nil))) (ems_cons (em_lst (ems_cons xI ems_nil)) ems_nil)))))) ems_nil))) (ek_val (cM f__law_pick hr (by decide) passB (ems_cons (xN 0 (pv 0)) (ems_cons (em_lst (ems_cons xZ (ems_cons xI (ems_cons (em_tup (ems_cons xI (ems_cons xI ems_nil))) (ems_cons (em_lst (ems_cons xI (ems_cons xI ems_nil))) (ems_cons (em_tup (ems_cons xI (ems_cons xI ems_nil))) (ems_cons xS ems_nil))))))) ems_nil))) ek_nil)))
  (sm_cons (aS 1 nd (cCaught (k := 4) gD_tab T.caught Lk rfl hr (by decide) (defScope s__law_refused) (by decide +kernel) (fun A outer s H E f' c' H0 S0 hS hU hr => (cF f_ratio hr (by decide) passL (ems_cons (xN 3 (pv 3)) (ems_cons xI ems_nil))))))
  (sm_cons (sm_if (tm_bool (tw_or (tm_not (tV (cIsE T.err T.z_isinstance (ems_cons (xN 1 (pv 1)) (ems_cons (xClN T.n_BadNumber) ems_nil))))) (tw_or1 (tNe hr (xFld T.err T.f_part (xN 1 (pv 1))) xS))))
  (sm_one (sm_ret xB))
  sm_nil)
  (sm_cons (aS 1 nd (cCaught (k := 4) gD_tab T.caught Lk rfl hr (by decide) (defScope s__law_refused) (by decide +kernel) (fun A outer s H E f' c' H0 S0 hS hU hr => (cF f_ratio hr (by decide) passL (ems_cons xI (ems_cons (cM f__law_pick hr (by decide) passL (ems_cons (xN 0 (pv 0)) (ems_cons (em_lst (ems_cons xI (ems_cons (xN 3 (pv 3)) ems_nil))) ems_nil))) ems_nil))))))
  (sm_cons (sm_if (tm_bool (tw_or (tm_not (tV (cIsE T.err T.z_isinstance (ems_cons (xN 1 (pv 1)) (ems_cons (xClN T.n_BadNumber) ems_nil))))) (tw_or1 (tNe hr (xFld T.err T.f_part (xN 1 (pv 1))) xS))))
  (sm_one (sm_ret xB))
  sm_nil)
  (sm_cons (sF ownB (ei_val (em_lst (ems_cons xZ (ems_cons xI (ems_cons xS (ems_cons (em_tup (ems_cons xI (ems_cons xI ems_nil))) (ems_cons (em_lst (ems_cons (xN 4 (pv 4)) ems_nil)) (ems_cons (em_lst (ems_cons (em_tup (ems_cons xI (ems_cons xI ems_nil))) (ems_cons (xN 4 (pv 4)) ems_nil))) (ems_cons em_dict0 (ems_cons (xOpq hr) ems_nil)))))))))) (gN1 2 nd)
  (sm_one (sm_if (tm_not (tV (cIsE T.err T.z_isinstance (ems_cons (cCaught (k := 4) gD_tab T.caught Lk rfl hr (by decide) (defScope s__law_refused) (by decide +kernel) (fun A outer s H E f' c' H0 S0 hS hU hr => (cF f_added hr (by decide) passL (ems_cons (xN 2 (pv 2)) ems_nil)))) (ems_cons (xCl T.r_BadRatios) ems_nil)))))
  (sm_one (sm_ret xB))
  sm_nil)))
  (sm_cons (sm_if (tm_not (tV (cIsE T.err T.z_isinstance (ems_cons (cCaught (k := 4) gD_tab T.caught Lk rfl hr (by decide) (defScope s__law_refused) (by decide +kernel) (fun A outer s H E f' c' H0 S0 hS hU hr => (cF f_is_below hr (by decide) passL (ems_cons (xN 4 (pv 4)) (ems_cons (em_tup (ems_cons xI (ems_cons xI ems_nil))) ems_nil))))) (ems_cons (xCl T.r_BadRatio) ems_nil)))))
  (sm_one (sm_ret xB))
  sm_nil)
  (sm_one (sm_ret (cIsE T.err T.z_isinstance (ems_cons (cCaught (k := 4) gD_tab T.caught Lk rfl hr (by decide) (defScope s__law_refused) (by decide +kernel) (fun A outer s H E f' c' H0 S0 hS hU hr => (cF f_is_below hr (by decide) passL (ems_cons (em_tup (ems_cons xI (ems_cons xI ems_nil))) (ems_cons (xN 4 (pv 4)) ems_nil))))) (ems_cons (xCl T.r_BadRatio) ems_nil))))))))))))
theorem ok_law {f : Addr} {fd : FuncData} (T : ∀ a : Addr, Tx K mg (fun _ => V.ref a) cls) (F : Fun K "law" "law" s_law f fd) (B : Cal P w0 K mg base "_law_begun" 1 ["script"] [] (spBegun K)) (f_is_ratio : ∀ a g c : Addr, Cal P w0 K mg base "is_ratio" 2 ["value"] [] (spP ⟨K, fun _ => V.ref a, cls⟩ false g_is_ratio)) (f__law_is_truth : ∀ a g c : Addr, Cal P w0 K mg base "_law_is_truth" 1 ["found", "due"] [] (spP ⟨K, fun _ => V.ref a, cls⟩ false g__law_is_truth)) (f__law_is_ratio : ∀ a g c : Addr, Cal P w0 K mg base "_law_is_ratio" 2 ["value"] [] (spP ⟨K, fun _ => V.ref a, cls⟩ false g__law_is_ratio)) (f__law_near : ∀ a g c : Addr, Cal P w0 K mg base "_law_near" 5 ["draws"] [] (spM (gD a g c TT) ⟨K, fun _ => V.ref a, cls⟩ false g__law_near)) (f__law_word_right : ∀ a g c : Addr, Cal P w0 K mg base "_law_word_right" 5 ["draws"] [] (spM (gD a g c TT) ⟨K, fun _ => V.ref a, cls⟩ false g__law_word_right)) (f__law_reckoned_right : ∀ a g c : Addr, Cal P w0 K mg base "_law_reckoned_right" 5 ["draws"] [] (spM (gD a g c TT) ⟨K, fun _ => V.ref a, cls⟩ false g__law_reckoned_right)) (f__law_refused : ∀ a g c : Addr, Cal P w0 K mg base "_law_refused" 7 ["draws"] [] (spM (gD a g c TT) ⟨K, fun _ => V.ref a, cls⟩ false g__law_refused))
    (hval : ∀ ns : List Int, ns.length ≤ 63 → (∀ z ∈ ns, Builtin.Int.intBits z ≤ 1048576) → ∃ w', m_law (begunW ns) (some (.frl (ns.map D.int)) :: some (.tok 0) :: List.replicate 3 none) = some (.ret (.bl true) w')) : FnOk P w0 K mg base (L2.CX P w0) 9 f fd ["script"] (spLawT K TT) :=
  law_ok (k := 7) (N := ["script", "draws", "turn", "lap", "value"]) F ⟨rfl, rfl, rfl, by decide +kernel, rfl, by decide +kernel, by decide +kernel⟩ rfl rfl (by decide +kernel) rfl rfl rfl rfl B (fun a g c cdv A outer s H E H0 S0 hS hU hr => by
  have T := T a
  have f_is_ratio := f_is_ratio a g c; have f__law_is_truth := f__law_is_truth a g c; have f__law_is_ratio := f__law_is_ratio a g c; have f__law_near := f__law_near a g c; have f__law_word_right := f__law_word_right a g c; have f__law_reckoned_right := f__law_reckoned_right a g c; have f__law_refused := f__law_refused a g c
  have nd : (["script", "draws", "turn", "lap", "value"] : List Str).Nodup := by decide +kernel
  exact (sm_cons (sF ownB (ei_range1 (xAdd xI (cMin2 T.z_min (ems_cons (cLen T.z_len (ems_cons (xN 0 (pv 0)) ems_nil)) (ems_cons xI ems_nil)))) (by rfl) T.z_range) (gN1 2 nd)
  (sm_cons (sF ownB (ei_range1 xI (by rfl) T.z_range) (gN1 3 nd)
  (sm_cons (aS 4 nd (cM f__law_near hr (by decide) passB (ems_cons (xN 1 (pv 1)) ems_nil)))
  (sm_one (sm_if (tm_not (tV (cF f__law_is_truth hr (by decide) passB (ems_cons (cF f_is_ratio hr (by decide) passB (ems_cons (xN 4 (pv 4)) ems_nil)) (ems_cons (cF f__law_is_ratio hr (by decide) passB (ems_cons (xN 4 (pv 4)) ems_nil)) ems_nil)))))
  (sm_one (sm_ret xB))
  sm_nil))))
  (sm_one (sm_if (tm_bool (tw_or (tm_not (tV (cM f__law_word_right hr (by decide) passB (ems_cons (xN 1 (pv 1)) ems_nil)))) (tw_or (tm_not (tV (cM f__law_reckoned_right hr (by decide) passB (ems_cons (xN 1 (pv 1)) ems_nil)))) (tw_or1 (tm_not (tV (cM f__law_refused hr (by decide) passB (ems_cons (xN 1 (pv 1)) ems_nil))))))))
  (sm_one (sm_ret xB))
  sm_nil))))
  (sm_one (sm_ret xB)))) hval
end
end DL
end
noncomputable section
namespace DL
open L2 PySem PyProof.Rows PySem.Spec
def dsK : List He.DefD := [dD "is_whole" s_is_whole, dD "is_ratio" s_is_ratio, dD "lowest" s_lowest, dD "plus" s_plus, dD "is_less" s_is_less, dD "total" s_total, dD "ratio" s_ratio, dD "added" s_added, dD "is_below" s_is_below, dD "is_word" s_is_word, dD "_law_begun" s__law_begun, dD "_law_blended" s__law_blended, dD "_law_draw" s__law_draw, dD "_law_pick" s__law_pick, dD "_law_caught" s__law_caught, dD "_law_is_truth" s__law_is_truth, dD "_law_same" s__law_same, dD "_law_q" s__law_q, dD "_law_plus" s__law_plus, dD "_law_less" s__law_less, dD "_law_sum" s__law_sum, dD "_law_words" s__law_words, dD "_law_is_ratio" s__law_is_ratio, dD "_law_number" s__law_number, dD "_law_near" s__law_near, dD "_law_word_right" s__law_word_right, dD "_law_reckoned_right" s__law_reckoned_right, dD "_law_refused" s__law_refused, dD "law" s_law]
def faK : List He.Fa := [.glo "is_whole", .glo "is_ratio", .glo "lowest", .glo "plus", .glo "is_less", .glo "total", .glo "ratio", .glo "added", .glo "is_below", .glo "is_word", .glo "_law_begun", .glo "_law_blended", .glo "_law_draw", .glo "_law_pick", .glo "_law_caught", .glo "_law_is_truth", .glo "_law_same", .glo "_law_q", .glo "_law_plus", .glo "_law_less", .glo "_law_sum", .glo "_law_words", .glo "_law_is_ratio", .glo "_law_number", .glo "_law_near", .glo "_law_word_right", .glo "_law_reckoned_right", .glo "_law_refused", .glo "law", .glo "TellError", .glo "BadNumber", .glo "BadRatio", .glo "BadRatios", .exc "BadRatio", .exc "BadRatios", .free "abs", .free "all", .free "bool", .free "dict", .free "int", .free "isinstance", .free "len", .free "list", .free "min", .free "range", .free "sorted", .free "str", .free "super", .free "tuple", .free "zip", .str "LETTERS" "abcdefghijklmnopqrstuvwxyz"]
def tfK : List (Str × Str) := [("_law_refused", (envOfC "_law_refused" (defScope s__law_refused) 0 0 .none).qual ++ "<lambda>")]
def tdK : List (Str × Option Str) := tfK.map fun p => (p.1, none)
def clK : List Str := ["BadNumber", "BadRatio", "BadRatios"]
def fileK : Str := PySem.Challenge.rw_onedraw_k00_words_and_ratios.prog.main.file
def exK (K : PySem.W.Frag) : Bool := He.eqO (PySem.W.nsIn K mainGlobals "gcd") (some (some (.builtin "math.gcd"))) && (errB K clK "TellError" && (apart ((tabsL K tfK).map (·.1)) && (iniB K fileK "BadNumber" "part" "BadNumber.__init__" && (noAt K clK "part" && (cstG K "ZERO" k_ZERO)))))
def insK : List IniD := [iniD "BadNumber" "BadNumber.__init__" (top 3)]
section
variable {w : World} {K : PySem.W.Frag} {h : Heap} {mg : Str → Option Value} {f : Addr}
theorem tx_of (X : K.In h) (G : h.Ns mainGlobals mg) (Y : He.SaysX faK dsK [] tdK exK w h K) (tk : Nat → V) : Tx K mg tk (clsL K clK) := by
  have d : He.SaysD faK dsK K := Y.t.d
  have more : exK K = true := Y.more
  obtain ⟨i_gcd, more⟩ := He.ba more
  obtain ⟨hE, more⟩ := He.ba more
  obtain ⟨hA, more⟩ := He.ba more
  obtain ⟨b_BadNumber, more⟩ := He.ba more
  obtain ⟨a_part, more⟩ := He.ba more
  have g_ZERO := more
  obtain ⟨fdc, Fc, _⟩ := funC_of d (x := "_law_caught") (st := s__law_caught) 14
  exact { z_abs := He.free_ok X G (d.fact 35 (f := .free "abs") rfl), z_all := He.free_ok X G (d.fact 36 (f := .free "all") rfl), z_bool := He.free_ok X G (d.fact 37 (f := .free "bool") rfl), z_dict := He.free_ok X G (d.fact 38 (f := .free "dict") rfl), z_int := He.free_ok X G (d.fact 39 (f := .free "int") rfl), z_isinstance := He.free_ok X G (d.fact 40 (f := .free "isinstance") rfl), z_len := He.free_ok X G (d.fact 41 (f := .free "len") rfl), z_list := He.free_ok X G (d.fact 42 (f := .free "list") rfl), z_min := He.free_ok X G (d.fact 43 (f := .free "min") rfl), z_range := He.free_ok X G (d.fact 44 (f := .free "range") rfl), z_sorted := He.free_ok X G (d.fact 45 (f := .free "sorted") rfl), z_str := He.free_ok X G (d.fact 46 (f := .free "str") rfl), z_super := He.free_ok X G (d.fact 47 (f := .free "super") rfl), z_tuple := He.free_ok X G (d.fact 48 (f := .free "tuple") rfl), z_zip := He.free_ok X G (d.fact 49 (f := .free "zip") rfl), c_LETTERS := He.str_ok X G (d.fact 50 (f := .str "LETTERS" "abcdefghijklmnopqrstuvwxyz") rfl), gcd := PySem.W.mg_of X G (He.eqO_ok i_gcd), n_BadNumber := clsN_of X G rfl (d.fact 30 (f := .glo "BadNumber") rfl), r_BadRatio := clsR_of X G rfl (d.fact 31 (f := .glo "BadRatio") rfl) (d.fact 33 (f := .exc "BadRatio") rfl), r_BadRatios := clsR_of X G rfl (d.fact 32 (f := .glo "BadRatios") rfl) (d.fact 34 (f := .exc "BadRatios") rfl), c_ZERO := gcst_of (p := ⟨K, tk, clsL K clK⟩) X G g_ZERO, f_part := noAt_ok a_part, err := errK_of hE, caught := caught_of Fc (He.glo_ok X G (d.fact 14 (f := .glo "_law_caught") rfl)) rfl rfl (fun _ _ _ _ _ _ us hl => match us, hl with | [_], _ => rfl) (He.glo_ok X G (d.fact 29 (f := .glo "TellError") rfl)) hE }
def HV : Prop := ∀ ns : List Int, ns.length ≤ 63 → (∀ z ∈ ns, Builtin.Int.intBits z ≤ 1048576) → ∃ w', m_law (begunW ns) (some (.frl (ns.map D.int)) :: some (.tok 0) :: List.replicate 3 none) = some (.ret (.bl true) w')
theorem law_at (hv : HV) (X : K.In h) (G : h.Ns mainGlobals mg) (Y0 : SaysI faK dsK [] tdK exK insK w h K) (hf : mg "law" = some (.ref f)) : LamX.LawAtS PySem.Challenge.rw_onedraw_k00_words_and_ratios w K (L2.CX PySem.Challenge.rw_onedraw_k00_words_and_ratios.prog w) 9 63 "script" mg f h := by
  have Y := Y0.x
  have d : He.SaysD faK dsK K := Y.t.d
  have more : exK K = true := Y.more
  obtain ⟨_, more⟩ := He.ba more
  obtain ⟨_, more⟩ := He.ba more
  obtain ⟨hA, more⟩ := He.ba more
  obtain ⟨b_BadNumber, more⟩ := He.ba more
  obtain ⟨_, more⟩ := He.ba more
  obtain ⟨d0, F0, C0⟩ := funC_of d (x := "is_whole") (st := s_is_whole) 0
  obtain ⟨d1, F1, C1⟩ := funC_of d (x := "is_ratio") (st := s_is_ratio) 1
  obtain ⟨d2, F2, C2⟩ := funC_of d (x := "lowest") (st := s_lowest) 2
  obtain ⟨d3, F3, C3⟩ := funC_of d (x := "plus") (st := s_plus) 3
  obtain ⟨d4, F4, C4⟩ := funC_of d (x := "is_less") (st := s_is_less) 4
  obtain ⟨d5, F5, C5⟩ := funC_of d (x := "total") (st := s_total) 5
  obtain ⟨d6, F6, C6⟩ := funC_of d (x := "ratio") (st := s_ratio) 6
  obtain ⟨d7, F7, C7⟩ := funC_of d (x := "added") (st := s_added) 7
  obtain ⟨d8, F8, C8⟩ := funC_of d (x := "is_below") (st := s_is_below) 8
  obtain ⟨d9, F9, C9⟩ := funC_of d (x := "is_word") (st := s_is_word) 9
  obtain ⟨d10, F10, C10⟩ := funC_of d (x := "_law_begun") (st := s__law_begun) 10
  obtain ⟨d11, F11, C11⟩ := funC_of d (x := "_law_blended") (st := s__law_blended) 11
  obtain ⟨d12, F12, C12⟩ := funC_of d (x := "_law_draw") (st := s__law_draw) 12
  obtain ⟨d13, F13, C13⟩ := funC_of d (x := "_law_pick") (st := s__law_pick) 13
  obtain ⟨d14, F14, C14⟩ := funC_of d (x := "_law_caught") (st := s__law_caught) 14
  obtain ⟨d15, F15, C15⟩ := funC_of d (x := "_law_is_truth") (st := s__law_is_truth) 15
  obtain ⟨d16, F16, C16⟩ := funC_of d (x := "_law_same") (st := s__law_same) 16
  obtain ⟨d17, F17, C17⟩ := funC_of d (x := "_law_q") (st := s__law_q) 17
  obtain ⟨d18, F18, C18⟩ := funC_of d (x := "_law_plus") (st := s__law_plus) 18
  obtain ⟨d19, F19, C19⟩ := funC_of d (x := "_law_less") (st := s__law_less) 19
  obtain ⟨d20, F20, C20⟩ := funC_of d (x := "_law_sum") (st := s__law_sum) 20
  obtain ⟨d21, F21, C21⟩ := funC_of d (x := "_law_words") (st := s__law_words) 21
  obtain ⟨d22, F22, C22⟩ := funC_of d (x := "_law_is_ratio") (st := s__law_is_ratio) 22
  obtain ⟨d23, F23, C23⟩ := funC_of d (x := "_law_number") (st := s__law_number) 23
  obtain ⟨d24, F24, C24⟩ := funC_of d (x := "_law_near") (st := s__law_near) 24
  obtain ⟨d25, F25, C25⟩ := funC_of d (x := "_law_word_right") (st := s__law_word_right) 25
  obtain ⟨d26, F26, C26⟩ := funC_of d (x := "_law_reckoned_right") (st := s__law_reckoned_right) 26
  obtain ⟨d27, F27, C27⟩ := funC_of d (x := "_law_refused") (st := s__law_refused) 27
  obtain ⟨d28, F28, C28⟩ := funC_of d (x := "law") (st := s_law) 28
  refine lawAt_of (tf := tfK) X G Y F28 hf (He.glo_ok X G (d.fact 28 (f := .glo "law") rfl)) (fun _ _ _ _ _ _ us hl => match us, hl with | [_], _ => rfl) fun base KX GX TB => ?_
  have T : ∀ a : Addr, Tx K mg (fun _ => V.ref a) (clsL K clK) := fun a => tx_of X G Y _
  have i_BadNumber : ClsI PySem.Challenge.rw_onedraw_k00_words_and_ratios.prog w K mg base (clsL K clK) "BadNumber" "part" := clsI_of (d := iniD "BadNumber" "BadNumber.__init__" (top 3)) (file := fileK) (n0 := "self") (n1 := "part") (pl := fun env => do return (← importBound (.Call (.Name "super" ⟨0, 0, 0, 0⟩) [] [] ⟨0, 0, 0, 0⟩) env).getD true) (Y0.i (iniD "BadNumber" "BadNumber.__init__" (top 3)) (by simp [insK])) b_BadNumber (He.glo_ok X G (d.fact 30 (f := .glo "BadNumber") rfl)) (by unfold clsL; rw [if_pos (show clK.contains "BadNumber" = true by rfl)]) (tx_of X G Y fun _ => V.non).z_super ⟨rfl, rfl, rfl, by decide +kernel, by decide +kernel, rfl, rfl, rfl, rfl, by decide⟩ rfl rfl (beq_self_eq_true _) (by kernel_rfl) rfl (by decide) (by decide) (by decide) (by decide) (fun env => by rfl) (fun env h => by rfl) (fun env => by rfl) (fun _ _ _ _ _ _ _ us hl => match us, hl with | [_, _], _ => rfl)
  have f_is_whole : ∀ a g c : Addr, Cal PySem.Challenge.rw_onedraw_k00_words_and_ratios.prog w K mg base "is_whole" 1 ["value"] [] (spP ⟨K, fun _ => V.ref a, clsL K clK⟩ false g_is_whole) := fun a g c => cal_of F0 (He.glo_ok X G (d.fact 0 (f := .glo "is_whole") rfl)) (fun _ _ _ _ _ _ us hl => match us, hl with | [_], _ => rfl) kwsN (ok_is_whole (T a) F0  )
  have f_lowest : ∀ a g c : Addr, Cal PySem.Challenge.rw_onedraw_k00_words_and_ratios.prog w K mg base "lowest" 1 ["n", "d"] [] (spP ⟨K, fun _ => V.ref a, clsL K clK⟩ false g_lowest) := fun a g c => cal_of F2 (He.glo_ok X G (d.fact 2 (f := .glo "lowest") rfl)) (fun _ _ _ _ _ _ us hl => match us, hl with | [_, _], _ => rfl) kwsN (ok_lowest (T a) F2  )
  have f_is_less : ∀ a g c : Addr, Cal PySem.Challenge.rw_onedraw_k00_words_and_ratios.prog w K mg base "is_less" 1 ["one", "other"] [] (spP ⟨K, fun _ => V.ref a, clsL K clK⟩ false g_is_less) := fun a g c => cal_of F4 (He.glo_ok X G (d.fact 4 (f := .glo "is_less") rfl)) (fun _ _ _ _ _ _ us hl => match us, hl with | [_, _], _ => rfl) kwsN (ok_is_less (T a) F4  )
  have f_is_word : ∀ a g c : Addr, Cal PySem.Challenge.rw_onedraw_k00_words_and_ratios.prog w K mg base "is_word" 1 ["value"] [] (spP ⟨K, fun _ => V.ref a, clsL K clK⟩ false g_is_word) := fun a g c => cal_of F9 (He.glo_ok X G (d.fact 9 (f := .glo "is_word") rfl)) (fun _ _ _ _ _ _ us hl => match us, hl with | [_], _ => rfl) kwsN (ok_is_word (T a) F9  )
  have f__law_begun : Cal PySem.Challenge.rw_onedraw_k00_words_and_ratios.prog w K mg base "_law_begun" 1 ["script"] [] (spBegun K) := cal_of F10 (He.glo_ok X G (d.fact 10 (f := .glo "_law_begun") rfl)) (fun _ _ _ _ _ _ us hl => match us, hl with | [_], _ => rfl) kwsN (ok__law_begun (T 0) F10)
  have f__law_blended : ∀ a g c : Addr, Cal PySem.Challenge.rw_onedraw_k00_words_and_ratios.prog w K mg base "_law_blended" 1 ["state"] [] (spM (gD a g c (tabsL K tfK)) ⟨K, fun _ => V.ref a, clsL K clK⟩ false g__law_blended) := fun a g c => cal_of F11 (He.glo_ok X G (d.fact 11 (f := .glo "_law_blended") rfl)) (fun _ _ _ _ _ _ us hl => match us, hl with | [_], _ => rfl) kwsN (ok__law_blended (T a) F11 rfl  )
  have f__law_is_truth : ∀ a g c : Addr, Cal PySem.Challenge.rw_onedraw_k00_words_and_ratios.prog w K mg base "_law_is_truth" 1 ["found", "due"] [] (spP ⟨K, fun _ => V.ref a, clsL K clK⟩ false g__law_is_truth) := fun a g c => cal_of F15 (He.glo_ok X G (d.fact 15 (f := .glo "_law_is_truth") rfl)) (fun _ _ _ _ _ _ us hl => match us, hl with | [_, _], _ => rfl) kwsN (ok__law_is_truth (T a) F15  )
  have f__law_q : ∀ a g c : Addr, Cal PySem.Challenge.rw_onedraw_k00_words_and_ratios.prog w K mg base "_law_q" 1 ["n", "d"] [] (spP ⟨K, fun _ => V.ref a, clsL K clK⟩ false g__law_q) := fun a g c => cal_of F17 (He.glo_ok X G (d.fact 17 (f := .glo "_law_q") rfl)) (fun _ _ _ _ _ _ us hl => match us, hl with | [_, _], _ => rfl) kwsN (ok__law_q (T a) F17  )
  have f__law_less : ∀ a g c : Addr, Cal PySem.Challenge.rw_onedraw_k00_words_and_ratios.prog w K mg base "_law_less" 1 ["one", "other"] [] (spP ⟨K, fun _ => V.ref a, clsL K clK⟩ false g__law_less) := fun a g c => cal_of F19 (He.glo_ok X G (d.fact 19 (f := .glo "_law_less") rfl)) (fun _ _ _ _ _ _ us hl => match us, hl with | [_, _], _ => rfl) kwsN (ok__law_less (T a) F19  )
  have f_is_ratio : ∀ a g c : Addr, Cal PySem.Challenge.rw_onedraw_k00_words_and_ratios.prog w K mg base "is_ratio" 2 ["value"] [] (spP ⟨K, fun _ => V.ref a, clsL K clK⟩ false g_is_ratio) := fun a g c => cal_of F1 (He.glo_ok X G (d.fact 1 (f := .glo "is_ratio") rfl)) (fun _ _ _ _ _ _ us hl => match us, hl with | [_], _ => rfl) kwsN (ok_is_ratio (T a) F1  (f_is_whole a g c))
  have f_plus : ∀ a g c : Addr, Cal PySem.Challenge.rw_onedraw_k00_words_and_ratios.prog w K mg base "plus" 2 ["one", "other"] [] (spP ⟨K, fun _ => V.ref a, clsL K clK⟩ false g_plus) := fun a g c => cal_of F3 (He.glo_ok X G (d.fact 3 (f := .glo "plus") rfl)) (fun _ _ _ _ _ _ us hl => match us, hl with | [_, _], _ => rfl) kwsN (ok_plus (T a) F3  (f_lowest a g c))
  have f__law_draw : ∀ a g c : Addr, Cal PySem.Challenge.rw_onedraw_k00_words_and_ratios.prog w K mg base "_law_draw" 2 ["state", "room"] [] (spM (gD a g c (tabsL K tfK)) ⟨K, fun _ => V.ref a, clsL K clK⟩ false g__law_draw) := fun a g c => cal_of F12 (He.glo_ok X G (d.fact 12 (f := .glo "_law_draw") rfl)) (fun _ _ _ _ _ _ us hl => match us, hl with | [_, _], _ => rfl) kwsN (ok__law_draw (T a) F12 rfl  (f__law_blended a g c))
  have f__law_same : ∀ a g c : Addr, Cal PySem.Challenge.rw_onedraw_k00_words_and_ratios.prog w K mg base "_law_same" 2 ["found", "due"] [] (spP ⟨K, fun _ => V.ref a, clsL K clK⟩ false g__law_same) := fun a g c => cal_of F16 (He.glo_ok X G (d.fact 16 (f := .glo "_law_same") rfl)) (fun _ _ _ _ _ _ us hl => match us, hl with | [_, _], _ => rfl) kwsN (ok__law_same (T a) F16  (f__law_is_truth a g c))
  have f__law_plus : ∀ a g c : Addr, Cal PySem.Challenge.rw_onedraw_k00_words_and_ratios.prog w K mg base "_law_plus" 2 ["one", "other"] [] (spP ⟨K, fun _ => V.ref a, clsL K clK⟩ false g__law_plus) := fun a g c => cal_of F18 (He.glo_ok X G (d.fact 18 (f := .glo "_law_plus") rfl)) (fun _ _ _ _ _ _ us hl => match us, hl with | [_, _], _ => rfl) kwsN (ok__law_plus (T a) F18  (f__law_q a g c))
  have f__law_is_ratio : ∀ a g c : Addr, Cal PySem.Challenge.rw_onedraw_k00_words_and_ratios.prog w K mg base "_law_is_ratio" 2 ["value"] [] (spP ⟨K, fun _ => V.ref a, clsL K clK⟩ false g__law_is_ratio) := fun a g c => cal_of F22 (He.glo_ok X G (d.fact 22 (f := .glo "_law_is_ratio") rfl)) (fun _ _ _ _ _ _ us hl => match us, hl with | [_], _ => rfl) kwsN (ok__law_is_ratio (T a) F22  (f__law_q a g c))
  have f_total : ∀ a g c : Addr, Cal PySem.Challenge.rw_onedraw_k00_words_and_ratios.prog w K mg base "total" 3 ["ratios"] [] (spP ⟨K, fun _ => V.ref a, clsL K clK⟩ false g_total) := fun a g c => cal_of F5 (He.glo_ok X G (d.fact 5 (f := .glo "total") rfl)) (fun _ _ _ _ _ _ us hl => match us, hl with | [_], _ => rfl) kwsN (ok_total (T a) F5  (f_plus a g c))
  have f_ratio : ∀ a g c : Addr, Cal PySem.Challenge.rw_onedraw_k00_words_and_ratios.prog w K mg base "ratio" 3 ["n", "d"] [(["d", "n"], [1, 0])] (spP ⟨K, fun _ => V.ref a, clsL K clK⟩ false g_ratio) := fun a g c => cal_of F6 (He.glo_ok X G (d.fact 6 (f := .glo "ratio") rfl)) (fun _ _ _ _ _ _ us hl => match us, hl with | [_, _], _ => rfl) (fun _ _ _ _ _ _ => (List.forall_mem_cons.mpr ⟨fun ws hl => match ws, hl with | [_, _], _ => rfl, (fun p hp => nomatch hp)⟩)) (ok_ratio (T a) F6 i_BadNumber (f_is_whole a g c) (f_lowest a g c))
  have f_is_below : ∀ a g c : Addr, Cal PySem.Challenge.rw_onedraw_k00_words_and_ratios.prog w K mg base "is_below" 3 ["one", "other"] [(["other", "one"], [1, 0])] (spP ⟨K, fun _ => V.ref a, clsL K clK⟩ false g_is_below) := fun a g c => cal_of F8 (He.glo_ok X G (d.fact 8 (f := .glo "is_below") rfl)) (fun _ _ _ _ _ _ us hl => match us, hl with | [_, _], _ => rfl) (fun _ _ _ _ _ _ => (List.forall_mem_cons.mpr ⟨fun ws hl => match ws, hl with | [_, _], _ => rfl, (fun p hp => nomatch hp)⟩)) (ok_is_below (T a) F8  (f_is_ratio a g c) (f_is_less a g c))
  have f__law_pick : ∀ a g c : Addr, Cal PySem.Challenge.rw_onedraw_k00_words_and_ratios.prog w K mg base "_law_pick" 3 ["state", "some"] [] (spM (gD a g c (tabsL K tfK)) ⟨K, fun _ => V.ref a, clsL K clK⟩ false g__law_pick) := fun a g c => cal_of F13 (He.glo_ok X G (d.fact 13 (f := .glo "_law_pick") rfl)) (fun _ _ _ _ _ _ us hl => match us, hl with | [_, _], _ => rfl) kwsN (ok__law_pick (T a) F13  (f__law_draw a g c))
  have f__law_sum : ∀ a g c : Addr, Cal PySem.Challenge.rw_onedraw_k00_words_and_ratios.prog w K mg base "_law_sum" 3 ["some"] [] (spP ⟨K, fun _ => V.ref a, clsL K clK⟩ false g__law_sum) := fun a g c => cal_of F20 (He.glo_ok X G (d.fact 20 (f := .glo "_law_sum") rfl)) (fun _ _ _ _ _ _ us hl => match us, hl with | [_], _ => rfl) kwsN (ok__law_sum (T a) F20  (f__law_plus a g c))
  have f_added : ∀ a g c : Addr, Cal PySem.Challenge.rw_onedraw_k00_words_and_ratios.prog w K mg base "added" 4 ["ratios"] [(["ratios"], [0])] (spP ⟨K, fun _ => V.ref a, clsL K clK⟩ false g_added) := fun a g c => cal_of F7 (He.glo_ok X G (d.fact 7 (f := .glo "added") rfl)) (fun _ _ _ _ _ _ us hl => match us, hl with | [_], _ => rfl) (fun _ _ _ _ _ _ => (List.forall_mem_cons.mpr ⟨fun ws hl => match ws, hl with | [_], _ => rfl, (fun p hp => nomatch hp)⟩)) (ok_added (T a) F7  (f_is_ratio a g c) (f_total a g c))
  have f__law_words : ∀ a g c : Addr, Cal PySem.Challenge.rw_onedraw_k00_words_and_ratios.prog w K mg base "_law_words" 4 ["draws", "many"] [] (spM (gD a g c (tabsL K tfK)) ⟨K, fun _ => V.ref a, clsL K clK⟩ false g__law_words) := fun a g c => cal_of F21 (He.glo_ok X G (d.fact 21 (f := .glo "_law_words") rfl)) (fun _ _ _ _ _ _ us hl => match us, hl with | [_, _], _ => rfl) kwsN (ok__law_words (T a) F21  (f__law_draw a g c) (f__law_pick a g c))
  have f__law_number : ∀ a g c : Addr, Cal PySem.Challenge.rw_onedraw_k00_words_and_ratios.prog w K mg base "_law_number" 4 ["draws"] [] (spM (gD a g c (tabsL K tfK)) ⟨K, fun _ => V.ref a, clsL K clK⟩ false g__law_number) := fun a g c => cal_of F23 (He.glo_ok X G (d.fact 23 (f := .glo "_law_number") rfl)) (fun _ _ _ _ _ _ us hl => match us, hl with | [_], _ => rfl) kwsN (ok__law_number (T a) F23  (f__law_draw a g c) (f__law_pick a g c))
  have f__law_near : ∀ a g c : Addr, Cal PySem.Challenge.rw_onedraw_k00_words_and_ratios.prog w K mg base "_law_near" 5 ["draws"] [] (spM (gD a g c (tabsL K tfK)) ⟨K, fun _ => V.ref a, clsL K clK⟩ false g__law_near) := fun a g c => cal_of F24 (He.glo_ok X G (d.fact 24 (f := .glo "_law_near") rfl)) (fun _ _ _ _ _ _ us hl => match us, hl with | [_], _ => rfl) kwsN (ok__law_near (T a) F24  (f__law_pick a g c) (f__law_q a g c) (f__law_number a g c))
  have f__law_word_right : ∀ a g c : Addr, Cal PySem.Challenge.rw_onedraw_k00_words_and_ratios.prog w K mg base "_law_word_right" 5 ["draws"] [] (spM (gD a g c (tabsL K tfK)) ⟨K, fun _ => V.ref a, clsL K clK⟩ false g__law_word_right) := fun a g c => cal_of F25 (He.glo_ok X G (d.fact 25 (f := .glo "_law_word_right") rfl)) (fun _ _ _ _ _ _ us hl => match us, hl with | [_], _ => rfl) kwsN (ok__law_word_right (T a) F25  (f_is_word a g c) (f__law_draw a g c) (f__law_pick a g c) (f__law_is_truth a g c) (f__law_words a g c))
  have f__law_reckoned_right : ∀ a g c : Addr, Cal PySem.Challenge.rw_onedraw_k00_words_and_ratios.prog w K mg base "_law_reckoned_right" 5 ["draws"] [] (spM (gD a g c (tabsL K tfK)) ⟨K, fun _ => V.ref a, clsL K clK⟩ false g__law_reckoned_right) := fun a g c => cal_of F26 (He.glo_ok X G (d.fact 26 (f := .glo "_law_reckoned_right") rfl)) (fun _ _ _ _ _ _ us hl => match us, hl with | [_], _ => rfl) kwsN (ok__law_reckoned_right (T a) F26  (f_ratio a g c) (f_added a g c) (f_is_below a g c) (f__law_draw a g c) (f__law_is_truth a g c) (f__law_same a g c) (f__law_q a g c) (f__law_less a g c) (f__law_sum a g c) (f__law_number a g c))
  have f__law_refused : ∀ a g c : Addr, Cal PySem.Challenge.rw_onedraw_k00_words_and_ratios.prog w K mg base "_law_refused" 7 ["draws"] [] (spM (gD a g c (tabsL K tfK)) ⟨K, fun _ => V.ref a, clsL K clK⟩ false g__law_refused) := fun a g c => cal_of F27 (He.glo_ok X G (d.fact 27 (f := .glo "_law_refused") rfl)) (fun _ _ _ _ _ _ us hl => match us, hl with | [_], _ => rfl) kwsN (ok__law_refused (T a) C27 (lamK_of TB hA (by simp [tfK]))  (f_ratio a g c) (f_added a g c) (f_is_below a g c) (f__law_pick a g c))
  exact ok_law T F28 f__law_begun f_is_ratio f__law_is_truth f__law_is_ratio f__law_near f__law_word_right f__law_reckoned_right f__law_refused hv
end
def nmK0 : List PySem.Str := ["__name__", "TellError", "BadNumber", "BadRatio", "BadRatios", "ZERO", "is_whole", "is_ratio", "lowest", "plus", "is_less", "total", "ratio", "added", "is_below", "LETTERS", "is_word", "_law_begun", "_law_blended", "_law_draw", "_law_pick", "_law_caught", "_law_is_truth", "_law_same"]
def nmK1 : List PySem.Str := ["_law_q", "_law_plus", "_law_less", "_law_sum", "_law_words", "_law_is_ratio", "_law_number", "_law_near", "_law_word_right", "_law_reckoned_right", "_law_refused"]
def nmK : List PySem.Str := nmK0 ++ nmK1
abbrev rowK : PySem.W.OpenRow := PySem.W.OpenLaw.row PySem.Challenge.rw_onedraw_k00_words_and_ratios
abbrev vK : Program := PySem.W.view rowK.prog [0, 39]
abbrev hkK : PySem.W.Hook := hookI 4 faK dsK [] tdK exK insK
def obK (s : PySem.W.SharedT) : AlI := obsI 4 faK dsK [] tdK exK insK (HandSHeadRun.getT s)
theorem obK_eq (s : PySem.W.SharedT) : obK s = hkK.obs s.abs := obsI_eq (HandSHeadRun.getT_eq s)
theorem runK (w : World) : HandSHeadRun.RunEqI rowK vK hkK obK 4000 nmK w := by
  unfold HandSHeadRun.RunEqI
  kernel_rfl
end DL
open PySem PySem.W PySem.Calls PyProof.Rows
theorem DL.holdsK (hv : DL.HV) : PySem.Challenge.rw_onedraw_k00_words_and_ratios.Holds := by
  w_on; o_law
  refine HandSHeadRun.head_imp (r := OpenLaw.row PySem.Challenge.rw_onedraw_k00_words_and_ratios) (q := DL.vK) (H := DL.hkK) (ob := DL.obK) (M := 4000) (loose := DL.nmK) (d := HandSHeadRun.topDef (OpenLaw.row PySem.Challenge.rw_onedraw_k00_words_and_ratios).prog 39) (kwd := []) DL.obK_eq
    DL.runK (by kernel_rfl) (by kernel_rfl) (by kernel_rfl) (by rfl) (by first | assumption | decide +kernel) (by decide +kernel) ⟨rfl, rfl, rfl, rfl, rfl, by decide +kernel⟩ ?hw ?hc
  case hw => w_witness2
  case hc =>
    refine LamX.walk_ofTsE (l := PySem.Challenge.rw_onedraw_k00_words_and_ratios) (n := 63) (k := 9) (x := "script") (CX := fun w => L2.CX (PySem.Challenge.rw_onedraw_k00_words_and_ratios).prog w) rfl (by decide) (by kernel_rfl) ⟨rfl, by decide, by decide⟩ ?F (fun w H s e s1 z => DL.cx_no _ w H s e s1 z)
    intro w mg fa h Y G hmg0
    obtain ⟨K, KX, c⟩ := Y
    have hmg : mg ("law" : PySem.Str) = some (.ref fa) := by
      have e : (HandSHeadRun.topDef (OpenLaw.row PySem.Challenge.rw_onedraw_k00_words_and_ratios).prog 39).name = ("law" : PySem.Str) := by kernel_rfl
      rw [← e]
      exact hmg0
    exact ⟨K, KX, DL.law_at hv KX G c hmg⟩
end
noncomputable section
namespace DL
theorem HV_law : HV := fun ns h _ => hv_law ns h
end DL
end
theorem PySem.Challenge.cw_onedraw_k00_words_and_ratios_holds : PySem.Challenge.rw_onedraw_k00_words_and_ratios.Holds :=
  DL.holdsK DL.HV_law
