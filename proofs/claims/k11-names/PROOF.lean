import PyProof.Rows.All
import Wide.All
import OpenK.AllK
import Wide.FinOn
import HandS.ForMost
import HandS.Exc
import HandS.TryOnly
import HandS.ExcOwn
import HandS.WordsExc
import HandS.IsInst
import KE.SortData
import HandS.WideBits
import HandS.Wide
import HandS.More
import HandS.Strs
import HandS.StrMore
import HandS.TupLe
import HandS.Style
import HandS.Deep
import PyProof.Rows.ListStrD
import HandS.Conv
import HandS.EndBits
import PySem.Challenge.RW_cutmeet_k11_names
set_option Elab.async false
set_option linter.all false
set_option maxRecDepth 100000
set_option maxHeartbeats 8000000
/-! L3: mirrors in a state monad, slots, frozen heaps; judgements whose proofs have the shape of the text. -/
namespace L3
open PySem PySem.Spec PyProof.Rows L2

/-! ### the values of mirrors -/
inductive U where
  | none
  | bool (b : Bool)
  | int (i : Int)
  | str (x : Str)
  | list (xs : List U)
  | tuple (xs : List U)
  | dict (kvs : List (Key × U))
  /-- a dict by tuples of whole numbers and texts -/
  | dictT (kvs : List (List Key × U))
  /-- a thing of the class at C -/
  | ins (C : Addr) (fs : List (Str × U))
/-! ### the monad of mirrors -/
structure Err where
  cls : Str
  fields : Option (List (Str × U))
inductive Out (S β : Type) where
  | ok (b : β) (s : S)
  | exc (e : Err) (s : S)
  | stuck
abbrev StM (S β : Type) : Type := S → Out S β
section
variable {S β γ δ : Type}
def Out.wp (o : Out S β) (P : β → S → Prop) (E : Err → S → Prop) : Prop :=
  match o with
  | .ok b s => P b s
  | .exc e s => E e s
  | .stuck => False
def StM.pure (b : β) : StM S β := fun s => .ok b s
def StM.bind (m : StM S β) (f : β → StM S γ) : StM S γ := fun s =>
  match m s with
  | .ok b s' => f b s'
  | .exc e s' => .exc e s'
  | .stuck => .stuck
def StM.fail : StM S β := fun _ => .stuck
def StM.raise (e : Err) : StM S β := fun s => .exc e s
def StM.ofOpt (o : Option β) : StM S β := match o with | some b => StM.pure b | none => StM.fail
def StM.ite (b : Bool) (x y : StM S β) : StM S β := if b = true then x else y
/-- a mirror that needs no state, in a state -/
def StM.lift {S' : Type} (m : StM Unit β) : StM S' β := fun s =>
  match m () with
  | .ok b _ => .ok b s
  | .exc e _ => .exc e s
  | .stuck => .stuck
theorem wp_mono {o : Out S β} {P P' : β → S → Prop} {E E' : Err → S → Prop} (h : o.wp P E) (hp : ∀ b s, P b s → P' b s) (he : ∀ e s, E e s → E' e s) : o.wp P' E' := by
  cases o with
  | ok b s => exact hp _ _ h
  | exc e s => exact he _ _ h
  | stuck => exact h
theorem wp_bind {m : StM S β} {f : β → StM S γ} {s : S} {P : γ → S → Prop} {E : Err → S → Prop} : (StM.bind m f s).wp P E ↔ (m s).wp (fun b s' => (f b s').wp P E) E := by
  unfold StM.bind Out.wp
  cases m s <;> exact Iff.rfl
theorem wp_pure {b : β} {s : S} {P : β → S → Prop} {E : Err → S → Prop} : (StM.pure b s : Out S β).wp P E ↔ P b s := Iff.rfl
theorem wp_lift {S' : Type} {m : StM Unit β} {s : S'} {P : β → S' → Prop} {E : Err → S' → Prop} : ((StM.lift m : StM S' β) s).wp P E ↔ (m ()).wp (fun b _ => P b s) (fun e _ => E e s) := by
  unfold StM.lift Out.wp
  cases m () <;> exact Iff.rfl
@[simp] theorem bind_pure (b : β) (f : β → StM S γ) : StM.bind (StM.pure b) f = f b := rfl
theorem bind_bind (m : StM S β) (f : β → StM S γ) (g : γ → StM S δ) : StM.bind (StM.bind m f) g = StM.bind m fun b => StM.bind (f b) g := by
  funext s
  unfold StM.bind
  cases m s <;> rfl
end
/-- what a block comes to -/
inductive Fl (T ρ : Type) where
  | nx (t : T) | ct (t : T) | bk (t : T) | ret (r : ρ)
section
variable {S T ρ α : Type}
def Fl.after (k : T → StM S ρ) : Fl T ρ → StM S ρ
  | .nx t => k t
  | .ret r => .pure r
  | _ => .fail
def Fl.afterN {T' : Type} (k : T → StM S (Fl T' ρ)) : Fl T ρ → StM S (Fl T' ρ)
  | .nx t => k t
  | .ret r => .pure (.ret r)
  | _ => .fail
def forM (f : α → T → StM S (Fl T ρ)) : List α → T → StM S (Fl T ρ)
  | [], t => .pure (.nx t)
  | x :: xs, t => .bind (f x t) fun o => match o with
    | .nx t' => forM f xs t'
    | .ct t' => forM f xs t'
    | .bk t' => .pure (.nx t')
    | .ret r => .pure (.ret r)
def whileM (c : T → StM S Bool) (b : T → StM S (Fl T ρ)) : Nat → T → StM S (Fl T ρ)
  | 0, _ => .fail
  | n + 1, t => .bind (c t) fun k => if k = true then .bind (b t) (fun o => match o with
    | .nx t' => whileM c b n t'
    | .ct t' => whileM c b n t'
    | .bk t' => .pure (.nx t')
    | .ret r => .pure (.ret r)) else .pure (.nx t)
def mapM {β : Type} (f : α → StM S β) : List α → StM S (List β)
  | [] => .pure []
  | x :: xs => .bind (f x) fun y => .bind (mapM f xs) fun ys => .pure (y :: ys)
/-- [g x for x in xs if f x] -/
def compM {β : Type} (f : α → StM S Bool) (g : α → StM S β) : List α → List β → StM S (List β)
  | [], acc => .pure acc
  | x :: xs, acc => .bind (f x) fun b => if b = true then .bind (g x) fun y => compM f g xs (acc ++ [y]) else compM f g xs acc
end

/-! ### heaps -/
def Ex (H H' : Hp) : Prop := ∀ a o, H a = some o → H' a = some o
theorem Ex.refl (H : Hp) : Ex H H := fun _ _ h => h
theorem Ex.trans {H H1 H2 : Hp} (a : Ex H H1) (b : Ex H1 H2) : Ex H H2 := fun x o h => b x o (a x o h)
theorem Ex.new {H : Hp} {p : Addr} {o : HO} (h : H p = none) : Ex H (upd H p o) := fun a u e => by
  rw [upd_ne (ne_of_none e h)]
  exact e
theorem Ex.back {H H' : Hp} {p : Addr} (e : Ex H H') (h : H' p = none) : H p = none := by
  cases h1 : H p with
  | none => rfl
  | some o => rw [e p o h1] at h; cases h
theorem Ex.mut {H H' : Hp} {p : Addr} {o : HO} (e : Ex H H') (h : H p = none) : Ex H (upd H' p o) := fun a u ha => by
  rw [upd_ne (ne_of_none ha h)]
  exact e a u ha
theorem Ex.both {H H' : Hp} {p : Addr} {o : HO} (e : Ex H H') : Ex (upd H p o) (upd H' p o) := fun a u ha => by
  by_cases h : a = p
  · subst h; rw [upd_same] at ha ⊢; exact ha
  · rw [upd_ne h] at ha ⊢; exact e a u ha
theorem Ex.put {H H' : Hp} {p : Addr} {o : HO} (e : Ex H H') (h : H' p = some o) : Ex (upd H p o) H' := fun a u ha => by
  by_cases hp : a = p
  · subst hp; rw [upd_same] at ha; cases ha; exact h
  · rw [upd_ne hp] at ha; exact e a u ha

structure Pv where
  p : Hp → V → Prop
  mono : ∀ {G G' : Hp} {v : V}, Ex G G' → p G v → p G' v
structure Po where
  q : Hp → HO → Prop
  mono : ∀ {G G' : Hp} {o : HO}, Ex G G' → q G o → q G' o
structure Pb where
  b : Hp → Hp → V → Prop
  mono : ∀ {G G' H H' : Hp} {v : V}, Ex G G' → Ex H H' → b G H v → b G' H' v
/-- what a slot holds: nothing known, a frozen value, an object of our own, a thing that is read -/
inductive Sl where
  | un
  | im (p : Pv)
  | ow (ad : Option Addr) (q : Po)
  | bo (b : Pb)
abbrev Gam := List Sl
def Keep (M : Addr → Prop) (H H' : Hp) : Prop := ∀ a o, H a = some o → ¬ M a → H' a = some o
def Post (M : Addr → Prop) (G H G' H' : Hp) : Prop := Ex G G' ∧ ∀ a o, H a = some o → ¬ M a → H' a = some o ∧ G' a = G a
def NoM : Addr → Prop := fun _ => False
def Grow (G H G' H' : Hp) : Prop := Post NoM G H G' H' ∧ Ex G' H'
theorem Post.refl {M : Addr → Prop} {G H : Hp} : Post M G H G H := ⟨Ex.refl G, fun _ _ h _ => ⟨h, rfl⟩⟩
theorem Post.trans {M M1 : Addr → Prop} {G H G1 H1 G2 H2 : Hp} (a : Post M G H G1 H1) (b : Post M1 G1 H1 G2 H2) (hm : ∀ x o, H x = some o → M1 x → M x) : Post M G H G2 H2 :=
  ⟨a.1.trans b.1, fun x o h hx => by
    obtain ⟨h1, g1⟩ := a.2 x o h hx
    obtain ⟨h2, g2⟩ := b.2 x o h1 fun z => hx (hm x o h z)
    exact ⟨h2, g2.trans g1⟩⟩
theorem Post.mono {M M' : Addr → Prop} {G H G' H' : Hp} (a : Post M G H G' H') (h : ∀ x, M x → M' x) : Post M' G H G' H' := ⟨a.1, fun x o e n => a.2 x o e fun z => n (h x z)⟩
theorem Post.keep {M : Addr → Prop} {G H G' H' : Hp} (a : Post M G H G' H') : Keep M H H' := fun x o h n => (a.2 x o h n).1
theorem Grow.refl {G H : Hp} (h : Ex G H) : Grow G H G H := ⟨Post.refl, h⟩
theorem Grow.trans {G H G1 H1 G2 H2 : Hp} (a : Grow G H G1 H1) (b : Grow G1 H1 G2 H2) : Grow G H G2 H2 := ⟨a.1.trans b.1 fun _ _ _ z => z, b.2⟩
theorem Grow.ex {G H G' H' : Hp} (a : Grow G H G' H') : Ex G G' := a.1.1
theorem Grow.exH {G H G' H' : Hp} (a : Grow G H G' H') : Ex H H' := fun x o h => (a.1.2 x o h fun z => z).1
/-- a new object, our own | frozen -/
theorem Grow.new {G H : Hp} {p : Addr} {o : HO} (h : Ex G H) (n : H p = none) : Grow G H G (upd H p o) :=
  ⟨⟨Ex.refl G, fun a u e _ => ⟨by rw [upd_ne (ne_of_none e n)]; exact e, rfl⟩⟩, fun a u e => by
    rw [upd_ne (ne_of_none (h a u e) n)]
    exact h a u e⟩
theorem Grow.newF {G H : Hp} {p : Addr} {o : HO} (h : Ex G H) (n : H p = none) : Grow G H (upd G p o) (upd H p o) :=
  ⟨⟨Ex.new (Ex.back h n), fun a u e _ => ⟨by rw [upd_ne (ne_of_none e n)]; exact e, by rw [upd_ne (ne_of_none e n)]⟩⟩, Ex.both h⟩
/-- freeze a new thing of ours -/
theorem Grow.freeze {G H G' H' : Hp} {p : Addr} {o : HO} (g : Grow G H G' H') (n : H p = none) (hp : H' p = some o) (hg : G' p = none) : Grow G H (upd G' p o) H' :=
  ⟨⟨fun a u e => by
      have z := g.ex a u e
      rw [upd_ne (ne_of_none z hg)]
      exact z, fun a u e _ => by
      obtain ⟨h1, g1⟩ := g.1.2 a u e fun z => z
      exact ⟨h1, by rw [upd_ne (ne_of_none e n)]; exact g1⟩⟩, Ex.put g.2 hp⟩

def SlotOk (M : Addr → Prop) (H0 G H : Hp) (x : Option (Option V)) : Sl → Prop
  | .un => True
  | .im p => ∃ v, x = some (some v) ∧ p.p G v
  | .ow ad q => ∃ l o, x = some (some (V.ref l)) ∧ G l = none ∧ H l = some o ∧ q.q G o ∧ (M l ∨ H0 l = none) ∧ ∀ r, ad = some r → l = r
  | .bo b => ∃ v, x = some (some v) ∧ ∀ H', Keep M H0 H' → b.b G H' v

/-- what may be put into a slot -/
def Asg : Sl → Prop
  | .bo _ => False
  | .ow (some _) _ => False
  | _ => True
structure At (M : Addr → Prop) (G0 H0 : Hp) (Γ : Gam) (G H : Hp) (σ : L2.St) : Prop where
  len : σ.length = Γ.length
  sub : Ex G H
  post : Post M G0 H0 G H
  mt : ∀ a, M a → ∃ o, H a = some o
  slot : ∀ (i : Nat) (s : Sl), Γ[i]? = some s → SlotOk M H0 G H σ[i]? s
  dist : ∀ (i j : Nat) (a b : Option Addr) (q q' : Po) (l : Addr), Γ[i]? = some (Sl.ow a q) → Γ[j]? = some (Sl.ow b q') → σ[i]? = some (some (V.ref l)) → σ[j]? = some (some (V.ref l)) → i = j
def OwnA (Γ : Gam) (σ : L2.St) (a : Addr) : Prop := ∃ (i : Nat) (ad : Option Addr) (q : Po), Γ[i]? = some (Sl.ow ad q) ∧ σ[i]? = some (some (V.ref a))

def Rok (s : Sl) (H0 G H : Hp) (v : V) : Prop :=
  match s with
  | .un => True
  | .im p => p.p G v
  | .ow _ q => ∃ l o, v = V.ref l ∧ H0 l = none ∧ G l = none ∧ H l = some o ∧ q.q G o
  | .bo b => b.b G H v
theorem Rok.grow {s : Sl} {H0 G H G' H' : Hp} {v : V} (r : Rok s H0 G H v) (g : Grow G H G' H') : Rok s H0 G' H' v := by
  cases s with
  | un => trivial
  | im p => exact p.mono g.ex r
  | ow ad q =>
    obtain ⟨l, o, e, h0, hg, hh, hq⟩ := r
    obtain ⟨h1, g1⟩ := g.1.2 l o hh fun z => z
    exact ⟨l, o, e, h0, g1.trans hg, h1, q.mono g.ex hq⟩
  | bo b => exact b.mono g.ex g.exH r

section
variable {M : Addr → Prop} {G0 H0 G H G' H' : Hp} {Γ : Gam} {σ : L2.St}
theorem At.fresh (a : At M G0 H0 Γ G H σ) {p : Addr} (h : H p = none) : H0 p = none ∧ ¬ M p := by
  have hm : ¬ M p := fun z => by
    obtain ⟨o, e⟩ := a.mt p z
    rw [h] at e; cases e
  refine ⟨?_, hm⟩
  cases e : H0 p with
  | none => rfl
  | some o =>
    have z := (a.post.2 p o e hm).1
    rw [h] at z; cases z
theorem At.grow (a : At M G0 H0 Γ G H σ) (g : Grow G H G' H') : At M G0 H0 Γ G' H' σ where
  len := a.len
  sub := g.2
  post := a.post.trans g.1 fun _ _ _ z => z.elim
  mt := fun x z => let ⟨o, e⟩ := a.mt x z; ⟨o, g.exH x o e⟩
  slot := fun i s e => by
    have z := a.slot i s e
    cases s with
    | un => trivial
    | im p => obtain ⟨v, e1, e2⟩ := z; exact ⟨v, e1, p.mono g.ex e2⟩
    | ow ad q =>
      obtain ⟨l, o, e1, e2, e3, e4, e5, e6⟩ := z
      obtain ⟨h1, g1⟩ := g.1.2 l o e3 fun z => z
      exact ⟨l, o, e1, g1.trans e2, h1, q.mono g.ex e4, e5, e6⟩
    | bo b => obtain ⟨v, e1, e2⟩ := z; exact ⟨v, e1, fun H' k => b.mono g.ex (Ex.refl _) (e2 H' k)⟩
  dist := a.dist
theorem OwnA.ne {p : Addr} (a : At M G0 H0 Γ G H σ) (h : OwnA Γ σ p) : ∃ o, H p = some o := by
  obtain ⟨i, ad, q, e1, e2⟩ := h
  obtain ⟨l, o, e3, _, e4, _⟩ := a.slot i _ e1
  rw [e2] at e3
  cases e3
  exact ⟨o, e4⟩
/-- a slot is filled -/
theorem At.set_ (a : At M G0 H0 Γ G H σ) {i : Nat} {s : Sl} {v : V} (r : Rok s H G' H' v) (g : Grow G H G' H') (hs : Asg s) :
    At M G0 H0 (Γ.set i s) G' H' (σ.set i (some v)) where
  len := by rw [List.length_set, List.length_set]; exact a.len
  sub := g.2
  post := (a.grow g).post
  mt := (a.grow g).mt
  slot := fun j s' e => by
    have b := a.grow g
    by_cases hj : i = j
    · subst hj
      by_cases hl : i < Γ.length
      · rw [List.getElem?_set_self hl] at e
        cases e
        rw [List.getElem?_set_self (by rw [a.len]; exact hl)]
        cases s with
        | un => trivial
        | im p => exact ⟨v, rfl, r⟩
        | ow ad q =>
          cases ad with
          | some x => exact hs.elim
          | none =>
            obtain ⟨l, o, rfl, h0, hg, hh, hq⟩ := r
            exact ⟨l, o, rfl, hg, hh, hq, .inr (a.fresh h0).1, fun r z => nomatch z⟩
        | bo b => exact hs.elim
      · rw [List.getElem?_eq_none (by rw [List.length_set]; omega)] at e
        cases e
    · rw [List.getElem?_set_ne hj] at e ⊢
      exact b.slot j s' e
  dist := fun j k x y q q' l e1 e2 e3 e4 => by
    have key : ∀ (j : Nat) (x : Option Addr) (q : Po) (l : Addr), i ≠ j → (Γ.set i s)[j]? = some (Sl.ow x q) → (σ.set i (some v))[j]? = some (some (V.ref l)) → ∃ o, H l = some o := fun j x q l hj e e' => by
      rw [List.getElem?_set_ne hj] at e e'
      obtain ⟨l', o, z1, _, z2, _⟩ := a.slot j _ e
      rw [e'] at z1
      cases z1
      exact ⟨o, z2⟩
    have self : ∀ (x : Option Addr) (q : Po) (l : Addr), (Γ.set i s)[i]? = some (Sl.ow x q) → (σ.set i (some v))[i]? = some (some (V.ref l)) → H l = none := fun x q l e e' => by
      by_cases hl : i < Γ.length
      · rw [List.getElem?_set_self hl] at e
        cases e
        rw [List.getElem?_set_self (by rw [a.len]; exact hl)] at e'
        cases e'
        obtain ⟨l', o, z, h0, _⟩ := r
        cases z
        exact h0
      · rw [List.getElem?_eq_none (by rw [List.length_set]; omega)] at e
        cases e
    by_cases hj : i = j
    · by_cases hk : i = k
      · exact hj.symm.trans hk
      · subst hj
        obtain ⟨o, z⟩ := key k y q' l hk e2 e4
        rw [self x q l e1 e3] at z
        cases z
    · by_cases hk : i = k
      · subst hk
        obtain ⟨o, z⟩ := key j x q l hj e1 e3
        rw [self y q' l e2 e4] at z
        cases z
      · rw [List.getElem?_set_ne hj] at e1 e3
        rw [List.getElem?_set_ne hk] at e2 e4
        exact a.dist j k x y q q' l e1 e2 e3 e4
/-- an own object is changed -/
theorem At.mutate (a : At M G0 H0 Γ G H σ) {i : Nat} {ad : Option Addr} {q q' : Po} {l : Addr} {o : HO} (hi : Γ[i]? = some (Sl.ow ad q)) (hl : σ[i]? = some (some (V.ref l))) (hq : q'.q G o) :
    At M G0 H0 (Γ.set i (Sl.ow ad q')) G (upd H l o) σ := by
  obtain ⟨l', o', z1, hg, hh, _, hm, had⟩ := a.slot i _ hi
  rw [hl] at z1
  cases z1
  have hlt : i < Γ.length := (List.getElem?_eq_some_iff.mp hi).1
  have tr : ∀ {j : Nat} {x : Option Addr} {p : Po}, (Γ.set i (Sl.ow ad q'))[j]? = some (Sl.ow x p) → ∃ p', Γ[j]? = some (Sl.ow x p') := fun {j x p} e => by
    by_cases hj : i = j
    · subst hj
      rw [List.getElem?_set_self hlt] at e
      cases e
      exact ⟨q, hi⟩
    · rw [List.getElem?_set_ne hj] at e
      exact ⟨p, e⟩
  refine ⟨by rw [List.length_set]; exact a.len, fun b u e => ?_, ⟨a.post.1, fun b u e hb => ?_⟩, fun b hb => ?_, fun j s e => ?_, fun j k x y p p' m e1 e2 e3 e4 => ?_⟩
  · rw [upd_ne (ne_of_none e hg)]
    exact a.sub b u e
  · obtain ⟨h1, g1⟩ := a.post.2 b u e hb
    refine ⟨?_, g1⟩
    rw [upd_ne]
    · exact h1
    · rintro rfl
      rcases hm with z | z
      · exact hb z
      · rw [e] at z; cases z
  · by_cases z : b = l
    · subst z; exact ⟨o, upd_same⟩
    · rw [upd_ne z]; exact a.mt b hb
  · by_cases hj : i = j
    · subst hj
      rw [List.getElem?_set_self hlt] at e
      cases e
      exact ⟨l, o, hl, hg, upd_same, hq, hm, had⟩
    · rw [List.getElem?_set_ne hj] at e
      have z := a.slot j s e
      cases s with
      | un => trivial
      | im p => exact z
      | ow ad2 p =>
        obtain ⟨l2, o2, z1, z2, z3, z4, z5, z6⟩ := z
        refine ⟨l2, o2, z1, z2, ?_, z4, z5, z6⟩
        rw [upd_ne]
        · exact z3
        · rintro rfl
          exact hj (a.dist i j ad ad2 q p l2 hi e hl z1)
      | bo b => exact z
  · obtain ⟨p1, f1⟩ := tr e1
    obtain ⟨p2, f2⟩ := tr e2
    exact a.dist j k x y p1 p2 m f1 f2 e3 e4
/-- weaker slots -/
inductive Wk : Gam → Gam → Prop
  | nil : Wk [] []
  | s {x : Sl} {Γ Γ' : Gam} : Wk Γ Γ' → Wk (x :: Γ) (x :: Γ')
  | d {x : Sl} {Γ Γ' : Gam} : Wk Γ Γ' → Wk (x :: Γ) (.un :: Γ')
theorem Wk.refl : ∀ Γ : Gam, Wk Γ Γ
  | [] => .nil
  | _ :: Γ => .s (Wk.refl Γ)
theorem Wk.get : ∀ {Γ Γ' : Gam} {i : Nat} {s : Sl}, Wk Γ Γ' → Γ'[i]? = some s → s = .un ∨ Γ[i]? = some s
  | _, _, _, _, .nil, e => by simp at e
  | _, _, 0, _, .s _, e => .inr e
  | _, _, 0, _, .d _, e => by simp at e; exact .inl e.symm
  | _, _, i + 1, z, .s w, e => by simpa using Wk.get (i := i) (s := z) w (by simpa using e)
  | _, _, i + 1, z, .d w, e => by simpa using Wk.get (i := i) (s := z) w (by simpa using e)
theorem Wk.len : ∀ {Γ Γ' : Gam}, Wk Γ Γ' → Γ.length = Γ'.length
  | _, _, .nil => rfl
  | _, _, .s w => by simp [Wk.len w]
  | _, _, .d w => by simp [Wk.len w]
theorem At.weak {Γ' : Gam} (a : At M G0 H0 Γ G H σ) (w : Wk Γ Γ') : At M G0 H0 Γ' G H σ where
  len := a.len.trans w.len
  sub := a.sub
  post := a.post
  mt := a.mt
  slot := fun i s e => by
    rcases w.get e with rfl | e'
    · trivial
    · exact a.slot i s e'
  dist := fun i j x y q q' l e1 e2 => by
    rcases w.get e1 with z | e1'
    · cases z
    · rcases w.get e2 with z | e2'
      · cases z
      · exact a.dist i j x y q q' l e1' e2'
end
end L3

namespace L3
open PySem PySem.Spec PyProof.Rows L2

/-! ### readings by meaning -/
section
variable {X : Cx} {e : Expr} {σ : L2.St} {H : Hp}
def SE (X : Cx) (e : Expr) : TE := fun σ H Q => ∀ (pins : List (Addr × Obj)) (s : Shared), Inv X pins σ H s → wpAny (model X.prog X.w) X.A (eval e X.env) (EP X pins σ Q) X.xe s
def ST (X : Cx) (e : Expr) : TT := fun σ H Q => ∀ (pins : List (Addr × Obj)) (s : Shared), Inv X pins σ H s → wpAny (model X.prog X.w) X.A (isTrue e X.env (eval e X.env)) (TP X pins σ Q) X.xe s
def SW (X : Cx) (e : Expr) : TT := fun σ H Q => ∀ (whole : Sem Value) (pins : List (Addr × Obj)) (s : Shared), Inv X pins σ H s → wpAny (model X.prog X.w) X.A (isTrue e X.env whole) (TP X pins σ Q) X.xe s
def SA (X : Cx) (es : List Expr) : TA := fun σ H Q => ∀ (pos : Pos) (pins : List (Addr × Obj)) (s : Shared), Inv X pins σ H s → wpAny (model X.prog X.w) X.A (spliced (backTo pos (starEach es X.env))) (AP X pins σ Q) X.xe s
def SS (X : Cx) (st : Stmt) : TS := fun D σ H => ∀ (pins : List (Addr × Obj)) (s : Shared), Inv X pins σ H s → wpAny (model X.prog X.w) X.A (exec st X.env) (SP X pins D) X.xe s
def SB (X : Cx) (st : List Stmt) : TS := fun D σ H => ∀ (pins : List (Addr × Obj)) (s : Shared), Inv X pins σ H s → wpAny (model X.prog X.w) X.A (execs st X.env) (SP X pins D) X.xe s
theorem pe_se : PE X e (SE X e) := ⟨fun pins s _ _ _ I h => h pins s I⟩
theorem pt_st : PT X e (ST X e) := ⟨fun pins s _ _ _ I h => h pins s I⟩
theorem pw_sw : PW X e (SW X e) := ⟨fun wh pins s _ _ _ I h => h wh pins s I⟩
theorem pa_sa {es : List Expr} : PA X es (SA X es) := ⟨fun pos pins s _ _ _ I h => h pos pins s I⟩
theorem ps_ss {st : Stmt} : PS X st (SS X st) := ⟨fun pins s _ _ _ I h => h pins s I⟩
theorem pss_sb {st : List Stmt} : PSs X st (SB X st) := ⟨fun pins s _ _ _ I h => h pins s I⟩
theorem SE.of {t : TE} {Q : VK} (h : PE X e t) (q : t σ H Q) : SE X e σ H Q := fun pins s I => h.run pins s σ H Q I q
theorem ST.of {t : TT} {Q : Bool → Hp → Prop} (h : PT X e t) (q : t σ H Q) : ST X e σ H Q := fun pins s I => h.run pins s σ H Q I q
theorem SW.of {t : TT} {Q : Bool → Hp → Prop} (h : PW X e t) (q : t σ H Q) : SW X e σ H Q := fun wh pins s I => h.run wh pins s σ H Q I q
theorem SA.of {es : List Expr} {t : TA} {Q : List V → Hp → Prop} (h : PA X es t) (q : t σ H Q) : SA X es σ H Q := fun pos pins s I => h.run pos pins s σ H Q I q
theorem SS.of {st : Stmt} {t : TS} {D : Ends} (h : PS X st t) (q : t D σ H) : SS X st D σ H := fun pins s I => h.run pins s σ H D I q
theorem SB.of {st : List Stmt} {t : TS} {D : Ends} (h : PSs X st t) (q : t D σ H) : SB X st D σ H := fun pins s I => h.run pins s σ H D I q
/-- the invariant at hand -/
theorem SE.inv {Q : VK} (h : ∀ pins s, Inv X pins σ H s → SE X e σ H Q) : SE X e σ H Q := fun pins s I => h pins s I pins s I
end

/-! ### data -/
def keyD : Key → U
  | .inl i => .int i
  | .inr x => .str x
mutual
inductive Dq (K : PySem.W.Frag) (H : Hp) : V → U → Prop
  | non : Dq K H .non .none
  | bl (b : Bool) : Dq K H (.bl b) (.bool b)
  | int (i : Int) : Dq K H (.int i) (.int i)
  | str (x : Str) (h : PyData.strOk x = true) : Dq K H (.str x) (.str x)
  | lst {a : Addr} {xs : List V} {ds : List U} : SqL K H a xs → DqAll K H xs ds → Dq K H (V.ref a) (.list ds)
  | tup {a : Addr} {xs : List V} {ds : List U} : SqT K H a xs → DqAll K H xs ds → Dq K H (V.ref a) (.tuple ds)
  | dct {a : Addr} {kvs : List (Key × V)} {ds : List (Key × U)} : H a = some (.dK kvs) → DqKvs K H kvs ds → Dq K H (V.ref a) (.dict ds)
  | dctT {a : Addr} {kvs : List (List Key × V)} {ds : List (List Key × U)} : H a = some (.dT kvs) → DqKts K H kvs ds → Dq K H (V.ref a) (.dictT ds)
  | ins {a C dx : Addr} {fvs : List (Str × V)} {fs : List (Str × U)} : H a = some (.ins C dx fvs) → DqFs K H fvs fs → Dq K H (V.ref a) (.ins C fs)
inductive DqAll (K : PySem.W.Frag) (H : Hp) : List V → List U → Prop
  | nil : DqAll K H [] []
  | cons {v : V} {vs : List V} {d : U} {ds : List U} : Dq K H v d → DqAll K H vs ds → DqAll K H (v :: vs) (d :: ds)
inductive DqKvs (K : PySem.W.Frag) (H : Hp) : List (Key × V) → List (Key × U) → Prop
  | nil : DqKvs K H [] []
  | cons {k : Key} {v : V} {kvs : List (Key × V)} {d : U} {ds : List (Key × U)} : Dq K H v d → DqKvs K H kvs ds → DqKvs K H ((k, v) :: kvs) ((k, d) :: ds)
inductive DqKts (K : PySem.W.Frag) (H : Hp) : List (List Key × V) → List (List Key × U) → Prop
  | nil : DqKts K H [] []
  | cons {k : List Key} {v : V} {kvs : List (List Key × V)} {d : U} {ds : List (List Key × U)} : Dq K H v d → DqKts K H kvs ds → DqKts K H ((k, v) :: kvs) ((k, d) :: ds)
inductive DqFs (K : PySem.W.Frag) (H : Hp) : List (Str × V) → List (Str × U) → Prop
  | nil : DqFs K H [] []
  | cons {k : Str} {v : V} {kvs : List (Str × V)} {d : U} {ds : List (Str × U)} : Dq K H v d → DqFs K H kvs ds → DqFs K H ((k, v) :: kvs) ((k, d) :: ds)
end
theorem sqL_ex {K : PySem.W.Frag} {H H' : Hp} {a : Addr} {xs : List V} (x : Ex H H') (h : SqL K H a xs) : SqL K H' a xs := by
  rcases h with (z | ⟨o, z⟩) | z
  · exact .inl (.inl (x _ _ z))
  · exact .inl (.inr ⟨o, x _ _ z⟩)
  · exact .inr z
theorem sqT_ex {K : PySem.W.Frag} {H H' : Hp} {a : Addr} {xs : List V} (x : Ex H H') (h : SqT K H a xs) : SqT K H' a xs := by
  rcases h with (z | ⟨o, z⟩) | z
  · exact .inl (.inl (x _ _ z))
  · exact .inl (.inr ⟨o, x _ _ z⟩)
  · exact .inr z
mutual
theorem dp_ex {K : PySem.W.Frag} {H H' : Hp} (x : Ex H H') : ∀ (d : U) (v : V), Dq K H v d → Dq K H' v d
  | .none, _, h => by cases h; exact .non
  | .bool _, _, h => by cases h; exact .bl _
  | .int _, _, h => by cases h; exact .int _
  | .str _, _, h => by cases h with | str _ h => exact .str _ h
  | .list ds, _, h => by cases h with | lst hs ha => exact .lst (sqL_ex x hs) (dpAll_ex x ds _ ha)
  | .tuple ds, _, h => by cases h with | tup hs ha => exact .tup (sqT_ex x hs) (dpAll_ex x ds _ ha)
  | .dict ds, _, h => by cases h with | dct hs ha => exact .dct (x _ _ hs) (dpKvs_ex x ds _ ha)
  | .dictT ds, _, h => by cases h with | dctT hs ha => exact .dctT (x _ _ hs) (dpKts_ex x ds _ ha)
  | .ins C fs, _, h => by cases h with | ins hs ha => exact .ins (x _ _ hs) (dpFs_ex x fs _ ha)
theorem dpAll_ex {K : PySem.W.Frag} {H H' : Hp} (x : Ex H H') : ∀ (ds : List U) (vs : List V), DqAll K H vs ds → DqAll K H' vs ds
  | [], _, h => by cases h; exact .nil
  | d :: ds, _, h => by
    cases h with
    | cons h1 h2 => exact .cons (dp_ex x d _ h1) (dpAll_ex x ds _ h2)
theorem dpKvs_ex {K : PySem.W.Frag} {H H' : Hp} (x : Ex H H') : ∀ (ds : List (Key × U)) (kvs : List (Key × V)), DqKvs K H kvs ds → DqKvs K H' kvs ds
  | [], _, h => by cases h; exact .nil
  | (_, d) :: ds, _, h => by
    cases h with
    | cons h1 h2 => exact .cons (dp_ex x d _ h1) (dpKvs_ex x ds _ h2)
theorem dpKts_ex {K : PySem.W.Frag} {H H' : Hp} (x : Ex H H') : ∀ (ds : List (List Key × U)) (kvs : List (List Key × V)), DqKts K H kvs ds → DqKts K H' kvs ds
  | [], _, h => by cases h; exact .nil
  | (_, d) :: ds, _, h => by
    cases h with
    | cons h1 h2 => exact .cons (dp_ex x d _ h1) (dpKts_ex x ds _ h2)
theorem dpFs_ex {K : PySem.W.Frag} {H H' : Hp} (x : Ex H H') : ∀ (ds : List (Str × U)) (kvs : List (Str × V)), DqFs K H kvs ds → DqFs K H' kvs ds
  | [], _, h => by cases h; exact .nil
  | (_, d) :: ds, _, h => by
    cases h with
    | cons h1 h2 => exact .cons (dp_ex x d _ h1) (dpFs_ex x ds _ h2)
end
/-! plain data -/
mutual
def noDct : U → Bool
  | .none | .bool _ | .int _ | .str _ => true
  | .list ds | .tuple ds => noDcts ds
  | _ => false
def noDcts : List U → Bool
  | [] => true
  | d :: ds => noDct d && noDcts ds
end
mutual
def U.py : U → PyData
  | .bool b => .bool b
  | .int i => .int i
  | .str x => .str x
  | .list ds => .list (U.pys ds)
  | .tuple ds => .tuple (U.pys ds)
  | _ => .none
def U.pys : List U → List PyData
  | [] => []
  | d :: ds => U.py d :: U.pys ds
end
theorem U.pys_map : ∀ ds : List U, U.pys ds = ds.map U.py
  | [] => rfl
  | d :: ds => by rw [U.pys, U.pys_map ds]; rfl
mutual
theorem dq_dp {K : PySem.W.Frag} {H : Hp} : ∀ (d : U) (v : V), noDct d = true → Dq K H v d → Dp K H v d.py ∧ d.py.canLay0 = true
  | .none, _, _, h => by cases h; exact ⟨by simpa [U.py] using Dp.non, by simp [U.py, PyData.canLay0]⟩
  | .bool _, _, _, h => by cases h; exact ⟨by simpa [U.py] using Dp.bl _, by simp [U.py, PyData.canLay0]⟩
  | .int _, _, _, h => by cases h; exact ⟨by simpa [U.py] using Dp.int _, by simp [U.py, PyData.canLay0]⟩
  | .str _, _, _, h => by cases h with | str _ h => exact ⟨by simpa [U.py] using Dp.str _, by simpa [U.py, PyData.canLay0] using h⟩
  | .list ds, _, c, h => by
    cases h with
    | lst hs ha =>
      obtain ⟨a, b⟩ := dqAll_dp ds _ (by simpa [noDct] using c) ha
      exact ⟨by simpa [U.py] using Dp.lst hs a, by simpa [U.py, PyData.canLay0] using b⟩
  | .tuple ds, _, c, h => by
    cases h with
    | tup hs ha =>
      obtain ⟨a, b⟩ := dqAll_dp ds _ (by simpa [noDct] using c) ha
      exact ⟨by simpa [U.py] using Dp.tup hs a, by simpa [U.py, PyData.canLay0] using b⟩
  | .dict ds, _, c, h => by simp [noDct] at c
  | .dictT ds, _, c, h => by simp [noDct] at c
  | .ins _ _, _, c, h => by simp [noDct] at c
theorem dqAll_dp {K : PySem.W.Frag} {H : Hp} : ∀ (ds : List U) (vs : List V), noDcts ds = true → DqAll K H vs ds → DpAll K H vs (U.pys ds) ∧ PyData.canLayAll0 (U.pys ds) = true
  | [], _, _, h => by cases h; exact ⟨by simpa [U.pys] using DpAll.nil, by simp [U.pys, PyData.canLayAll0]⟩
  | d :: ds, _, c, h => by
    simp only [noDcts, Bool.and_eq_true] at c
    cases h with
    | cons h1 h2 =>
      obtain ⟨a1, b1⟩ := dq_dp d _ c.1 h1
      obtain ⟨a2, b2⟩ := dqAll_dp ds _ c.2 h2
      exact ⟨by simpa [U.pys] using DpAll.cons a1 a2, by simp [U.pys, PyData.canLayAll0, b1, b2]⟩
end
section
variable {K : PySem.W.Frag} {H : Hp}
theorem dpAll_len : ∀ {vs : List V} {ds : List U}, DqAll K H vs ds → vs.length = ds.length
  | _, [], h => by cases h; rfl
  | _, _ :: _, h => by cases h with | cons _ h2 => simp [dpAll_len h2]
theorem dpAll_get : ∀ {vs : List V} {ds : List U} {i : Nat} {d : U}, DqAll K H vs ds → ds[i]? = some d → ∃ v, vs[i]? = some v ∧ Dq K H v d
  | _, [], _, _, _, e => by simp at e
  | _, _ :: _, 0, _, h, e => by
    cases h with
    | cons h1 h2 => simp at e; subst e; exact ⟨_, rfl, h1⟩
  | _, _ :: _, i + 1, d, h, e => by
    cases h with
    | cons h1 h2 =>
      obtain ⟨v, a, b⟩ := dpAll_get (i := i) h2 (by simpa using e)
      exact ⟨v, by simpa using a, b⟩
theorem dpAll_append : ∀ {vs ws : List V} {ds es : List U}, DqAll K H vs ds → DqAll K H ws es → DqAll K H (vs ++ ws) (ds ++ es)
  | _, _, [], _, h, q => by cases h; exact q
  | _, _, _ :: _, _, h, q => by cases h with | cons h1 h2 => exact .cons h1 (dpAll_append h2 q)
theorem dpAll_take : ∀ {vs : List V} {ds : List U} (n : Nat), DqAll K H vs ds → DqAll K H (vs.take n) (ds.take n)
  | _, _, 0, _ => .nil
  | _, [], _ + 1, h => by cases h; exact .nil
  | _, _ :: _, n + 1, h => by cases h with | cons h1 h2 => exact .cons h1 (dpAll_take n h2)
theorem dpAll_drop : ∀ {vs : List V} {ds : List U} (n : Nat), DqAll K H vs ds → DqAll K H (vs.drop n) (ds.drop n)
  | _, _, 0, h => h
  | _, [], _ + 1, h => by cases h; exact .nil
  | _, _ :: _, n + 1, h => by cases h with | cons h1 h2 => exact dpAll_drop n h2
theorem dpAll_set : ∀ {vs : List V} {ds : List U} {v : V} {d : U} (n : Nat), DqAll K H vs ds → Dq K H v d → DqAll K H (vs.set n v) (ds.set n d)
  | _, [], _, _, _, h, _ => by cases h; exact .nil
  | _, _ :: _, _, _, 0, h, q => by cases h with | cons h1 h2 => exact .cons q h2
  | _, _ :: _, _, _, n + 1, h, q => by cases h with | cons h1 h2 => exact .cons h1 (dpAll_set n h2 q)
theorem dpAll_reverse {vs : List V} {ds : List U} (h : DqAll K H vs ds) : DqAll K H vs.reverse ds.reverse := by
  induction ds generalizing vs with
  | nil => cases h; exact .nil
  | cons d ds ih => cases h with | cons h1 h2 => rw [List.reverse_cons, List.reverse_cons]; exact dpAll_append (ih h2) (.cons h1 .nil)
end
/-- plain data, frozen -/
def isD (K : PySem.W.Frag) (d : U) : Pv := ⟨fun G v => Dq K G v d, fun e h => dp_ex e _ _ h⟩
/-- a list of data, our own | that is read -/
def lstO (K : PySem.W.Frag) (ds : List U) : Po := ⟨fun G o => ∃ vs, o = .lst vs ∧ DqAll K G vs ds, fun e ⟨vs, h1, h2⟩ => ⟨vs, h1, dpAll_ex e _ _ h2⟩⟩
def lstB (K : PySem.W.Frag) (ds : List U) : Pb := ⟨fun G H v => ∃ a vs, v = V.ref a ∧ SqL K H a vs ∧ DqAll K G vs ds, fun e e' ⟨a, vs, h1, h2, h3⟩ => ⟨a, vs, h1, sqL_ex e' h2, dpAll_ex e _ _ h3⟩⟩
def Po.bo (q : Po) : Pb := ⟨fun G H v => ∃ l o, v = V.ref l ∧ H l = some o ∧ q.q G o, fun e e' ⟨l, o, h1, h2, h3⟩ => ⟨l, o, h1, e' _ _ h2, q.mono e h3⟩⟩
/-- seen as a list | a tuple -/
def LsV (K : PySem.W.Frag) (s : Sl) (ds : List U) : Prop := ∀ H0 G H v, Ex G H → Rok s H0 G H v → ∃ a vs, v = V.ref a ∧ SqL K H a vs ∧ DqAll K G vs ds
def TpV (K : PySem.W.Frag) (s : Sl) (ds : List U) : Prop := ∀ H0 G H v, Ex G H → Rok s H0 G H v → ∃ a vs, v = V.ref a ∧ SqT K H a vs ∧ DqAll K G vs ds
theorem lv_im {K : PySem.W.Frag} {ds : List U} : LsV K (.im (isD K (.list ds))) ds := fun H0 G H v e h => by
  cases h with
  | lst hs ha => exact ⟨_, _, rfl, sqL_ex e hs, ha⟩
theorem lv_ow {K : PySem.W.Frag} {ds : List U} {ad : Option Addr} : LsV K (.ow ad (lstO K ds)) ds := fun H0 G H v e h => by
  obtain ⟨l, o, rfl, _, _, hh, vs, rfl, ha⟩ := h
  exact ⟨l, vs, rfl, .inl (.inl hh), ha⟩
theorem lv_bo {K : PySem.W.Frag} {ds : List U} : LsV K (.bo (lstB K ds)) ds := fun H0 G H v e h => h
theorem lv_bow {K : PySem.W.Frag} {ds : List U} : LsV K (.bo (lstO K ds).bo) ds := fun H0 G H v e h => by
  obtain ⟨l, o, rfl, hh, vs, rfl, ha⟩ := h
  exact ⟨l, vs, rfl, .inl (.inl hh), ha⟩
theorem tv_im {K : PySem.W.Frag} {ds : List U} : TpV K (.im (isD K (.tuple ds))) ds := fun H0 G H v e h => by
  cases h with
  | tup hs ha => exact ⟨_, _, rfl, sqT_ex e hs, ha⟩

/-! ### errors -/
def ErrOk (K : PySem.W.Frag) (ca : Str → Addr) (e : Err) (c : Value) (d : Option Addr) (G : Hp) : Prop :=
  c = Value.ref (ca e.cls) ∧ match e.fields with
    | none => d = none
    | some fs => ∃ a fvs, d = some a ∧ G a = some (.xd fvs) ∧ Paired (fun (p : Str × V) (q : Str × U) => p.1 = q.1 ∧ Dq K G p.2 q.2) fvs fs

/-! ### expressions: judgements -/
section
variable {S β γ δ : Type}
structure Shp (Γ Γ' : Gam) : Prop where
  to : ∀ (i : Nat) (a : Option Addr) (q : Po), Γ'[i]? = some (Sl.ow a q) → ∃ a' q', Γ[i]? = some (Sl.ow a' q')
  fro : ∀ (i : Nat) (a : Option Addr) (q : Po), Γ[i]? = some (Sl.ow a q) → ∃ a' q', Γ'[i]? = some (Sl.ow a' q')
theorem Shp.refl (Γ : Gam) : Shp Γ Γ := ⟨fun _ a q h => ⟨a, q, h⟩, fun _ a q h => ⟨a, q, h⟩⟩
theorem Shp.symm {A B : Gam} (x : Shp A B) : Shp B A := ⟨x.fro, x.to⟩
theorem Shp.trans {A B C : Gam} (x : Shp A B) (y : Shp B C) : Shp A C := ⟨fun i a q h => by
    obtain ⟨a', q', z⟩ := y.to i a q h
    exact x.to i a' q' z, fun i a q h => by
    obtain ⟨a', q', z⟩ := x.fro i a q h
    exact y.fro i a' q' z⟩
theorem Shp.own {A B : Gam} {σ : L2.St} {l : Addr} (x : Shp A B) (h : OwnA B σ l) : OwnA A σ l := by
  obtain ⟨i, ad, q, e, f⟩ := h
  obtain ⟨a', q', z⟩ := x.to i ad q e
  exact ⟨i, a', q', z, f⟩
/-- an own object's slot is given another word -/
theorem Shp.set {Γ : Gam} {i : Nat} {a b : Option Addr} {q p : Po} (h : Γ[i]? = some (Sl.ow a q)) : Shp Γ (Γ.set i (.ow b p)) := by
  have hl := (List.getElem?_eq_some_iff.mp h).1
  refine ⟨fun j c r e => ?_, fun j c r e => ?_⟩
  · by_cases hj : i = j
    · subst hj; exact ⟨a, q, h⟩
    · rw [List.getElem?_set_ne hj] at e; exact ⟨c, r, e⟩
  · by_cases hj : i = j
    · subst hj; exact ⟨b, p, List.getElem?_set_self hl⟩
    · exact ⟨c, r, by rw [List.getElem?_set_ne hj]; exact e⟩
structure Step (Γ Γ' : Gam) (σ : L2.St) (G H G' H' : Hp) : Prop where
  post : Post (OwnA Γ σ) G H G' H'
  shp : Shp Γ Γ'
theorem Step.refl {Γ : Gam} {σ : L2.St} {G H : Hp} : Step Γ Γ σ G H G H := ⟨Post.refl, Shp.refl Γ⟩
theorem Step.trans {A B C : Gam} {σ : L2.St} {G H G1 H1 G2 H2 : Hp} (x : Step A B σ G H G1 H1) (y : Step B C σ G1 H1 G2 H2) : Step A C σ G H G2 H2 :=
  ⟨x.post.trans y.post fun _ _ _ z => x.shp.own z, x.shp.trans y.shp⟩
theorem Step.fresh {A B : Gam} {M : Addr → Prop} {G0 H0 : Hp} {σ : L2.St} {G H G' H' : Hp} (x : Step A B σ G H G' H') (a : At M G0 H0 B G' H' σ) {l : Addr} (h : H' l = none) : H l = none := by
  cases hh : H l with
  | none => rfl
  | some u =>
    by_cases hO : OwnA A σ l
    · obtain ⟨o, z⟩ := OwnA.ne a (x.shp.symm.own hO)
      rw [h] at z; cases z
    · have z := (x.post.2 l u hh hO).1
      rw [h] at z; cases z
/-- what was new later is new -/
theorem Rok.since {s : Sl} {H H' G1 H1 : Hp} {v : V} (r : Rok s H' G1 H1 v) (h : ∀ l, H' l = none → H l = none) : Rok s H G1 H1 v := by
  cases s with
  | un => trivial
  | im p => exact r
  | ow ad p =>
    obtain ⟨l, o, e1, e2, e3⟩ := r
    exact ⟨l, o, e1, h l e2, e3⟩
  | bo p => exact r
theorem Grow.step {Γ : Gam} {σ : L2.St} {G H G' H' : Hp} (g : Grow G H G' H') : Step Γ Γ σ G H G' H' := ⟨g.1.mono fun _ z => z.elim, Shp.refl Γ⟩

/-- no effect, always a value -/
def EvS (X : Cx) (e : Expr) (Γ : Gam) (R : Sl) : Prop := ∀ M G0 H0 G H σ, At M G0 H0 Γ G H σ → ∀ Q : VK, (∀ v G' H', Grow G H G' H' → Rok R H G' H' v → Q v H') → SE X e σ H Q
def TeS (X : Cx) (e : Expr) (Γ : Gam) (b : Bool) : Prop := ∀ M G0 H0 G H σ, At M G0 H0 Γ G H σ → ∀ Q : Bool → Hp → Prop, (∀ G' H', Grow G H G' H' → Q b H') → ST X e σ H Q
/-- what a code that may raise is to fulfil -/
structure Env1 where
  W : WX
  ca : Str → Addr
abbrev ExcK (X : Cx) (w : Env1) (Γ : S → Gam) (M : Addr → Prop) (G0 H0 : Hp) (σ : L2.St) : Err → S → Prop :=
  fun e s' => ∀ c d G' H', At M G0 H0 (Γ s') G' H' σ → ErrOk X.K w.ca e c d G' → w.W c d σ H'
def EvE (X : Cx) (w : Env1) (Γ : S → Gam) (e : Expr) (m : StM S β) (R : β → Sl) : Prop := ∀ M G0 H0 G H σ s, At M G0 H0 (Γ s) G H σ → ∀ Q : VK,
  (m s).wp (fun b s' => ∀ v G' H', At M G0 H0 (Γ s') G' H' σ → Step (Γ s) (Γ s') σ G H G' H' → Rok (R b) H G' H' v → Q v H') (ExcK X w Γ M G0 H0 σ) → SE X e σ H Q
def TeE (X : Cx) (w : Env1) (Γ : S → Gam) (e : Expr) (m : StM S Bool) : Prop := ∀ M G0 H0 G H σ s, At M G0 H0 (Γ s) G H σ → ∀ Q : Bool → Hp → Prop,
  (m s).wp (fun b s' => ∀ G' H', At M G0 H0 (Γ s') G' H' σ → Step (Γ s) (Γ s') σ G H G' H' → Q b H') (ExcK X w Γ M G0 H0 σ) → ST X e σ H Q
section
variable {X : Cx} {w : Env1} {Γ : S → Gam} {e a b c : Expr} {pos : Pos}
theorem ee_s {R : β → Sl} {d : β} (h : ∀ s, EvS X e (Γ s) (R d)) : EvE X w Γ e (.pure d) R := fun M G0 H0 G H σ s at_ Q q =>
  h s M G0 H0 G H σ at_ Q fun v G' H' g r => q v G' H' (at_.grow g) g.step r
theorem te_s {b : Bool} (h : ∀ s, TeS X e (Γ s) b) : TeE X w Γ e (.pure b) := fun M G0 H0 G H σ s at_ Q q =>
  h s M G0 H0 G H σ at_ Q fun G' H' g => q G' H' (at_.grow g) g.step
end
end

/-! ### pure expressions -/
section
variable {X : Cx} {Γ : Gam} {e a b c : Expr} {pos : Pos}
theorem ev_im (i : Nat) {x : Str} {p : Pv} (hi : Γ[i]? = some (Sl.im p) := by rfl) (hN : X.N[i]? = some x := by rfl) (hv : Vis X.env.scope x := by first | exact Or.inl rfl | exact Or.inr (Or.inl rfl) | exact Or.inr (Or.inr rfl))
    (hd : (x == ("__debug__" : Str)) = false := by decide) (hcd : (x == ("__classdict__" : Str)) = false := by decide) : EvS X (.Name x pos) Γ (.im p) := fun M G0 H0 G H σ at_ Q q => by
  obtain ⟨v, e1, e2⟩ := at_.slot i _ hi
  exact SE.of (pe_var hN hv hd hcd) ⟨v, e1, q v G H (Grow.refl at_.sub) e2⟩
theorem ev_ow (i : Nat) {x : Str} {ad : Option Addr} {p : Po} (hi : Γ[i]? = some (Sl.ow ad p) := by rfl) (hN : X.N[i]? = some x := by rfl) (hv : Vis X.env.scope x := by first | exact Or.inl rfl | exact Or.inr (Or.inl rfl) | exact Or.inr (Or.inr rfl))
    (hd : (x == ("__debug__" : Str)) = false := by decide) (hcd : (x == ("__classdict__" : Str)) = false := by decide) : EvS X (.Name x pos) Γ (.bo p.bo) := fun M G0 H0 G H σ at_ Q q => by
  obtain ⟨l, o, e1, e2, e3, e4, _⟩ := at_.slot i _ hi
  exact SE.of (pe_var hN hv hd hcd) ⟨_, e1, q _ G H (Grow.refl at_.sub) ⟨l, o, rfl, e3, e4⟩⟩
theorem ev_bo (i : Nat) {x : Str} {p : Pb} (hi : Γ[i]? = some (Sl.bo p) := by rfl) (hN : X.N[i]? = some x := by rfl) (hv : Vis X.env.scope x := by first | exact Or.inl rfl | exact Or.inr (Or.inl rfl) | exact Or.inr (Or.inr rfl))
    (hd : (x == ("__debug__" : Str)) = false := by decide) (hcd : (x == ("__classdict__" : Str)) = false := by decide) : EvS X (.Name x pos) Γ (.bo p) := fun M G0 H0 G H σ at_ Q q => by
  obtain ⟨v, e1, e2⟩ := at_.slot i _ hi
  exact SE.of (pe_var hN hv hd hcd) ⟨v, e1, q v G H (Grow.refl at_.sub) (e2 H at_.post.keep)⟩
/-- a value that is known -/
theorem ev_c {v : V} {d : U} (h : PE X e (tC v)) (hd : ∀ G, Dq X.K G v d) : EvS X e Γ (.im (isD X.K d)) := fun M G0 H0 G H σ at_ Q q =>
  SE.of h (q v G H (Grow.refl at_.sub) (hd G))
theorem ev_int {i j} : EvS X (.Constant (.int i) j pos) Γ (.im (isD X.K (.int i))) := ev_c pe_int fun _ => .int i
theorem ev_bl {b j} : EvS X (.Constant (.bool b) j pos) Γ (.im (isD X.K (.bool b))) := ev_c pe_bl fun _ => .bl b
theorem ev_non {j} : EvS X (.Constant .none j pos) Γ (.im (isD X.K .none)) := ev_c pe_non fun _ => .non
theorem ev_str {x j} (h : PyData.strOk x = true := by decide +kernel) : EvS X (.Constant (.str x) j pos) Γ (.im (isD X.K (.str x))) := ev_c pe_str fun _ => .str x h
/-- freeze a new list -/
theorem ev_frz {ds : List U} (h : EvS X e Γ (.ow none (lstO X.K ds))) : EvS X e Γ (.im (isD X.K (.list ds))) := fun M G0 H0 G H σ at_ Q q =>
  h M G0 H0 G H σ at_ Q fun v G' H' g ⟨l, o, ev, h0, hg, hh, vs, eo, ha⟩ => by
    subst ev eo
    exact q _ (upd G' l (.lst vs)) H' (g.freeze h0 hh hg) (.lst (.inl (.inl upd_same)) (dpAll_ex (Ex.new hg) _ _ ha))
/-- a weaker word -/
theorem ev_imp {R R' : Sl} (h : EvS X e Γ R) (k : ∀ H0 G H v, Ex G H → Rok R H0 G H v → Rok R' H0 G H v) : EvS X e Γ R' := fun M G0 H0 G H σ at_ Q q =>
  h M G0 H0 G H σ at_ Q fun v G' H' g r => q v G' H' g (k _ _ _ _ g.2 r)

/-! two operands -/
/-- an operation on values: from what is known of both to what is known of the answer -/
def Op2 (r : R2) (s1 s2 s3 : Sl) : Prop := ∀ H0 G H x y (Q : VK), Ex G H → Rok s1 H0 G H x → Rok s2 H0 G H y → (∀ v G' H', Grow G H G' H' → Rok s3 H G' H' v → Q v H') → r x y H Q
theorem ev_of2 {s1 s2 s3 : Sl} {r : R2} (hop : PE X e (tOp r (SE X a) (SE X b))) (ho : Op2 r s1 s2 s3) (ha : EvS X a Γ s1) (hb : EvS X b Γ s2) : EvS X e Γ s3 := fun M G0 H0 G H σ at_ Q q =>
  SE.of hop (ha M G0 H0 G H σ at_ _ fun x G1 H1 g1 r1 => hb M G0 H0 G1 H1 σ (at_.grow g1) _ fun y G2 H2 g2 r2 => by
    exact ho H G2 H2 x y Q g2.2 (r1.grow g2) (r2.since fun l => Ex.back g1.exH) fun v G3 H3 g3 r3 => q v G3 H3 ((g1.trans g2).trans g3) (r3.since fun l => Ex.back (g1.trans g2).exH))
theorem ev_op {op : Operator} {s1 s2 s3 : Sl} {r : R2} (hop : OpR X (binaryOp op) r) (ho : Op2 r s1 s2 s3) (ha : EvS X a Γ s1) (hb : EvS X b Γ s2) : EvS X (.BinOp a op b pos) Γ s3 := ev_of2 (pe_op hop pe_se pe_se) ho ha hb
theorem ev_cmp {op : CmpOp} {s1 s2 s3 : Sl} {r : R2} (hop : OpR X (compareOp op) r) (ho : Op2 r s1 s2 s3) (ha : EvS X a Γ s1) (hb : EvS X b Γ s2) (hm : behindInMarks op b = false := by first | exact nomark _ | rfl) : EvS X (.Compare a [op] [b] pos) Γ s3 :=
  ev_of2 (pe_cmpR hop pe_se pe_se hm) ho ha hb
theorem te_cmp {op : CmpOp} {s1 s2 : Sl} {k : Bool} {r : R2} (hop : OpR X (compareOp op) r) (ho : Op2 r s1 s2 (.im (isD X.K (.bool k)))) (ha : EvS X a Γ s1) (hb : EvS X b Γ s2) (hm : behindInMarks op b = false := by first | exact nomark _ | rfl) : TeS X (.Compare a [op] [b] pos) Γ k :=
  fun M G0 H0 G H σ at_ Q q => ST.of (pt_cmpR hop pe_se pe_se hm) (show SE X a σ H fun x H1 => SE X b σ H1 fun y H2 => r x y H2 fun z H3 => ∃ c, z = .bl c ∧ Q c H3 from
    ha M G0 H0 G H σ at_ _ fun x G1 H1 g1 r1 => hb M G0 H0 G1 H1 σ (at_.grow g1) _ fun y G2 H2 g2 r2 => by
    refine ho H G2 H2 x y _ g2.2 (r1.grow g2) (r2.since fun l => Ex.back g1.exH) fun v G3 H3 g3 r3 => ?_
    cases r3
    exact ⟨k, rfl, q G3 H3 ((g1.trans g2).trans g3)⟩)
/-- a test by a value -/
theorem te_val {k : Bool} (h : EvS X e Γ (.im (isD X.K (.bool k)))) (he : ∀ whole, isTrue e X.env whole = (do let v ← whole; standAt e.pos; holding [v] (truthy v)) := by intro _; rfl) : TeS X e Γ k := fun M G0 H0 G H σ at_ Q q =>
  ST.of (pt_val pe_se he) (h M G0 H0 G H σ at_ _ fun v G' H' g r => by
    cases r
    exact ⟨k, rfl, q G' H' g⟩)
theorem te_not {k : Bool} (h : TeS X a Γ k) : TeS X (.UnaryOp .Not a pos) Γ (!k) := fun M G0 H0 G H σ at_ Q q =>
  ST.of (pt_not pt_st) (h M G0 H0 G H σ at_ _ fun G' H' g => q G' H' g)
/-- and, or as tests -/
def TwS (X : Cx) (e : Expr) (Γ : Gam) (b : Bool) : Prop := ∀ M G0 H0 G H σ, At M G0 H0 Γ G H σ → ∀ Q : Bool → Hp → Prop, (∀ G' H', Grow G H G' H' → Q b H') → SW X e σ H Q
theorem tw_and1 {k : Bool} (h : TeS X a Γ k) : TwS X (.BoolOp .And [a] pos) Γ k := fun M G0 H0 G H σ at_ Q q => SW.of (pw_and1 pt_st) (h M G0 H0 G H σ at_ Q q)
theorem tw_or1 {k : Bool} (h : TeS X a Γ k) : TwS X (.BoolOp .Or [a] pos) Γ k := fun M G0 H0 G H σ at_ Q q => SW.of (pw_or1 pt_st) (h M G0 H0 G H σ at_ Q q)
theorem tw_and {k j : Bool} {rest : List Expr} (h : TeS X a Γ k) (h2 : k = true → TwS X (.BoolOp .And (b :: rest) pos) Γ j) : TwS X (.BoolOp .And (a :: b :: rest) pos) Γ (k && j) := fun M G0 H0 G H σ at_ Q q =>
  SW.of (pw_and pt_st pw_sw) (h M G0 H0 G H σ at_ _ fun G' H' g => by
    cases k with
    | true =>
      rw [if_pos rfl]
      exact h2 rfl M G0 H0 G' H' σ (at_.grow g) Q fun G2 H2 g2 => q G2 H2 (g.trans g2)
    | false =>
      rw [if_neg Bool.false_ne_true]
      exact q G' H' g)
theorem tw_or {k j : Bool} {rest : List Expr} (h : TeS X a Γ k) (h2 : k = false → TwS X (.BoolOp .Or (b :: rest) pos) Γ j) : TwS X (.BoolOp .Or (a :: b :: rest) pos) Γ (k || j) := fun M G0 H0 G H σ at_ Q q =>
  SW.of (pw_or pt_st pw_sw) (h M G0 H0 G H σ at_ _ fun G' H' g => by
    cases k with
    | true =>
      rw [if_pos rfl]
      exact q G' H' g
    | false =>
      rw [if_neg Bool.false_ne_true]
      exact h2 rfl M G0 H0 G' H' σ (at_.grow g) Q fun G2 H2 g2 => q G2 H2 (g.trans g2))
theorem te_w {k : Bool} (h : TwS X a Γ k) : TeS X a Γ k := fun M G0 H0 G H σ at_ Q q => ST.of pw_sw.pt (h M G0 H0 G H σ at_ Q q)
end
end L3

namespace L3
open PySem PySem.Spec PyProof.Rows L2

/-! ### operations on values -/
section
variable {K : PySem.W.Frag} {X : Cx}
theorem o2_I0 {g : Int → Int → V} {i j : Int} {d : U} (h : ∀ G, Dq K G (g i j) d) : Op2 (rI0 g) (.im (isD K (.int i))) (.im (isD K (.int j))) (.im (isD K d)) := fun H0 G H x y Q e r1 r2 q => by
  cases r1; cases r2
  exact ⟨i, j, rfl, rfl, q _ G H (Grow.refl e) (h G)⟩
theorem o2_I {C : Int → Int → Prop} {g : Int → Int → V} {i j : Int} {d : U} (hc : C i j) (h : ∀ G, Dq K G (g i j) d) : Op2 (rI C g) (.im (isD K (.int i))) (.im (isD K (.int j))) (.im (isD K d)) := fun H0 G H x y Q e r1 r2 q => by
  cases r1; cases r2
  exact ⟨i, j, rfl, rfl, hc, q _ G H (Grow.refl e) (h G)⟩
theorem o2_add {i j : Int} : Op2 (rI0 fun i j => .int (i + j)) (.im (isD K (.int i))) (.im (isD K (.int j))) (.im (isD K (.int (i + j)))) := o2_I0 fun _ => .int _
theorem o2_sub {i j : Int} : Op2 (rI0 fun i j => .int (i - j)) (.im (isD K (.int i))) (.im (isD K (.int j))) (.im (isD K (.int (i - j)))) := o2_I0 fun _ => .int _
theorem o2_lt {i j : Int} : Op2 (rI0 fun i j => .bl (decide (i < j))) (.im (isD K (.int i))) (.im (isD K (.int j))) (.im (isD K (.bool (decide (i < j))))) := o2_I0 fun _ => .bl _
theorem o2_le {i j : Int} : Op2 (rI0 fun i j => .bl (decide (i ≤ j))) (.im (isD K (.int i))) (.im (isD K (.int j))) (.im (isD K (.bool (decide (i ≤ j))))) := o2_I0 fun _ => .bl _
theorem o2_gt {i j : Int} : Op2 (rI0 fun i j => .bl (decide (j < i))) (.im (isD K (.int i))) (.im (isD K (.int j))) (.im (isD K (.bool (decide (j < i))))) := o2_I0 fun _ => .bl _
theorem o2_ge {i j : Int} : Op2 (rI0 fun i j => .bl (decide (j ≤ i))) (.im (isD K (.int i))) (.im (isD K (.int j))) (.im (isD K (.bool (decide (j ≤ i))))) := o2_I0 fun _ => .bl _
/-- data: == and != -/
def eqD (d e : U) : Bool := PyData.eqv d.py e.py
/-- of a kind that can be compared, not too deep -/
structure Sh (n : Nat) (d : U) : Prop where
  c : noDct d = true
  d : d.py.depth ≤ n
theorem Sh.mono {n m : Nat} {d : U} (h : Sh n d) (k : n ≤ m) : Sh m d := ⟨h.c, Nat.le_trans h.d k⟩
theorem Sh.shaped {n : Nat} {d : U} {H : Hp} {v : V} (h : Sh n d) (q : Dq K H v d) (k : n ≤ 64) : SeqAt.shaped d.py = true := by
  unfold SeqAt.shaped
  rw [(dq_dp _ _ h.c q).2, decide_eq_true (Nat.le_trans h.d k)]
  rfl
theorem sh_int {n : Nat} {i : Int} : Sh n (.int i) := ⟨rfl, by simp [U.py, PyData.depth]⟩
theorem sh_bool {n : Nat} {b : Bool} : Sh n (.bool b) := ⟨rfl, by simp [U.py, PyData.depth]⟩
theorem sh_str {n : Nat} {x : Str} : Sh n (.str x) := ⟨rfl, by simp [U.py, PyData.depth]⟩
theorem sh_none {n : Nat} : Sh n .none := ⟨rfl, by simp [U.py, PyData.depth]⟩
theorem sh_all {n : Nat} : ∀ {ds : List U}, (∀ d ∈ ds, Sh n d) → noDcts ds = true ∧ PyData.depthAll (U.pys ds) ≤ n
  | [], _ => ⟨rfl, by simp [U.pys, PyData.depthAll]⟩
  | d :: ds, h => by
    obtain ⟨a, b⟩ := sh_all (ds := ds) fun d hd => h d (List.mem_cons_of_mem _ hd)
    have k := h d List.mem_cons_self
    refine ⟨by simp [noDcts, k.c, a], ?_⟩
    simp only [U.pys, PyData.depthAll]
    have := k.d
    omega
theorem sh_list {n : Nat} {ds : List U} (h : ∀ d ∈ ds, Sh n d) : Sh (n + 1) (.list ds) := by
  obtain ⟨a, b⟩ := sh_all h
  exact ⟨by simpa [noDct] using a, by simp only [U.py, PyData.depth]; omega⟩
theorem sh_tuple {n : Nat} {ds : List U} (h : ∀ d ∈ ds, Sh n d) : Sh (n + 1) (.tuple ds) := by
  obtain ⟨a, b⟩ := sh_all h
  exact ⟨by simpa [noDct] using a, by simp only [U.py, PyData.depth]; omega⟩
theorem sh_lmap {α : Type} {n : Nat} {f : α → U} {xs : List α} (h : ∀ x, Sh n (f x)) : Sh (n + 1) (.list (xs.map f)) := sh_list fun d hd => by
  obtain ⟨x, _, rfl⟩ := List.mem_map.mp hd
  exact h x
theorem sh_tmap {α : Type} {n : Nat} {f : α → U} {xs : List α} (h : ∀ x, Sh n (f x)) : Sh (n + 1) (.tuple (xs.map f)) := sh_tuple fun d hd => by
  obtain ⟨x, _, rfl⟩ := List.mem_map.mp hd
  exact h x
/-- as data at the heap -/
def AsD (K : PySem.W.Frag) (s : Sl) (d : U) : Prop := ∀ H0 G H v, Ex G H → Rok s H0 G H v → Dq K H v d
theorem ad_im {d : U} : AsD K (.im (isD K d)) d := fun H0 G H v e h => dp_ex e d v h
theorem ad_ls {s : Sl} {ds : List U} (h : LsV K s ds) : AsD K s (.list ds) := fun H0 G H v e r => by
  obtain ⟨a, vs, rfl, h1, h2⟩ := h H0 G H v e r
  exact .lst h1 (dpAll_ex e _ _ h2)
theorem o2_eqD {d e : U} {s1 s2 : Sl} {n m : Nat} (h1 : AsD K s1 d) (h2 : AsD K s2 e) (hd : Sh n d) (he : Sh m e) (hn : n ≤ 64 := by decide) (hm : m ≤ 64 := by decide) :
    Op2 (rEqD K) s1 s2 (.im (isD K (.bool (eqD d e)))) := fun H0 G H x y Q ex r1 r2 q => ⟨d.py, e.py, (dq_dp _ _ hd.c (h1 _ _ _ _ ex r1)).1, (dq_dp _ _ he.c (h2 _ _ _ _ ex r2)).1, hd.shaped (h1 _ _ _ _ ex r1) hn, he.shaped (h2 _ _ _ _ ex r2) hm, q _ G H (Grow.refl ex) (.bl _)⟩
theorem o2_neD {d e : U} {s1 s2 : Sl} {n m : Nat} (h1 : AsD K s1 d) (h2 : AsD K s2 e) (hd : Sh n d) (he : Sh m e) (hn : n ≤ 64 := by decide) (hm : m ≤ 64 := by decide) :
    Op2 (rNeD K) s1 s2 (.im (isD K (.bool (!eqD d e)))) := fun H0 G H x y Q ex r1 r2 q => ⟨d.py, e.py, (dq_dp _ _ hd.c (h1 _ _ _ _ ex r1)).1, (dq_dp _ _ he.c (h2 _ _ _ _ ex r2)).1, hd.shaped (h1 _ _ _ _ ex r1) hn, he.shaped (h2 _ _ _ _ ex r2) hm, q _ G H (Grow.refl ex) (.bl _)⟩
end
/-! ### effects: two operands -/
section
variable {S β γ δ : Type} {X : Cx} {w : Env1} {Γ : S → Gam} {e a b c : Expr} {pos : Pos}
theorem ee_of2 {r : R2} {ma : StM S β} {pa : β → Pv} {mb : StM S γ} {Rb : γ → Sl} {f : β → γ → δ} {R : δ → Sl} (hop : PE X e (tOp r (SE X a) (SE X b))) (ho : ∀ x y, Op2 r (.im (pa x)) (Rb y) (R (f x y)))
    (ha : EvE X w Γ a ma fun x => .im (pa x)) (hb : EvE X w Γ b mb Rb) : EvE X w Γ e (.bind ma fun x => .bind mb fun y => .pure (f x y)) R := fun M G0 H0 G H σ s at_ Q q =>
  SE.of hop (ha M G0 H0 G H σ s at_ _ (wp_mono (wp_bind.mp q) (fun x s1 q1 v1 G1 H1 at1 st1 r1 => hb M G0 H0 G1 H1 σ s1 at1 _ (wp_mono (wp_bind.mp q1) (fun y s2 q2 v2 G2 H2 at2 st2 r2 => by
    have z := wp_pure.mp q2
    exact ho x y H1 G2 H2 v1 v2 Q at2.sub ((pa x).mono st2.post.1 r1) r2 fun v G3 H3 g3 r3 => z v G3 H3 (at2.grow g3) ((st1.trans st2).trans g3.step) (r3.since fun l h => (st1.trans st2).fresh at2 h)) fun e s' h => h)) fun e s' h => h))
end
end L3

namespace L3
open PySem PySem.Spec PyProof.Rows L2

/-! ### slots stored behind an effect; freezing -/
section
variable {M : Addr → Prop} {G0 H0 G H G' H' : Hp} {Γ : Gam} {σ : L2.St}
theorem At.put (a : At M G0 H0 Γ G H σ) {i : Nat} {s : Sl} {v : V} {Hb : Hp} (r : Rok s Hb G H v) (hf : ∀ l, Hb l = none → H0 l = none ∧ ¬ OwnA Γ σ l) (hs : Asg s) :
    At M G0 H0 (Γ.set i s) G H (σ.set i (some v)) where
  len := by rw [List.length_set, List.length_set]; exact a.len
  sub := a.sub
  post := a.post
  mt := a.mt
  slot := fun j s' e => by
    by_cases hj : i = j
    · subst hj
      by_cases hl : i < Γ.length
      · rw [List.getElem?_set_self hl] at e
        cases e
        rw [List.getElem?_set_self (by rw [a.len]; exact hl)]
        cases s with
        | un => trivial
        | im p => exact ⟨v, rfl, r⟩
        | ow ad q =>
          cases ad with
          | some x => exact hs.elim
          | none =>
            obtain ⟨l, o, rfl, h0, hg, hh, hq⟩ := r
            exact ⟨l, o, rfl, hg, hh, hq, .inr (hf l h0).1, fun r z => nomatch z⟩
        | bo b => exact hs.elim
      · rw [List.getElem?_eq_none (by rw [List.length_set]; omega)] at e
        cases e
    · rw [List.getElem?_set_ne hj] at e ⊢
      exact a.slot j s' e
  dist := fun j k x y q q' l e1 e2 e3 e4 => by
    have key : ∀ (j : Nat) (x : Option Addr) (q : Po) (l : Addr), i ≠ j → (Γ.set i s)[j]? = some (Sl.ow x q) → (σ.set i (some v))[j]? = some (some (V.ref l)) → OwnA Γ σ l := fun j x q l hj e e' => by
      rw [List.getElem?_set_ne hj] at e e'
      exact ⟨j, x, q, e, e'⟩
    have self : ∀ (x : Option Addr) (q : Po) (l : Addr), (Γ.set i s)[i]? = some (Sl.ow x q) → (σ.set i (some v))[i]? = some (some (V.ref l)) → Hb l = none := fun x q l e e' => by
      by_cases hl : i < Γ.length
      · rw [List.getElem?_set_self hl] at e
        cases e
        rw [List.getElem?_set_self (by rw [a.len]; exact hl)] at e'
        cases e'
        obtain ⟨l', o, z, h0, _⟩ := r
        cases z
        exact h0
      · rw [List.getElem?_eq_none (by rw [List.length_set]; omega)] at e
        cases e
    by_cases hj : i = j
    · by_cases hk : i = k
      · exact hj.symm.trans hk
      · subst hj
        exact absurd (key k y q' l hk e2 e4) (hf l (self x q l e1 e3)).2
    · by_cases hk : i = k
      · subst hk
        exact absurd (key j x q l hj e1 e3) (hf l (self y q' l e2 e4)).2
      · rw [List.getElem?_set_ne hj] at e1 e3
        rw [List.getElem?_set_ne hk] at e2 e4
        exact a.dist j k x y q q' l e1 e2 e3 e4
/-- an own object is kept as it is from now on -/
theorem At.freeze (a : At M G0 H0 Γ G H σ) {i : Nat} {ad : Option Addr} {q : Po} {p : Pv} (hi : Γ[i]? = some (Sl.ow ad q)) (hp : ∀ G l o, G l = some o → q.q G o → p.p G (V.ref l)) :
    ∃ G', Ex G G' ∧ At M G0 H0 (Γ.set i (Sl.im p)) G' H σ := by
  obtain ⟨l, o, z1, hg, hh, hq, hm, _⟩ := a.slot i _ hi
  have hlt : i < Γ.length := (List.getElem?_eq_some_iff.mp hi).1
  have ex : Ex G (upd G l o) := Ex.new hg
  have tr : ∀ {j : Nat} {x : Option Addr} {p' : Po}, (Γ.set i (Sl.im p))[j]? = some (Sl.ow x p') → i ≠ j ∧ Γ[j]? = some (Sl.ow x p') := fun {j x p'} e => by
    by_cases hj : i = j
    · subst hj
      rw [List.getElem?_set_self hlt] at e
      cases e
    · rw [List.getElem?_set_ne hj] at e
      exact ⟨hj, e⟩
  refine ⟨upd G l o, ex, by rw [List.length_set]; exact a.len, Ex.put a.sub hh, ⟨a.post.1.trans ex, fun b u e hb => ?_⟩, a.mt, fun j s e => ?_, fun j k x y p1 p2 m e1 e2 e3 e4 => ?_⟩
  · obtain ⟨h1, g1⟩ := a.post.2 b u e hb
    refine ⟨h1, ?_⟩
    rw [upd_ne]
    · exact g1
    · rintro rfl
      rcases hm with z | z
      · exact hb z
      · rw [e] at z; cases z
  · by_cases hj : i = j
    · subst hj
      rw [List.getElem?_set_self hlt] at e
      cases e
      exact ⟨_, z1, hp _ l o upd_same (q.mono ex hq)⟩
    · rw [List.getElem?_set_ne hj] at e
      have z := a.slot j s e
      cases s with
      | un => trivial
      | im p2 =>
        obtain ⟨v, y1, y2⟩ := z
        exact ⟨v, y1, p2.mono ex y2⟩
      | ow ad2 q2 =>
        obtain ⟨l2, o2, y1, y2, y3, y4, y5, y6⟩ := z
        refine ⟨l2, o2, y1, ?_, y3, q2.mono ex y4, y5, y6⟩
        rw [upd_ne]
        · exact y2
        · rintro rfl
          exact hj (a.dist i j ad ad2 q q2 l2 hi e z1 y1)
      | bo b =>
        obtain ⟨v, y1, y2⟩ := z
        exact ⟨v, y1, fun H' k => b.mono ex (Ex.refl _) (y2 H' k)⟩
  · obtain ⟨_, f1⟩ := tr e1
    obtain ⟨_, f2⟩ := tr e2
    exact a.dist j k x y p1 p2 m f1 f2 e3 e4
theorem lst_frz {K : PySem.W.Frag} {ds : List U} : ∀ (G : Hp) (l : Addr) (o : HO), G l = some o → (lstO K ds).q G o → (isD K (.list ds)).p G (V.ref l) := fun G l o h ⟨vs, e, ha⟩ => by
  subst e
  exact .lst (.inl (.inl h)) ha
end

/-! ### statements: judgements -/
section
variable {S T T' ρ β γ : Type}
abbrev ExB (X : Cx) (w : Env1) (M : Addr → Prop) (G0 H0 : Hp) : Err → S → Prop := fun e _ => ∀ c d σ' G' H', Post M G0 H0 G' H' → Ex G' H' → ErrOk X.K w.ca e c d G' → w.W c d σ' H'
/-- a statement that goes on -/
def StmE (X : Cx) (w : Env1) (M : Addr → Prop) (Γ : S → Gam) (st : Stmt) (m : StM S T) (Γ' : T → S → Gam) : Prop := ∀ G0 H0 G H σ s, At M G0 H0 (Γ s) G H σ → ∀ D : Ends,
  (m s).wp (fun t s' => ∀ σ' G' H', At M G0 H0 (Γ' t s') G' H' σ' → Ex G G' → D.nx σ' H') (ExB X w M G0 H0) → SS X st D σ H
/-- a block that returns -/
def BlkR (X : Cx) (w : Env1) (M : Addr → Prop) (io : S → Hp → Hp → Prop) (Γ : S → Gam) (st : List Stmt) (m : StM S ρ) (R : ρ → Sl) : Prop := ∀ G0 H0 G H σ s, At M G0 H0 (Γ s) G H σ → ∀ D : Ends,
  (m s).wp (fun r s' => ∀ v G' H', Post M G0 H0 G' H' → Ex G' H' → io s' G' H' → Rok (R r) H0 G' H' v → D.rt v H') (ExB X w M G0 H0) → SB X st D σ H
def FlK (M : Addr → Prop) (io : S → Hp → Hp → Prop) (Γn : T → S → Gam) (R : ρ → Sl) (G0 H0 G : Hp) (D : Ends) : Fl T ρ → S → Prop
  | .nx t, s' => ∀ σ' G' H', At M G0 H0 (Γn t s') G' H' σ' → Ex G G' → D.nx σ' H'
  | .ct t, s' => ∀ σ' G' H', At M G0 H0 (Γn t s') G' H' σ' → Ex G G' → D.ct σ' H'
  | .bk t, s' => ∀ σ' G' H', At M G0 H0 (Γn t s') G' H' σ' → Ex G G' → D.bk σ' H'
  | .ret r, s' => ∀ v G' H', Post M G0 H0 G' H' → Ex G' H' → io s' G' H' → Rok (R r) H0 G' H' v → D.rt v H'
def BlkN (X : Cx) (w : Env1) (M : Addr → Prop) (io : S → Hp → Hp → Prop) (Γ : S → Gam) (st : List Stmt) (m : StM S (Fl T ρ)) (Γn : T → S → Gam) (R : ρ → Sl) : Prop := ∀ G0 H0 G H σ s, At M G0 H0 (Γ s) G H σ → ∀ D : Ends,
  (m s).wp (FlK M io Γn R G0 H0 G D) (ExB X w M G0 H0) → SB X st D σ H
theorem exb_k {X : Cx} {w : Env1} {M : Addr → Prop} {G0 H0 : Hp} {Γ : S → Gam} {σ : L2.St} (e : Err) (s : S) (h : ExB (S := S) X w M G0 H0 e s) : ExcK X w Γ M G0 H0 σ e s := fun c d G' H' a k => h c d σ G' H' a.post a.sub k

section
variable {X : Cx} {w : Env1} {M : Addr → Prop} {io : S → Hp → Hp → Prop} {Γ : S → Gam} {Γn : T → S → Gam} {R : ρ → Sl} {st : Stmt} {rest A B : List Stmt} {e c : Expr} {pos : Pos}
/-! sequences -/
theorem r_seq {m : StM S T} {Γ' : T → S → Gam} {k : T → StM S ρ} (h1 : StmE X w M Γ st m Γ') (h2 : ∀ t, BlkR X w M io (Γ' t) rest (k t) R) : BlkR X w M io Γ (st :: rest) (.bind m k) R := fun G0 H0 G H σ s at_ D q =>
  SB.of (pss_cons ps_ss pss_sb) (h1 G0 H0 G H σ s at_ _ (wp_mono (wp_bind.mp q) (fun t s1 q1 σ1 G1 H1 a1 ex => h2 t G0 H0 G1 H1 σ1 s1 a1 D q1) fun _ _ h => h))
theorem FlK.ex {G0 H0 G G1 : Hp} {D : Ends} {o : Fl T ρ} {s : S} (x : Ex G G1) (h : FlK M io Γn R G0 H0 G D o s) : FlK M io Γn R G0 H0 G1 D o s := by
  cases o with
  | nx t => exact fun σ' G' H' a e => h σ' G' H' a (x.trans e)
  | ct t => exact fun σ' G' H' a e => h σ' G' H' a (x.trans e)
  | bk t => exact fun σ' G' H' a e => h σ' G' H' a (x.trans e)
  | ret r => exact h
theorem n_seq {m : StM S T'} {Γ' : T' → S → Gam} {k : T' → StM S (Fl T ρ)} (h1 : StmE X w M Γ st m Γ') (h2 : ∀ t, BlkN X w M io (Γ' t) rest (k t) Γn R) : BlkN X w M io Γ (st :: rest) (.bind m k) Γn R := fun G0 H0 G H σ s at_ D q =>
  SB.of (pss_cons ps_ss pss_sb) (h1 G0 H0 G H σ s at_ _ (wp_mono (wp_bind.mp q) (fun t s1 q1 σ1 G1 H1 a1 ex => h2 t G0 H0 G1 H1 σ1 s1 a1 D (wp_mono q1 (fun o s2 q2 => q2.ex ex) fun _ _ h => h)) fun _ _ h => h))
theorem n_nil (t : T) (h : ∀ s, Wk (Γ s) (Γn t s)) : BlkN X w M io Γ [] (.pure (.nx t)) Γn R := fun G0 H0 G H σ s at_ D q => SB.of pss_nil (q σ G H (at_.weak (h s)) (Ex.refl G))
theorem n_ct (t : T) (h : ∀ s, Wk (Γ s) (Γn t s)) : BlkN X w M io Γ [.Continue pos] (.pure (.ct t)) Γn R := fun G0 H0 G H σ s at_ D q => SB.of (pss_one ps_continue) (q σ G H (at_.weak (h s)) (Ex.refl G))
theorem n_bk (t : T) (h : ∀ s, Wk (Γ s) (Γn t s)) : BlkN X w M io Γ [.Break pos] (.pure (.bk t)) Γn R := fun G0 H0 G H σ s at_ D q => SB.of (pss_one ps_break) (q σ G H (at_.weak (h s)) (Ex.refl G))
/-! return -/
theorem r_ret {m : StM S ρ} (he : EvE X w Γ e m R) (hio : ∀ G0 H0 G H σ s, At M G0 H0 (Γ s) G H σ → io s G H) : BlkR X w M io Γ [.Return (some e) pos] m R := fun G0 H0 G H σ s at_ D q =>
  SB.of (pss_one (ps_ret pe_se)) (he M G0 H0 G H σ s at_ _ (wp_mono q (fun r s' q' v G' H' a' st' r' => q' v G' H' a'.post a'.sub (hio G0 H0 G' H' σ s' a') (r'.since fun l h => (at_.fresh h).1)) fun e s h => exb_k e s h))
theorem n_ret {m : StM S ρ} (he : EvE X w Γ e m R) (hio : ∀ G0 H0 G H σ s, At M G0 H0 (Γ s) G H σ → io s G H) : BlkN X w M io Γ [.Return (some e) pos] (.bind m fun r => .pure (.ret r)) Γn R := fun G0 H0 G H σ s at_ D q =>
  SB.of (pss_one (ps_ret pe_se)) (he M G0 H0 G H σ s at_ _ (wp_mono (wp_bind.mp q) (fun r s' q' v G' H' a' st' r' => q' v G' H' a'.post a'.sub (hio G0 H0 G' H' σ s' a') (r'.since fun l h => (at_.fresh h).1)) fun e s h => exb_k e s h))
/-- return of an own object -/
theorem ret_own {D : Ends} {G0 H0 G H : Hp} {σ : L2.St} {s : S} {i : Nat} {x : Str} {pos2 : Pos} {ad : Option Addr} {q : Po} (at_ : At M G0 H0 (Γ s) G H σ) (hi : (Γ s)[i]? = some (Sl.ow ad q)) (hM : ∀ l, M l → ∃ j q', i ≠ j ∧ (Γ s)[j]? = some (Sl.ow (some l) q'))
    (hN : X.N[i]? = some x) (hv : Vis X.env.scope x) (hd : (x == ("__debug__" : Str)) = false) (hcd : (x == ("__classdict__" : Str)) = false)
    (k : ∀ v, Rok (.ow none q) H0 G H v → D.rt v H) : SB X [.Return (some (.Name x pos2)) pos] D σ H := by
  obtain ⟨l, o, e1, e2, e3, e4, e5, _⟩ := at_.slot i _ hi
  refine SB.of (pss_one (ps_ret (pe_var hN hv hd hcd))) ⟨_, e1, k _ ⟨l, o, rfl, ?_, e2, e3, e4⟩⟩
  rcases e5 with z | z
  · exfalso
    obtain ⟨j, q', hj, hk⟩ := hM l z
    obtain ⟨l2, o2, y1, _, _, _, _, y6⟩ := at_.slot j _ hk
    have := y6 l rfl
    subst this
    exact hj (at_.dist i j ad _ q q' l2 hi hk e1 y1)
  · exact z
theorem r_retO (i : Nat) {x : Str} {pos2 : Pos} {ad : Option Addr} {q : Po} {r : ρ} (hi : ∀ s, (Γ s)[i]? = some (Sl.ow ad q) := by intro _; rfl) (hR : R r = .ow none q := by rfl) (hM : ∀ s l, M l → ∃ j q', i ≠ j ∧ (Γ s)[j]? = some (Sl.ow (some l) q'))
    (hio : ∀ G0 H0 G H σ s, At M G0 H0 (Γ s) G H σ → io s G H) (hN : X.N[i]? = some x := by rfl) (hv : Vis X.env.scope x := by first | exact Or.inl rfl | exact Or.inr (Or.inl rfl) | exact Or.inr (Or.inr rfl)) (hd : (x == ("__debug__" : Str)) = false := by decide) (hcd : (x == ("__classdict__" : Str)) = false := by decide) :
    BlkR X w M io Γ [.Return (some (.Name x pos2)) pos] (.pure r) R := fun G0 H0 G H σ s at_ D k => ret_own at_ (hi s) (hM s) hN hv hd hcd fun v z => k v G H at_.post at_.sub (hio G0 H0 G H σ s at_) (by rw [hR]; exact z)
/-! if -/
theorem r_if {mc : StM S Bool} {mA mB : StM S ρ} (hc : TeE X w Γ c mc) (hA : BlkR X w M io Γ A mA R) (hB : BlkR X w M io Γ rest mB R) : BlkR X w M io Γ (.If c A [] pos :: rest) (.bind mc fun b => if b = true then mA else mB) R := fun G0 H0 G H σ s at_ D q =>
  SB.of (pss_cons (ps_if pt_st pss_sb pss_nil) pss_sb) (hc M G0 H0 G H σ s at_ _ (wp_mono (wp_bind.mp q) (fun b s1 q1 G1 H1 a1 st1 => by
    cases b with
    | true => exact hA G0 H0 G1 H1 σ s1 a1 _ q1
    | false => exact hB G0 H0 G1 H1 σ s1 a1 _ q1) fun e s h => exb_k e s h))
theorem r_ife {mc : StM S Bool} {mA mB : StM S ρ} (hc : TeE X w Γ c mc) (hA : BlkR X w M io Γ A mA R) (hB : BlkR X w M io Γ B mB R) : BlkR X w M io Γ [.If c A B pos] (.bind mc fun b => if b = true then mA else mB) R := fun G0 H0 G H σ s at_ D q =>
  SB.of (pss_one (ps_if pt_st pss_sb pss_sb)) (hc M G0 H0 G H σ s at_ _ (wp_mono (wp_bind.mp q) (fun b s1 q1 G1 H1 a1 st1 => by
    cases b with
    | true => exact hA G0 H0 G1 H1 σ s1 a1 _ q1
    | false => exact hB G0 H0 G1 H1 σ s1 a1 _ q1) fun e s h => exb_k e s h))
theorem n_ife {mc : StM S Bool} {mA mB : StM S (Fl T ρ)} (hc : TeE X w Γ c mc) (hA : BlkN X w M io Γ A mA Γn R) (hB : BlkN X w M io Γ B mB Γn R) : BlkN X w M io Γ [.If c A B pos] (.bind mc fun b => if b = true then mA else mB) Γn R := fun G0 H0 G H σ s at_ D q =>
  SB.of (pss_one (ps_if pt_st pss_sb pss_sb)) (hc M G0 H0 G H σ s at_ _ (wp_mono (wp_bind.mp q) (fun b s1 q1 G1 H1 a1 st1 => by
    cases b with
    | true => exact hA G0 H0 G1 H1 σ s1 a1 _ (wp_mono q1 (fun o s2 q2 => q2.ex st1.post.1) fun _ _ h => h)
    | false => exact hB G0 H0 G1 H1 σ s1 a1 _ (wp_mono q1 (fun o s2 q2 => q2.ex st1.post.1) fun _ _ h => h)) fun e s h => exb_k e s h))
/-- the ways meet again -/
def Fl.k {ρ' : Type} (k : T → StM S ρ) : Fl T ρ → StM S ρ
  | .nx t => k t
  | .ret r => .pure r
  | _ => .fail
def Fl.kN (k : T → StM S (Fl T' ρ)) : Fl T ρ → StM S (Fl T' ρ)
  | .nx t => k t
  | .ret r => .pure (.ret r)
  | _ => .fail
theorem r_blk {m : StM S (Fl T ρ)} {k : T → StM S ρ} (h1 : ∀ G0 H0 G H σ s, At M G0 H0 (Γ s) G H σ → ∀ D : Ends, (m s).wp (FlK M io Γn R G0 H0 G D) (ExB X w M G0 H0) → SS X st D σ H) (h2 : ∀ t, BlkR X w M io (Γn t) rest (k t) R) :
    BlkR X w M io Γ (st :: rest) (.bind m fun o => Fl.after k o) R := fun G0 H0 G H σ s at_ D q =>
  SB.of (pss_cons ps_ss pss_sb) (h1 G0 H0 G H σ s at_ _ (wp_mono (wp_bind.mp q) (fun o s1 q1 => by
    cases o with
    | nx t => exact fun σ1 G1 H1 a1 ex => h2 t G0 H0 G1 H1 σ1 s1 a1 D q1
    | ct t => exact False.elim q1
    | bk t => exact False.elim q1
    | ret r => exact q1) fun _ _ h => h))
theorem n_blk {m : StM S (Fl T' ρ)} {Γ' : T' → S → Gam} {k : T' → StM S (Fl T ρ)} (h1 : ∀ G0 H0 G H σ s, At M G0 H0 (Γ s) G H σ → ∀ D : Ends, (m s).wp (FlK M io Γ' R G0 H0 G D) (ExB X w M G0 H0) → SS X st D σ H) (h2 : ∀ t, BlkN X w M io (Γ' t) rest (k t) Γn R) :
    BlkN X w M io Γ (st :: rest) (.bind m fun o => Fl.afterN k o) Γn R := fun G0 H0 G H σ s at_ D q =>
  SB.of (pss_cons ps_ss pss_sb) (h1 G0 H0 G H σ s at_ _ (wp_mono (wp_bind.mp q) (fun o s1 q1 => by
    cases o with
    | nx t => exact fun σ1 G1 H1 a1 ex => h2 t G0 H0 G1 H1 σ1 s1 a1 D (wp_mono q1 (fun o s2 q2 => q2.ex ex) fun _ _ h => h)
    | ct t => exact False.elim q1
    | bk t => exact False.elim q1
    | ret r => exact q1) fun _ _ h => h))
/-- .. of an if: a statement judgement with flow -/
def StmF (X : Cx) (w : Env1) (M : Addr → Prop) (io : S → Hp → Hp → Prop) (Γ : S → Gam) (st : Stmt) (m : StM S (Fl T ρ)) (Γn : T → S → Gam) (R : ρ → Sl) : Prop := ∀ G0 H0 G H σ s, At M G0 H0 (Γ s) G H σ → ∀ D : Ends, (m s).wp (FlK M io Γn R G0 H0 G D) (ExB X w M G0 H0) → SS X st D σ H
theorem f_if {mc : StM S Bool} {mA mB : StM S (Fl T ρ)} (hc : TeE X w Γ c mc) (hA : BlkN X w M io Γ A mA Γn R) (hB : BlkN X w M io Γ B mB Γn R) : StmF X w M io Γ (.If c A B pos) (.bind mc fun b => if b = true then mA else mB) Γn R := fun G0 H0 G H σ s at_ D q =>
  SS.of (ps_if pt_st pss_sb pss_sb) (hc M G0 H0 G H σ s at_ _ (wp_mono (wp_bind.mp q) (fun b s1 q1 G1 H1 a1 st1 => by
    cases b with
    | true => exact hA G0 H0 G1 H1 σ s1 a1 _ (wp_mono q1 (fun o s2 q2 => q2.ex st1.post.1) fun _ _ h => h)
    | false => exact hB G0 H0 G1 H1 σ s1 a1 _ (wp_mono q1 (fun o s2 q2 => q2.ex st1.post.1) fun _ _ h => h)) fun e s h => exb_k e s h))
/-! an own object is kept from here on -/
theorem r_frz (i : Nat) {ad : Option Addr} {q : Po} {p : Pv} {m : StM S ρ} {sts : List Stmt} (hp : ∀ G l o, G l = some o → q.q G o → p.p G (V.ref l)) (hi : ∀ s, (Γ s)[i]? = some (Sl.ow ad q)) (h : BlkR X w M io (fun s => (Γ s).set i (Sl.im p)) sts m R) : BlkR X w M io Γ sts m R := fun G0 H0 G H σ s at_ D k => by
  obtain ⟨G', ex, a'⟩ := at_.freeze (hi s) hp
  exact h G0 H0 G' H σ s a' D k
theorem n_frz (i : Nat) {ad : Option Addr} {q : Po} {p : Pv} {m : StM S (Fl T ρ)} {sts : List Stmt} (hp : ∀ G l o, G l = some o → q.q G o → p.p G (V.ref l)) (hi : ∀ s, (Γ s)[i]? = some (Sl.ow ad q)) (h : BlkN X w M io (fun s => (Γ s).set i (Sl.im p)) sts m Γn R) : BlkN X w M io Γ sts m Γn R := fun G0 H0 G H σ s at_ D k => by
  obtain ⟨G', ex, a'⟩ := at_.freeze (hi s) hp
  exact h G0 H0 G' H σ s a' D (wp_mono k (fun o s2 q2 => q2.ex ex) fun _ _ h => h)
/-! assignments -/
theorem s_asg (i : Nat) {x : Str} {ps : Pos} {m : StM S β} {Re : β → Sl} (hN : X.N.Nodup) (he : EvE X w Γ e m Re) (hs : ∀ b, Asg (Re b) := by intro _; trivial) (hi : X.N[i]? = some x := by rfl) (hl : Loc X.env.scope x := by first | exact Or.inl rfl | exact Or.inr rfl)
    (hf : X.fn x = true ∨ X.env.scope.names.lookup x = some .local := by first | exact .inl rfl | exact .inr rfl) (hsw : swapsWith e (some (.Name x ps)) pos.line X.env = pure false := by rfl) : StmE X w M Γ (.Assign [.Name x ps] e pos) m fun b s => (Γ s).set i (Re b) := fun G0 H0 G H σ s at_ D q =>
  SS.of (ps_asg pe_se (pg_name (i := i) hN hi hl hf) hsw) (he M G0 H0 G H σ s at_ _ (wp_mono q (fun b s' q' v G' H' a' st' r' => q' (σ.set i (some v)) G' H' (a'.put r' (fun l h => ⟨(at_.fresh h).1, fun z => by
    obtain ⟨o, y⟩ := OwnA.ne at_ (st'.shp.own z)
    rw [h] at y; cases y⟩) (hs b)) st'.post.1) fun e s h => exb_k e s h))
theorem s_expr {m : StM S β} {Re : β → Sl} (he : EvE X w Γ e m Re) (hs : swapsWith e none pos.line X.env = pure false := by rfl) : StmE X w M Γ (.Expr e pos) m fun _ s => Γ s := fun G0 H0 G H σ s at_ D q =>
  SS.of (ps_expr pe_se hs) (he M G0 H0 G H σ s at_ _ (wp_mono q (fun b s' q' v G' H' a' st' r' => q' σ G' H' a' st'.post.1) fun e s h => exb_k e s h))
end
end
end L3

namespace L3
open PySem PySem.Spec PyProof.Rows L2

/-! ### arguments -/
/-- what is known of an argument: by a word, or it is what the slot i holds -/
inductive Ar where
  | sl (s : Sl)
  | at_ (i : Nat)
def ArOk (σ : L2.St) (H0 G H : Hp) (v : V) : Ar → Prop
  | .sl s => Rok s H0 G H v
  | .at_ i => σ[i]? = some (some v)
def ArsOk (σ : L2.St) (H0 G H : Hp) : List Ar → List V → Prop
  | [], [] => True
  | a :: as, v :: vs => ArOk σ H0 G H v a ∧ ArsOk σ H0 G H as vs
  | _, _ => False
def RoksOk (H0 G H : Hp) : List Sl → List V → Prop
  | [], [] => True
  | a :: as, v :: vs => Rok a H0 G H v ∧ RoksOk H0 G H as vs
  | _, _ => False
theorem RoksOk.grow {H0 G H G' H' : Hp} (g : Grow G H G' H') : ∀ {as : List Sl} {vs : List V}, RoksOk H0 G H as vs → RoksOk H0 G' H' as vs
  | [], [], _ => trivial
  | _ :: _, _ :: _, ⟨a, b⟩ => ⟨a.grow g, RoksOk.grow g b⟩
  | [], _ :: _, h => h.elim
  | _ :: _, [], h => h.elim
theorem RoksOk.since {H H' G1 H1 : Hp} (h : ∀ l, H' l = none → H l = none) : ∀ {as : List Sl} {vs : List V}, RoksOk H' G1 H1 as vs → RoksOk H G1 H1 as vs
  | [], [], _ => trivial
  | _ :: _, _ :: _, ⟨a, b⟩ => ⟨a.since h, RoksOk.since h b⟩
  | [], _ :: _, h => h.elim
  | _ :: _, [], h => h.elim
section
variable {S β γ δ : Type} {X : Cx} {w : Env1} {Γ : S → Gam} {Γ0 : Gam} {e : Expr} {es : List Expr} {pos : Pos}
def EaS (X : Cx) (es : List Expr) (Γ : Gam) (Rs : List Sl) : Prop := ∀ M G0 H0 G H σ, At M G0 H0 Γ G H σ → ∀ Q : List V → Hp → Prop, (∀ vs G' H', Grow G H G' H' → RoksOk H G' H' Rs vs → Q vs H') → SA X es σ H Q
def GaE (X : Cx) (w : Env1) (Γ : S → Gam) (t : TA) (m : StM S β) (Rs : β → List Ar) : Prop := ∀ M G0 H0 G H σ s, At M G0 H0 (Γ s) G H σ → ∀ Q : List V → Hp → Prop,
  (m s).wp (fun b s' => ∀ vs G' H', At M G0 H0 (Γ s') G' H' σ → Step (Γ s) (Γ s') σ G H G' H' → ArsOk σ H G' H' (Rs b) vs → Q vs H') (ExcK X w Γ M G0 H0 σ) → t σ H Q
abbrev EaE (X : Cx) (w : Env1) (Γ : S → Gam) (es : List Expr) (m : StM S β) (Rs : β → List Ar) : Prop := GaE X w Γ (SA X es) m Rs
theorem as_nil : EaS X [] Γ0 [] := fun M G0 H0 G H σ at_ Q q => SA.of pa_nil (q [] G H (Grow.refl at_.sub) trivial)
theorem as_cons {r : Sl} {rs : List Sl} (h : EvS X e Γ0 r) (k : EaS X es Γ0 rs) (hs : starEach (e :: es) X.env = (false, eval e X.env) :: starEach es X.env := by rfl) : EaS X (e :: es) Γ0 (r :: rs) := fun M G0 H0 G H σ at_ Q q =>
  SA.of (pa_cons pe_se pa_sa hs) (h M G0 H0 G H σ at_ _ fun v G1 H1 g1 r1 => k M G0 H0 G1 H1 σ (at_.grow g1) _ fun vs G2 H2 g2 r2 => q (v :: vs) G2 H2 (g1.trans g2) ⟨r1.grow g2, r2.since fun l => Ex.back g1.exH⟩)
theorem ea_nil : EaE X w Γ [] (.pure ()) fun _ => [] := fun M G0 H0 G H σ s at_ Q q => SA.of pa_nil (q [] G H at_ Step.refl trivial)
theorem ArsOk.since {σ : L2.St} {H H' G1 H1 : Hp} (h : ∀ l, H' l = none → H l = none) : ∀ {as : List Ar} {vs : List V}, ArsOk σ H' G1 H1 as vs → ArsOk σ H G1 H1 as vs
  | [], [], _ => trivial
  | .sl _ :: _, _ :: _, ⟨a, b⟩ => ⟨Rok.since a h, ArsOk.since h b⟩
  | .at_ _ :: _, _ :: _, ⟨a, b⟩ => ⟨a, ArsOk.since h b⟩
  | [], _ :: _, h => h.elim
  | _ :: _, [], h => h.elim
/-- a frozen value, then the rest -/
theorem ea_cons {me : StM S β} {p : β → Pv} {mr : StM S γ} {Rs : γ → List Ar} (h : EvE X w Γ e me fun b => .im (p b)) (k : EaE X w Γ es mr Rs) (hs : starEach (e :: es) X.env = (false, eval e X.env) :: starEach es X.env := by rfl) :
    EaE X w Γ (e :: es) (.bind me fun x => .bind mr fun y => .pure (x, y)) fun z => .sl (.im (p z.1)) :: Rs z.2 := fun M G0 H0 G H σ s at_ Q q =>
  SA.of (pa_cons pe_se pa_sa hs) (h M G0 H0 G H σ s at_ _ (wp_mono (wp_bind.mp q) (fun x s1 q1 v G1 H1 a1 st1 r1 => k M G0 H0 G1 H1 σ s1 a1 _ (wp_mono (wp_bind.mp q1) (fun y s2 q2 vs G2 H2 a2 st2 r2 =>
    q2 (v :: vs) G2 H2 a2 (st1.trans st2) ⟨(p x).mono st2.post.1 r1, ArsOk.since (fun l h => st1.fresh a1 h) r2⟩) fun _ _ h => h)) fun _ _ h => h))
/-- what the slot i holds -/
theorem ea_at (i : Nat) {x : Str} {ps : Pos} {mr : StM S γ} {Rs : γ → List Ar} (k : EaE X w Γ es mr Rs) (hi : ∀ s, ∃ z, (Γ s)[i]? = some z ∧ z ≠ Sl.un := by intro _; exact ⟨_, rfl, fun z => nomatch z⟩) (hN : X.N[i]? = some x := by rfl) (hv : Vis X.env.scope x := by first | exact Or.inl rfl | exact Or.inr (Or.inl rfl) | exact Or.inr (Or.inr rfl))
    (hd : (x == ("__debug__" : Str)) = false := by decide) (hcd : (x == ("__classdict__" : Str)) = false := by decide) (hs : starEach (.Name x ps :: es) X.env = (false, eval (.Name x ps) X.env) :: starEach es X.env := by rfl) :
    EaE X w Γ (.Name x ps :: es) mr fun y => .at_ i :: Rs y := fun M G0 H0 G H σ s at_ Q q => by
  have hv1 : ∃ v, σ[i]? = some (some v) := by
    obtain ⟨z, hz, hn⟩ := hi s
    have y := at_.slot i z hz
    cases z with
    | un => exact absurd rfl hn
    | im p => obtain ⟨v, e, _⟩ := y; exact ⟨v, e⟩
    | ow ad p => obtain ⟨l, o, e, _⟩ := y; exact ⟨_, e⟩
    | bo b => obtain ⟨v, e, _⟩ := y; exact ⟨v, e⟩
  obtain ⟨v, ev⟩ := hv1
  exact SA.of (pa_cons (pe_var hN hv hd hcd) pa_sa hs) ⟨v, ev, k M G0 H0 G H σ s at_ _ (wp_mono q (fun y s2 q2 vs G2 H2 a2 st2 r2 => q2 (v :: vs) G2 H2 a2 st2 ⟨ev, r2⟩) fun _ _ h => h)⟩
theorem ga_nil : GaE X w Γ tNil (.pure ()) fun _ => [] := fun M G0 H0 G H σ s at_ Q q => q [] G H at_ Step.refl trivial
/-- the receiver of a method of the class at C, then the arguments -/
def tRecv (X : Cx) (C : Addr) (mth : Str) (o : Expr) (t : TA) : TA := fun σ H Q => SE X o σ H fun x H1 => ∃ a dx fs, x = V.ref a ∧ H1 a = some (.ins C dx fs) ∧ fs.lookup mth = none ∧ t σ H1 fun vs H2 => Q (x :: vs) H2
theorem ga_recv {C : Addr} {mth : Str} {o : Expr} {t : TA} {mo : StM S β} {p : β → Pv} {mr : StM S γ} {Rs : γ → List Ar} (h : EvE X w Γ o mo fun b => .im (p b)) (ho : ∀ b G v, (p b).p G v → ∃ a dx fs, v = V.ref a ∧ G a = some (.ins C dx fs) ∧ fs.lookup mth = none)
    (k : GaE X w Γ t mr Rs) : GaE X w Γ (tRecv X C mth o t) (.bind mo fun x => .bind mr fun y => .pure (x, y)) fun z => .sl (.im (p z.1)) :: Rs z.2 := fun M G0 H0 G H σ s at_ Q q =>
  h M G0 H0 G H σ s at_ _ (wp_mono (wp_bind.mp q) (fun x s1 q1 v G1 H1 a1 st1 r1 => by
    obtain ⟨a, dx, fs, ev, e1, e2⟩ := ho x G1 v r1
    exact ⟨a, dx, fs, ev, a1.sub _ _ e1, e2, k M G0 H0 G1 H1 σ s1 a1 _ (wp_mono (wp_bind.mp q1) (fun y s2 q2 vs G2 H2 a2 st2 r2 =>
    q2 (v :: vs) G2 H2 a2 (st1.trans st2) ⟨(p x).mono st2.post.1 r1, ArsOk.since (fun l h => st1.fresh a1 h) r2⟩) fun _ _ h => h)⟩) fun _ _ h => h)
/-- all at once, without effects -/
theorem ea_s {Rs : List Sl} (h : ∀ s, EaS X es (Γ s) Rs) : EaE X w Γ es (.pure ()) fun _ => Rs.map Ar.sl := fun M G0 H0 G H σ s at_ Q q => h s M G0 H0 G H σ at_ Q fun vs G' H' g r => by
  refine q vs G' H' (at_.grow g) g.step ?_
  clear q h
  induction Rs generalizing vs with
  | nil => cases vs with | nil => trivial | cons _ _ => exact r
  | cons a as ih => cases vs with | nil => exact r | cons v vs => exact ⟨r.1, ih vs r.2⟩
end

/-! ### promises -/
section
variable {S S' α β γ : Type}
def ioG (Γ : Gam) (vs : List V) (G H : Hp) : Prop := ∀ (i : Nat) (ad : Option Addr) (q : Po), Γ[i]? = some (Sl.ow ad q) → ∃ l o, vs[i]? = some (V.ref l) ∧ G l = none ∧ H l = some o ∧ q.q G o
def SpOf (K : PySem.W.Frag) (ca : Str → Addr) (par : α → S → Gam) (m : α → StM S β) (res : β → Sl) : Sp := fun vs H Q E => ∃ (x : α) (s : S) (G : Hp), At (OwnA (par x s) (vs.map some)) G H (par x s) G H (vs.map some) ∧
  (m x s).wp (fun b s' => ∀ v G' H', Ex G' H' → Post (OwnA (par x s) (vs.map some)) G H G' H' → ioG (par x s') vs G' H' → Rok (res b) H G' H' v → Q v H')
    (fun e _ => ∀ c d G' H', Ex G' H' → Post (OwnA (par x s) (vs.map some)) G H G' H' → ErrOk K ca e c d G' → E c d H')

/-- how arguments fit a def's parameters; io: the caller's slot that is handed on to be changed -/
inductive Fit (K : PySem.W.Frag) (io : Option Nat) (Γc : Gam) : List Ar → Gam → Prop
  | nil : Fit K io Γc [] []
  | im {p : Pv} {as : List Ar} {Γp : Gam} : Fit K io Γc as Γp → Fit K io Γc (.sl (.im p) :: as) (.im p :: Γp)
  | imc {p p' : Pv} {as : List Ar} {Γp : Gam} (h : ∀ G v, p.p G v → p'.p G v) : Fit K io Γc as Γp → Fit K io Γc (.sl (.im p) :: as) (.im p' :: Γp)
  | imb {p : Pv} {b : Pb} {as : List Ar} {Γp : Gam} (h : ∀ G H v, Ex G H → p.p G v → b.b G H v) : Fit K io Γc as Γp → Fit K io Γc (.sl (.im p) :: as) (.bo b :: Γp)
  | owb {q : Po} {b : Pb} {as : List Ar} {Γp : Gam} (h : ∀ G H l o, H l = some o → q.q G o → b.b G H (V.ref l)) : Fit K io Γc as Γp → Fit K io Γc (.sl (.ow none q) :: as) (.bo b :: Γp)
  | atb {i : Nat} {ad : Option Addr} {q : Po} {b : Pb} {as : List Ar} {Γp : Gam} (hi : Γc[i]? = some (Sl.ow ad q)) (hn : io ≠ some i) (h : ∀ G H l o, H l = some o → q.q G o → b.b G H (V.ref l)) : Fit K io Γc as Γp → Fit K io Γc (.at_ i :: as) (.bo b :: Γp)
  | atm {i : Nat} {p : Pv} {b : Pb} {as : List Ar} {Γp : Gam} (hi : Γc[i]? = some (Sl.im p)) (h : ∀ G H v, Ex G H → p.p G v → b.b G H v) : Fit K io Γc as Γp → Fit K io Γc (.at_ i :: as) (.bo b :: Γp)
  | atp {i : Nat} {p p' : Pv} {as : List Ar} {Γp : Gam} (hi : Γc[i]? = some (Sl.im p)) (h : ∀ G v, p.p G v → p'.p G v) : Fit K io Γc as Γp → Fit K io Γc (.at_ i :: as) (.im p' :: Γp)
  | io {i : Nat} {ad : Option Addr} {q : Po} {as : List Ar} {Γp : Gam} (hi : Γc[i]? = some (Sl.ow ad q)) (hn : io = some i) : Fit K io Γc as Γp → Fit K io Γc (.at_ i :: as) (.ow none q :: Γp)

section
variable {K : PySem.W.Frag} {M : Addr → Prop} {G0 H0 G H Hb : Hp} {Γc : Gam} {σ : L2.St} {io : Option Nat}
/-- a parameter's slot, the own ones' addresses within Mc -/
theorem Fit.slot (a : At M G0 H0 Γc G H σ) (Mc : Addr → Prop) (hMc : ∀ (l : Addr), Mc l → ∃ (i : Nat) (ad : Option Addr) (q : Po), io = some i ∧ Γc[i]? = some (Sl.ow ad q) ∧ σ[i]? = some (some (V.ref l))) :
    ∀ {as : List Ar} {Γp : Gam} {vs : List V}, Fit K io Γc as Γp → ArsOk σ Hb G H as vs → (∀ (l : Addr), Hb l = none → ∀ (i : Nat) (ad : Option Addr) (q : Po), Γc[i]? = some (Sl.ow ad q) → σ[i]? ≠ some (some (V.ref l))) →
      (∀ (j : Nat) (ad : Option Addr) (q : Po) (l : Addr), Γp[j]? = some (Sl.ow ad q) → vs[j]? = some (V.ref l) → Mc l) →
      vs.length = Γp.length ∧ ∀ (j : Nat) (s : Sl), Γp[j]? = some s → SlotOk Mc H G H (vs[j]?.map some) s := by
  have mg : ∀ l, Mc l → G l = none := fun l h => by
    obtain ⟨i, ad, q, _, e1, e2⟩ := hMc l h
    obtain ⟨l', o, z1, z2, _⟩ := a.slot i _ e1
    rw [e2] at z1
    cases z1
    exact z2
  have exk : ∀ H', Keep Mc H H' → Ex G H' := fun H' k b o e => k b o (a.sub b o e) fun z => by rw [mg b z] at e; cases e
  intro as Γp vs f
  induction f generalizing vs with
  | nil =>
    intro r _ _
    cases vs with
    | nil => exact ⟨rfl, fun j s e => by simp at e⟩
    | cons _ _ => exact r.elim
  | @im p as Γp f ih =>
    intro r hn ho
    cases vs with
    | nil => exact r.elim
    | cons v vs =>
      obtain ⟨z1, z2⟩ := ih r.2 hn fun j ad q l e1 e2 => ho (j + 1) ad q l (by simpa using e1) (by simpa using e2)
      refine ⟨by simp [z1], fun j s e => ?_⟩
      cases j with
      | zero => simp at e; subst e; exact ⟨v, rfl, r.1⟩
      | succ j => simpa using z2 j s (by simpa using e)
  | @imc p p' as Γp h f ih =>
    intro r hn ho
    cases vs with
    | nil => exact r.elim
    | cons v vs =>
      obtain ⟨z1, z2⟩ := ih r.2 hn fun j ad q l e1 e2 => ho (j + 1) ad q l (by simpa using e1) (by simpa using e2)
      refine ⟨by simp [z1], fun j s e => ?_⟩
      cases j with
      | zero => simp at e; subst e; exact ⟨v, rfl, h G v r.1⟩
      | succ j => simpa using z2 j s (by simpa using e)
  | @imb p b as Γp h f ih =>
    intro r hn ho
    cases vs with
    | nil => exact r.elim
    | cons v vs =>
      obtain ⟨z1, z2⟩ := ih r.2 hn fun j ad q l e1 e2 => ho (j + 1) ad q l (by simpa using e1) (by simpa using e2)
      refine ⟨by simp [z1], fun j s e => ?_⟩
      cases j with
      | zero => simp at e; subst e; exact ⟨v, rfl, fun H' k => h G H' v (exk H' k) r.1⟩
      | succ j => simpa using z2 j s (by simpa using e)
  | @owb q b as Γp h f ih =>
    intro r hn ho
    cases vs with
    | nil => exact r.elim
    | cons v vs =>
      obtain ⟨z1, z2⟩ := ih r.2 hn fun j ad q l e1 e2 => ho (j + 1) ad q l (by simpa using e1) (by simpa using e2)
      refine ⟨by simp [z1], fun j s e => ?_⟩
      cases j with
      | zero =>
        simp at e
        subst e
        obtain ⟨l, o, ev, hb0, hg, hh, hq⟩ := r.1
        subst ev
        refine ⟨_, rfl, fun H' k => h G H' l o (k l o hh fun z => ?_) hq⟩
        obtain ⟨i, ad, q2, _, e1, e2⟩ := hMc l z
        exact hn l hb0 i ad q2 e1 e2
      | succ j => simpa using z2 j s (by simpa using e)
  | @atb i ad q b as Γp hi hn2 h f ih =>
    intro r hn ho
    cases vs with
    | nil => exact r.elim
    | cons v vs =>
      obtain ⟨z1, z2⟩ := ih r.2 hn fun j ad q l e1 e2 => ho (j + 1) ad q l (by simpa using e1) (by simpa using e2)
      refine ⟨by simp [z1], fun j s e => ?_⟩
      cases j with
      | zero =>
        simp at e
        subst e
        obtain ⟨l, o, y1, y2, y3, y4, _⟩ := a.slot i _ hi
        have ev : σ[i]? = some (some v) := r.1
        rw [ev] at y1
        cases y1
        refine ⟨_, rfl, fun H' k => h G H' l o (k l o y3 fun z => ?_) y4⟩
        obtain ⟨i2, ad2, q2, e0, e1, e2⟩ := hMc l z
        have := a.dist i i2 ad ad2 q q2 l hi e1 ev e2
        subst this
        exact hn2 e0
      | succ j => simpa using z2 j s (by simpa using e)
  | @atm i p b as Γp hi h f ih =>
    intro r hn ho
    cases vs with
    | nil => exact r.elim
    | cons v vs =>
      obtain ⟨z1, z2⟩ := ih r.2 hn fun j ad q l e1 e2 => ho (j + 1) ad q l (by simpa using e1) (by simpa using e2)
      refine ⟨by simp [z1], fun j s e => ?_⟩
      cases j with
      | zero =>
        simp at e
        subst e
        obtain ⟨v', y1, y2⟩ := a.slot i _ hi
        have ev : σ[i]? = some (some v) := r.1
        rw [ev] at y1
        cases y1
        exact ⟨_, rfl, fun H' k => h G H' v (exk H' k) y2⟩
      | succ j => simpa using z2 j s (by simpa using e)
  | @atp i p p' as Γp hi h f ih =>
    intro r hn ho
    cases vs with
    | nil => exact r.elim
    | cons v vs =>
      obtain ⟨z1, z2⟩ := ih r.2 hn fun j ad q l e1 e2 => ho (j + 1) ad q l (by simpa using e1) (by simpa using e2)
      refine ⟨by simp [z1], fun j s e => ?_⟩
      cases j with
      | zero =>
        simp at e
        subst e
        obtain ⟨v', y1, y2⟩ := a.slot i _ hi
        have ev : σ[i]? = some (some v) := r.1
        rw [ev] at y1
        cases y1
        exact ⟨_, rfl, h G v y2⟩
      | succ j => simpa using z2 j s (by simpa using e)
  | @io i ad q as Γp hi hn2 f ih =>
    intro r hn ho
    cases vs with
    | nil => exact r.elim
    | cons v vs =>
      obtain ⟨z1, z2⟩ := ih r.2 hn fun j ad q l e1 e2 => ho (j + 1) ad q l (by simpa using e1) (by simpa using e2)
      refine ⟨by simp [z1], fun j s e => ?_⟩
      cases j with
      | zero =>
        simp at e
        subst e
        obtain ⟨l, o, y1, y2, y3, y4, _⟩ := a.slot i _ hi
        have ev : σ[i]? = some (some v) := r.1
        rw [ev] at y1
        cases y1
        exact ⟨l, o, rfl, y2, y3, y4, .inl (ho 0 none q l rfl rfl), fun r z => nomatch z⟩
      | succ j => simpa using z2 j s (by simpa using e)
/-- an own parameter comes of the caller's slot -/
theorem Fit.own : ∀ {as : List Ar} {Γp : Gam} {vs : List V}, Fit K io Γc as Γp → ArsOk σ Hb G H as vs → ∀ (j : Nat) (ad : Option Addr) (q : Po) (l : Addr), Γp[j]? = some (Sl.ow ad q) → vs[j]? = some (V.ref l) →
    ∃ (i : Nat) (ad' : Option Addr), io = some i ∧ Γc[i]? = some (Sl.ow ad' q) ∧ σ[i]? = some (some (V.ref l)) := by
  intro as Γp vs f
  induction f generalizing vs with
  | nil => intro _ j ad q l e; simp at e
  | @io i ad q as Γp hi hn2 f ih =>
    intro r j ad2 q2 l e1 e2
    cases vs with
    | nil => exact r.elim
    | cons v vs =>
      cases j with
      | zero =>
        simp at e1 e2
        obtain ⟨_, e1⟩ := e1
        subst e1 e2
        exact ⟨i, ad, hn2, hi, r.1⟩
      | succ j => exact ih r.2 j ad2 q2 l (by simpa using e1) (by simpa using e2)
  | im f ih =>
    intro r j ad2 q2 l e1 e2
    cases vs with
    | nil => exact r.elim
    | cons v vs =>
      cases j with
      | zero => simp at e1
      | succ j => exact ih r.2 j ad2 q2 l (by simpa using e1) (by simpa using e2)
  | imc h f ih =>
    intro r j ad2 q2 l e1 e2
    cases vs with
    | nil => exact r.elim
    | cons v vs =>
      cases j with
      | zero => simp at e1
      | succ j => exact ih r.2 j ad2 q2 l (by simpa using e1) (by simpa using e2)
  | imb h f ih =>
    intro r j ad2 q2 l e1 e2
    cases vs with
    | nil => exact r.elim
    | cons v vs =>
      cases j with
      | zero => simp at e1
      | succ j => exact ih r.2 j ad2 q2 l (by simpa using e1) (by simpa using e2)
  | owb h f ih =>
    intro r j ad2 q2 l e1 e2
    cases vs with
    | nil => exact r.elim
    | cons v vs =>
      cases j with
      | zero => simp at e1
      | succ j => exact ih r.2 j ad2 q2 l (by simpa using e1) (by simpa using e2)
  | atb hi hn h f ih =>
    intro r j ad2 q2 l e1 e2
    cases vs with
    | nil => exact r.elim
    | cons v vs =>
      cases j with
      | zero => simp at e1
      | succ j => exact ih r.2 j ad2 q2 l (by simpa using e1) (by simpa using e2)
  | atm hi h f ih =>
    intro r j ad2 q2 l e1 e2
    cases vs with
    | nil => exact r.elim
    | cons v vs =>
      cases j with
      | zero => simp at e1
      | succ j => exact ih r.2 j ad2 q2 l (by simpa using e1) (by simpa using e2)
  | atp hi h f ih =>
    intro r j ad2 q2 l e1 e2
    cases vs with
    | nil => exact r.elim
    | cons v vs =>
      cases j with
      | zero => simp at e1
      | succ j => exact ih r.2 j ad2 q2 l (by simpa using e1) (by simpa using e2)
end
end
end L3

namespace L3
open PySem PySem.Spec PyProof.Rows L2

section
variable {K : PySem.W.Frag} {M : Addr → Prop} {G0 H0 G H Hb : Hp} {Γc Γp : Gam} {σ : L2.St} {io : Option Nat} {as : List Ar} {vs : List V}
def Uniq (Γ : Gam) : Prop := ∀ (i j : Nat) (a b : Option Addr) (p q : Po), Γ[i]? = some (Sl.ow a p) → Γ[j]? = some (Sl.ow b q) → i = j
theorem get_some {j : Nat} {v : V} (h : (vs.map some)[j]? = some (some v)) : vs[j]? = some v := by
  rw [List.getElem?_map] at h
  cases e : vs[j]? with
  | none => rw [e] at h; cases h
  | some u => rw [e] at h; cases h; rfl
theorem Fit.at (f : Fit K io Γc as Γp) (a : At M G0 H0 Γc G H σ) (r : ArsOk σ Hb G H as vs) (hn : ∀ (l : Addr), Hb l = none → ¬ OwnA Γc σ l) (hu : Uniq Γp) : At (OwnA Γp (vs.map some)) G H Γp G H (vs.map some) := by
  have hMc : ∀ (l : Addr), OwnA Γp (vs.map some) l → ∃ (i : Nat) (ad : Option Addr) (q : Po), io = some i ∧ Γc[i]? = some (Sl.ow ad q) ∧ σ[i]? = some (some (V.ref l)) := fun l ⟨j, ad, q, e1, e2⟩ => by
    obtain ⟨i, ad', z1, z2, z3⟩ := Fit.own f r j ad q l e1 (get_some e2)
    exact ⟨i, ad', q, z1, z2, z3⟩
  obtain ⟨hl, hs⟩ := Fit.slot a (OwnA Γp (vs.map some)) hMc f r (fun l h i ad q e1 e2 => hn l h ⟨i, ad, q, e1, e2⟩) fun j ad q l e1 e2 => ⟨j, ad, q, e1, by rw [List.getElem?_map, e2]; rfl⟩
  refine ⟨by rw [List.length_map]; exact hl, a.sub, Post.refl, fun l h => ?_, fun i s e => ?_, fun i j x y p q l e1 e2 _ _ => hu i j x y p q e1 e2⟩
  · obtain ⟨i, ad, q, _, e1, e2⟩ := hMc l h
    exact OwnA.ne a ⟨i, ad, q, e1, e2⟩
  · rw [List.getElem?_map]
    exact hs i s e
/-- behind a call that changed what slot j holds -/
theorem At.called {G' H' : Hp} {j : Nat} {ad : Option Addr} {q q' : Po} {r : Addr} {o : HO} (a : At M G0 H0 Γc G H σ) (hj : Γc[j]? = some (Sl.ow ad q)) (hr : σ[j]? = some (some (V.ref r))) (hp : Post (fun x => x = r) G H G' H') (hx : Ex G' H') (hg : G' r = none) (hh : H' r = some o) (hq : q'.q G' o) :
    At M G0 H0 (Γc.set j (Sl.ow ad q')) G' H' σ := by
  obtain ⟨l, o1, z1, _, z3, _, hm, had⟩ := a.slot j _ hj
  rw [hr] at z1
  cases z1
  have hlt : j < Γc.length := (List.getElem?_eq_some_iff.mp hj).1
  have tr : ∀ {k : Nat} {x : Option Addr} {p : Po}, (Γc.set j (Sl.ow ad q'))[k]? = some (Sl.ow x p) → ∃ p', Γc[k]? = some (Sl.ow x p') := fun {k x p} e => by
    by_cases hk : j = k
    · subst hk
      rw [List.getElem?_set_self hlt] at e
      cases e
      exact ⟨q, hj⟩
    · rw [List.getElem?_set_ne hk] at e
      exact ⟨p, e⟩
  refine ⟨by rw [List.length_set]; exact a.len, hx, ⟨a.post.1.trans hp.1, fun b u e hb => ?_⟩, fun b hb => ?_, fun k s e => ?_, fun i k x y p p' m e1 e2 e3 e4 => ?_⟩
  · obtain ⟨h1, g1⟩ := a.post.2 b u e hb
    have hne : b ≠ r := by
      rintro rfl
      rcases hm with z | z
      · exact hb z
      · rw [e] at z; cases z
    obtain ⟨h2, g2⟩ := hp.2 b u h1 hne
    exact ⟨h2, g2.trans g1⟩
  · obtain ⟨u, e⟩ := a.mt b hb
    by_cases hne : b = r
    · subst hne; exact ⟨o, hh⟩
    · exact ⟨u, (hp.2 b u e hne).1⟩
  · by_cases hk : j = k
    · subst hk
      rw [List.getElem?_set_self hlt] at e
      cases e
      exact ⟨r, o, hr, hg, hh, hq, hm, had⟩
    · rw [List.getElem?_set_ne hk] at e
      have z := a.slot k s e
      cases s with
      | un => trivial
      | im p => obtain ⟨v, y1, y2⟩ := z; exact ⟨v, y1, p.mono hp.1 y2⟩
      | ow ad2 p =>
        obtain ⟨l2, o2, y1, y2, y3, y4, y5, y6⟩ := z
        have hne : l2 ≠ r := by
          rintro rfl
          exact hk (a.dist j k ad ad2 q p l2 hj e hr y1)
        obtain ⟨h2, g2⟩ := hp.2 l2 o2 y3 hne
        exact ⟨l2, o2, y1, g2.trans y2, h2, p.mono hp.1 y4, y5, y6⟩
      | bo b => obtain ⟨v, y1, y2⟩ := z; exact ⟨v, y1, fun H'' k => b.mono hp.1 (Ex.refl _) (y2 H'' k)⟩
  · obtain ⟨p1, f1⟩ := tr e1
    obtain ⟨p2, f2⟩ := tr e2
    exact a.dist i k x y p1 p2 m f1 f2 e3 e4
theorem Fit.noOw (f : Fit K io Γc as Γp) (h : io = none) : ∀ (i : Nat) (a : Option Addr) (p : Po), Γp[i]? ≠ some (Sl.ow a p) := by
  induction f with
  | nil => intro i a p e; simp at e
  | io _ z _ _ => rw [h] at z; cases z
  | im f ih => intro i a p e; cases i with | zero => simp at e | succ i => exact ih i a p (by simpa using e)
  | imc _ f ih => intro i a p e; cases i with | zero => simp at e | succ i => exact ih i a p (by simpa using e)
  | imb _ f ih => intro i a p e; cases i with | zero => simp at e | succ i => exact ih i a p (by simpa using e)
  | owb _ f ih => intro i a p e; cases i with | zero => simp at e | succ i => exact ih i a p (by simpa using e)
  | atb _ _ _ f ih => intro i a p e; cases i with | zero => simp at e | succ i => exact ih i a p (by simpa using e)
  | atm _ _ f ih => intro i a p e; cases i with | zero => simp at e | succ i => exact ih i a p (by simpa using e)
  | atp _ _ f ih => intro i a p e; cases i with | zero => simp at e | succ i => exact ih i a p (by simpa using e)
theorem Uniq.of_none (h : ∀ (i : Nat) (a : Option Addr) (p : Po), Γp[i]? ≠ some (Sl.ow a p)) : Uniq Γp := fun i _ a _ p _ e => absurd e (h i a p)
end

/-! ### calls: the readings -/
section
variable {X : Cx} {CX : CXT} {k : Nat} {f C : Addr} {fd : FuncData} {ps : List Str} {sp : Sp} {E : L2.St → XK} {x m : Str} {p pos apos : Pos} {e o : Expr} {es : List Expr} {ta : TE} {t : TA}
theorem pe_callN (F : FnOk X.prog X.w X.K X.mg X.base CX k f fd ps sp) (hr : Room k X.A) (hg : Gl X x) (hm : X.mg x = some (Value.ref f)) (hk : PySem.W.keepIn X.K (Value.ref f) = true) (hb : Binds X.K fd ps []) (hx : ∀ σ, PassesAt CX X σ (E σ))
    (hdb : (x == ("__debug__" : Str)) = false) : PE X (.Call (.Name x p) [] [] pos) (tCallS sp E tNil) :=
  ⟨fun pins s σ H Q I h => wpAny_Call_Name_kw (ld_glob I hg hm (PySem.W.callWith_K0 I.kIn hk (run_fnS (us := []) F hr hb (hx σ) I .nil h)) hdb)⟩
/-- o.m(..) that may raise -/
def tMethS (C : Addr) (m : Str) (sp : Sp) (E : L2.St → XK) (ta : TE) (t : TA) : TE := fun σ H Q => ta σ H fun x H1 => ∃ a dx fs, x = V.ref a ∧ H1 a = some (.ins C dx fs) ∧ fs.lookup m = none ∧ t σ H1 fun vs H2 => sp (x :: vs) H2 Q (E σ)
theorem pe_methE {pl : Sem Bool} (he : PE X o ta) (c : Cls X.K C) (hm : Meth X.K C m f) (F : FnOk X.prog X.w X.K X.mg X.base CX k f fd ps sp) (hr : Room k X.A) (hb : Binds X.K fd ps []) (hx : ∀ σ, PassesAt CX X σ (E σ)) (ha : PA X (e :: es) t)
    (h1 : starEach (e :: es) X.env = (false, eval e X.env) :: starEach es X.env) (h2 : (backTo pos (starEach es X.env)).any (·.1) = false)
    (h3 : eval (.Call (.Attribute o m apos) (e :: es) [] pos) X.env = (do
      let ov ← eval o X.env
      standAt apos.atName
      let (f, first) ← holding [ov] (getMethod ov m pl)
      callWith pos f first (backTo pos (starEach (e :: es) X.env)) (backToKw pos (keywordEach [] X.env)))) :
    PE X (.Call (.Attribute o m apos) (e :: es) [] pos) (tMethS C m sp E ta t) := by
  constructor
  intro pins s σ H Q I h
  apply PySem.W.methodCall_KW (pl := pl) (thn (he.run pins s σ H _ I h) fun u s1 hh => ?_) h3
  obtain ⟨x, H1, I1, rx, a, dx, fs, ex, ea, l, q⟩ := hh
  subst ex
  have eu : u = Value.ref a := rx
  subst eu
  apply getmeth_ok I1 ea c hm l
  apply PySem.W.callWith_K (first := [Value.ref a]) (h₀ := X.base) I.ok.mod.kin hm.kp (thn (ha.run pos pins s1 σ H1 _ I1 q) fun us s2 hh2 => ?_) h1 h2
  obtain ⟨vs, H2, I2, r, q2⟩ := hh2
  exact ⟨I2.kIn, run_fnS (us := Value.ref a :: us) (vs := V.ref a :: vs) F hr hb (hx σ) I2 (.cons rfl r) q2⟩
theorem pe_methN {pl : Sem Bool} (he : PE X o ta) (c : Cls X.K C) (hm : Meth X.K C m f) (F : FnOk X.prog X.w X.K X.mg X.base CX k f fd ps sp) (hr : Room k X.A) (hb : Binds X.K fd ps []) (hx : ∀ σ, PassesAt CX X σ (E σ))
    (h3 : eval (.Call (.Attribute o m apos) [] [] pos) X.env = (do
      let ov ← eval o X.env
      standAt apos.atName
      let (f, first) ← holding [ov] (getMethod ov m pl)
      callWith pos f first (backTo pos (starEach [] X.env)) (backToKw pos (keywordEach [] X.env)))) :
    PE X (.Call (.Attribute o m apos) [] [] pos) (tMethS C m sp E ta tNil) := by
  constructor
  intro pins s σ H Q I h
  apply PySem.W.methodCall_KW (pl := pl) (thn (he.run pins s σ H _ I h) fun u s1 hh => ?_) h3
  obtain ⟨x, H1, I1, rx, a, dx, fs, ex, ea, l, q⟩ := hh
  subst ex
  have eu : u = Value.ref a := rx
  subst eu
  apply getmeth_ok I1 ea c hm l
  exact PySem.W.callWith_K0 (first := [Value.ref a]) I1.kIn hm.kp (run_fnS (us := [Value.ref a]) (vs := [V.ref a]) F hr hb (hx σ) I1 (.cons rfl .nil) q)
end

/-! ### calls: the rules -/
section
variable {S S' α β γ δ : Type} {X : Cx} {w : Env1} {Γ : S → Gam} {k : Nat} {f C : Addr} {fd : FuncData} {ps : List Str} {x mth : Str} {p pos apos : Pos} {e o : Expr} {es : List Expr} {t : TA}
/-- a pure callee's promise from its arguments -/
theorem sp_pure {par : α → Unit → Gam} {m : α → StM Unit δ} {res : δ → Sl} {M : Addr → Prop} {G0 H0 G H G1 H1 : Hp} {σ : L2.St} {s s1 : S} {as : List Ar} {vs : List V} {Q : VK} (ax : α) (fit : Fit X.K none (Γ s1) as (par ax ()))
    (at_ : At M G0 H0 (Γ s) G H σ) (a1 : At M G0 H0 (Γ s1) G1 H1 σ) (st1 : Step (Γ s) (Γ s1) σ G H G1 H1) (r : ArsOk σ H G1 H1 as vs)
    (q : ((StM.lift (m ax) : StM S δ) s1).wp (fun b s' => ∀ v G' H', At M G0 H0 (Γ s') G' H' σ → Step (Γ s) (Γ s') σ G H G' H' → Rok (res b) H G' H' v → Q v H') (ExcK X w Γ M G0 H0 σ)) :
    SpOf X.K w.ca par m res vs H1 Q (fun c d H' => w.W c d σ H') := by
  have hno : ∀ (l : Addr), ¬ OwnA (par ax ()) (vs.map some) l := fun l ⟨j, ad, q, e1, e2⟩ => by
    obtain ⟨i, _, z, _⟩ := Fit.own fit r j ad q l e1 (get_some e2)
    cases z
  have hNo : OwnA (par ax ()) (vs.map some) = NoM := by
    funext l
    exact propext ⟨fun h => hno l h, fun h => h.elim⟩
  have hu : Uniq (par ax ()) := Uniq.of_none (fit.noOw rfl)
  refine ⟨ax, (), G1, fit.at a1 r (fun l h z => ?_) hu, wp_mono (wp_lift.mp q) (fun b _ q1 v G' H' ex po _ r' => ?_) fun er _ q1 c d G' H' ex po er' => ?_⟩
  · obtain ⟨o, y⟩ := OwnA.ne at_ (st1.shp.own z)
    rw [h] at y; cases y
  · rw [hNo] at po
    have g : Grow G1 H1 G' H' := ⟨po, ex⟩
    exact q1 v G' H' (a1.grow g) (st1.trans g.step) (r'.since fun l h => st1.fresh a1 h)
  · rw [hNo] at po
    exact q1 c d G' H' (a1.grow ⟨po, ex⟩) er'
def StM.noX (m : StM S δ) : StM S δ := fun s => match m s with
  | .ok b s' => .ok b s'
  | _ => .stuck
theorem wp_noX {m : StM S δ} {s : S} {P : δ → S → Prop} {E : Err → S → Prop} (h : (StM.noX m s).wp P E) : (m s).wp P fun _ _ => False := by
  unfold StM.noX Out.wp at h
  unfold Out.wp
  cases e : m s with
  | ok b s' => rw [e] at h; exact h
  | exc b s' => rw [e] at h; exact h
  | stuck => rw [e] at h; exact h
/-- the one own parameter of the callee is the caller's slot j; the states are of one type -/
theorem sp_io {par : α → S → Gam} {m : α → StM S δ} {res : δ → Sl} {M : Addr → Prop} {G0 H0 G H G1 H1 : Hp} {σ : L2.St} {s s1 : S} {as : List Ar} {vs : List V} {Q : VK} (ax : α) (j i : Nat) (qp : S → Po)
    (fit : Fit X.K (some j) (Γ s1) as (par ax s1)) (hp : ∀ s, ∃ ad, (par ax s)[i]? = some (Sl.ow ad (qp s))) (hu : ∀ s, Uniq (par ax s)) (hj : ∀ s, ∃ ad, (Γ s)[j]? = some (Sl.ow ad (qp s)) ∧ ∀ s', Γ s' = (Γ s).set j (Sl.ow ad (qp s')))
    (at_ : At M G0 H0 (Γ s) G H σ) (a1 : At M G0 H0 (Γ s1) G1 H1 σ) (st1 : Step (Γ s) (Γ s1) σ G H G1 H1) (r : ArsOk σ H G1 H1 as vs)
    (q : (StM.noX (m ax) s1).wp (fun b s' => ∀ v G' H', At M G0 H0 (Γ s') G' H' σ → Step (Γ s) (Γ s') σ G H G' H' → Rok (res b) H G' H' v → Q v H') (ExcK X w Γ M G0 H0 σ)) :
    SpOf X.K w.ca par m res vs H1 Q (fun c d H' => w.W c d σ H') := by
  have hfr : ∀ (l : Addr), H l = none → ¬ OwnA (Γ s1) σ l := fun l h z => by
    obtain ⟨o, y⟩ := OwnA.ne at_ (st1.shp.own z)
    rw [h] at y; cases y
  have entry := fit.at a1 r hfr (hu s1)
  obtain ⟨adp, hps⟩ := hp s1
  obtain ⟨adj, hjs, hset⟩ := hj s1
  obtain ⟨rr, o, z1, z2, z3, z4, _⟩ := entry.slot i _ hps
  have hv : vs[i]? = some (V.ref rr) := get_some z1
  obtain ⟨j', _, y0, y1, y2⟩ := Fit.own fit r i adp (qp s1) rr hps hv
  have ej : j = j' := Option.some.inj y0
  subst ej
  have hM : OwnA (par ax s1) (vs.map some) = fun x => x = rr := by
    funext l
    refine propext ⟨fun ⟨k, ad, q, e1, e2⟩ => ?_, fun h => ?_⟩
    · have := hu s1 k i ad adp q _ e1 hps
      subst this
      rw [z1] at e2
      cases e2; rfl
    · subst h
      exact ⟨i, adp, qp s1, hps, z1⟩
  refine ⟨ax, s1, G1, entry, wp_mono (wp_noX q) (fun b s' q1 v G' H' ex po hio r' => ?_) fun er s' q1 => q1.elim⟩
  rw [hM] at po
  obtain ⟨ad', hp'⟩ := hp s'
  obtain ⟨l, o', e1, e2, e3, e4⟩ := hio i ad' (qp s') hp'
  rw [hv] at e1
  cases e1
  have a' := At.called (q' := qp s') a1 hjs y2 po ex e2 e3 e4
  rw [← hset s'] at a'
  have own : OwnA (Γ s1) σ rr := ⟨j, adj, qp s1, hjs, y2⟩
  have st2 : Step (Γ s1) (Γ s') σ G1 H1 G' H' := ⟨po.mono fun x hx => by subst hx; exact own, by rw [hset s']; exact Shp.set hjs⟩
  exact q1 v G' H' a' (st1.trans st2) (r'.since fun l h => st1.fresh a1 h)

/-! a call by its arguments -/
theorem ee_pure {par : α → Unit → Gam} {m : α → StM Unit δ} {res : δ → Sl} {ma : StM S γ} {Rs : γ → List Ar} (ax : γ → α)
    (rule : ∀ σ H (Q : VK), t σ H (fun vs H1 => SpOf X.K w.ca par m res vs H1 Q fun c d H' => w.W c d σ H') → SE X e σ H Q)
    (ha : GaE X w Γ t ma Rs) (fit : ∀ b s, Fit X.K none (Γ s) (Rs b) (par (ax b) ())) : EvE X w Γ e (.bind ma fun b => .lift (m (ax b))) res := fun M G0 H0 G H σ s at_ Q q =>
  rule σ H Q (ha M G0 H0 G H σ s at_ _ (wp_mono (wp_bind.mp q) (fun b s1 q1 vs G1 H1 a1 st1 r1 => sp_pure (ax b) (fit b s1) at_ a1 st1 r1 q1) fun _ _ h => h))
theorem ee_io {par : α → S → Gam} {m : α → StM S δ} {res : δ → Sl} {ma : StM S γ} {Rs : γ → List Ar} (ax : γ → α) (j i : Nat) (qp : S → Po)
    (rule : ∀ σ H (Q : VK), t σ H (fun vs H1 => SpOf X.K w.ca par m res vs H1 Q fun c d H' => w.W c d σ H') → SE X e σ H Q)
    (ha : GaE X w Γ t ma Rs) (fit : ∀ b s, Fit X.K (some j) (Γ s) (Rs b) (par (ax b) s)) (hp : ∀ b s, ∃ ad, (par (ax b) s)[i]? = some (Sl.ow ad (qp s))) (hu : ∀ b s, Uniq (par (ax b) s)) (hj : ∀ s, ∃ ad, (Γ s)[j]? = some (Sl.ow ad (qp s)) ∧ ∀ s', Γ s' = (Γ s).set j (Sl.ow ad (qp s'))) :
    EvE X w Γ e (.bind ma fun b => .noX (m (ax b))) res := fun M G0 H0 G H σ s at_ Q q =>
  rule σ H Q (ha M G0 H0 G H σ s at_ _ (wp_mono (wp_bind.mp q) (fun b s1 q1 vs G1 H1 a1 st1 r1 => sp_io (ax b) j i qp (fit b s1) (hp b) (hu b) hj at_ a1 st1 r1 q1) fun _ _ h => h))
/-- f(e, ..) -/
theorem rule_fn {sp : Sp} (tk : Takes X w.W) (F : FnOk X.prog X.w X.K X.mg X.base (L2.CX X.prog X.w) k f fd ps sp) (hr : Room k X.A) (hm : X.mg x = some (Value.ref f)) (hk : PySem.W.keepIn X.K (Value.ref f) = true) (hb : Binds X.K fd ps []) (hg : Gl X x := by rfl) (hdb : (x == ("__debug__" : Str)) = false := by decide)
    (he : starEach (e :: es) X.env = (false, eval e X.env) :: starEach es X.env := by rfl) (hpl : (backTo pos (starEach es X.env)).any (·.1) = false := by rfl) :
    ∀ σ H (Q : VK), SA X (e :: es) σ H (fun vs H1 => sp vs H1 Q fun c d H' => w.W c d σ H') → SE X (.Call (.Name x p) (e :: es) [] pos) σ H Q := fun σ H Q h =>
  SE.of (pe_callS (E := fun σ c d H' => w.W c d σ H') F hr hg hm hk hb (fun σ => passAt tk σ) pa_sa hdb he hpl) h
theorem rule_fn0 {sp : Sp} (tk : Takes X w.W) (F : FnOk X.prog X.w X.K X.mg X.base (L2.CX X.prog X.w) k f fd ps sp) (hr : Room k X.A) (hm : X.mg x = some (Value.ref f)) (hk : PySem.W.keepIn X.K (Value.ref f) = true) (hb : Binds X.K fd ps []) (hg : Gl X x := by rfl) (hdb : (x == ("__debug__" : Str)) = false := by decide) :
    ∀ σ H (Q : VK), tNil σ H (fun vs H1 => sp vs H1 Q fun c d H' => w.W c d σ H') → SE X (.Call (.Name x p) [] [] pos) σ H Q := fun σ H Q h =>
  SE.of (pe_callN (E := fun σ c d H' => w.W c d σ H') F hr hg hm hk hb (fun σ => passAt tk σ) hdb) h
/-- o.m(e, ..) -/
theorem rule_m {sp : Sp} {pl : Sem Bool} (tk : Takes X w.W) (c : Cls X.K C) (hm : Meth X.K C mth f) (F : FnOk X.prog X.w X.K X.mg X.base (L2.CX X.prog X.w) k f fd ps sp) (hr : Room k X.A) (hb : Binds X.K fd ps [])
    (h1 : starEach (e :: es) X.env = (false, eval e X.env) :: starEach es X.env := by rfl) (h2 : (backTo pos (starEach es X.env)).any (·.1) = false := by rfl)
    (h3 : eval (.Call (.Attribute o mth apos) (e :: es) [] pos) X.env = (do
      let ov ← eval o X.env
      standAt apos.atName
      let (f, first) ← holding [ov] (getMethod ov mth pl)
      callWith pos f first (backTo pos (starEach (e :: es) X.env)) (backToKw pos (keywordEach [] X.env))) := by rfl) :
    ∀ σ H (Q : VK), tRecv X C mth o (SA X (e :: es)) σ H (fun vs H1 => sp vs H1 Q fun c d H' => w.W c d σ H') → SE X (.Call (.Attribute o mth apos) (e :: es) [] pos) σ H Q := fun σ H Q h =>
  SE.of (pe_methE (E := fun σ c d H' => w.W c d σ H') pe_se c hm F hr hb (fun σ => passAt tk σ) pa_sa h1 h2 h3) h
theorem rule_m0 {sp : Sp} {pl : Sem Bool} (tk : Takes X w.W) (c : Cls X.K C) (hm : Meth X.K C mth f) (F : FnOk X.prog X.w X.K X.mg X.base (L2.CX X.prog X.w) k f fd ps sp) (hr : Room k X.A) (hb : Binds X.K fd ps [])
    (h3 : eval (.Call (.Attribute o mth apos) [] [] pos) X.env = (do
      let ov ← eval o X.env
      standAt apos.atName
      let (f, first) ← holding [ov] (getMethod ov mth pl)
      callWith pos f first (backTo pos (starEach [] X.env)) (backToKw pos (keywordEach [] X.env))) := by rfl) :
    ∀ σ H (Q : VK), tRecv X C mth o tNil σ H (fun vs H1 => sp vs H1 Q fun c d H' => w.W c d σ H') → SE X (.Call (.Attribute o mth apos) [] [] pos) σ H Q := fun σ H Q h =>
  SE.of (pe_methN (E := fun σ c d H' => w.W c d σ H') pe_se c hm F hr hb (fun σ => passAt tk σ) h3) h
end

/-! ### a def keeps its promise -/
section
variable {P : Program} {wd : World} {K : PySem.W.Frag} {mg : Str → Option Value} {base : Heap} {S T α β : Type} {x qual : Str} {st : Stmt} {f : Addr} {fd : FuncData} {N ps : List Str} {k : Nat} {ca : Str → Addr}
abbrev cx (P : Program) (wd : World) (K : PySem.W.Frag) (mg : Str → Option Value) (base : Heap) (N : List Str) (qual : Str) (st : Stmt) (f : Addr) (cdv : Value) (A : Around) (outer : List PySem.Env) (s : Shared) (H : Hp) (E : XK) : Cx := cxOf (L2.CX P wd) P wd K mg base N qual (defScope st) f cdv A outer s H E
abbrev wE (ca : Str → Addr) (E : XK) : Env1 := ⟨fun c d _ H => E c d H, ca⟩
theorem cx_takes {cdv : Value} {A : Around} {outer : List PySem.Env} {s : Shared} {H : Hp} {E : XK} : Takes (cx P wd K mg base N qual st f cdv A outer s H E) (wE ca E).W := takes_of rfl rfl rfl rfl
theorem cx_po {cdv : Value} {A : Around} {outer : List PySem.Env} {s : Shared} {H : Hp} {E : XK} : PassesOwn (model P wd) (cx P wd K mg base N qual st f cdv A outer s H E).A (cx P wd K mg base N qual st f cdv A outer s H E).env (cx P wd K mg base N qual st f cdv A outer s H E).xe := PassesOwn.leaving
def uns (n : Nat) : Gam := List.replicate n Sl.un
theorem start_eq {N : List Str} {vs : List V} : start N vs = vs.map some ++ List.replicate (N.length - vs.length) none := rfl
theorem At.start {M : Addr → Prop} {G H : Hp} {Γ : Gam} {vs : List V} {n : Nat} (a : At M G H Γ G H (vs.map some)) : At M G H (Γ ++ uns n) G H (vs.map some ++ List.replicate n none) := by
  have hl := a.len
  have un : ∀ (i : Nat) (s : Sl), (Γ ++ uns n)[i]? = some s → s = Sl.un ∨ (i < Γ.length ∧ Γ[i]? = some s) := fun i s e => by
    by_cases hi : i < Γ.length
    · rw [List.getElem?_append_left hi] at e
      exact .inr ⟨hi, e⟩
    · rw [List.getElem?_append_right (by omega)] at e
      unfold uns at e
      rw [List.getElem?_replicate] at e
      split at e
      · exact .inl (Option.some.inj e).symm
      · cases e
  refine ⟨by simp [uns, hl], a.sub, a.post, a.mt, fun i s e => ?_, fun i j b c p q l e1 e2 e3 e4 => ?_⟩
  · rcases un i s e with rfl | ⟨hi, e'⟩
    · trivial
    · rw [List.getElem?_append_left (by rw [hl]; exact hi)]
      exact a.slot i s e'
  · rcases un i _ e1 with z | ⟨hi, e1'⟩
    · cases z
    · rcases un j _ e2 with z | ⟨hj, e2'⟩
      · cases z
      · rw [List.getElem?_append_left (by rw [hl]; exact hi)] at e3
        rw [List.getElem?_append_left (by rw [hl]; exact hj)] at e4
        exact a.dist i j b c p q l e1' e2' e3 e4
def io0 : S → Hp → Hp → Prop := fun _ _ _ => True
/-- no parameter is changed -/
theorem fn_ok0 {par : α → Unit → Gam} {m : α → StM Unit β} {res : β → Sl} (F : Fun K x qual st f fd) (Sc : FnScope N ps (defScope st)) (hlen : ∀ x, (par x ()).length = ps.length) (hno : ∀ x (i : Nat) (a : Option Addr) (p : Po), (par x ())[i]? ≠ some (Sl.ow a p))
    (hb : ∀ (cdv : Value) (A : Around) (outer : List PySem.Env) (s : Shared) (H : Hp) (E : XK) (x : α), Room k (cx P wd K mg base N qual st f cdv A outer s H E).A →
      BlkR (cx P wd K mg base N qual st f cdv A outer s H E) (wE ca E) NoM io0 (fun u => par x u ++ uns (N.length - ps.length)) (defBody st) (m x) res) : FnOk P wd K mg base (L2.CX P wd) (k + 1) f fd ps (SpOf K ca par m res) := by
  refine F.okX Sc (fun vs H Q E h => ?_) (fun cdv A outer s H vs Q E hr h => ?_)
  · obtain ⟨x, _, G, a, _⟩ := h
    have := a.len
    rw [List.length_map] at this
    rw [this]; exact hlen x
  · obtain ⟨x, u, G, a, q⟩ := h
    have hM : OwnA (par x u) (vs.map some) = NoM := by
      funext l
      exact propext ⟨fun ⟨i, ad, q, e, _⟩ => absurd e (hno x i ad q), fun h => h.elim⟩
    rw [hM] at a q
    have hl := a.len
    rw [List.length_map] at hl
    refine ⟨_, pss_sb, ?_⟩
    have z := hb cdv A outer s H E x hr G H G H (start N vs) u (by rw [start_eq, show vs.length = ps.length from hl.trans (hlen x)]; exact a.start)
    exact z _ (wp_mono q (fun b _ q1 v G' H' po ex _ r => q1 v G' H' ex po (fun i ad q e => absurd e (hno x i ad q)) r) fun e _ q1 c d σ' G' H' po ex k => q1 c d G' H' ex po k)
/-- .. of a def that comes to its end without a return -/
def Fl.fin {ρ : Type} (r : ρ) : Fl T ρ → StM S ρ
  | .nx _ => .pure r
  | .ret r => .pure r
  | _ => .fail
theorem blkR_end {X : Cx} {w : Env1} {M : Addr → Prop} {io : S → Hp → Hp → Prop} {Γ : S → Gam} {sts : List Stmt} {m : StM S (Fl T β)} {Γn : T → S → Gam} {R : β → Sl} {r : β} (hR : ∀ H0 G H, Rok (R r) H0 G H V.non) (h : BlkN X w M io Γ sts m Γn R) (hio : ∀ t G0 H0 G H σ s, At M G0 H0 (Γn t s) G H σ → io s G H) :
    ∀ G0 H0 G H σ s, At M G0 H0 (Γ s) G H σ → ∀ D : Ends, (∀ σ H, D.rt V.non H → D.nx σ H) → (StM.bind m (Fl.fin r) s).wp (fun r s' => ∀ v G' H', Post M G0 H0 G' H' → Ex G' H' → io s' G' H' → Rok (R r) H0 G' H' v → D.rt v H') (ExB X w M G0 H0) → SB X sts D σ H := fun G0 H0 G H σ s at_ D hD q =>
  h G0 H0 G H σ s at_ D (wp_mono (wp_bind.mp q) (fun o s1 q1 => by
    cases o with
    | nx t => exact fun σ' G' H' a ex => hD σ' H' (q1 V.non G' H' a.post a.sub (hio t G0 H0 G' H' σ' s1 a) (hR _ _ _))
    | ct t => exact q1.elim
    | bk t => exact q1.elim
    | ret r => exact q1) fun _ _ h => h)
theorem fn_ok0N {ρ : Type} {par : α → Unit → Gam} {m : α → StM Unit (Fl T ρ)} {Γn : T → Unit → Gam} {res : ρ → Sl} {r : ρ} (hR : ∀ H0 G H, Rok (res r) H0 G H V.non) (F : Fun K x qual st f fd) (Sc : FnScope N ps (defScope st)) (hlen : ∀ x, (par x ()).length = ps.length) (hno : ∀ x (i : Nat) (a : Option Addr) (p : Po), (par x ())[i]? ≠ some (Sl.ow a p))
    (hb : ∀ (cdv : Value) (A : Around) (outer : List PySem.Env) (s : Shared) (H : Hp) (E : XK) (x : α), Room k (cx P wd K mg base N qual st f cdv A outer s H E).A →
      BlkN (cx P wd K mg base N qual st f cdv A outer s H E) (wE ca E) NoM io0 (fun u => par x u ++ uns (N.length - ps.length)) (defBody st) (m x) Γn res) : FnOk P wd K mg base (L2.CX P wd) (k + 1) f fd ps (SpOf K ca par (fun x => .bind (m x) (Fl.fin r)) res) := by
  refine F.okX Sc (fun vs H Q E h => ?_) (fun cdv A outer s H vs Q E hr h => ?_)
  · obtain ⟨x, _, G, a, _⟩ := h
    have := a.len
    rw [List.length_map] at this
    rw [this]; exact hlen x
  · obtain ⟨x, u, G, a, q⟩ := h
    have hM : OwnA (par x u) (vs.map some) = NoM := by
      funext l
      exact propext ⟨fun ⟨i, ad, q, e, _⟩ => absurd e (hno x i ad q), fun h => h.elim⟩
    rw [hM] at a q
    have hl := a.len
    rw [List.length_map] at hl
    refine ⟨_, pss_sb, ?_⟩
    have z := blkR_end hR (hb cdv A outer s H E x hr) (fun _ _ _ _ _ _ _ _ => trivial) G H G H (start N vs) u (by rw [start_eq, show vs.length = ps.length from hl.trans (hlen x)]; exact a.start)
    exact z _ (fun _ _ h => h) (wp_mono q (fun b _ q1 v G' H' po ex _ r => q1 v G' H' ex po (fun i ad q e => absurd e (hno x i ad q)) r) fun e _ q1 c d σ' G' H' po ex k => q1 c d G' H' ex po k)
/-- the parameter i is changed -/
def io1 (r : Addr) (qp : S → Po) : S → Hp → Hp → Prop := fun s G H => G r = none ∧ ∃ o, H r = some o ∧ (qp s).q G o
theorem io1_at {M : Addr → Prop} {G0 H0 G H : Hp} {Γ : Gam} {σ : L2.St} {i : Nat} {r : Addr} {qp : S → Po} {s : S} (a : At M G0 H0 Γ G H σ) (h : Γ[i]? = some (Sl.ow (some r) (qp s))) : io1 r qp s G H := by
  obtain ⟨l, o, _, e2, e3, e4, _, e6⟩ := a.slot i _ h
  have := e6 r rfl
  subst this
  exact ⟨e2, o, e3, e4⟩
theorem fn_ok1 (i : Nat) {qp : S → Po} {par : α → S → Gam} {m : α → StM S β} {res : β → Sl} (F : Fun K x qual st f fd) (Sc : FnScope N ps (defScope st)) (hlen : ∀ x s, (par x s).length = ps.length)
    (hi : ∀ x s, (par x s)[i]? = some (Sl.ow none (qp s))) (hno : ∀ x s (j : Nat) (a : Option Addr) (p : Po), (par x s)[j]? = some (Sl.ow a p) → j = i)
    (hb : ∀ (cdv : Value) (A : Around) (outer : List PySem.Env) (s : Shared) (H : Hp) (E : XK) (x : α) (r : Addr), Room k (cx P wd K mg base N qual st f cdv A outer s H E).A →
      BlkR (cx P wd K mg base N qual st f cdv A outer s H E) (wE ca E) (fun a => a = r) (io1 r qp) (fun u => (par x u).set i (Sl.ow (some r) (qp u)) ++ uns (N.length - ps.length)) (defBody st) (m x) res) : FnOk P wd K mg base (L2.CX P wd) (k + 1) f fd ps (SpOf K ca par m res) := by
  refine F.okX Sc (fun vs H Q E h => ?_) (fun cdv A outer s H vs Q E hr h => ?_)
  · obtain ⟨x, u, G, a, _⟩ := h
    have := a.len
    rw [List.length_map] at this
    rw [this]; exact hlen x u
  · obtain ⟨x, u, G, a, q⟩ := h
    obtain ⟨r, o, z1, z2, z3, z4, _⟩ := a.slot i _ (hi x u)
    have hv : vs[i]? = some (V.ref r) := get_some z1
    have hM : OwnA (par x u) (vs.map some) = fun y => y = r := by
      funext l
      refine propext ⟨fun ⟨j, ad, q, e1, e2⟩ => ?_, fun h => ?_⟩
      · have := hno x u j ad q e1
        subst this
        rw [z1] at e2
        cases e2; rfl
      · subst h
        exact ⟨i, none, qp u, hi x u, z1⟩
    rw [hM] at a q
    have hl := a.len
    rw [List.length_map] at hl
    have hlt : i < (par x u).length := (List.getElem?_eq_some_iff.mp (hi x u)).1
    have a2 : At (fun y => y = r) G H ((par x u).set i (Sl.ow (some r) (qp u))) G H (vs.map some) := by
      have tr : ∀ {j : Nat} {y : Option Addr} {p : Po}, ((par x u).set i (Sl.ow (some r) (qp u)))[j]? = some (Sl.ow y p) → j = i := fun {j y p} e => by
        by_cases hj : i = j
        · exact hj.symm
        · rw [List.getElem?_set_ne hj] at e
          exact hno x u j y p e
      refine ⟨by rw [List.length_set]; exact a.len, a.sub, a.post, a.mt, fun j s e => ?_, fun j k y z p q l e1 e2 _ _ => (tr e1).trans (tr e2).symm⟩
      by_cases hj : i = j
      · subst hj
        rw [List.getElem?_set_self hlt] at e
        cases e
        exact ⟨r, o, z1, z2, z3, z4, .inl rfl, fun r' e => by cases e; rfl⟩
      · rw [List.getElem?_set_ne hj] at e
        exact a.slot j s e
    refine ⟨_, pss_sb, ?_⟩
    have z := hb cdv A outer s H E x r hr G H G H (start N vs) u (by rw [start_eq, show vs.length = ps.length from hl.trans (hlen x u)]; exact a2.start)
    exact z _ (wp_mono q (fun b s' q1 v G' H' po ex io r' => q1 v G' H' ex po (fun j ad q e => by
      have := hno x s' j ad q e
      subst this
      rw [hi x s'] at e
      cases e
      obtain ⟨w1, o2, w2, w3⟩ := io
      exact ⟨r, o2, hv, w1, w2, w3⟩) r') fun e _ q1 c d σ' G' H' po ex k => q1 c d G' H' ex po k)
end
end L3

namespace L3
open PySem PySem.Spec PyProof.Rows L2

/-! ### the invariant behind an expression -/
def Ivd (X : Cx) (σ : L2.St) (H : Hp) : Prop := ∃ (pins : List (Addr × Obj)) (s : Shared), Inv X pins σ H s
theorem SE.iv {X : Cx} {e : Expr} {σ : L2.St} {H : Hp} {Q : VK} (h : SE X e σ H fun v H' => Ivd X σ H' → Q v H') : SE X e σ H Q := fun pins s I =>
  thn (h pins s I) fun u s' ⟨v, H', I', r, q⟩ => ⟨v, H', I', r, q ⟨_, _, I'⟩⟩
theorem SA.iv {X : Cx} {es : List Expr} {σ : L2.St} {H : Hp} {Q : List V → Hp → Prop} (h : SA X es σ H fun v H' => Ivd X σ H' → Q v H') : SA X es σ H Q := fun pos pins s I =>
  thn (h pos pins s I) fun u s' ⟨v, H', I', r, q⟩ => ⟨v, H', I', r, q ⟨_, _, I'⟩⟩
theorem Ivd.ls {X : Cx} {σ : L2.St} {H : Hp} {a : Addr} {xs : List V} (h : Ivd X σ H) (q : SqL X.K H a xs) : xs.length ≤ sizeLine := by
  obtain ⟨p, s, I⟩ := h
  exact (I.list q).choose_spec.2.2
theorem Ivd.tp {X : Cx} {σ : L2.St} {H : Hp} {a : Addr} {xs : List V} (h : Ivd X σ H) (q : SqT X.K H a xs) : xs.length ≤ sizeLine := by
  obtain ⟨p, s, I⟩ := h
  exact (I.tuple q).choose_spec.2.2
theorem Ivd.injL {X : Cx} {σ : L2.St} {H : Hp} {a : Addr} {xs ys : List V} (h : Ivd X σ H) (q : SqL X.K H a xs) (q' : SqL X.K H a ys) : xs = ys := by
  obtain ⟨p, s, I⟩ := h
  exact I.list_inj q q'

/-! ### what is walked -/
structure Wlk {α : Type} (J : It) (xs : List α) (p : α → Pv) (Gb : Hp) : Prop where
  sz : xs.length ≤ sizeLine
  stop : ∀ (i : Nat) G1 H1, Ex Gb G1 → Ex G1 H1 → xs.length ≤ i → J.stop i H1
  go : ∀ (i : Nat) (x : α) G1 H1, Ex Gb G1 → Ex G1 H1 → xs[i]? = some x → J.go i H1 ∧ ∀ v H2, J.yld i H1 v H2 → ∃ G2, Grow G1 H1 G2 H2 ∧ (p x).p G2 v
section
variable {S T ρ α β γ δ : Type} {X : Cx} {w : Env1} {M : Addr → Prop} {io : S → Hp → Hp → Prop} {Γ : S → Gam}
def WalkE (X : Cx) (w : Env1) (Γ : S → Gam) (tg iter : Expr) (m : StM S (List α)) (p : α → Pv) : Prop := ∃ wi, PI X tg iter wi ∧ ∀ M G0 H0 G H σ s, At M G0 H0 (Γ s) G H σ → ∀ R : It → Hp → Prop,
  (m s).wp (fun xs s' => ∀ J G' H', At M G0 H0 (Γ s') G' H' σ → Step (Γ s) (Γ s') σ G H G' H' → Wlk J xs p G' → R J H') (ExcK X w Γ M G0 H0 σ) → wi σ H R
/-- a target: what is assigned, of a value of which p is known; js: the slots that change -/
def Tgt (g : TG) (p : Pv) (u : Gam → Gam) (js : List Nat) : Prop := ∀ M G0 H0 (Γ : Gam) G H σ v, At M G0 H0 Γ G H σ → p.p G v → ∀ Q : L2.St → Hp → Prop, (∀ σ', At M G0 H0 (u Γ) G H σ' → (∀ i, i ∉ js → σ'[i]? = σ[i]?) → σ'.length = σ.length → Q σ' H) → g v σ H Q
theorem tgt_name (j : Nat) {p : Pv} : Tgt (gName j) p (fun Γ => Γ.set j (Sl.im p)) [j] := fun M G0 H0 Γ G H σ v at_ r Q q =>
  q _ (at_.set_ r (Grow.refl at_.sub) trivial) (fun i hi => by
    rw [List.getElem?_set_ne]
    rintro rfl
    exact hi List.mem_cons_self) (by rw [List.length_set])
/-- a pair of names -/
theorem tgt_2 {K : PySem.W.Frag} (j k : Nat) {d e : U} : Tgt (gTup K 2 (gCons (gName j) (gCons (gName k) gNil))) (isD K (.tuple [d, e])) (fun Γ => (Γ.set j (Sl.im (isD K d))).set k (Sl.im (isD K e))) [j, k] := fun M G0 H0 Γ G H σ v at_ r Q q => by
  cases r with
  | tup hs ha =>
    cases ha with
    | cons h1 ha =>
      cases ha with
      | cons h2 ha =>
        cases ha
        refine ⟨_, _, rfl, sqT_ex at_.sub hs, rfl, _, _, rfl, _, _, rfl, rfl, ?_⟩
        have a1 := at_.set_ (i := j) (s := Sl.im (isD K d)) h1 (Grow.refl at_.sub) trivial
        have a2 := a1.set_ (i := k) (s := Sl.im (isD K e)) h2 (Grow.refl at_.sub) trivial
        refine q _ a2 (fun i hi => ?_) (by simp)
        rw [List.getElem?_set_ne, List.getElem?_set_ne]
        · rintro rfl; exact hi List.mem_cons_self
        · rintro rfl; exact hi (List.mem_cons_of_mem _ List.mem_cons_self)
/-- three names -/
theorem tgt_3 {K : PySem.W.Frag} (j k l : Nat) {d e f : U} : Tgt (gTup K 3 (gCons (gName j) (gCons (gName k) (gCons (gName l) gNil)))) (isD K (.tuple [d, e, f])) (fun Γ => ((Γ.set j (Sl.im (isD K d))).set k (Sl.im (isD K e))).set l (Sl.im (isD K f))) [j, k, l] := fun M G0 H0 Γ G H σ v at_ r Q q => by
  cases r with
  | tup hs ha =>
    cases ha with
    | cons h1 ha =>
      cases ha with
      | cons h2 ha =>
        cases ha with
        | cons h3 ha =>
          cases ha
          refine ⟨_, _, rfl, sqT_ex at_.sub hs, rfl, _, _, rfl, _, _, rfl, _, _, rfl, rfl, ?_⟩
          have a1 := at_.set_ (i := j) (s := Sl.im (isD K d)) h1 (Grow.refl at_.sub) trivial
          have a2 := a1.set_ (i := k) (s := Sl.im (isD K e)) h2 (Grow.refl at_.sub) trivial
          have a3 := a2.set_ (i := l) (s := Sl.im (isD K f)) h3 (Grow.refl at_.sub) trivial
          refine q _ a3 (fun i hi => ?_) (by simp)
          rw [List.getElem?_set_ne, List.getElem?_set_ne, List.getElem?_set_ne]
          · rintro rfl; exact hi List.mem_cons_self
          · rintro rfl; exact hi (List.mem_cons_of_mem _ List.mem_cons_self)
          · rintro rfl; exact hi (List.mem_cons_of_mem _ (List.mem_cons_of_mem _ List.mem_cons_self))
/-! ### for -/
theorem f_for {tg iter : Expr} {body : List Stmt} {pos : Pos} {m : StM S (List α)} {p : α → Pv} {g : TG} {u : α → Gam → Gam} {js : List Nat} {Γl : T → S → Gam} {fb : α → T → StM S (Fl T ρ)} {R : ρ → Sl} (t0 : T) (hp : PassesOwn (model X.prog X.w) X.A X.env X.xe) (hc : X.calm = true)
    (hw : WalkE X w Γ tg iter m p) (hg : PG X tg g) (ht : ∀ x, Tgt g (p x) (u x) js) (h0 : ∀ s, Wk (Γ s) (Γl t0 s)) (hb : ∀ x t, BlkN X w M io (fun s => u x (Γl t s)) body (fb x t) Γl R) (hs : ∀ x, foldedSetIterable iter X.env x = pure x := by intro _; rfl) :
    StmF X w M io Γ (.For tg iter body [] pos) (.bind m fun xs => forM fb xs t0) Γl R := fun G0 H0 G H σ s at_ D q => by
  obtain ⟨wi, hi, hwi⟩ := hw
  refine SS.of (ps_for hp hc hi hg pss_sb hs) (hwi M G0 H0 G H σ s at_ _ (wp_mono (wp_bind.mp q) (fun xs s1 q1 J G1 H1 a1 st1 wk => ?_) fun e s h => exb_k e s h))
  refine ⟨fun i n σ2 H2 => n = xs.length - i ∧ i ≤ xs.length ∧ ∃ t s2 G2, Ex G1 G2 ∧ At M G0 H0 (Γl t s2) G2 H2 σ2 ∧ (forM fb (xs.drop i) t s2).wp (FlK M io Γl R G0 H0 G2 D) (ExB X w M G0 H0),
    ⟨xs.length, by omega, Nat.zero_le _, t0, s1, G1, Ex.refl _, a1.weak (h0 s1), wp_mono q1 (fun o s2 h => h.ex st1.post.1) fun _ _ h => h⟩, ?_⟩
  rintro i n σ2 H2 ⟨rfl, hi, t, s2, G2, ex, a2, q2⟩
  by_cases hlt : i < xs.length
  · rw [List.drop_eq_getElem_cons hlt] at q2
    have hx : xs[i]? = some xs[i] := List.getElem?_eq_getElem hlt
    obtain ⟨hgo, hy⟩ := wk.go i xs[i] G2 H2 ex a2.sub hx
    refine .inr ⟨hgo, fun σ3 H3 => ∃ t s3 G3, Ex G1 G3 ∧ At M G0 H0 (Γl t s3) G3 H3 σ3 ∧ (forM fb (xs.drop (i + 1)) t s3).wp (FlK M io Γl R G0 H0 G3 D) (ExB X w M G0 H0), fun σ3 H3 h => ⟨xs.length - (i + 1), by omega, rfl, hlt, h⟩, fun v H3 y => ?_⟩
    obtain ⟨G3, gr, pv⟩ := hy v H3 y
    refine ht xs[i] M G0 H0 _ G3 H3 σ2 v (a2.grow gr) pv _ fun σ4 a4 _ _ => ?_
    refine hb xs[i] t G0 H0 G3 H3 σ4 s2 a4 _ (wp_mono (wp_bind.mp q2) (fun o s4 q4 => ?_) fun _ _ h => h)
    cases o with
    | nx t' => exact fun σ' G' H' a e => ⟨t', s4, G', (ex.trans gr.ex).trans e, a, wp_mono q4 (fun o s5 h => h.ex (gr.ex.trans e)) fun _ _ h => h⟩
    | ct t' => exact fun σ' G' H' a e => ⟨t', s4, G', (ex.trans gr.ex).trans e, a, wp_mono q4 (fun o s5 h => h.ex (gr.ex.trans e)) fun _ _ h => h⟩
    | bk t' => exact fun σ' G' H' a e => q4 σ' G' H' a (gr.ex.trans e)
    | ret r => exact q4
  · have e : i = xs.length := by omega
    subst e
    rw [List.drop_length] at q2
    exact .inl ⟨wk.stop _ G2 H2 ex a2.sub (Nat.le_refl _), q2 σ2 G2 H2 a2 (Ex.refl _)⟩
/-! ### while: fuel in the mirror -/
theorem f_while {c : Expr} {body : List Stmt} {pos : Pos} {Γl : T → S → Gam} {mc : T → StM S Bool} {fb : T → StM S (Fl T ρ)} {R : ρ → Sl} (t0 : T) (fuel : Nat) (hp : PassesOwn (model X.prog X.w) X.A X.env X.xe)
    (h0 : ∀ s, Wk (Γ s) (Γl t0 s)) (hc : ∀ t, TeE X w (Γl t) c (mc t)) (hb : ∀ t, BlkN X w M io (Γl t) body (fb t) Γl R) :
    StmF X w M io Γ (.While c body [] pos) (whileM mc fb fuel t0) Γl R := fun G0 H0 G H σ s at_ D q => by
  refine SS.of (ps_while hp pt_st pss_sb) ⟨fun n σ2 H2 => ∃ t s2 G2, Ex G G2 ∧ At M G0 H0 (Γl t s2) G2 H2 σ2 ∧ (whileM mc fb n t s2).wp (FlK M io Γl R G0 H0 G2 D) (ExB X w M G0 H0),
    ⟨fuel, t0, s, G, Ex.refl _, at_.weak (h0 s), q⟩, ?_⟩
  rintro n σ2 H2 ⟨t, s2, G2, ex, a2, q2⟩
  cases n with
  | zero => exact q2.elim
  | succ n =>
    refine hc t M G0 H0 G2 H2 σ2 s2 a2 _ (wp_mono (wp_bind.mp q2) (fun b s3 q3 G3 H3 a3 st3 => ?_) fun e s h => exb_k e s h)
    cases b with
    | true =>
      rw [if_pos rfl] at q3
      rw [if_pos rfl]
      refine ⟨fun σ4 H4 => ∃ t s4 G4, Ex G G4 ∧ At M G0 H0 (Γl t s4) G4 H4 σ4 ∧ (whileM mc fb n t s4).wp (FlK M io Γl R G0 H0 G4 D) (ExB X w M G0 H0), fun σ4 H4 h => ⟨n, Nat.lt_succ_self n, h⟩, ?_⟩
      refine hb t G0 H0 G3 H3 σ2 s3 a3 _ (wp_mono (wp_bind.mp q3) (fun o s4 q4 => ?_) fun _ _ h => h)
      have e3 := st3.post.1
      cases o with
      | nx t' => exact fun σ' G' H' a e => ⟨t', s4, G', (ex.trans e3).trans e, a, wp_mono q4 (fun o s5 h => h.ex (e3.trans e)) fun _ _ h => h⟩
      | ct t' => exact fun σ' G' H' a e => ⟨t', s4, G', (ex.trans e3).trans e, a, wp_mono q4 (fun o s5 h => h.ex (e3.trans e)) fun _ _ h => h⟩
      | bk t' => exact fun σ' G' H' a e => q4 σ' G' H' a (e3.trans e)
      | ret r => exact q4
    | false =>
      rw [if_neg Bool.false_ne_true] at q3
      rw [if_neg Bool.false_ne_true]
      exact q3 σ2 G3 H3 a3 st3.post.1
end
/-! ### comprehensions -/
section
variable {S α β γ δ : Type} {X : Cx} {w : Env1} {Γ : S → Gam}
def wipeΓ (Γ : Gam) : List Nat → Gam
  | [] => Γ
  | v :: vs => (wipeΓ Γ vs).set v Sl.un
theorem At.unset {M : Addr → Prop} {G0 H0 G H : Hp} {Γ : Gam} {σ : L2.St} (a : At M G0 H0 Γ G H σ) (j : Nat) : At M G0 H0 (Γ.set j Sl.un) G H (σ.set j none) := by
  have tr : ∀ {k : Nat} {s : Sl}, (Γ.set j Sl.un)[k]? = some s → s ≠ Sl.un → j ≠ k ∧ Γ[k]? = some s := fun {k s} e hn => by
    by_cases hk : j = k
    · subst hk
      by_cases hl : j < Γ.length
      · rw [List.getElem?_set_self hl] at e
        exact absurd (Option.some.inj e).symm hn
      · rw [List.getElem?_eq_none (by rw [List.length_set]; omega)] at e
        cases e
    · rw [List.getElem?_set_ne hk] at e
      exact ⟨hk, e⟩
  refine ⟨by rw [List.length_set, List.length_set]; exact a.len, a.sub, a.post, a.mt, fun k s e => ?_, fun i k x y p q l e1 e2 e3 e4 => ?_⟩
  · cases s with
    | un => trivial
    | im p => obtain ⟨hk, e'⟩ := tr e (fun z => nomatch z); rw [List.getElem?_set_ne hk]; exact a.slot k _ e'
    | ow ad p => obtain ⟨hk, e'⟩ := tr e (fun z => nomatch z); rw [List.getElem?_set_ne hk]; exact a.slot k _ e'
    | bo b => obtain ⟨hk, e'⟩ := tr e (fun z => nomatch z); rw [List.getElem?_set_ne hk]; exact a.slot k _ e'
  · obtain ⟨h1, f1⟩ := tr e1 (fun z => nomatch z)
    obtain ⟨h2, f2⟩ := tr e2 (fun z => nomatch z)
    rw [List.getElem?_set_ne h1] at e3
    rw [List.getElem?_set_ne h2] at e4
    exact a.dist i k x y p q l f1 f2 e3 e4
theorem At.wipe {M : Addr → Prop} {G0 H0 G H : Hp} {Γ : Gam} {σ : L2.St} (a : At M G0 H0 Γ G H σ) : ∀ vs : List Nat, At M G0 H0 (wipeΓ Γ vs) G H (L2.wipe σ vs)
  | [] => a
  | v :: vs => (At.wipe a vs).unset v
theorem wipe_same {σ σ' : L2.St} (hl : σ'.length = σ.length) : ∀ {vs : List Nat}, (∀ i, i ∉ vs → σ'[i]? = σ[i]?) → L2.wipe σ' vs = L2.wipe σ vs := by
  intro vs h
  have key : ∀ (vs : List Nat) (τ : L2.St) (i : Nat), (L2.wipe τ vs)[i]? = if i ∈ vs then (if i < τ.length then some none else none) else τ[i]? := by
    intro vs
    induction vs with
    | nil => intro τ i; simp [L2.wipe]
    | cons v vs ih =>
      intro τ i
      unfold L2.wipe
      by_cases hi : v = i
      · subst hi
        rw [if_pos List.mem_cons_self]
        by_cases hl : v < τ.length
        · rw [if_pos hl, List.getElem?_set_self (by rw [L2.wipe_length]; exact hl)]
        · rw [if_neg hl, List.getElem?_eq_none (by rw [List.length_set, L2.wipe_length]; omega)]
      · rw [List.getElem?_set_ne hi, ih τ i]
        by_cases hm : i ∈ vs
        · rw [if_pos hm, if_pos (List.mem_cons_of_mem _ hm)]
        · rw [if_neg hm, if_neg]
          intro z
          rcases List.mem_cons.mp z with z | z
          · exact hi z.symm
          · exact hm z
  apply List.ext_getElem?
  intro i
  rw [key, key, hl]
  by_cases hm : i ∈ vs
  · rw [if_pos hm, if_pos hm]
  · rw [if_neg hm, if_neg hm]; exact h i hm
abbrev noW (w : Env1) : Env1 := ⟨fun _ _ _ _ => False, w.ca⟩
/-- the block's context -/
abbrev bx (X : Cx) (s : Shared) (H : Hp) (scope : Scope) (C : Addr) (cl : List (Str × Addr)) (fp : List Addr) : Cx := X.blk s H scope (compEnvC scope cl C X.env) fp
/-- a comprehension's tests -/
def TtE {S α : Type} (X : Cx) (w : Env1) (scope : Scope) (Γ : α → S → Gam) (f : α → StM S Bool) : List Expr → Prop
  | [] => ∀ x, f x = .pure true
  | [c] => ∀ s H C cl fp x, TeE (bx X s H scope C cl fp) w (Γ x) c (f x)
  | _ => False
def SAll (X : Cx) (scope : Scope) (e : Expr) : TE := fun σ H Q => ∀ (s : Shared) (H2 : Hp) (C : Addr) (cl : List (Str × Addr)) (fp : List Addr), SE (bx X s H2 scope C cl fp) e σ H Q
def STAll (X : Cx) (scope : Scope) : List Expr → TT
  | [c] => fun σ H Q => ∀ (s : Shared) (H2 : Hp) (C : Addr) (cl : List (Str × Addr)) (fp : List Addr), ST (bx X s H2 scope C cl fp) c σ H Q
  | _ => fun _ H Q => Q true H
theorem wipeΓ_in {Γ : Gam} {i : Nat} : ∀ {vs : List Nat}, i ∈ vs → ∀ s, (wipeΓ Γ vs)[i]? = some s → s = Sl.un
  | v :: vs, h, s, e => by
    unfold wipeΓ at e
    by_cases hi : v = i
    · subst hi
      by_cases hl : v < (wipeΓ Γ vs).length
      · rw [List.getElem?_set_self hl] at e; exact (Option.some.inj e).symm
      · rw [List.getElem?_eq_none (by rw [List.length_set]; omega)] at e; cases e
    · rw [List.getElem?_set_ne hi] at e
      rcases List.mem_cons.mp h with z | z
      · exact absurd z.symm hi
      · exact wipeΓ_in z s e
theorem wipeΓ_out {Γ : Gam} {i : Nat} : ∀ {vs : List Nat}, i ∉ vs → (wipeΓ Γ vs)[i]? = Γ[i]?
  | [], _ => rfl
  | v :: vs, h => by
    unfold wipeΓ
    rw [List.getElem?_set_ne (fun z => h (by rw [z]; exact List.mem_cons_self))]
    exact wipeΓ_out fun z => h (List.mem_cons_of_mem _ z)
theorem wipeΓ_len {Γ : Gam} : ∀ {vs : List Nat}, (wipeΓ Γ vs).length = Γ.length
  | [] => rfl
  | v :: vs => by unfold wipeΓ; rw [List.length_set]; exact wipeΓ_len
theorem wipe_idem {σ : L2.St} {vs : List Nat} : L2.wipe (L2.wipe σ vs) vs = L2.wipe σ vs := wipe_same (L2.wipe_length σ vs) fun i hi => L2.wipe_out hi
/-- an object that no slot owns and that is not frozen may change -/
theorem At.other {M : Addr → Prop} {G0 H0 G H : Hp} {Γ : Gam} {σ : L2.St} {D : Addr} {o : HO} (a : At M G0 H0 Γ G H σ) (hG : G D = none) (h0 : H0 D = none) (hO : ¬ OwnA Γ σ D) : At M G0 H0 Γ G (upd H D o) σ := by
  refine ⟨a.len, fun b u e => ?_, ⟨a.post.1, fun b u e hb => ?_⟩, fun b hb => ?_, fun i s e => ?_, a.dist⟩
  · rw [upd_ne (ne_of_none e hG)]; exact a.sub b u e
  · rw [upd_ne (ne_of_none e h0)]; exact a.post.2 b u e hb
  · by_cases z : b = D
    · subst z; exact ⟨o, upd_same⟩
    · rw [upd_ne z]; exact a.mt b hb
  · have z := a.slot i s e
    cases s with
    | un => trivial
    | im p => exact z
    | ow ad q =>
      obtain ⟨l, o2, z1, z2, z3, z4⟩ := z
      refine ⟨l, o2, z1, z2, ?_, z4⟩
      rw [upd_ne]
      · exact z3
      · rintro rfl
        exact hO ⟨i, ad, q, e, z1⟩
    | bo b => exact z
/-- from within a block to around it -/
theorem At.around {M : Addr → Prop} {G0 H0 G H G' H' : Hp} {Γ Γ' Γi : Gam} {σ σi : L2.St} {vs : List Nat} (a : At M G0 H0 Γ G H σ) (b : At M G0 H0 Γi G' H' σi) (ex : Ex G G') (hl : Γ'.length = Γ.length)
    (hout : ∀ i, i ∉ vs → Γi[i]? = Γ'[i]? ∧ σi[i]? = σ[i]?) (hin : ∀ i ∈ vs, Γ'[i]? = Γ[i]? ∧ (Γ[i]? = some Sl.un ∨ ∃ p, Γ[i]? = some (Sl.im p))) : At M G0 H0 Γ' G' H' σ := by
  have ow : ∀ {i : Nat} {ad : Option Addr} {q : Po}, Γ'[i]? = some (Sl.ow ad q) → i ∉ vs := fun {i ad q} e hi => by
    obtain ⟨e1, e2⟩ := hin i hi
    rw [e1] at e
    rcases e2 with z | ⟨p, z⟩ <;> (rw [e] at z; cases z)
  refine ⟨a.len.trans hl.symm, b.sub, b.post, b.mt, fun i s e => ?_, fun i j x y p q l e1 e2 e3 e4 => ?_⟩
  · by_cases hi : i ∈ vs
    · obtain ⟨e1, e2⟩ := hin i hi
      rw [e1] at e
      have z := a.slot i s e
      rcases e2 with y | ⟨p, y⟩
      · rw [e] at y; cases y; trivial
      · rw [e] at y
        cases y
        obtain ⟨v, z1, z2⟩ := z
        exact ⟨v, z1, p.mono ex z2⟩
    · obtain ⟨e1, e2⟩ := hout i hi
      rw [← e2]
      exact b.slot i s (e1.trans e)
  · have hi := ow e1
    have hj := ow e2
    obtain ⟨f1, g1⟩ := hout i hi
    obtain ⟨f2, g2⟩ := hout j hj
    exact b.dist i j x y p q l (f1.trans e1) (f2.trans e2) (g1.trans e3) (g2.trans e4)
theorem ee_lc {tg iter elt : Expr} {cs : List Expr} {scope : Scope} {own : List (Str × Nat)} {pos : Pos} {m : StM S (List α)} {p : α → Pv} {g : TG} {u : α → Gam → Gam} {js : List Nat} {ft : α → StM S Bool} {fe : α → StM S β} {enc : β → U}
    (hc : X.calm = true) (hN : X.N.Nodup) (hw : WalkE X w Γ tg iter m p) (ok : BlkOk X.N X.env.scope scope own) (hcs : cs.length ≤ 1) (hg : ∀ s H C cl fp, PG (bx X s H scope C cl fp) tg g) (ht : ∀ x, Tgt g (p x) (u x) js) (hj : ∀ i ∈ js, i ∈ own.map (·.2))
    (hsh : ∀ s s', Shp (Γ s) (Γ s')) (hln : ∀ s s', (Γ s).length = (Γ s').length) (hu : ∀ x (Γ : Gam) (i : Nat), i ∉ js → (u x Γ)[i]? = Γ[i]?) (hu2 : ∀ x (Γ : Gam) (i : Nat) ad q, i ∈ js → (u x Γ)[i]? ≠ some (Sl.ow ad q))
    (hin : ∀ s s' (i : Nat), i ∈ own.map (·.2) → (Γ s')[i]? = (Γ s)[i]? ∧ ((Γ s)[i]? = some Sl.un ∨ ∃ p, (Γ s)[i]? = some (Sl.im p)))
    (hT : TtE X (noW w) scope (fun x u' => u x (wipeΓ (Γ u') (own.map (·.2)))) ft cs) (hE : ∀ s H C cl fp x, EvE (bx X s H scope C cl fp) (noW w) (fun u' => u x (wipeΓ (Γ u') (own.map (·.2)))) elt (fe x) fun y => .im (isD X.K (enc y)))
    (hs : ∀ x, foldedSetIterable iter X.env x = pure x := by intro _; rfl) :
    EvE X w Γ (.ListComp elt [⟨tg, iter, cs, 0⟩] scope pos) (.bind m fun xs => .noX (compM ft fe xs [])) fun ys => .ow none (lstO X.K (ys.map enc)) := fun M G0 H0 G H σ s at_ Q q => by
  obtain ⟨wi, hi, hwi⟩ := hw
  generalize hvs : own.map (·.2) = vs at *
  have htt : ∀ (s : Shared) (H : Hp) (C : Addr) (cl : List (Str × Addr)) (fp : List Addr), PTs (bx X s H scope C cl fp) cs (STAll X scope cs) := fun s H C cl fp => by
    match cs, hcs with
    | [], _ => exact pts_nil
    | [c], _ => exact pts_one ⟨fun pins s' σ' H' Q' I h => h s H C cl fp pins s' I⟩
  have hee : ∀ (s : Shared) (H : Hp) (C : Addr) (cl : List (Str × Addr)) (fp : List Addr), PE (bx X s H scope C cl fp) elt (SAll X scope elt) := fun s H C cl fp => ⟨fun pins s' σ' H' Q' I h => h s H C cl fp pins s' I⟩
  refine SE.of (pe_lc hc hN hi ok hg htt hee hs) ?_
  rw [hvs]
  refine hwi M G0 H0 G H σ s at_ _ (wp_mono (wp_bind.mp q) (fun xs s1 q1 J G1 H1 a1 st1 wk D hD => ?_) fun _ _ h => h)
  have f0 := a1.fresh hD
  have hH : H D = none := st1.fresh a1 hD
  have nO : ∀ s', ¬ OwnA (Γ s') σ D := fun s' z => by
    obtain ⟨o, y⟩ := OwnA.ne a1 ((hsh s1 s').own z)
    rw [hD] at y; cases y
  have gD : G1 D = none := Ex.back a1.sub hD
  have q2 := wp_noX q1
  -- within and around
  have inOwn : ∀ {x : α} {s' : S} {σ3 : L2.St} {l : Addr}, (∀ i, i ∉ js → σ3[i]? = (L2.wipe σ vs)[i]?) → OwnA (u x (wipeΓ (Γ s') vs)) σ3 l → OwnA (Γ s') σ l := fun {x s' σ3 l} h3 ⟨i, ad, qq, e1, e2⟩ => by
    by_cases hij : i ∈ js
    · exact absurd e1 (hu2 x _ i ad qq hij)
    · rw [hu x _ i hij] at e1
      have hiv : i ∉ vs := fun z => by cases wipeΓ_in z _ e1
      rw [wipeΓ_out hiv] at e1
      rw [h3 i hij, L2.wipe_out hiv] at e2
      exact ⟨i, ad, qq, e1, e2⟩
  have out : ∀ {x : α} {s' s2 : S} {σ3 : L2.St} {Ga Ha Gb Hb : Hp}, (∀ i, i ∉ js → σ3[i]? = (L2.wipe σ vs)[i]?) → At M G0 H0 (Γ s') Ga Ha σ → At M G0 H0 (u x (wipeΓ (Γ s2) vs)) Gb Hb σ3 → Ex Ga Gb → At M G0 H0 (Γ s2) Gb Hb σ := fun {x s' s2 σ3 Ga Ha Gb Hb} h3 a b ex =>
    At.around (vs := vs) a b ex (hln s2 s') (fun i hiv => by
      have hij : i ∉ js := fun z => hiv (hj i z)
      exact ⟨by rw [hu x _ i hij, wipeΓ_out hiv], by rw [h3 i hij, L2.wipe_out hiv]⟩) fun i hiv => hin s' s2 i hiv
  refine ⟨fun i n H2 => n = xs.length - i ∧ i ≤ xs.length ∧ ∃ s2 G2 acc us, At M G0 H0 (Γ s2) G2 H2 σ ∧ Post (OwnA (Γ s1) σ) G1 H1 G2 H2 ∧ G2 D = none ∧ H2 D = some (.lst us) ∧ DqAll X.K G2 us (acc.map enc) ∧ acc.length ≤ i ∧
    (compM ft fe (xs.drop i) acc s2).wp (fun b s' => ∀ v G' H', At M G0 H0 (Γ s') G' H' σ → Step (Γ s) (Γ s') σ G H G' H' → Rok (.ow none (lstO X.K (b.map enc))) H G' H' v → Q v H') (fun _ _ => False),
    ⟨xs.length, by omega, Nat.zero_le _, s1, G1, [], [], a1.other gD f0.1 (nO s1), (Grow.new a1.sub hD).1.mono (fun _ z => z.elim), gD, upd_same, .nil, Nat.zero_le _, q2⟩, ?_⟩
  rintro i n H2 ⟨rfl, hi2, s2, G2, acc, us, a2, po2, gd2, hd2, dq2, hacc, q3⟩
  by_cases hlt : i < xs.length
  · rw [List.drop_eq_getElem_cons hlt] at q3
    have hx : xs[i]? = some xs[i] := List.getElem?_eq_getElem hlt
    obtain ⟨hgo, hy⟩ := wk.go i xs[i] G2 H2 po2.1 a2.sub hx
    refine .inr ⟨hgo, fun H3 => ∃ s3 G3 acc us, At M G0 H0 (Γ s3) G3 H3 σ ∧ Post (OwnA (Γ s1) σ) G1 H1 G3 H3 ∧ G3 D = none ∧ H3 D = some (.lst us) ∧ DqAll X.K G3 us (acc.map enc) ∧ acc.length ≤ i + 1 ∧
      (compM ft fe (xs.drop (i + 1)) acc s3).wp (fun b s' => ∀ v G' H', At M G0 H0 (Γ s') G' H' σ → Step (Γ s) (Γ s') σ G H G' H' → Rok (.ow none (lstO X.K (b.map enc))) H G' H' v → Q v H') (fun _ _ => False), fun H3 h => ⟨xs.length - (i + 1), by omega, rfl, hlt, h⟩, fun v H3 y => ?_⟩
    obtain ⟨G3, gr, pv⟩ := hy v H3 y
    have a3 := a2.grow gr
    have d3 := gr.1.2 D _ hd2 fun z => z
    refine ht xs[i] M G0 H0 _ G3 H3 _ v (a3.wipe vs) pv _ fun σ4 a4 h4 hl4 => ⟨?_, ?_⟩
    · rw [wipe_same hl4 (vs := vs) fun k hk => h4 k fun z => hk (hj k z)]
      exact wipe_idem
    · have stepT : (ft xs[i] s2).wp (fun b s5 => ∀ G5 H5, At M G0 H0 (u xs[i] (wipeΓ (Γ s5) vs)) G5 H5 σ4 → Post (OwnA (Γ s2) σ) G3 H3 G5 H5 →
          if b = true then SAll X scope elt σ4 H5 (fun yv H6 => ∃ acc', H6 D = some (.lst acc') ∧ acc'.length < sizeLine ∧ ∃ s3 G3 acc us, At M G0 H0 (Γ s3) G3 (upd H6 D (.lst (acc' ++ [yv]))) σ ∧ Post (OwnA (Γ s1) σ) G1 H1 G3 (upd H6 D (.lst (acc' ++ [yv]))) ∧ G3 D = none ∧ (upd H6 D (.lst (acc' ++ [yv]))) D = some (.lst us) ∧ DqAll X.K G3 us (acc.map enc) ∧ acc.length ≤ i + 1 ∧
            (compM ft fe (xs.drop (i + 1)) acc s3).wp (fun b s' => ∀ v G' H', At M G0 H0 (Γ s') G' H' σ → Step (Γ s) (Γ s') σ G H G' H' → Rok (.ow none (lstO X.K (b.map enc))) H G' H' v → Q v H') (fun _ _ => False))
          else ∃ s3 G3 acc us, At M G0 H0 (Γ s3) G3 H5 σ ∧ Post (OwnA (Γ s1) σ) G1 H1 G3 H5 ∧ G3 D = none ∧ H5 D = some (.lst us) ∧ DqAll X.K G3 us (acc.map enc) ∧ acc.length ≤ i + 1 ∧
            (compM ft fe (xs.drop (i + 1)) acc s3).wp (fun b s' => ∀ v G' H', At M G0 H0 (Γ s') G' H' σ → Step (Γ s) (Γ s') σ G H G' H' → Rok (.ow none (lstO X.K (b.map enc))) H G' H' v → Q v H') (fun _ _ => False)) (fun _ _ => False) := by
        refine wp_mono (wp_bind.mp q3) (fun b s5 q5 G5 H5 a5 po5 => ?_) fun _ _ h => h
        have d5 := po5.2 D _ d3.1 (nO s2)
        have po35 : Post (OwnA (Γ s1) σ) G1 H1 G5 H5 := (po2.trans gr.1 fun _ _ _ z => z.elim).trans po5 fun _ _ _ z => (hsh s1 s2).own z
        cases b with
        | true =>
          rw [if_pos rfl] at q5 ⊢
          intro s6 H6 C6 cl6 fp6
          refine hE s6 H6 C6 cl6 fp6 xs[i] M G0 H0 G5 H5 σ4 s5 a5 _ (wp_mono (wp_bind.mp q5) (fun yv s7 q7 v7 G7 H7 a7 st7 r7 => ?_) fun _ _ h => h.elim)
          have nOi : ¬ OwnA (u xs[i] (wipeΓ (Γ s5) vs)) σ4 D := fun z => nO s5 (inOwn h4 z)
          have d7 := st7.post.2 D _ d5.1 nOi
          have ex7 : Ex G2 G7 := (gr.ex.trans po5.1).trans st7.post.1
          have hlen : us.length = acc.length := by have := dpAll_len dq2; rw [List.length_map] at this; exact this
          have po7 : Post (OwnA (Γ s1) σ) G1 H1 G7 H7 := po35.trans st7.post fun _ _ _ z => (hsh s1 s5).own (inOwn h4 z)
          have a7o : At M G0 H0 (Γ s7) G7 H7 σ := out h4 a2 a7 ex7
          have gd7 : G7 D = none := d7.2.trans (d5.2.trans (d3.2.trans gd2))
          refine ⟨us, d7.1, by have := wk.sz; omega, s7, G7, acc ++ [yv], us ++ [v7], a7o.other gd7 f0.1 (nO s7), ⟨po7.1, fun b o e hb => ?_⟩, gd7, upd_same, ?_, by rw [List.length_append]; simp; omega, q7⟩
          · have z := po7.2 b o e hb
            rw [upd_ne (ne_of_none e hD)]
            exact z
          · rw [List.map_append]
            exact dpAll_append (dpAll_ex ex7 _ _ dq2) (.cons r7 .nil)
        | false =>
          rw [if_neg Bool.false_ne_true] at q5 ⊢
          exact ⟨s5, G5, acc, us, out h4 a2 a5 (gr.ex.trans po5.1), po35, d5.2.trans (d3.2.trans gd2), d5.1, dpAll_ex (gr.ex.trans po5.1) _ _ dq2, by omega, q5⟩
      match cs, hcs, hT with
      | [], _, hT =>
        rw [show ft xs[i] = .pure true from hT xs[i]] at stepT
        exact stepT G3 H3 a4 Post.refl
      | [c], _, hT =>
        intro s6 H6 C6 cl6 fp6
        exact hT s6 H6 C6 cl6 fp6 xs[i] M G0 H0 G3 H3 σ4 s2 a4 _ (wp_mono stepT (fun b s5 q5 G5 H5 a5 st5 => q5 G5 H5 a5 (st5.post.mono fun l z => inOwn h4 z)) fun _ _ h => h.elim)
  · have e : i = xs.length := by omega
    subst e
    rw [List.drop_length] at q3
    refine .inl ⟨wk.stop _ G2 H2 po2.1 a2.sub (Nat.le_refl _), q3 (V.ref D) G2 H2 a2 ⟨st1.post.trans po2 fun _ _ _ z => st1.shp.own z, st1.shp.trans (hsh s1 s2)⟩ ⟨D, _, rfl, hH, gd2, hd2, us, rfl, dq2⟩⟩
end
end L3

namespace L3
open PySem PySem.Spec PyProof.Rows L2

section
variable {S α β γ δ : Type} {X : Cx} {w : Env1} {Γ : S → Gam} {l e e2 : Expr} {tg : Expr} {p pos tpos : Pos}
theorem dq_map_get {K : PySem.W.Frag} {H : Hp} {enc : α → U} {vs : List V} {xs : List α} {i : Nat} {x : α} (h : DqAll K H vs (xs.map enc)) (hx : xs[i]? = some x) : ∃ v, vs[i]? = some v ∧ Dq K H v (enc x) :=
  dpAll_get h (by rw [List.getElem?_map, hx]; rfl)
theorem wlk_list {K : PySem.W.Frag} {G : Hp} {a : Addr} {vs : List V} {xs : List α} {enc : α → U} (hz : vs.length ≤ sizeLine) (hs : SqL K G a vs) (hd : DqAll K G vs (xs.map enc)) : Wlk (Itl K a) xs (fun x => isD K (enc x)) G := by
  have hl : vs.length = xs.length := by have := dpAll_len hd; rw [List.length_map] at this; exact this
  refine ⟨by omega, fun i G1 H1 e1 e2 h => ⟨vs, sqL_ex e2 (sqL_ex e1 hs), by omega⟩, fun i x G1 H1 e1 e2 hx => ?_⟩
  obtain ⟨v, hv, hq⟩ := dq_map_get hd hx
  refine ⟨⟨vs, v, sqL_ex e2 (sqL_ex e1 hs), hv⟩, fun v' H2 ⟨eh, y⟩ => ?_⟩
  subst eh
  have := y vs (sqL_ex e2 (sqL_ex e1 hs))
  rw [hv] at this
  cases this
  exact ⟨G1, Grow.refl e2, dp_ex e1 _ _ hq⟩
theorem wk_ls {me : StM S (List α)} {enc : α → U} (h : EvE X w Γ l me fun xs => .im (isD X.K (.list (xs.map enc)))) : WalkE X w Γ tg l me fun x => isD X.K (enc x) :=
  ⟨iList X.K (SE X l), pi_list pe_se, fun M G0 H0 G H σ s at_ R q => SE.iv (h M G0 H0 G H σ s at_ _ (wp_mono q (fun xs s1 q1 v G1 H1 a1 st1 r1 iv => by
    cases r1 with
    | lst hs hd => exact ⟨_, rfl, ⟨_, sqL_ex a1.sub hs⟩, q1 _ G1 H1 a1 st1 (wlk_list (iv.ls (sqL_ex a1.sub hs)) hs hd)⟩) fun _ _ h => h))⟩
theorem wk_tp {me : StM S (List α)} {enc : α → U} (h : EvE X w Γ l me fun xs => .im (isD X.K (.tuple (xs.map enc)))) : WalkE X w Γ tg l me fun x => isD X.K (enc x) :=
  ⟨iTup X.K (SE X l), pi_tup pe_se, fun M G0 H0 G H σ s at_ R q => SE.iv (h M G0 H0 G H σ s at_ _ (wp_mono q (fun xs s1 q1 v G1 H1 a1 st1 r1 iv => by
    cases r1 with
    | @tup a vs _ hs hd =>
      have hl : vs.length = xs.length := by have := dpAll_len hd; rw [List.length_map] at this; exact this
      have hz := iv.tp (sqT_ex a1.sub hs)
      refine ⟨_, rfl, ⟨_, sqT_ex a1.sub hs⟩, q1 _ G1 H1 a1 st1 ⟨by omega, fun i G2 H2 e1 e2 h => ⟨vs, sqT_ex e2 (sqT_ex e1 hs), by omega⟩, fun i x G2 H2 e1 e2 hx => ?_⟩⟩
      obtain ⟨v, hv, hq⟩ := dq_map_get hd hx
      refine ⟨⟨vs, v, sqT_ex e2 (sqT_ex e1 hs), hv⟩, fun v' H3 ⟨eh, y⟩ => ?_⟩
      subst eh
      have := y vs (sqT_ex e2 (sqT_ex e1 hs))
      rw [hv] at this
      cases this
      exact ⟨G2, Grow.refl e2, dp_ex e1 _ _ hq⟩) fun _ _ h => h))⟩
/-- a text, sign by sign -/
def signs (z : Str) : List Str := z.cps.toList.map fun c => ⟨#[c]⟩
def strM (z : Str) : StM S (List Str) := if z.length ≤ sizeLine then .pure (signs z) else .fail
theorem wk_str {me : StM S Str} (h : EvE X w Γ l me fun z => .im (isD X.K (.str z))) : WalkE X w Γ tg l (.bind me strM) fun c => isD X.K (.str c) :=
  ⟨iStr (SE X l), pi_str pe_se, fun M G0 H0 G H σ s at_ R q => h M G0 H0 G H σ s at_ _ (wp_mono (wp_bind.mp q) (fun z s1 q1 v G1 H1 a1 st1 r1 => by
    cases r1 with
    | str _ hok =>
      unfold strM at q1
      split at q1
      case isFalse => exact q1.elim
      case isTrue hz =>
      have hl : (signs z).length = z.cps.size := by simp [signs]
      refine ⟨z, rfl, q1 _ G1 H1 a1 st1 ⟨by rw [hl]; exact hz, fun i G2 H2 _ _ h => by show z.cps.size ≤ i; omega, fun i x G2 H2 e1 e2 hx => ?_⟩⟩
      have hi : i < z.cps.size := by rw [← hl]; exact (List.getElem?_eq_some_iff.mp hx).1
      refine ⟨hi, fun v' H3 ⟨eh, c, hc, ev⟩ => ?_⟩
      subst eh ev
      have hx' : x = ⟨#[c]⟩ := by
        unfold signs at hx
        rw [List.getElem?_map, Array.getElem?_toList, hc] at hx
        cases hx; rfl
      subst hx'
      refine ⟨G2, Grow.refl e2, .str _ ?_⟩
      have hm : c ∈ z.cps := by
        have := Array.getElem?_eq_some_iff.mp hc
        obtain ⟨h1, h2⟩ := this
        rw [← h2]
        exact Array.getElem_mem h1
      have := (Array.all_eq_true_iff_forall_mem.mp hok) c hm
      simpa [PyData.strOk] using this) fun _ _ h => h)⟩
/-- range(n), range(a, b) -/
def rangeL (lo hi : Int) : List Int := (List.range (hi - lo).toNat).map fun (i : Nat) => lo + (i : Int)
def rangeM (lo hi : Int) : StM S (List Int) := if -16777216 ≤ lo ∧ hi ≤ 8388608 ∧ hi - lo ≤ 16777216 ∧ lo ≤ 16777216 ∧ -16777216 ≤ hi then .pure (rangeL lo hi) else .fail
theorem rangeL_len (lo hi : Int) : (rangeL lo hi).length = (hi - lo).toNat := by simp [rangeL]
theorem wlk_range {K : PySem.W.Frag} {G : Hp} {lo hi : Int} (h : hi - lo ≤ 16777216) : Wlk (Itr lo (hi - lo).toNat) (rangeL lo hi) (fun i => isD K (.int i)) G := by
  have hz : sizeLine = 16777216 := sizeLine_eq
  refine ⟨by rw [rangeL_len]; omega, fun i G1 H1 _ _ h => by rw [rangeL_len] at h; exact h, fun i x G1 H1 e1 e2 hx => ?_⟩
  have hi2 : i < (hi - lo).toNat := by rw [← rangeL_len]; exact (List.getElem?_eq_some_iff.mp hx).1
  refine ⟨hi2, fun v H2 ⟨eh, ev⟩ => ?_⟩
  subst eh ev
  have : x = lo + (i : Int) := by
    unfold rangeL at hx
    rw [List.getElem?_map, List.getElem?_range hi2] at hx
    cases hx; rfl
  subst this
  exact ⟨G1, Grow.refl e2, .int _⟩
theorem wk_range1 {me : StM S Int} (hm : X.mg "range" = none) (h : EvE X w Γ e me fun i => .im (isD X.K (.int i))) (hg : Gl X "range" := by rfl) (hs : starEach [e] X.env = [(false, eval e X.env)] := by rfl) (hs2 : starEach [e] X.env = (false, eval e X.env) :: starEach [] X.env := by rfl) :
    WalkE X w Γ tg (.Call (.Name "range" p) [e] [] pos) (.bind me fun n => rangeM 0 n) fun i => isD X.K (.int i) :=
  ⟨iRng1 (SA X [e]), pi_range1 hg hm pa_sa hs, fun M G0 H0 G H σ s at_ R q => SA.of (pa_cons pe_se pa_nil hs2) (h M G0 H0 G H σ s at_ _ (wp_mono (wp_bind.mp q) (fun n s1 q1 v G1 H1 a1 st1 r1 => by
    cases r1
    unfold rangeM at q1
    split at q1
    case isFalse => exact q1.elim
    case isTrue hz =>
    refine ⟨n, rfl, by omega, by omega, ?_⟩
    have := q1 (Itr 0 (n - 0).toNat) G1 H1 a1 st1 (wlk_range (by omega))
    rw [Int.sub_zero] at this
    exact this) fun _ _ h => h))⟩
theorem wk_range2 {ma : StM S Int} {mb : StM S Int} (hm : X.mg "range" = none) (ha : EvE X w Γ e ma fun i => .im (isD X.K (.int i))) (hb : EvE X w Γ e2 mb fun i => .im (isD X.K (.int i))) (hg : Gl X "range" := by rfl)
    (hs : starEach [e, e2] X.env = [(false, eval e X.env), (false, eval e2 X.env)] := by rfl) (hs2 : starEach [e2] X.env = [(false, eval e2 X.env)] := by rfl) (hs3 : starEach [e, e2] X.env = (false, eval e X.env) :: starEach [e2] X.env := by rfl) (hs4 : starEach [e2] X.env = (false, eval e2 X.env) :: starEach [] X.env := by rfl) :
    WalkE X w Γ tg (.Call (.Name "range" p) [e, e2] [] pos) (.bind ma fun a => .bind mb fun b => rangeM a b) fun i => isD X.K (.int i) :=
  ⟨iRng2 (SA X [e, e2]), pi_range2 hg hm pa_sa hs hs2, fun M G0 H0 G H σ s at_ R q => SA.of (pa_cons pe_se (pa_cons pe_se pa_nil hs4) hs3) (ha M G0 H0 G H σ s at_ _ (wp_mono (wp_bind.mp q) (fun a s1 q1 v G1 H1 a1 st1 r1 => hb M G0 H0 G1 H1 σ s1 a1 _ (wp_mono (wp_bind.mp q1) (fun b s2 q2 v2 G2 H2 a2 st2 r2 => by
    cases r1; cases r2
    unfold rangeM at q2
    split at q2
    case isFalse => exact q2.elim
    case isTrue hz => exact ⟨a, b, rfl, ⟨by omega, by omega, by omega, by omega⟩, q2 (Itr a (b - a).toNat) G2 H2 a2 (st1.trans st2) (wlk_range (by omega))⟩) fun _ _ h => h)) fun _ _ h => h))⟩
/-- enumerate(list) -/
def enumL (xs : List α) : List (Int × α) := (List.range xs.length).zip xs |>.map fun p => ((p.1 : Int), p.2)
theorem enumL_len (xs : List α) : (enumL xs).length = xs.length := by simp [enumL]
theorem enumL_get {xs : List α} {i : Nat} {y : Int × α} (h : (enumL xs)[i]? = some y) : y.1 = (i : Int) ∧ xs[i]? = some y.2 := by
  unfold enumL at h
  rw [List.getElem?_map] at h
  cases e : ((List.range xs.length).zip xs)[i]? with
  | none => rw [e] at h; cases h
  | some z =>
    rw [e] at h
    cases h
    obtain ⟨h1, h2⟩ := List.getElem?_zip_eq_some.mp e
    refine ⟨?_, h2⟩
    have hi : i < xs.length := (List.getElem?_eq_some_iff.mp h2).1
    rw [List.getElem?_range hi] at h1
    cases h1; rfl
theorem wk_enum {me : StM S (List α)} {enc : α → U} {elts : List Expr} {kk : Nat} (hm : X.mg "enumerate" = none) (h : EvE X w Γ e me fun xs => .im (isD X.K (.list (xs.map enc)))) (hg : Gl X "enumerate" := by rfl) (hs : starEach [e] X.env = [(false, eval e X.env)] := by rfl) (hs2 : starEach [e] X.env = (false, eval e X.env) :: starEach [] X.env := by rfl) :
    WalkE X w Γ (.Tuple elts kk tpos) (.Call (.Name "enumerate" p) [e] [] pos) (.bind me fun xs => .pure (enumL xs)) fun y => isD X.K (.tuple [.int y.1, enc y.2]) :=
  ⟨iEnum X.K (SA X [e]), pi_enum hg hm pa_sa hs, fun M G0 H0 G H σ s at_ R q => SA.of (pa_cons pe_se pa_nil hs2) (SE.iv (h M G0 H0 G H σ s at_ _ (wp_mono (wp_bind.mp q) (fun xs s1 q1 v G1 H1 a1 st1 r1 iv => by
    cases r1 with
    | @lst a vs _ hs hd =>
      have hl : vs.length = xs.length := by have := dpAll_len hd; rw [List.length_map] at this; exact this
      have hz := iv.ls (sqL_ex a1.sub hs)
      refine ⟨a, vs, rfl, sqL_ex a1.sub hs, q1 _ G1 H1 a1 st1 ⟨by rw [enumL_len]; omega, fun i G2 H2 e1 e2 h => ⟨vs, sqL_ex e2 (sqL_ex e1 hs), by rw [enumL_len] at h; omega⟩, fun i y G2 H2 e1 e2 hy => ?_⟩⟩
      obtain ⟨y1, y2⟩ := enumL_get hy
      obtain ⟨v, hv, hq⟩ := dq_map_get hd y2
      refine ⟨⟨vs, v, sqL_ex e2 (sqL_ex e1 hs), hv⟩, fun v' H3 ⟨T, x, ev, hT, eh, k⟩ => ?_⟩
      subst ev eh
      have := k vs (sqL_ex e2 (sqL_ex e1 hs))
      rw [hv] at this
      cases this
      have gT : G2 T = none := Ex.back e2 hT
      refine ⟨_, Grow.newF e2 hT, .tup (.inl (.inl upd_same)) (.cons ?_ (.cons (dp_ex (e1.trans (Ex.new gT)) _ _ hq) .nil))⟩
      rw [y1]
      exact .int _) fun _ _ h => h)))⟩
/-- zip(list, list) -/
theorem wk_zip {ma : StM S (List α)} {mb : StM S (List β)} {enc : α → U} {enc2 : β → U} {elts : List Expr} {kk : Nat} (hm : X.mg "zip" = none) (ha : EvE X w Γ e ma fun xs => .im (isD X.K (.list (xs.map enc)))) (hb : EvE X w Γ e2 mb fun xs => .im (isD X.K (.list (xs.map enc2)))) (hg : Gl X "zip" := by rfl)
    (hs : starEach [e, e2] X.env = (false, eval e X.env) :: starEach [e2] X.env := by rfl) (hpl : (backTo pos (starEach [e2] X.env)).any (·.1) = false := by rfl) (hs4 : starEach [e2] X.env = (false, eval e2 X.env) :: starEach [] X.env := by rfl) :
    WalkE X w Γ (.Tuple elts kk tpos) (.Call (.Name "zip" p) [e, e2] [] pos) (.bind ma fun xs => .bind mb fun ys => .pure (xs.zip ys)) fun y => isD X.K (.tuple [enc y.1, enc2 y.2]) :=
  ⟨iZip X.K (SA X [e, e2]), pi_zip hg hm pa_sa hs hpl, fun M G0 H0 G H σ s at_ R q => SA.of (pa_cons pe_se (pa_cons pe_se pa_nil hs4) hs) (SE.iv (ha M G0 H0 G H σ s at_ _ (wp_mono (wp_bind.mp q) (fun xs s1 q1 v G1 H1 a1 st1 r1 iv1 => SE.iv (hb M G0 H0 G1 H1 σ s1 a1 _ (wp_mono (wp_bind.mp q1) (fun ys s2 q2 v2 G2 H2 a2 st2 r2 iv => by
    have r1' := dp_ex st2.post.1 _ _ r1
    cases r1' with
    | @lst a vs _ hs hd =>
      cases r2 with
      | @lst b ws _ hs' hd' =>
        have hl : vs.length = xs.length := by have := dpAll_len hd; rw [List.length_map] at this; exact this
        have hl' : ws.length = ys.length := by have := dpAll_len hd'; rw [List.length_map] at this; exact this
        have hz := iv.ls (sqL_ex a2.sub hs)
        refine ⟨a, b, vs, ws, rfl, sqL_ex a2.sub hs, sqL_ex a2.sub hs', q2 _ G2 H2 a2 (st1.trans st2) ⟨by rw [List.length_zip]; omega, fun i G3 H3 e1 e2 h => ⟨vs, ws, sqL_ex e2 (sqL_ex e1 hs), sqL_ex e2 (sqL_ex e1 hs'), by rw [List.length_zip] at h; omega⟩, fun i y G3 H3 e1 e2 hy => ?_⟩⟩
        obtain ⟨y1, y2⟩ := List.getElem?_zip_eq_some.mp hy
        obtain ⟨v, hv, hq⟩ := dq_map_get hd y1
        obtain ⟨u, hu, hq'⟩ := dq_map_get hd' y2
        refine ⟨⟨vs, ws, v, u, sqL_ex e2 (sqL_ex e1 hs), sqL_ex e2 (sqL_ex e1 hs'), hv, hu⟩, fun v' H4 ⟨T, x, x2, ev, hT, eh, k, k2⟩ => ?_⟩
        subst ev eh
        have z1 := k vs (sqL_ex e2 (sqL_ex e1 hs))
        have z2 := k2 ws (sqL_ex e2 (sqL_ex e1 hs'))
        rw [hv] at z1
        rw [hu] at z2
        cases z1
        cases z2
        have gT : G3 T = none := Ex.back e2 hT
        exact ⟨_, Grow.newF e2 hT, .tup (.inl (.inl upd_same)) (.cons (dp_ex (e1.trans (Ex.new gT)) _ _ hq) (.cons (dp_ex (e1.trans (Ex.new gT)) _ _ hq') .nil))⟩) fun _ _ h => h))) fun _ _ h => h)))⟩
end
end L3

namespace L3
open PySem PySem.Spec PyProof.Rows L2

/-! ### rules that may be undone: the mirror checks -/
section
variable {S α β γ δ : Type} {X : Cx} {w : Env1} {Γ : S → Gam} {Γ0 : Gam} {a b e : Expr} {pos p : Pos} {x : Str}
/-- the mirror mg comes to d only where C holds, and changes no state -/
def OpM (mg : β → StM S δ) (C : β → δ → Prop) : Prop := ∀ b s (P : δ → S → Prop) (E : Err → S → Prop), (mg b s).wp P E → ∃ d, P d s ∧ C b d
theorem om_pure {f : β → δ} {C : β → δ → Prop} (h : ∀ b, C b (f b)) : OpM (S := S) (fun b => .pure (f b)) C := fun b s P E q => ⟨f b, q, h b⟩
theorem om_if {c : β → Prop} [DecidablePred c] {f : β → δ} {C : β → δ → Prop} (h : ∀ b, c b → C b (f b)) : OpM (S := S) (fun b => if c b then .pure (f b) else .fail) C := fun b s P E q => by
  by_cases hc : c b
  · simp only [hc, if_true] at q
    exact ⟨f b, q, h b hc⟩
  · simp only [hc, if_false] at q
    exact q.elim
theorem om_opt {g : β → Option δ} {C : β → δ → Prop} (h : ∀ b d, g b = some d → C b d) : OpM (S := S) (fun b => .ofOpt (g b)) C := fun b s P E q => by
  have q' : (StM.ofOpt (g b) s).wp P E := q
  cases e : g b with
  | none => rw [e] at q'; exact q'.elim
  | some d => rw [e] at q'; exact ⟨d, q', h b d e⟩
/-- two operands, the operation by a check -/
theorem em_of2 {r : R2} {ma : StM S β} {pa : β → Pv} {mb : StM S γ} {Rb : γ → Sl} {mg : β × γ → StM S δ} {R : δ → Sl} (hop : PE X e (tOp r (SE X a) (SE X b))) (ho : OpM mg fun z d => Op2 r (.im (pa z.1)) (Rb z.2) (R d))
    (ha : EvE X w Γ a ma fun x => .im (pa x)) (hb : EvE X w Γ b mb Rb) : EvE X w Γ e (.bind ma fun x => .bind mb fun y => mg (x, y)) R := fun M G0 H0 G H σ s at_ Q q =>
  SE.of hop (ha M G0 H0 G H σ s at_ _ (wp_mono (wp_bind.mp q) (fun x s1 q1 v1 G1 H1 at1 st1 r1 => hb M G0 H0 G1 H1 σ s1 at1 _ (wp_mono (wp_bind.mp q1) (fun y s2 q2 v2 G2 H2 at2 st2 r2 => by
    obtain ⟨d, z, hc⟩ := ho (x, y) s2 _ _ q2
    exact hc H1 G2 H2 v1 v2 Q at2.sub ((pa x).mono st2.post.1 r1) r2 fun v G3 H3 g3 r3 => z v G3 H3 (at2.grow g3) ((st1.trans st2).trans g3.step) (r3.since fun l h => (st1.trans st2).fresh at2 h)) fun e s' h => h)) fun e s' h => h))
/-- .. both without effects, of any kind -/
theorem ep_of2 {r : R2} {s1 s2 : Sl} {mg : Unit → StM S δ} {R : δ → Sl} (hop : PE X e (tOp r (SE X a) (SE X b))) (ho : OpM mg fun _ d => Op2 r s1 s2 (R d)) (ha : ∀ s, EvS X a (Γ s) s1) (hb : ∀ s, EvS X b (Γ s) s2) : EvE X w Γ e (mg ()) R := fun M G0 H0 G H σ s at_ Q q => by
  obtain ⟨d, z, hc⟩ := ho () s _ _ q
  exact ev_of2 hop hc (ha s) (hb s) M G0 H0 G H σ at_ Q fun v G' H' g r => z v G' H' (at_.grow g) g.step r
/-- the first is what a slot holds (read behind the second's effects) -/
theorem ex_of2 {r : R2} {s1 : Sl} {mb : StM S γ} {pb : γ → Pv} {mg : γ → StM S δ} {R : δ → Sl} (i : Nat) {y : Str} (hop : PE X e (tOp r (tVar i) (SE X b))) (hi : ∀ s, (Γ s)[i]? = some s1) (s1' : Sl) (hs : ∀ M G0 H0 G H σ s v, At M G0 H0 (Γ s) G H σ → σ[i]? = some (some v) → Rok s1' H G H v)
    (hn : s1 ≠ Sl.un) (ho : OpM mg fun z d => Op2 r s1' (.im (pb z)) (R d)) (hb : EvE X w Γ b mb fun z => .im (pb z)) : EvE X w Γ e (.bind mb mg) R := fun M G0 H0 G H σ s at_ Q q => by
  have hv : ∃ v, σ[i]? = some (some v) := by
    have z := at_.slot i _ (hi s)
    cases s1 with
    | un => exact absurd rfl hn
    | im p => obtain ⟨v, e, _⟩ := z; exact ⟨v, e⟩
    | ow ad p => obtain ⟨l, o, e, _⟩ := z; exact ⟨_, e⟩
    | bo b => obtain ⟨v, e, _⟩ := z; exact ⟨v, e⟩
  obtain ⟨v, ev⟩ := hv
  refine SE.of hop ⟨v, ev, hb M G0 H0 G H σ s at_ _ (wp_mono (wp_bind.mp q) (fun z s1 q1 v1 G1 H1 a1 st1 r1 => ?_) fun _ _ h => h)⟩
  obtain ⟨d, k, hc⟩ := ho z s1 _ _ q1
  exact hc H1 G1 H1 v v1 Q a1.sub (hs M G0 H0 G1 H1 σ s1 v a1 ev) r1 fun v2 G3 H3 g3 r3 => k v2 G3 H3 (a1.grow g3) (st1.trans g3.step) (r3.since fun l h => st1.fresh a1 h)
/-- tests with effects -/
theorem tm_of2 {op : CmpOp} {r : R2} {ma : StM S β} {pa : β → Pv} {mb : StM S γ} {Rb : γ → Sl} {f : β → γ → Bool} (hop : OpR X (compareOp op) r) (ho : ∀ x y, Op2 r (.im (pa x)) (Rb y) (.im (isD X.K (.bool (f x y)))))
    (ha : EvE X w Γ a ma fun x => .im (pa x)) (hb : EvE X w Γ b mb Rb) (hm : behindInMarks op b = false := by first | exact nomark _ | rfl) : TeE X w Γ (.Compare a [op] [b] pos) (.bind ma fun x => .bind mb fun y => .pure (f x y)) := fun M G0 H0 G H σ s at_ Q q =>
  ST.of (pt_cmpR hop pe_se pe_se hm) (show SE X a σ H fun x H1 => SE X b σ H1 fun y H2 => r x y H2 fun z H3 => ∃ c, z = .bl c ∧ Q c H3 from
    ha M G0 H0 G H σ s at_ _ (wp_mono (wp_bind.mp q) (fun x s1 q1 v1 G1 H1 at1 st1 r1 => hb M G0 H0 G1 H1 σ s1 at1 _ (wp_mono (wp_bind.mp q1) (fun y s2 q2 v2 G2 H2 at2 st2 r2 => by
    refine ho x y H1 G2 H2 v1 v2 _ at2.sub ((pa x).mono st2.post.1 r1) r2 fun v G3 H3 g3 r3 => ?_
    cases r3
    exact ⟨_, rfl, q2 G3 H3 (at2.grow g3) ((st1.trans st2).trans g3.step)⟩) fun e s' h => h)) fun e s' h => h))
theorem te_e {m : StM S Bool} (h : EvE X w Γ e m fun k => .im (isD X.K (.bool k))) (he : ∀ whole, isTrue e X.env whole = (do let v ← whole; standAt e.pos; holding [v] (truthy v)) := by intro _; rfl) : TeE X w Γ e m := fun M G0 H0 G H σ s at_ Q q =>
  ST.of (pt_val pe_se he) (h M G0 H0 G H σ s at_ _ (wp_mono q (fun k s1 q1 v G' H' a1 st1 r => by
    cases r
    exact ⟨k, rfl, q1 G' H' a1 st1⟩) fun _ _ h => h))
theorem te_notE {m : StM S Bool} (h : TeE X w Γ a m) : TeE X w Γ (.UnaryOp .Not a pos) (.bind m fun k => .pure (!k)) := fun M G0 H0 G H σ s at_ Q q =>
  ST.of (pt_not pt_st) (h M G0 H0 G H σ s at_ _ (wp_mono (wp_bind.mp q) (fun k s1 q1 G' H' a1 st1 => q1 G' H' a1 st1) fun _ _ h => h))
def TwE (X : Cx) (w : Env1) (Γ : S → Gam) (e : Expr) (m : StM S Bool) : Prop := ∀ M G0 H0 G H σ s, At M G0 H0 (Γ s) G H σ → ∀ Q : Bool → Hp → Prop,
  (m s).wp (fun b s' => ∀ G' H', At M G0 H0 (Γ s') G' H' σ → Step (Γ s) (Γ s') σ G H G' H' → Q b H') (ExcK X w Γ M G0 H0 σ) → SW X e σ H Q
theorem tw_and1E {m : StM S Bool} (h : TeE X w Γ a m) : TwE X w Γ (.BoolOp .And [a] pos) m := fun M G0 H0 G H σ s at_ Q q => SW.of (pw_and1 pt_st) (h M G0 H0 G H σ s at_ Q q)
theorem tw_or1E {m : StM S Bool} (h : TeE X w Γ a m) : TwE X w Γ (.BoolOp .Or [a] pos) m := fun M G0 H0 G H σ s at_ Q q => SW.of (pw_or1 pt_st) (h M G0 H0 G H σ s at_ Q q)
theorem tw_andE {m k : StM S Bool} {rest : List Expr} (h : TeE X w Γ a m) (h2 : TwE X w Γ (.BoolOp .And (b :: rest) pos) k) : TwE X w Γ (.BoolOp .And (a :: b :: rest) pos) (.bind m fun c => if c = true then k else .pure false) := fun M G0 H0 G H σ s at_ Q q =>
  SW.of (pw_and pt_st pw_sw) (h M G0 H0 G H σ s at_ _ (wp_mono (wp_bind.mp q) (fun c s1 q1 G1 H1 a1 st1 => by
    cases c with
    | true =>
      rw [if_pos rfl] at q1 ⊢
      exact h2 M G0 H0 G1 H1 σ s1 a1 Q (wp_mono q1 (fun c2 s2 q2 G2 H2 a2 st2 => q2 G2 H2 a2 (st1.trans st2)) fun _ _ h => h)
    | false =>
      rw [if_neg Bool.false_ne_true] at q1 ⊢
      exact q1 G1 H1 a1 st1) fun _ _ h => h))
theorem tw_orE {m k : StM S Bool} {rest : List Expr} (h : TeE X w Γ a m) (h2 : TwE X w Γ (.BoolOp .Or (b :: rest) pos) k) : TwE X w Γ (.BoolOp .Or (a :: b :: rest) pos) (.bind m fun c => if c = true then .pure true else k) := fun M G0 H0 G H σ s at_ Q q =>
  SW.of (pw_or pt_st pw_sw) (h M G0 H0 G H σ s at_ _ (wp_mono (wp_bind.mp q) (fun c s1 q1 G1 H1 a1 st1 => by
    cases c with
    | true =>
      rw [if_pos rfl] at q1 ⊢
      exact q1 G1 H1 a1 st1
    | false =>
      rw [if_neg Bool.false_ne_true] at q1 ⊢
      exact h2 M G0 H0 G1 H1 σ s1 a1 Q (wp_mono q1 (fun c2 s2 q2 G2 H2 a2 st2 => q2 G2 H2 a2 (st1.trans st2)) fun _ _ h => h)) fun _ _ h => h))
theorem te_wE {m : StM S Bool} (h : TwE X w Γ a m) : TeE X w Γ a m := fun M G0 H0 G H σ s at_ Q q => ST.of pw_sw.pt (h M G0 H0 G H σ s at_ Q q)
/-! and, or, not as values (all of them True or False) -/
theorem ve_one {op} {m : StM S Bool} (h : EvE X w Γ a m fun k => .im (isD X.K (.bool k))) : EvE X w Γ (.BoolOp op [a] pos) m fun k => .im (isD X.K (.bool k)) := fun M G0 H0 G H σ s at_ Q q => SE.of (pe_one pe_se) (h M G0 H0 G H σ s at_ Q q)
theorem ve_and {m k : StM S Bool} {rest : List Expr} (h : EvE X w Γ a m fun k => .im (isD X.K (.bool k))) (h2 : EvE X w Γ (.BoolOp .And (b :: rest) pos) k fun k => .im (isD X.K (.bool k))) : EvE X w Γ (.BoolOp .And (a :: b :: rest) pos) (.bind m fun c => if c = true then k else .pure false) fun k => .im (isD X.K (.bool k)) := fun M G0 H0 G H σ s at_ Q q =>
  SE.of (pe_and pe_se pe_se) (h M G0 H0 G H σ s at_ _ (wp_mono (wp_bind.mp q) (fun c s1 q1 v G1 H1 a1 st1 r1 => by
    cases r1
    refine ⟨c, rfl, ?_⟩
    cases c with
    | true =>
      rw [if_pos rfl] at q1 ⊢
      exact h2 M G0 H0 G1 H1 σ s1 a1 Q (wp_mono q1 (fun c2 s2 q2 v2 G2 H2 a2 st2 r2 => q2 v2 G2 H2 a2 (st1.trans st2) r2) fun _ _ h => h)
    | false =>
      rw [if_neg Bool.false_ne_true] at q1 ⊢
      exact q1 _ G1 H1 a1 st1 (.bl false)) fun _ _ h => h))
theorem ve_or {m k : StM S Bool} {rest : List Expr} (h : EvE X w Γ a m fun k => .im (isD X.K (.bool k))) (h2 : EvE X w Γ (.BoolOp .Or (b :: rest) pos) k fun k => .im (isD X.K (.bool k))) : EvE X w Γ (.BoolOp .Or (a :: b :: rest) pos) (.bind m fun c => if c = true then .pure true else k) fun k => .im (isD X.K (.bool k)) := fun M G0 H0 G H σ s at_ Q q =>
  SE.of (pe_or pe_se pe_se) (h M G0 H0 G H σ s at_ _ (wp_mono (wp_bind.mp q) (fun c s1 q1 v G1 H1 a1 st1 r1 => by
    cases r1
    refine ⟨c, rfl, ?_⟩
    cases c with
    | true =>
      rw [if_pos rfl] at q1 ⊢
      exact q1 _ G1 H1 a1 st1 (.bl true)
    | false =>
      rw [if_neg Bool.false_ne_true] at q1 ⊢
      exact h2 M G0 H0 G1 H1 σ s1 a1 Q (wp_mono q1 (fun c2 s2 q2 v2 G2 H2 a2 st2 r2 => q2 v2 G2 H2 a2 (st1.trans st2) r2) fun _ _ h => h)) fun _ _ h => h))
theorem ve_not {m : StM S Bool} (h : EvE X w Γ a m fun k => .im (isD X.K (.bool k))) : EvE X w Γ (.UnaryOp .Not a pos) (.bind m fun k => .pure (!k)) fun k => .im (isD X.K (.bool k)) := fun M G0 H0 G H σ s at_ Q q =>
  SE.of (pe_not pe_se) (h M G0 H0 G H σ s at_ _ (wp_mono (wp_bind.mp q) (fun c s1 q1 v G1 H1 a1 st1 r1 => by
    cases r1
    exact ⟨c, rfl, q1 _ G1 H1 a1 st1 (.bl _)⟩) fun _ _ h => h))
/-- x if c else y -/
theorem ee_if {c : Expr} {mc : StM S Bool} {ma mb : StM S β} {R : β → Sl} (hc : TeE X w Γ c mc) (ha : EvE X w Γ a ma R) (hb : EvE X w Γ b mb R) : EvE X w Γ (.IfExp c a b pos) (.bind mc fun k => if k = true then ma else mb) R := fun M G0 H0 G H σ s at_ Q q =>
  SE.of (pe_ifExp pt_st pe_se pe_se) (hc M G0 H0 G H σ s at_ _ (wp_mono (wp_bind.mp q) (fun c s1 q1 G1 H1 a1 st1 => by
    cases c with
    | true =>
      rw [if_pos rfl] at q1 ⊢
      exact ha M G0 H0 G1 H1 σ s1 a1 Q (wp_mono q1 (fun c2 s2 q2 v2 G2 H2 a2 st2 r2 => q2 v2 G2 H2 a2 (st1.trans st2) (r2.since fun l h => st1.fresh a1 h)) fun _ _ h => h)
    | false =>
      rw [if_neg Bool.false_ne_true] at q1 ⊢
      exact hb M G0 H0 G1 H1 σ s1 a1 Q (wp_mono q1 (fun c2 s2 q2 v2 G2 H2 a2 st2 r2 => q2 v2 G2 H2 a2 (st1.trans st2) (r2.since fun l h => st1.fresh a1 h)) fun _ _ h => h)) fun _ _ h => h))
/-- a weaker word of the answer -/
theorem ee_imp {m : StM S β} {R R' : β → Sl} (h : EvE X w Γ e m R) (k : ∀ b H0 G H v, Ex G H → Rok (R b) H0 G H v → Rok (R' b) H0 G H v) : EvE X w Γ e m R' := fun M G0 H0 G H σ s at_ Q q =>
  h M G0 H0 G H σ s at_ Q (wp_mono q (fun b s1 q1 v G1 H1 a1 st1 r1 => q1 v G1 H1 a1 st1 (k b _ _ _ _ a1.sub r1)) fun _ _ h => h)
theorem ee_map {m : StM S β} {R : β → Sl} {f : β → γ} {R' : γ → Sl} (h : EvE X w Γ e m R) (k : ∀ b H0 G H v, Ex G H → Rok (R b) H0 G H v → Rok (R' (f b)) H0 G H v) : EvE X w Γ e (.bind m fun b => .pure (f b)) R' := fun M G0 H0 G H σ s at_ Q q =>
  h M G0 H0 G H σ s at_ Q (wp_mono (wp_bind.mp q) (fun b s1 q1 v G1 H1 a1 st1 r1 => q1 v G1 H1 a1 st1 (k b _ _ _ _ a1.sub r1)) fun _ _ h => h)
/-- freeze a new list -/
theorem ee_frz {m : StM S β} {ds : β → List U} (h : EvE X w Γ e m fun b => .ow none (lstO X.K (ds b))) : EvE X w Γ e m fun b => .im (isD X.K (.list (ds b))) := fun M G0 H0 G H σ s at_ Q q =>
  h M G0 H0 G H σ s at_ Q (wp_mono q (fun b s1 q1 v G1 H1 a1 st1 ⟨l, o, ev, h0, hg, hh, vs, eo, hd⟩ => by
    subst ev eo
    have ex : Ex G1 (upd G1 l (.lst vs)) := Ex.new hg
    have nO : ¬ OwnA (Γ s1) σ l := fun z => by
      obtain ⟨o, y⟩ := OwnA.ne at_ (st1.shp.own z)
      rw [h0] at y; cases y
    have f0 := at_.fresh h0
    refine q1 _ (upd G1 l (.lst vs)) H1 ⟨a1.len, Ex.put a1.sub hh, ⟨a1.post.1.trans ex, fun c u e hc => ?_⟩, a1.mt, fun i z e => ?_, a1.dist⟩ ⟨⟨st1.post.1.trans ex, fun c u e hc => ?_⟩, st1.shp⟩ (.lst (.inl (.inl upd_same)) (dpAll_ex ex _ _ hd))
    · obtain ⟨h1, g1⟩ := a1.post.2 c u e hc
      exact ⟨h1, by rw [upd_ne (ne_of_none e f0.1)]; exact g1⟩
    · have y := a1.slot i z e
      cases z with
      | un => trivial
      | im p => obtain ⟨v, y1, y2⟩ := y; exact ⟨v, y1, p.mono ex y2⟩
      | ow ad p =>
        obtain ⟨l2, o2, y1, y2, y3, y4, y5⟩ := y
        refine ⟨l2, o2, y1, ?_, y3, p.mono ex y4, y5⟩
        rw [upd_ne]
        · exact y2
        · rintro rfl
          exact nO ⟨i, ad, p, e, y1⟩
      | bo b => obtain ⟨v, y1, y2⟩ := y; exact ⟨v, y1, fun H' k => b.mono ex (Ex.refl _) (y2 H' k)⟩
    · obtain ⟨h1, g1⟩ := st1.post.2 c u e hc
      exact ⟨h1, by rw [upd_ne (ne_of_none e h0)]; exact g1⟩) fun _ _ h => h)
/-! ### calls of built-ins -/
def CallV (r : List V → Hp → VK → Prop) (ss : List Sl) (R : Sl) : Prop := ∀ H0 G H vs (Q : VK), Ex G H → RoksOk H0 G H ss vs → (∀ v G' H', Grow G H G' H' → Rok R H G' H' v → Q v H') → r vs H Q
/-- where a built-in is called -/
structure Bcall (X : Cx) (e : Expr) (es : List Expr) (r : List V → Hp → VK → Prop) : Prop where
  pe : PE X e (tCB r (SA X es))
theorem bcB {id : String} {es : List Expr} {r : List V → Hp → VK → Prop} (hc : CallR X (.builtin id) r) (hm : X.mg x = none) (hv : bootBuiltins x = some (.builtin id)) (hg : Gl X x := by rfl) (hn : x ≠ "__name__" := by decide) (hdb : (x == ("__debug__" : Str)) = false := by decide)
    (he : starEach (e :: es) X.env = (false, eval e X.env) :: starEach es X.env := by rfl) (hpl : (backTo pos (starEach es X.env)).any (·.1) = false := by rfl) : Bcall X (.Call (.Name x p) (e :: es) [] pos) (e :: es) r := ⟨pe_callB hc hg hm hv pa_sa hn hdb he hpl⟩
theorem bcT {T : String} {es : List Expr} {r : List V → Hp → VK → Prop} (hc : CallR X (.type T) r) (hm : X.mg x = none) (hv : bootBuiltins x = some (.type T)) (hg : Gl X x := by rfl) (hn : x ≠ "__name__" := by decide) (hdb : (x == ("__debug__" : Str)) = false := by decide)
    (he : starEach (e :: es) X.env = (false, eval e X.env) :: starEach es X.env := by rfl) (hpl : (backTo pos (starEach es X.env)).any (·.1) = false := by rfl) : Bcall X (.Call (.Name x p) (e :: es) [] pos) (e :: es) r := ⟨pe_callTy hc hg hm hv pa_sa hn hdb he hpl⟩
/-- pure arguments of any kind; the answer by a check -/
theorem cs_ {es : List Expr} {r : List V → Hp → VK → Prop} {ss : List Sl} {R : Sl} (k : Bcall X e es r) (hc : CallV r ss R) (ha : EaS X es Γ0 ss) : EvS X e Γ0 R := fun M G0 H0 G H σ at_ Q q =>
  SE.of k.pe (ha M G0 H0 G H σ at_ _ fun vs G1 H1 g1 r1 => hc H G1 H1 vs Q g1.2 r1 fun v G2 H2 g2 r2 => q v G2 H2 (g1.trans g2) (r2.since fun l => Ex.back g1.exH))
theorem cp_ {es : List Expr} {r : List V → Hp → VK → Prop} {ss : List Sl} {mg : Unit → StM S δ} {R : δ → Sl} (k : Bcall X e es r) (hc : OpM mg fun _ d => CallV r ss (R d)) (ha : ∀ s, EaS X es (Γ s) ss) : EvE X w Γ e (mg ()) R := fun M G0 H0 G H σ s at_ Q q => by
  obtain ⟨d, z, hc⟩ := hc () s _ _ q
  exact cs_ k hc (ha s) M G0 H0 G H σ at_ Q fun v G' H' g r => z v G' H' (at_.grow g) g.step r
/-- one argument, with effects -/
theorem c1_ {r : List V → Hp → VK → Prop} {ma : StM S β} {Ra : β → Sl} {mg : β → StM S δ} {R : δ → Sl} (k : Bcall X e [a] r) (hc : OpM mg fun b d => CallV r [Ra b] (R d)) (ha : EvE X w Γ a ma Ra) (hs : starEach [a] X.env = (false, eval a X.env) :: starEach [] X.env := by rfl) : EvE X w Γ e (.bind ma mg) R := fun M G0 H0 G H σ s at_ Q q =>
  SE.of k.pe (SA.of (pa_cons pe_se pa_nil hs) (ha M G0 H0 G H σ s at_ _ (wp_mono (wp_bind.mp q) (fun b s1 q1 v G1 H1 a1 st1 r1 => by
    obtain ⟨d, z, hc⟩ := hc b s1 _ _ q1
    exact hc H G1 H1 [v] Q a1.sub ⟨r1, trivial⟩ fun v2 G2 H2 g2 r2 => z v2 G2 H2 (a1.grow g2) (st1.trans g2.step) (r2.since fun l h => st1.fresh a1 h)) fun _ _ h => h)))
/-- two -/
theorem c2_ {r : List V → Hp → VK → Prop} {ma : StM S β} {pa : β → Pv} {mb : StM S γ} {Rb : γ → Sl} {mg : β × γ → StM S δ} {R : δ → Sl} (k : Bcall X e [a, b] r) (hc : OpM mg fun z d => CallV r [.im (pa z.1), Rb z.2] (R d)) (ha : EvE X w Γ a ma fun x => .im (pa x)) (hb : EvE X w Γ b mb Rb)
    (hs : starEach [a, b] X.env = (false, eval a X.env) :: starEach [b] X.env := by rfl) (hs2 : starEach [b] X.env = (false, eval b X.env) :: starEach [] X.env := by rfl) : EvE X w Γ e (.bind ma fun x => .bind mb fun y => mg (x, y)) R := fun M G0 H0 G H σ s at_ Q q =>
  SE.of k.pe (SA.of (pa_cons pe_se (pa_cons pe_se pa_nil hs2) hs) (ha M G0 H0 G H σ s at_ _ (wp_mono (wp_bind.mp q) (fun x s1 q1 v G1 H1 a1 st1 r1 => hb M G0 H0 G1 H1 σ s1 a1 _ (wp_mono (wp_bind.mp q1) (fun y s2 q2 u G2 H2 a2 st2 r2 => by
    obtain ⟨d, z, hc⟩ := hc (x, y) s2 _ _ q2
    exact hc H1 G2 H2 [v, u] Q a2.sub ⟨(pa x).mono st2.post.1 r1, r2, trivial⟩ fun v2 G3 H3 g3 r3 => z v2 G3 H3 (a2.grow g3) ((st1.trans st2).trans g3.step) (r3.since fun l h => (st1.trans st2).fresh a2 h)) fun _ _ h => h)) fun _ _ h => h)))
end
end L3

namespace L3
open PySem PySem.Spec PyProof.Rows L2

/-! ### values of one kind: a mirror's values are U's -/
section
variable {K : PySem.W.Frag}
def topO (K : PySem.W.Frag) (G : Hp) : HO → U → Prop
  | .lst vs, .list ds => DqAll K G vs ds
  | .dK kvs, .dict ds => DqKvs K G kvs ds
  | .dT kvs, .dictT ds => DqKts K G kvs ds
  | .ins C dx fvs, .ins D fs => C = D ∧ DqFs K G fvs fs
  | _, _ => False
theorem topO_mono {G G' : Hp} (e : Ex G G') : ∀ {o : HO} {u : U}, topO K G o u → topO K G' o u := fun {o u} h => by
  unfold topO at h ⊢
  split at h
  · exact dpAll_ex e _ _ h
  · exact dpKvs_ex e _ _ h
  · exact dpKts_ex e _ _ h
  · exact ⟨h.1, dpFs_ex e _ _ h.2⟩
  · exact h.elim
def ownO (K : PySem.W.Frag) (u : U) : Po := ⟨fun G o => topO K G o u, fun e h => topO_mono e h⟩
def bowB (K : PySem.W.Frag) (u : U) : Pb := ⟨fun G H v => Dq K G v u ∨ ∃ l o, v = V.ref l ∧ H l = some o ∧ topO K G o u, fun e e' h => by
  rcases h with h | ⟨l, o, h1, h2, h3⟩
  · exact .inl (dp_ex e _ _ h)
  · exact .inr ⟨l, o, h1, e' _ _ h2, topO_mono e h3⟩⟩
abbrev dU (K : PySem.W.Frag) (u : U) : Sl := .im (isD K u)
abbrev oU (K : PySem.W.Frag) (u : U) : Sl := .ow none (ownO K u)
abbrev bU (K : PySem.W.Frag) (u : U) : Sl := .bo (bowB K u)
theorem top_dq {G : Hp} {l : Addr} {o : HO} {u : U} (h : G l = some o) (t : topO K G o u) : Dq K G (V.ref l) u := by
  unfold topO at t
  split at t
  · exact .lst (.inl (.inl h)) t
  · exact .dct h t
  · exact .dctT h t
  · obtain ⟨rfl, t⟩ := t; exact .ins h t
  · exact t.elim
theorem frz_u {u : U} : ∀ (G : Hp) (l : Addr) (o : HO), G l = some o → (ownO K u).q G o → (isD K u).p G (V.ref l) := fun G l o h t => top_dq h t
theorem bow_dq {G H : Hp} {v : V} {u : U} (e : Ex G H) (h : (bowB K u).b G H v) : Dq K H v u := by
  rcases h with h | ⟨l, o, rfl, h2, h3⟩
  · exact dp_ex e _ _ h
  · exact top_dq h2 (topO_mono e h3)
theorem bow_ls {G H : Hp} {v : V} {ds : List U} (e : Ex G H) (h : (bowB K (.list ds)).b G H v) : ∃ a vs, v = V.ref a ∧ SqL K H a vs ∧ DqAll K G vs ds := by
  rcases h with h | ⟨l, o, rfl, h2, h3⟩
  · cases h with
    | lst hs ha => exact ⟨_, _, rfl, sqL_ex e hs, ha⟩
  · cases o <;> first | exact h3.elim | exact ⟨l, _, rfl, .inl (.inl h2), h3⟩
theorem bow_tp {G H : Hp} {v : V} {ds : List U} (e : Ex G H) (h : (bowB K (.tuple ds)).b G H v) : ∃ a vs, v = V.ref a ∧ SqT K H a vs ∧ DqAll K G vs ds := by
  rcases h with h | ⟨l, o, rfl, h2, h3⟩
  · cases h with
    | tup hs ha => exact ⟨_, _, rfl, sqT_ex e hs, ha⟩
  · cases o <;> exact h3.elim
theorem bow_at {G H : Hp} {v : V} {u : U} (e : Ex G H) (h : (bowB K u).b G H v) (hl : ∀ xs, u ≠ .list xs) (hd : ∀ xs, u ≠ .dict xs) (ht : ∀ xs, u ≠ .dictT xs) (hi : ∀ C xs, u ≠ .ins C xs) : Dq K G v u := by
  rcases h with h | ⟨l, o, rfl, h2, h3⟩
  · exact h
  · unfold topO at h3
    split at h3
    · exact absurd rfl (hl _)
    · exact absurd rfl (hd _)
    · exact absurd rfl (ht _)
    · exact absurd rfl (hi _ _)
    · exact h3.elim
theorem bow_int {G H : Hp} {v : V} {i : Int} (h : (bowB K (.int i)).b G H v) : v = .int i := by
  rcases h with h | ⟨l, o, rfl, h2, h3⟩
  · cases h; rfl
  · cases o <;> exact h3.elim
theorem bow_bl {G H : Hp} {v : V} {b : Bool} (h : (bowB K (.bool b)).b G H v) : v = .bl b := by
  rcases h with h | ⟨l, o, rfl, h2, h3⟩
  · cases h; rfl
  · cases o <;> exact h3.elim
theorem bow_str {G H : Hp} {v : V} {x : Str} (h : (bowB K (.str x)).b G H v) : v = .str x ∧ PyData.strOk x = true := by
  rcases h with h | ⟨l, o, rfl, h2, h3⟩
  · cases h with | str _ h => exact ⟨rfl, h⟩
  · cases o <;> exact h3.elim
theorem bow_non {G H : Hp} {v : V} (h : (bowB K .none).b G H v) : v = .non := by
  rcases h with h | ⟨l, o, rfl, h2, h3⟩
  · cases h; rfl
  · cases o <;> exact h3.elim
def Bows (K : PySem.W.Frag) (G H : Hp) : List U → List V → Prop
  | [], [] => True
  | u :: us, v :: vs => (bowB K u).b G H v ∧ Bows K G H us vs
  | _, _ => False
/-- of arguments that read as us, where g us = some d: the answer d -/
def Pr (K : PySem.W.Frag) (R : U → Sl) (r : List V → Hp → VK → Prop) (g : List U → Option U) : Prop := ∀ us d, g us = some d → ∀ (H0 G H : Hp) vs (Q : VK), Ex G H → Bows K G H us vs → (∀ v G' H', Grow G H G' H' → Rok (R d) H G' H' v → Q v H') → r vs H Q
def a1 (f : U → Option U) : List U → Option U
  | [a] => f a
  | _ => none
def a2 (f : U → U → Option U) : List U → Option U
  | [a, b] => f a b
  | _ => none
def a3 (f : U → U → U → Option U) : List U → Option U
  | [a, b, c] => f a b c
  | _ => none
theorem pr1 {R : U → Sl} {r : List V → Hp → VK → Prop} {f : U → Option U} (h : ∀ u d, f u = some d → ∀ (G H : Hp) v (Q : VK), Ex G H → (bowB K u).b G H v → (∀ v G' H', Grow G H G' H' → Rok (R d) H G' H' v → Q v H') → r [v] H Q) : Pr K R r (a1 f) := fun us d e H0 G H vs Q ex bs q => by
  match us, e with
  | [u], e =>
    match vs, bs with
    | [v], bs => exact h u d e G H v Q ex bs.1 q
theorem pr2 {R : U → Sl} {r : List V → Hp → VK → Prop} {f : U → U → Option U} (h : ∀ u w d, f u w = some d → ∀ (G H : Hp) v x (Q : VK), Ex G H → (bowB K u).b G H v → (bowB K w).b G H x → (∀ v G' H', Grow G H G' H' → Rok (R d) H G' H' v → Q v H') → r [v, x] H Q) : Pr K R r (a2 f) := fun us d e H0 G H vs Q ex bs q => by
  match us, e with
  | [u, w], e =>
    match vs, bs with
    | [v, x], bs => exact h u w d e G H v x Q ex bs.1 bs.2.1 q
def r2l (r : R2) : List V → Hp → VK → Prop := fun vs H Q => match vs with
  | [x, y] => r x y H Q
  | _ => False
def r1l (r : V → Hp → VK → Prop) : List V → Hp → VK → Prop := fun vs H Q => match vs with
  | [x] => r x H Q
  | _ => False
end

/-! ### operands -/
section
variable {S β γ δ : Type} {X : Cx} {w : Env1} {Γ : S → Gam} {a b c e : Expr} {pos p : Pos} {x : Str}
abbrev EvD (X : Cx) (w : Env1) (Γ : S → Gam) (e : Expr) (m : StM S U) : Prop := EvE X w Γ e m fun u => dU X.K u
abbrev EvO (X : Cx) (w : Env1) (Γ : S → Gam) (e : Expr) (m : StM S U) : Prop := EvE X w Γ e m fun u => oU X.K u
/-- an operand: what its evaluation comes to, and how it reads later on -/
def Opd (X : Cx) (w : Env1) (Γ : S → Gam) (e : Expr) (m : StM S β) (rd : β → S → U) : Prop := ∃ pers : β → L2.St → Hp → V → Prop, (∀ b σ G G' v, Ex G G' → pers b σ G v → pers b σ G' v) ∧
  (∀ M G0 H0 G H σ s b v, At M G0 H0 (Γ s) G H σ → pers b σ G v → (bowB X.K (rd b s)).b G H v) ∧
  ∀ M G0 H0 G H σ s, At M G0 H0 (Γ s) G H σ → ∀ Q : VK, (m s).wp (fun b s' => ∀ v G' H', At M G0 H0 (Γ s') G' H' σ → Step (Γ s) (Γ s') σ G H G' H' → pers b σ G' v → Q v H') (ExcK X w Γ M G0 H0 σ) → SE X e σ H Q
theorem od_ {m : StM S U} (h : EvD X w Γ e m) : Opd X w Γ e m fun u _ => u := ⟨fun u _ G v => Dq X.K G v u, fun _ _ _ _ _ e h => dp_ex e _ _ h, fun _ _ _ _ _ _ _ _ _ _ h => .inl h, h⟩
/-- what a slot holds -/
theorem ov_ {c : S → U} (i : Nat) (hi : ∀ s, ∃ z, (Γ s)[i]? = some z ∧ (z = dU X.K (c s) ∨ z = bU X.K (c s) ∨ ∃ ad, z = .ow ad (ownO X.K (c s)))) (hN : X.N[i]? = some x := by rfl) (hv : Vis X.env.scope x := by first | exact Or.inl rfl | exact Or.inr (Or.inl rfl) | exact Or.inr (Or.inr rfl))
    (hd : (x == ("__debug__" : Str)) = false := by decide) (hcd : (x == ("__classdict__" : Str)) = false := by decide) : Opd X w Γ (.Name x pos) (.pure ()) fun _ s => c s := by
  refine ⟨fun _ σ _ v => σ[i]? = some (some v), fun _ _ _ _ _ _ h => h, fun M G0 H0 G H σ s _ v at_ h => ?_, fun M G0 H0 G H σ s at_ Q q => ?_⟩
  · obtain ⟨z, hz, h3⟩ := hi s
    have y := at_.slot i z hz
    rcases h3 with rfl | rfl | ⟨ad, rfl⟩
    · obtain ⟨v', e1, e2⟩ := y
      rw [h] at e1; cases e1
      exact .inl e2
    · obtain ⟨v', e1, e2⟩ := y
      rw [h] at e1; cases e1
      exact e2 H at_.post.keep
    · obtain ⟨l, o, e1, _, e3, e4, _⟩ := y
      rw [h] at e1; cases e1
      exact .inr ⟨l, o, rfl, e3, e4⟩
  · have hv1 : ∃ v, σ[i]? = some (some v) := by
      obtain ⟨z, hz, h3⟩ := hi s
      have y := at_.slot i z hz
      rcases h3 with rfl | rfl | ⟨ad, rfl⟩
      · obtain ⟨v, e, _⟩ := y; exact ⟨v, e⟩
      · obtain ⟨v, e, _⟩ := y; exact ⟨v, e⟩
      · obtain ⟨l, o, e, _⟩ := y; exact ⟨_, e⟩
    obtain ⟨v, ev⟩ := hv1
    exact SE.of (pe_var hN hv hd hcd) ⟨v, ev, q v G H at_ Step.refl ev⟩
theorem oo_ {c : S → U} (i : Nat) (ad : Option Addr := none) (hi : ∀ s, (Γ s)[i]? = some (.ow ad (ownO X.K (c s))) := by intro _; rfl) (hN : X.N[i]? = some x := by rfl) (hv : Vis X.env.scope x := by first | exact Or.inl rfl | exact Or.inr (Or.inl rfl) | exact Or.inr (Or.inr rfl))
    (hd : (x == ("__debug__" : Str)) = false := by decide) (hcd : (x == ("__classdict__" : Str)) = false := by decide) : Opd X w Γ (.Name x pos) (.pure ()) fun _ s => c s := ov_ i (fun s => ⟨_, hi s, .inr (.inr ⟨ad, rfl⟩)⟩) hN hv hd hcd
theorem ob_ {c : S → U} (i : Nat) (hi : ∀ s, (Γ s)[i]? = some (bU X.K (c s)) := by intro _; rfl) (hN : X.N[i]? = some x := by rfl) (hv : Vis X.env.scope x := by first | exact Or.inl rfl | exact Or.inr (Or.inl rfl) | exact Or.inr (Or.inr rfl))
    (hd : (x == ("__debug__" : Str)) = false := by decide) (hcd : (x == ("__classdict__" : Str)) = false := by decide) : Opd X w Γ (.Name x pos) (.pure ()) fun _ s => c s := ov_ i (fun s => ⟨_, hi s, .inr (.inl rfl)⟩) hN hv hd hcd
/-- a variable with frozen data -/
theorem dv_ {u : U} (i : Nat) (hi : ∀ s, (Γ s)[i]? = some (dU X.K u) := by intro _; rfl) (hN : X.N[i]? = some x := by rfl) (hv : Vis X.env.scope x := by first | exact Or.inl rfl | exact Or.inr (Or.inl rfl) | exact Or.inr (Or.inr rfl))
    (hd : (x == ("__debug__" : Str)) = false := by decide) (hcd : (x == ("__classdict__" : Str)) = false := by decide) : EvD X w Γ (.Name x pos) (.pure u) := ee_s fun s => ev_im i (hi s) hN hv hd hcd
theorem di_ {i : Int} {j} : EvD X w Γ (.Constant (.int i) j pos) (.pure (.int i)) := ee_s fun _ => ev_int
theorem db_ {b : Bool} {j} : EvD X w Γ (.Constant (.bool b) j pos) (.pure (.bool b)) := ee_s fun _ => ev_bl
theorem dn_ {j} : EvD X w Γ (.Constant .none j pos) (.pure .none) := ee_s fun _ => ev_non
theorem ds_ {x : Str} {j} (h : PyData.strOk x = true := by decide +kernel) : EvD X w Γ (.Constant (.str x) j pos) (.pure (.str x)) := ee_s fun _ => ev_str h
/-- a known global: a value -/
theorem dg_ {v : V} {u : Value} {d : U} (hm : X.mg x = some u) (r : RelV v u) (hq : ∀ G, Dq X.K G v d) (hg : Gl X x := by rfl) (hd : (x == ("__debug__" : Str)) = false := by decide) : EvD X w Γ (.Name x pos) (.pure d) := ee_s fun _ => ev_c (pe_glob hg hm r hd) hq
/-- freeze -/
theorem do_ {m : StM S U} (h : EvO X w Γ e m) : EvD X w Γ e m := fun M G0 H0 G H σ s at_ Q q =>
  h M G0 H0 G H σ s at_ Q (wp_mono q (fun b s1 q1 v G1 H1 a1 st1 ⟨l, o, ev, h0, hg, hh, ht⟩ => by
    subst ev
    have ex : Ex G1 (upd G1 l o) := Ex.new hg
    have nO : ¬ OwnA (Γ s1) σ l := fun z => by
      obtain ⟨o, y⟩ := OwnA.ne at_ (st1.shp.own z)
      rw [h0] at y; cases y
    have f0 := at_.fresh h0
    refine q1 _ (upd G1 l o) H1 ⟨a1.len, Ex.put a1.sub hh, ⟨a1.post.1.trans ex, fun c u e hc => ?_⟩, a1.mt, fun i z e => ?_, a1.dist⟩ ⟨⟨st1.post.1.trans ex, fun c u e hc => ?_⟩, st1.shp⟩ (top_dq upd_same (topO_mono ex ht))
    · obtain ⟨h1, g1⟩ := a1.post.2 c u e hc
      exact ⟨h1, by rw [upd_ne (ne_of_none e f0.1)]; exact g1⟩
    · have y := a1.slot i z e
      cases z with
      | un => trivial
      | im p => obtain ⟨v, y1, y2⟩ := y; exact ⟨v, y1, p.mono ex y2⟩
      | ow ad p =>
        obtain ⟨l2, o2, y1, y2, y3, y4, y5⟩ := y
        refine ⟨l2, o2, y1, ?_, y3, p.mono ex y4, y5⟩
        rw [upd_ne]
        · exact y2
        · rintro rfl
          exact nO ⟨i, ad, p, e, y1⟩
      | bo b => obtain ⟨v, y1, y2⟩ := y; exact ⟨v, y1, fun H' k => b.mono ex (Ex.refl _) (y2 H' k)⟩
    · obtain ⟨h1, g1⟩ := st1.post.2 c u e hc
      exact ⟨h1, by rw [upd_ne (ne_of_none e h0)]; exact g1⟩) fun _ _ h => h)
/-- one operand -/
theorem e1_ {R : U → Sl} {r : V → Hp → VK → Prop} {f : U → Option U} {ma : StM S β} {rd : β → S → U} (pe : ∀ σ H (Q : VK), SE X a σ H (fun v H1 => r v H1 Q) → SE X e σ H Q) (pr : Pr X.K R (r1l r) (a1 f)) (ha : Opd X w Γ a ma rd) :
    EvE X w Γ e (.bind ma fun x s => (StM.ofOpt (f (rd x s)) : StM S U) s) R := fun M G0 H0 G H σ s at_ Q q => by
  obtain ⟨pers, hp, hr, hv⟩ := ha
  refine pe σ H Q (hv M G0 H0 G H σ s at_ _ (wp_mono (wp_bind.mp q) (fun x s1 q1 v G1 H1 a1 st1 r1 => ?_) fun _ _ h => h))
  cases e1 : f (rd x s1) with
  | none =>
    rw [show (StM.ofOpt (f (rd x s1)) : StM S U) s1 = (StM.ofOpt (none : Option U) : StM S U) s1 by rw [e1]] at q1
    exact q1.elim
  | some d =>
    rw [show (StM.ofOpt (f (rd x s1)) : StM S U) s1 = (StM.ofOpt (some d) : StM S U) s1 by rw [e1]] at q1
    exact pr [rd x s1] d e1 H G1 H1 [v] Q a1.sub ⟨hr _ _ _ _ _ _ _ _ _ a1 r1, trivial⟩ fun v2 G2 H2 g2 r2 => q1 v2 G2 H2 (a1.grow g2) (st1.trans g2.step) (r2.since fun l h => st1.fresh a1 h)
/-- two operands -/
theorem e2_ {R : U → Sl} {r : R2} {f : U → U → Option U} {ma : StM S β} {rd : β → S → U} {mb : StM S γ} {rd2 : γ → S → U} (pe : ∀ σ H (Q : VK), SE X a σ H (fun v H1 => SE X b σ H1 fun u H2 => r v u H2 Q) → SE X e σ H Q) (pr : Pr X.K R (r2l r) (a2 f)) (ha : Opd X w Γ a ma rd) (hb : Opd X w Γ b mb rd2) :
    EvE X w Γ e (.bind ma fun x => .bind mb fun y s => (StM.ofOpt (f (rd x s) (rd2 y s)) : StM S U) s) R := fun M G0 H0 G H σ s at_ Q q => by
  obtain ⟨pers, hp, hr, hv⟩ := ha
  obtain ⟨pers2, hp2, hr2, hv2⟩ := hb
  refine pe σ H Q (hv M G0 H0 G H σ s at_ _ (wp_mono (wp_bind.mp q) (fun x s1 q1 v G1 H1 a1 st1 r1 => ?_) fun _ _ h => h))
  refine hv2 M G0 H0 G1 H1 σ s1 a1 _ (wp_mono (wp_bind.mp q1) (fun y s2 q2 u G2 H2 at2 st2 r2 => ?_) fun _ _ h => h)
  have st := st1.trans st2
  cases e1 : f (rd x s2) (rd2 y s2) with
  | none =>
    rw [show (StM.ofOpt (f (rd x s2) (rd2 y s2)) : StM S U) s2 = (StM.ofOpt (none : Option U) : StM S U) s2 by rw [e1]] at q2
    exact q2.elim
  | some d =>
    rw [show (StM.ofOpt (f (rd x s2) (rd2 y s2)) : StM S U) s2 = (StM.ofOpt (some d) : StM S U) s2 by rw [e1]] at q2
    exact pr [rd x s2, rd2 y s2] d e1 H G2 H2 [v, u] Q at2.sub ⟨hr _ _ _ _ _ _ _ _ _ at2 (hp _ _ _ _ _ st2.post.1 r1), hr2 _ _ _ _ _ _ _ _ _ at2 r2, trivial⟩ fun v2 G3 H3 g2 r3 => q2 v2 G3 H3 (at2.grow g2) (st.trans g2.step) (r3.since fun l h => st.fresh at2 h)
/-! the shapes of expressions -/
theorem pr_r1 {K : PySem.W.Frag} {R : U → Sl} {r : List V → Hp → VK → Prop} {f : U → Option U} (h : Pr K R r (a1 f)) : Pr K R (r1l fun v => r [v]) (a1 f) := pr1 fun u d e G H v Q ex b q => h [u] d e H G H [v] Q ex ⟨b, trivial⟩ q
theorem pr_r2 {K : PySem.W.Frag} {R : U → Sl} {r : List V → Hp → VK → Prop} {f : U → U → Option U} (h : Pr K R r (a2 f)) : Pr K R (r2l fun v u => r [v, u]) (a2 f) := pr2 fun u z d e G H v x Q ex b b2 q => h [u, z] d e H G H [v, x] Q ex ⟨b, b2, trivial⟩ q
theorem call1_ {R : U → Sl} {r : List V → Hp → VK → Prop} {f : U → Option U} {ma : StM S β} {rd : β → S → U} (k : Bcall X e [a] r) (pr : Pr X.K R r (a1 f)) (ha : Opd X w Γ a ma rd) (hs : starEach [a] X.env = (false, eval a X.env) :: starEach [] X.env := by rfl) :
    EvE X w Γ e (.bind ma fun x s => (StM.ofOpt (f (rd x s)) : StM S U) s) R := e1_ (r := fun v => r [v]) (fun σ H Q h => SE.of k.pe (SA.of (pa_cons pe_se pa_nil hs) h)) (pr_r1 pr) ha
theorem call2_ {R : U → Sl} {r : List V → Hp → VK → Prop} {f : U → U → Option U} {ma : StM S β} {rd : β → S → U} {mb : StM S γ} {rd2 : γ → S → U} (k : Bcall X e [a, b] r) (pr : Pr X.K R r (a2 f)) (ha : Opd X w Γ a ma rd) (hb : Opd X w Γ b mb rd2)
    (hs : starEach [a, b] X.env = (false, eval a X.env) :: starEach [b] X.env := by rfl) (hs2 : starEach [b] X.env = (false, eval b X.env) :: starEach [] X.env := by rfl) :
    EvE X w Γ e (.bind ma fun x => .bind mb fun y s => (StM.ofOpt (f (rd x s) (rd2 y s)) : StM S U) s) R := e2_ (r := fun v u => r [v, u]) (fun σ H Q h => SE.of k.pe (SA.of (pa_cons pe_se (pa_cons pe_se pa_nil hs2) hs) h)) (pr_r2 pr) ha hb
theorem op2_ {op : Operator} {R : U → Sl} {r : R2} {f : U → U → Option U} {ma : StM S β} {rd : β → S → U} {mb : StM S γ} {rd2 : γ → S → U} (hop : OpR X (binaryOp op) r) (pr : Pr X.K R (r2l r) (a2 f)) (ha : Opd X w Γ a ma rd) (hb : Opd X w Γ b mb rd2) :
    EvE X w Γ (.BinOp a op b pos) (.bind ma fun x => .bind mb fun y s => (StM.ofOpt (f (rd x s) (rd2 y s)) : StM S U) s) R := e2_ (fun σ H Q h => SE.of (pe_op hop pe_se pe_se) h) pr ha hb
theorem cmp_ {op : CmpOp} {R : U → Sl} {r : R2} {f : U → U → Option U} {ma : StM S β} {rd : β → S → U} {mb : StM S γ} {rd2 : γ → S → U} (hop : OpR X (compareOp op) r) (pr : Pr X.K R (r2l r) (a2 f)) (ha : Opd X w Γ a ma rd) (hb : Opd X w Γ b mb rd2) (hm : behindInMarks op b = false := by first | exact nomark _ | rfl) :
    EvE X w Γ (.Compare a [op] [b] pos) (.bind ma fun x => .bind mb fun y s => (StM.ofOpt (f (rd x s) (rd2 y s)) : StM S U) s) R := e2_ (fun σ H Q h => SE.of (pe_cmpR hop pe_se pe_se hm) h) pr ha hb
theorem un1_ {op : UnaryOp} {R : U → Sl} {r : V → Hp → VK → Prop} {f : U → Option U} {ma : StM S β} {rd : β → S → U} (hop : UnR X (unaryOp op) r) (pr : Pr X.K R (r1l r) (a1 f)) (ha : Opd X w Γ a ma rd) :
    EvE X w Γ (.UnaryOp op a pos) (.bind ma fun x s => (StM.ofOpt (f (rd x s)) : StM S U) s) R := e1_ (fun σ H Q h => SE.of (pe_un hop pe_se) h) pr ha
theorem ix_ {R : U → Sl} {r : R2} {f : U → U → Option U} {ma : StM S β} {rd : β → S → U} {mb : StM S γ} {rd2 : γ → S → U} (hop : IxR X r) (pr : Pr X.K R (r2l r) (a2 f)) (ha : Opd X w Γ a ma rd) (hb : Opd X w Γ b mb rd2) (hs : PlainIx b := by intro _ _; rfl) :
    EvE X w Γ (.Subscript a b pos) (.bind ma fun x => .bind mb fun y s => (StM.ofOpt (f (rd x s) (rd2 y s)) : StM S U) s) R := e2_ (fun σ H Q h => SE.of (pe_ix hop pe_se pe_se hs) h) pr ha hb
/-- a test by a value -/
def asB (u : U) : StM S Bool := match u with | .bool b => .pure b | _ => .fail
theorem te_d {m : StM S U} (h : EvD X w Γ e m) (he : ∀ whole, isTrue e X.env whole = (do let v ← whole; standAt e.pos; holding [v] (truthy v)) := by intro _; rfl) : TeE X w Γ e (.bind m asB) := fun M G0 H0 G H σ s at_ Q q =>
  ST.of (pt_val pe_se he) (h M G0 H0 G H σ s at_ _ (wp_mono (wp_bind.mp q) (fun u s1 q1 v G' H' a1 st1 r => by
    cases u with
    | bool k => cases r; exact ⟨k, rfl, q1 G' H' a1 st1⟩
    | _ => exact q1.elim) fun _ _ h => h))
theorem ve_d {m : StM S U} (h : EvD X w Γ e m) : EvE X w Γ e (.bind m asB) fun k => .im (isD X.K (.bool k)) := fun M G0 H0 G H σ s at_ Q q =>
  h M G0 H0 G H σ s at_ _ (wp_mono (wp_bind.mp q) (fun u s1 q1 v G' H' a1 st1 r => by
    cases u with
    | bool k => exact q1 v G' H' a1 st1 r
    | _ => exact q1.elim) fun _ _ h => h)
theorem d_ve {m : StM S Bool} (h : EvE X w Γ e m fun k => .im (isD X.K (.bool k))) : EvD X w Γ e (.bind m fun k => .pure (.bool k)) := fun M G0 H0 G H σ s at_ Q q =>
  h M G0 H0 G H σ s at_ _ (wp_mono (wp_bind.mp q) (fun u s1 q1 v G' H' a1 st1 r => q1 v G' H' a1 st1 r) fun _ _ h => h)
end

/-! ### displays -/
section
variable {S β γ δ : Type} {X : Cx} {w : Env1} {Γ : S → Gam} {a b c e : Expr} {es : List Expr} {pos p : Pos} {x : Str}
def EvDs (X : Cx) (w : Env1) (Γ : S → Gam) (es : List Expr) (m : StM S (List U)) : Prop := ∀ M G0 H0 G H σ s, At M G0 H0 (Γ s) G H σ → ∀ Q : List V → Hp → Prop,
  (m s).wp (fun us s' => ∀ vs G' H', At M G0 H0 (Γ s') G' H' σ → Step (Γ s) (Γ s') σ G H G' H' → DqAll X.K G' vs us → us.length = es.length → Q vs H') (ExcK X w Γ M G0 H0 σ) → SA X es σ H Q
theorem es_nil : EvDs X w Γ [] (.pure []) := fun M G0 H0 G H σ s at_ Q q => SA.of pa_nil (q [] G H at_ Step.refl .nil rfl)
theorem es_cons {m : StM S U} {ms : StM S (List U)} (h : EvD X w Γ e m) (k : EvDs X w Γ es ms) (hs : starEach (e :: es) X.env = (false, eval e X.env) :: starEach es X.env := by rfl) : EvDs X w Γ (e :: es) (.bind m fun u => .bind ms fun us => .pure (u :: us)) := fun M G0 H0 G H σ s at_ Q q =>
  SA.of (pa_cons pe_se pa_sa hs) (h M G0 H0 G H σ s at_ _ (wp_mono (wp_bind.mp q) (fun x s1 q1 v G1 H1 a1 st1 r1 => k M G0 H0 G1 H1 σ s1 a1 _ (wp_mono (wp_bind.mp q1) (fun y s2 q2 vs G2 H2 a2 st2 r2 l2 =>
    q2 (v :: vs) G2 H2 a2 (st1.trans st2) (.cons (dp_ex st2.post.1 _ _ r1) r2) (by simp [l2])) fun _ _ h => h)) fun _ _ h => h))
theorem d_tup {ms : StM S (List U)} {k} (h : EvDs X w Γ es ms) (hl : es.length ≤ 1000 := by decide) : EvD X w Γ (.Tuple es k pos) (.bind ms fun us => .pure (.tuple us)) := fun M G0 H0 G H σ s at_ Q q =>
  SE.of (pe_tup pa_sa) (h M G0 H0 G H σ s at_ _ (wp_mono (wp_bind.mp q) (fun us s1 q1 vs G1 H1 a1 st1 r1 l1 => by
    have hz : sizeLine = 16777216 := sizeLine_eq
    have hv := dpAll_len r1
    refine ⟨by omega, fun l hl => ?_⟩
    have g := Grow.newF (o := .tup vs) a1.sub hl
    have hg : G1 l = none := Ex.back a1.sub hl
    exact q1 _ _ _ (a1.grow g) (st1.trans g.step) (.tup (.inl (.inl upd_same)) (dpAll_ex (Ex.new hg) _ _ r1))) fun _ _ h => h))
theorem o_lst {ms : StM S (List U)} (h : EvDs X w Γ es ms) (hl : es.length ≤ 1000 := by decide) : EvO X w Γ (.List es pos) (.bind ms fun us => .pure (.list us)) := fun M G0 H0 G H σ s at_ Q q =>
  SE.of (pe_lst pa_sa) (h M G0 H0 G H σ s at_ _ (wp_mono (wp_bind.mp q) (fun us s1 q1 vs G1 H1 a1 st1 r1 l1 => by
    have hz : sizeLine = 16777216 := sizeLine_eq
    have hv := dpAll_len r1
    refine ⟨by omega, fun l hl => ?_⟩
    have g := Grow.new (o := .lst vs) a1.sub hl
    have hg : G1 l = none := Ex.back a1.sub hl
    exact q1 _ _ _ (a1.grow g) (st1.trans g.step) ⟨l, _, rfl, st1.fresh a1 hl, hg, upd_same, r1⟩) fun _ _ h => h))
end
end L3

namespace L3
open PySem PySem.Spec PyProof.Rows L2

/-! ### the operations on U's -/
def tyU : U → String
  | .none => "NoneType"
  | .bool _ => "bool"
  | .int _ => "int"
  | .str _ => "str"
  | .list _ => "list"
  | .tuple _ => "tuple"
  | .dict _ => "dict"
  | .dictT _ => "dict"
  | .ins _ _ => ""
def isInsU : U → Bool
  | .ins _ _ => true
  | _ => false
/-- isinstance(x, T), T a built-in type -/
def uIsi (T : String) (u : U) : Option U := if isInsU u then none else (kitB (tyU u) T).map U.bool
def uLen : U → Option U
  | .str z => if z.length ≤ sizeLine then some (.int z.length) else none
  | .list ds => some (.int ds.length)
  | .tuple ds => some (.int ds.length)
  | _ => none
def blsU : List U → Option (List Bool)
  | [] => some []
  | .bool b :: us => (blsU us).map (b :: ·)
  | _ => none
def intsU : List U → Option (List Int)
  | [] => some []
  | .int b :: us => (intsU us).map (b :: ·)
  | _ => none
def strsU : List U → Option (List Str)
  | [] => some []
  | .str b :: us => (strsU us).map (b :: ·)
  | _ => none
def uAll : U → Option U
  | .list ds => (blsU ds).map fun bs => .bool (bs.all id)
  | _ => none
def uAny : U → Option U
  | .list ds => (blsU ds).map fun bs => .bool (bs.any id)
  | _ => none
def uSum : U → Option U
  | .list ds => (intsU ds).map fun bs => .int bs.sum
  | _ => none
def uList : U → Option U
  | .list ds => some (.list ds)
  | .tuple ds => some (.list ds)
  | .str z => if z.length ≤ sizeLine then some (.list ((signs z).map U.str)) else none
  | _ => none
def uTuple : U → Option U
  | .list ds => some (.tuple ds)
  | .tuple ds => some (.tuple ds)
  | _ => none
def uMax2 : U → U → Option U
  | .int i, .int j => some (.int (if j > i then j else i))
  | _, _ => none
def uMin2 : U → U → Option U
  | .int i, .int j => some (.int (if j < i then j else i))
  | _, _ => none
def uAbs : U → Option U
  | .int i => some (.int (if i < 0 then -i else i))
  | _ => none
def uNeg : U → Option U
  | .int i => some (.int (-i))
  | _ => none
def uInt : U → Option U
  | .int i => some (.int i)
  | .bool k => some (.int (if k then 1 else 0))
  | _ => none
def uDivmod : U → U → Option U
  | .int i, .int j => if 0 < j ∧ Builtin.divisionGoesByPylong i j = false then some (.tuple [.int (i / j), .int (i % j)]) else none
  | _, _ => none
def uAdd : U → U → Option U
  | .int i, .int j => some (.int (i + j))
  | .str i, .str j => if i.length + j.length ≤ sizeLine then some (.str (i ++ j)) else none
  | .tuple xs, .tuple ys => if xs.length + ys.length ≤ sizeLine ∧ ¬ xs.isEmpty ∧ ¬ ys.isEmpty then some (.tuple (xs ++ ys)) else none
  | _, _ => none
def uSub : U → U → Option U
  | .int i, .int j => some (.int (i - j))
  | _, _ => none
def uMul : U → U → Option U
  | .int i, .int j => if i.natAbs < 2 ^ 64 ∨ j.natAbs < 2 ^ 64 then some (.int (i * j)) else none
  | _, _ => none
def uFdiv : U → U → Option U
  | .int i, .int j => if 0 < j ∧ j.natAbs.log2 < 9000 then some (.int (i / j)) else none
  | _, _ => none
def uMod : U → U → Option U
  | .int i, .int j => if 0 < j then some (.int (i % j)) else none
  | _, _ => none
def uPow : U → U → Option U
  | .int i, .int j => if 0 ≤ j ∧ j ≤ 1000000 ∧ i.natAbs < 2 ^ 64 then some (.int (i ^ j.toNat)) else none
  | _, _ => none
def uBand : U → U → Option U
  | .int i, .int j => some (.int (Builtin.bitAnd i j))
  | _, _ => none
def uBor : U → U → Option U
  | .int i, .int j => some (.int (Builtin.bitOr i j))
  | _, _ => none
def uBxor : U → U → Option U
  | .int i, .int j => some (.int (Builtin.bitXor i j))
  | _, _ => none
def uShl : U → U → Option U
  | .int i, .int j => if 0 ≤ j ∧ j ≤ 1000000 ∧ i.natAbs < 2 ^ 64 then some (.int (i * 2 ^ j.toNat)) else none
  | _, _ => none
def uShr : U → U → Option U
  | .int i, .int j => if 0 ≤ j then some (.int (i / 2 ^ j.toNat)) else none
  | _, _ => none
def uInv : U → Option U
  | .int i => some (.int (Builtin.bitNot i))
  | _ => none
def uLt : U → U → Option U
  | .int i, .int j => some (.bool (decide (i < j)))
  | .str i, .str j => some (.bool (decide (i.cps.toList < j.cps.toList)))
  | _, _ => none
def uLe : U → U → Option U
  | .int i, .int j => some (.bool (decide (i ≤ j)))
  | .str i, .str j => some (.bool (!decide (j.cps.toList < i.cps.toList)))
  | _, _ => none
def uGt : U → U → Option U
  | .int i, .int j => some (.bool (decide (j < i)))
  | .str i, .str j => some (.bool (decide (j.cps.toList < i.cps.toList)))
  | _, _ => none
def uGe : U → U → Option U
  | .int i, .int j => some (.bool (decide (j ≤ i)))
  | .str i, .str j => some (.bool (!decide (i.cps.toList < j.cps.toList)))
  | _, _ => none
/-- of a kind that can be compared, not too deep -/
def shp (u : U) : Bool := noDct u && decide (u.py.depth ≤ 64)
def uEq (u v : U) : Option U := if shp u && shp v then some (.bool (eqD u v)) else none
def uNe (u v : U) : Option U := if shp u && shp v then some (.bool (!eqD u v)) else none
def flatU : U → Bool
  | .none | .bool _ | .int _ | .str _ => true
  | _ => false
def inStr (i j : Str) : Bool := !(Builtin.Str.occurrences j i 0 j.length 1).isEmpty
def uIn : U → U → Option U
  | u, .list ds => if shp u && shp (.list ds) then some (.bool (ds.any fun z => eqD z u)) else none
  | u, .tuple ds => if flatU u && ds.all flatU then some (.bool (ds.any fun z => eqD z u)) else none
  | .str i, .str j => some (.bool (if i.length = 1 then decide (i.cps.getD 0 0 ∈ j.cps.toList) else inStr i j))
  | _, _ => none
def uNotIn (u v : U) : Option U := match uIn u v with
  | some (.bool b) => some (.bool (!b))
  | _ => none
def uIs : U → U → Option U
  | .bool a, .bool b => some (.bool (decide (a = b)))
  | .none, .none => some (.bool true)
  | _, .none => some (.bool false)
  | _, _ => none
def uIsNot (u v : U) : Option U := match uIs u v with
  | some (.bool b) => some (.bool (!b))
  | _ => none
def uIdx : U → U → Option U
  | .list ds, .int i => atI ds i
  | .tuple ds, .int i => atI ds i
  | .str z, .int i => if z.length ≤ sizeLine then (atI z.cps.toList i).map fun c => .str ⟨#[c]⟩ else none
  | _, _ => none

section
variable {K : PySem.W.Frag} {X : Cx}
theorem bow_im {K : PySem.W.Frag} {G H : Hp} {v : V} {u : U} (h : Dq K G v u) : (bowB K u).b G H v := .inl h
theorem ty_u {G H : Hp} {v : V} {u : U} (e : Ex G H) (h : (bowB K u).b G H v) (hi : isInsU u = false) : TyX K H v (.type (tyU u)) := by
  have q := bow_dq e h
  cases u with
  | none => cases q; exact .base .non
  | bool b => cases q; exact .base (.bl _)
  | int i => cases q; exact .base (.int _)
  | str x => cases q; exact .base (.str _)
  | list ds =>
    cases q with
    | lst hs ha =>
      rcases hs with (z | ⟨o, z⟩) | ⟨o, its, n, h1, h2, _⟩
      · exact .base (.lst z)
      · exact .base (.frz z)
      · exact .kList h1 h2
  | tuple ds =>
    cases q with
    | tup hs ha =>
      rcases hs with (z | ⟨o, z⟩) | ⟨o, its, n, h1, h2, _⟩
      · exact .base (.tup z)
      · exact .fTuple z
      · exact .kTuple h1 h2
  | dict ds => cases q with | dct hh _ => exact .base (.dK hh)
  | dictT ds => cases q with | dctT hh _ => exact .base (.dT hh)
  | ins C fs => cases hi
theorem dqI {G : Hp} {v : V} {i : Int} : Dq K G (.int i) (.int i) := .int i
/-- the answer a known value -/
theorem done {H0 G H : Hp} {v : V} {d : U} {Q : VK} (ex : Ex G H) (q : ∀ v G' H', Grow G H G' H' → Rok (dU K d) H G' H' v → Q v H') (h : Dq K G v d) : Q v H := q v G H (Grow.refl ex) h
theorem pr_isi {T : String} : Pr K (dU K) (fun vs => rIsi K (vs ++ [.ty T])) (a1 (uIsi T)) := pr1 fun u d e G H v Q ex b q => by
  unfold uIsi at e
  split at e
  · cases e
  · rename_i hi
    obtain ⟨k, hk, e2⟩ := Option.map_eq_some_iff.mp e
    subst e2
    exact ⟨v, .ty T, _, _, k, rfl, .ty T, ty_u ex b (by simpa using hi), kit_ty hk, q _ G H (Grow.refl ex) (.bl k)⟩
theorem pr_len : Pr K (dU K) (fun xs H Q => ∃ x n, xs = [x] ∧ LenV K x H n ∧ Q (.int n) H) (a1 uLen) := pr1 fun u d e G H v Q ex b q => by
  unfold uLen at e
  split at e
  · split at e
    · rename_i z hz
      cases e
      obtain ⟨rfl, _⟩ := bow_str b
      exact ⟨_, _, rfl, ⟨hz, rfl⟩, q _ G H (Grow.refl ex) (.int _)⟩
    · cases e
  · cases e
    obtain ⟨a, vs, rfl, h1, h2⟩ := bow_ls ex b
    refine ⟨_, vs.length, rfl, .inl ⟨vs, h1, rfl⟩, q _ G H (Grow.refl ex) ?_⟩
    rw [dpAll_len h2]; exact .int _
  · cases e
    obtain ⟨a, vs, rfl, h1, h2⟩ := bow_tp ex b
    refine ⟨_, vs.length, rfl, .inr ⟨vs, h1, rfl⟩, q _ G H (Grow.refl ex) ?_⟩
    rw [dpAll_len h2]; exact .int _
  · cases e
theorem blsU_dq {G : Hp} : ∀ {ds : List U} {bs : List Bool} {vs : List V}, blsU ds = some bs → DqAll K G vs ds → vs = bs.map V.bl
  | [], bs, vs, e, h => by cases e; cases h; rfl
  | .bool b :: ds, bs, vs, e, h => by
    simp only [blsU] at e
    obtain ⟨cs, h1, rfl⟩ := Option.map_eq_some_iff.mp e
    cases h with
    | cons hd tl => cases hd; rw [blsU_dq h1 tl]; rfl
  | .none :: _, _, _, e, _ | .int _ :: _, _, _, e, _ | .str _ :: _, _, _, e, _ | .list _ :: _, _, _, e, _ | .tuple _ :: _, _, _, e, _ | .dict _ :: _, _, _, e, _ | .dictT _ :: _, _, _, e, _ | .ins _ _ :: _, _, _, e, _ => by simp [blsU] at e
theorem intsU_dq {G : Hp} : ∀ {ds : List U} {bs : List Int} {vs : List V}, intsU ds = some bs → DqAll K G vs ds → vs = bs.map V.int
  | [], bs, vs, e, h => by cases e; cases h; rfl
  | .int b :: ds, bs, vs, e, h => by
    simp only [intsU] at e
    obtain ⟨cs, h1, rfl⟩ := Option.map_eq_some_iff.mp e
    cases h with
    | cons hd tl => cases hd; rw [intsU_dq h1 tl]; rfl
  | .none :: _, _, _, e, _ | .bool _ :: _, _, _, e, _ | .str _ :: _, _, _, e, _ | .list _ :: _, _, _, e, _ | .tuple _ :: _, _, _, e, _ | .dict _ :: _, _, _, e, _ | .dictT _ :: _, _, _, e, _ | .ins _ _ :: _, _, _, e, _ => by simp [intsU] at e
theorem strsU_dq {G : Hp} : ∀ {ds : List U} {bs : List Str} {vs : List V}, strsU ds = some bs → DqAll K G vs ds → vs = bs.map V.str
  | [], bs, vs, e, h => by cases e; cases h; rfl
  | .str b :: ds, bs, vs, e, h => by
    simp only [strsU] at e
    obtain ⟨cs, h1, rfl⟩ := Option.map_eq_some_iff.mp e
    cases h with
    | cons hd tl => cases hd; rw [strsU_dq h1 tl]; rfl
  | .none :: _, _, _, e, _ | .bool _ :: _, _, _, e, _ | .int _ :: _, _, _, e, _ | .list _ :: _, _, _, e, _ | .tuple _ :: _, _, _, e, _ | .dict _ :: _, _, _, e, _ | .dictT _ :: _, _, _, e, _ | .ins _ _ :: _, _, _, e, _ => by simp [strsU] at e
theorem pr_all : Pr K (dU K) (rAll K) (a1 uAll) := pr1 fun u d e G H v Q ex b q => by
  unfold uAll at e
  split at e
  · obtain ⟨bs, h1, rfl⟩ := Option.map_eq_some_iff.mp e
    obtain ⟨a, vs, rfl, h3, h2⟩ := bow_ls ex b
    rw [blsU_dq h1 h2] at h3
    exact ⟨a, bs, rfl, h3, q _ G H (Grow.refl ex) (.bl _)⟩
  · cases e
theorem pr_any : Pr K (dU K) (rAny K) (a1 uAny) := pr1 fun u d e G H v Q ex b q => by
  unfold uAny at e
  split at e
  · obtain ⟨bs, h1, rfl⟩ := Option.map_eq_some_iff.mp e
    obtain ⟨a, vs, rfl, h3, h2⟩ := bow_ls ex b
    rw [blsU_dq h1 h2] at h3
    exact ⟨a, bs, rfl, h3, q _ G H (Grow.refl ex) (.bl _)⟩
  · cases e
theorem pr_sum : Pr K (dU K) (rSum K) (a1 uSum) := pr1 fun u d e G H v Q ex b q => by
  unfold uSum at e
  split at e
  · obtain ⟨bs, h1, rfl⟩ := Option.map_eq_some_iff.mp e
    obtain ⟨a, vs, rfl, h3, h2⟩ := bow_ls ex b
    rw [intsU_dq h1 h2] at h3
    exact ⟨a, bs, rfl, h3, q _ G H (Grow.refl ex) (.int _)⟩
  · cases e
theorem oNew {H0 G H : Hp} {vs : List V} {ds : List U} {l : Addr} {Q : VK} (ex : Ex G H) (hl : H l = none) (h2 : DqAll K G vs ds) (q : ∀ v G' H', Grow G H G' H' → Rok (oU K (.list ds)) H G' H' v → Q v H') : Q (.ref l) (upd H l (.lst vs)) :=
  q _ G _ (Grow.new ex hl) ⟨l, _, rfl, hl, Ex.back ex hl, upd_same, h2⟩
theorem tNew {H0 G H : Hp} {vs : List V} {ds : List U} {l : Addr} {Q : VK} (ex : Ex G H) (hl : H l = none) (h2 : DqAll K G vs ds) (q : ∀ v G' H', Grow G H G' H' → Rok (dU K (.tuple ds)) H G' H' v → Q v H') : Q (.ref l) (upd H l (.tup vs)) :=
  q _ _ _ (Grow.newF ex hl) (.tup (.inl (.inl upd_same)) (dpAll_ex (Ex.new (Ex.back ex hl)) _ _ h2))
def uListS : U → Option U
  | .list ds => some (.list ds)
  | .tuple ds => some (.list ds)
  | _ => none
theorem pr_list : Pr K (oU K) (fun xs H Q => ∃ p ys, xs = [.ref p] ∧ (SqL K H p ys ∨ SqT K H p ys) ∧ ∀ l, H l = none → Q (.ref l) (upd H l (.lst ys))) (a1 uListS) := pr1 fun u d e G H v Q ex b q => by
  unfold uListS at e
  split at e
  · cases e
    obtain ⟨a, vs, rfl, h3, h2⟩ := bow_ls ex b
    exact ⟨a, vs, rfl, .inl h3, fun l hl => oNew (H0 := H) ex hl h2 q⟩
  · cases e
    obtain ⟨a, vs, rfl, h3, h2⟩ := bow_tp ex b
    exact ⟨a, vs, rfl, .inr h3, fun l hl => oNew (H0 := H) ex hl h2 q⟩
  · cases e
theorem pr_tuple : Pr K (dU K) (fun xs H Q => ∃ p ys, xs = [.ref p] ∧ ((SqL K H p ys ∧ ∀ l, H l = none → Q (.ref l) (upd H l (.tup ys))) ∨ (SqT K H p ys ∧ Q (.ref p) H))) (a1 uTuple) := pr1 fun u d e G H v Q ex b q => by
  unfold uTuple at e
  split at e
  · cases e
    obtain ⟨a, vs, rfl, h3, h2⟩ := bow_ls ex b
    exact ⟨a, vs, rfl, .inl ⟨h3, fun l hl => tNew (H0 := H) ex hl h2 q⟩⟩
  · rename_i ds
    cases e
    have z := bow_at ex b (fun _ z => nomatch z) (fun _ z => nomatch z) (fun _ z => nomatch z) (fun _ _ z => nomatch z)
    cases z with
    | tup hs ha => exact ⟨_, _, rfl, .inr ⟨sqT_ex ex hs, q _ G H (Grow.refl ex) (.tup hs ha)⟩⟩
  · cases e
theorem pr_max2 : Pr K (dU K) (fun xs H Q => ∃ i j, xs = [.int i, .int j] ∧ Q (.int (if j > i then j else i)) H) (a2 uMax2) := pr2 fun u w d e G H v x Q ex b b2 q => by
  unfold uMax2 at e
  split at e
  · cases e
    cases bow_int b; cases bow_int b2
    exact ⟨_, _, rfl, q _ G H (Grow.refl ex) (.int _)⟩
  · cases e
theorem pr_min2 : Pr K (dU K) (fun xs H Q => ∃ i j, xs = [.int i, .int j] ∧ Q (.int (if j < i then j else i)) H) (a2 uMin2) := pr2 fun u w d e G H v x Q ex b b2 q => by
  unfold uMin2 at e
  split at e
  · cases e
    cases bow_int b; cases bow_int b2
    exact ⟨_, _, rfl, q _ G H (Grow.refl ex) (.int _)⟩
  · cases e
theorem pr_abs : Pr K (dU K) (fun xs H Q => ∃ i, xs = [.int i] ∧ Q (.int (if i < 0 then -i else i)) H) (a1 uAbs) := pr1 fun u d e G H v Q ex b q => by
  unfold uAbs at e
  split at e
  · cases e
    cases bow_int b
    exact ⟨_, rfl, q _ G H (Grow.refl ex) (.int _)⟩
  · cases e
theorem pr_int : Pr K (dU K) (fun xs H Q => (∃ i, xs = [.int i] ∧ Q (.int i) H) ∨ ∃ k, xs = [.bl k] ∧ Q (.int (if k then 1 else 0)) H) (a1 uInt) := pr1 fun u d e G H v Q ex b q => by
  unfold uInt at e
  split at e
  · cases e
    cases bow_int b
    exact .inl ⟨_, rfl, q _ G H (Grow.refl ex) (.int _)⟩
  · cases e
    cases bow_bl b
    exact .inr ⟨_, rfl, q _ G H (Grow.refl ex) (.int _)⟩
  · cases e
theorem pr_divmod : Pr K (dU K) (fun xs H Q => ∃ i j, xs = [.int i, .int j] ∧ CDivP i j ∧ ∀ p, H p = none → Q (.ref p) (upd H p (.tup [.int (i / j), .int (i % j)]))) (a2 uDivmod) := pr2 fun u w d e G H v x Q ex b b2 q => by
  unfold uDivmod at e
  split at e
  · split at e
    · rename_i hc
      cases e
      cases bow_int b; cases bow_int b2
      exact ⟨_, _, rfl, hc, fun l hl => tNew (H0 := H) ex hl (.cons (.int _) (.cons (.int _) .nil)) q⟩
    · cases e
  · cases e
/-! operators -/
theorem pr_neg : Pr K (dU K) (r1l (rU fun i => .int (-i))) (a1 uNeg) := pr1 fun u d e G H v Q ex b q => by
  unfold uNeg at e
  split at e
  · cases e; cases bow_int b; exact ⟨_, rfl, q _ G H (Grow.refl ex) (.int _)⟩
  · cases e
theorem pr_inv : Pr K (dU K) (r1l (rU fun i => .int (Builtin.bitNot i))) (a1 uInv) := pr1 fun u d e G H v Q ex b q => by
  unfold uInv at e
  split at e
  · cases e; cases bow_int b; exact ⟨_, rfl, q _ G H (Grow.refl ex) (.int _)⟩
  · cases e
def rAdd (K : PySem.W.Frag) : R2 := fun x y H Q => (rI0 (fun i j => .int (i + j)) x y H Q ∨ (∃ i j, x = .str i ∧ y = .str j ∧ i.length + j.length ≤ sizeLine ∧ Q (.str (i ++ j)) H)) ∨ rCatT K x y H Q
theorem op_addU : OpR X (binaryOp .Add) (rAdd X.K) := OpR.or (OpR.or op_add op_add_str) op_catT
theorem strOk_append {i j : Str} (h : PyData.strOk i = true) (k : PyData.strOk j = true) : PyData.strOk (i ++ j) = true := by
  have e : (i ++ j).cps = i.cps ++ j.cps := rfl
  unfold PyData.strOk at h k ⊢
  rw [e, Array.all_append, h, k]; rfl
theorem pr_add : Pr K (dU K) (r2l (rAdd K)) (a2 uAdd) := pr2 fun u w d e G H v x Q ex b b2 q => by
  unfold uAdd at e
  split at e
  · cases e; cases bow_int b; cases bow_int b2
    exact .inl (.inl ⟨_, _, rfl, rfl, q _ G H (Grow.refl ex) (.int _)⟩)
  · split at e
    · rename_i hz
      cases e
      obtain ⟨rfl, h1⟩ := bow_str b
      obtain ⟨rfl, h2⟩ := bow_str b2
      exact .inl (.inr ⟨_, _, rfl, rfl, hz, q _ G H (Grow.refl ex) (.str _ (strOk_append h1 h2))⟩)
    · cases e
  · split at e
    · rename_i xs ys hz
      cases e
      obtain ⟨a, vs, rfl, h3, h4⟩ := bow_tp ex b
      obtain ⟨a2, ws, rfl, h5, h6⟩ := bow_tp ex b2
      have l1 := dpAll_len h4
      have l2 := dpAll_len h6
      have n1 : vs ≠ [] := by
        rintro rfl
        cases xs with
        | nil => simp at hz
        | cons _ _ => simp at l1
      have n2 : ws ≠ [] := by
        rintro rfl
        cases ys with
        | nil => simp at hz
        | cons _ _ => simp at l2
      exact .inr ⟨_, _, vs, ws, rfl, rfl, h3, h5, n1, by omega, fun z => absurd z n2, fun _ l hl => tNew (H0 := H) ex hl (dpAll_append h4 h6) q⟩
    · cases e
  · cases e
theorem pr_sub : Pr K (dU K) (r2l (rI0 fun i j => .int (i - j))) (a2 uSub) := pr2 fun u w d e G H v x Q ex b b2 q => by
  unfold uSub at e
  split at e
  · cases e; cases bow_int b; cases bow_int b2
    exact ⟨_, _, rfl, rfl, q _ G H (Grow.refl ex) (.int _)⟩
  · cases e
theorem pr_mul : Pr K (dU K) (r2l (rI CMul fun i j => .int (i * j))) (a2 uMul) := pr2 fun u w d e G H v x Q ex b b2 q => by
  unfold uMul at e
  split at e
  · split at e
    · rename_i hz
      cases e; cases bow_int b; cases bow_int b2
      exact ⟨_, _, rfl, rfl, (by unfold CMul; omega), q _ G H (Grow.refl ex) (.int _)⟩
    · cases e
  · cases e
theorem pr_fdiv : Pr K (dU K) (r2l (rI CDivW fun i j => .int (i / j))) (a2 uFdiv) := pr2 fun u w d e G H v x Q ex b b2 q => by
  unfold uFdiv at e
  split at e
  · split at e
    · rename_i hz
      cases e; cases bow_int b; cases bow_int b2
      exact ⟨_, _, rfl, rfl, hz, q _ G H (Grow.refl ex) (.int _)⟩
    · cases e
  · cases e
theorem pr_mod : Pr K (dU K) (r2l (rI (fun _ j => 0 < j) fun i j => .int (i % j))) (a2 uMod) := pr2 fun u w d e G H v x Q ex b b2 q => by
  unfold uMod at e
  split at e
  · split at e
    · rename_i hz
      cases e; cases bow_int b; cases bow_int b2
      exact ⟨_, _, rfl, rfl, hz, q _ G H (Grow.refl ex) (.int _)⟩
    · cases e
  · cases e
theorem pr_pow : Pr K (dU K) (r2l (rI CPow fun i j => .int (i ^ j.toNat))) (a2 uPow) := pr2 fun u w d e G H v x Q ex b b2 q => by
  unfold uPow at e
  split at e
  · split at e
    · rename_i hz
      cases e; cases bow_int b; cases bow_int b2
      exact ⟨_, _, rfl, rfl, hz, q _ G H (Grow.refl ex) (.int _)⟩
    · cases e
  · cases e
theorem pr_shl : Pr K (dU K) (r2l (rI CPow fun i j => .int (i * 2 ^ j.toNat))) (a2 uShl) := pr2 fun u w d e G H v x Q ex b b2 q => by
  unfold uShl at e
  split at e
  · split at e
    · rename_i hz
      cases e; cases bow_int b; cases bow_int b2
      exact ⟨_, _, rfl, rfl, hz, q _ G H (Grow.refl ex) (.int _)⟩
    · cases e
  · cases e
theorem pr_shr : Pr K (dU K) (r2l (rI (fun _ j => 0 ≤ j) fun i j => .int (i / 2 ^ j.toNat))) (a2 uShr) := pr2 fun u w d e G H v x Q ex b b2 q => by
  unfold uShr at e
  split at e
  · split at e
    · rename_i hz
      cases e; cases bow_int b; cases bow_int b2
      exact ⟨_, _, rfl, rfl, hz, q _ G H (Grow.refl ex) (.int _)⟩
    · cases e
  · cases e
theorem pr_band : Pr K (dU K) (r2l (rI0 fun i j => .int (Builtin.bitAnd i j))) (a2 uBand) := pr2 fun u w d e G H v x Q ex b b2 q => by
  unfold uBand at e
  split at e
  · cases e; cases bow_int b; cases bow_int b2
    exact ⟨_, _, rfl, rfl, q _ G H (Grow.refl ex) (.int _)⟩
  · cases e
theorem pr_bor : Pr K (dU K) (r2l (rI0 fun i j => .int (Builtin.bitOr i j))) (a2 uBor) := pr2 fun u w d e G H v x Q ex b b2 q => by
  unfold uBor at e
  split at e
  · cases e; cases bow_int b; cases bow_int b2
    exact ⟨_, _, rfl, rfl, q _ G H (Grow.refl ex) (.int _)⟩
  · cases e
theorem pr_bxor : Pr K (dU K) (r2l (rI0 fun i j => .int (Builtin.bitXor i j))) (a2 uBxor) := pr2 fun u w d e G H v x Q ex b b2 q => by
  unfold uBxor at e
  split at e
  · cases e; cases bow_int b; cases bow_int b2
    exact ⟨_, _, rfl, rfl, q _ G H (Grow.refl ex) (.int _)⟩
  · cases e
/-! comparisons -/
def rLtU : R2 := fun x y H Q => rI0 (fun i j => .bl (decide (i < j))) x y H Q ∨ (∃ i j, x = .str i ∧ y = .str j ∧ Q (.bl (decide (i.cps.toList < j.cps.toList))) H)
def rLeU : R2 := fun x y H Q => rI0 (fun i j => .bl (decide (i ≤ j))) x y H Q ∨ (∃ i j, x = .str i ∧ y = .str j ∧ Q (.bl (!decide (j.cps.toList < i.cps.toList))) H)
def rGtU : R2 := fun x y H Q => rI0 (fun i j => .bl (decide (j < i))) x y H Q ∨ (∃ i j, x = .str i ∧ y = .str j ∧ Q (.bl (decide (j.cps.toList < i.cps.toList))) H)
def rGeU : R2 := fun x y H Q => rI0 (fun i j => .bl (decide (j ≤ i))) x y H Q ∨ (∃ i j, x = .str i ∧ y = .str j ∧ Q (.bl (!decide (i.cps.toList < j.cps.toList))) H)
theorem op_ltU : OpR X (compareOp .Lt) rLtU := OpR.or op_lt op_lt_str
theorem op_leU : OpR X (compareOp .LtE) rLeU := OpR.or op_le op_le_str
theorem op_gtU : OpR X (compareOp .Gt) rGtU := OpR.or op_gt op_gt_str
theorem op_geU : OpR X (compareOp .GtE) rGeU := OpR.or op_ge op_ge_str
theorem pr_lt : Pr K (dU K) (r2l rLtU) (a2 uLt) := pr2 fun u w d e G H v x Q ex b b2 q => by
  unfold uLt at e
  split at e
  · cases e; cases bow_int b; cases bow_int b2; exact .inl ⟨_, _, rfl, rfl, q _ G H (Grow.refl ex) (.bl _)⟩
  · cases e; cases (bow_str b).1; cases (bow_str b2).1; exact .inr ⟨_, _, rfl, rfl, q _ G H (Grow.refl ex) (.bl _)⟩
  · cases e
theorem pr_le : Pr K (dU K) (r2l rLeU) (a2 uLe) := pr2 fun u w d e G H v x Q ex b b2 q => by
  unfold uLe at e
  split at e
  · cases e; cases bow_int b; cases bow_int b2; exact .inl ⟨_, _, rfl, rfl, q _ G H (Grow.refl ex) (.bl _)⟩
  · cases e; cases (bow_str b).1; cases (bow_str b2).1; exact .inr ⟨_, _, rfl, rfl, q _ G H (Grow.refl ex) (.bl _)⟩
  · cases e
theorem pr_gt : Pr K (dU K) (r2l rGtU) (a2 uGt) := pr2 fun u w d e G H v x Q ex b b2 q => by
  unfold uGt at e
  split at e
  · cases e; cases bow_int b; cases bow_int b2; exact .inl ⟨_, _, rfl, rfl, q _ G H (Grow.refl ex) (.bl _)⟩
  · cases e; cases (bow_str b).1; cases (bow_str b2).1; exact .inr ⟨_, _, rfl, rfl, q _ G H (Grow.refl ex) (.bl _)⟩
  · cases e
theorem pr_ge : Pr K (dU K) (r2l rGeU) (a2 uGe) := pr2 fun u w d e G H v x Q ex b b2 q => by
  unfold uGe at e
  split at e
  · cases e; cases bow_int b; cases bow_int b2; exact .inl ⟨_, _, rfl, rfl, q _ G H (Grow.refl ex) (.bl _)⟩
  · cases e; cases (bow_str b).1; cases (bow_str b2).1; exact .inr ⟨_, _, rfl, rfl, q _ G H (Grow.refl ex) (.bl _)⟩
  · cases e
theorem shp_dp {G H : Hp} {v : V} {u : U} (ex : Ex G H) (b : (bowB K u).b G H v) (h : shp u = true) : Dp K H v u.py ∧ SeqAt.shaped u.py = true := by
  unfold shp at h
  simp only [Bool.and_eq_true, decide_eq_true_eq] at h
  have q := bow_dq ex b
  obtain ⟨h1, h2⟩ := dq_dp _ _ h.1 q
  exact ⟨h1, by unfold SeqAt.shaped; rw [h2, decide_eq_true h.2]; rfl⟩
theorem pr_eq : Pr K (dU K) (r2l (rEqD K)) (a2 uEq) := pr2 fun u w d e G H v x Q ex b b2 q => by
  unfold uEq at e
  split at e
  · rename_i hc
    simp only [Bool.and_eq_true] at hc
    cases e
    exact ⟨u.py, w.py, (shp_dp ex b hc.1).1, (shp_dp ex b2 hc.2).1, (shp_dp ex b hc.1).2, (shp_dp ex b2 hc.2).2, q _ G H (Grow.refl ex) (.bl _)⟩
  · cases e
theorem pr_ne : Pr K (dU K) (r2l (rNeD K)) (a2 uNe) := pr2 fun u w d e G H v x Q ex b b2 q => by
  unfold uNe at e
  split at e
  · rename_i hc
    simp only [Bool.and_eq_true] at hc
    cases e
    exact ⟨u.py, w.py, (shp_dp ex b hc.1).1, (shp_dp ex b2 hc.2).1, (shp_dp ex b hc.1).2, (shp_dp ex b2 hc.2).2, q _ G H (Grow.refl ex) (.bl _)⟩
  · cases e
end
end L3

namespace L3
open PySem PySem.Spec PyProof.Rows L2

section
variable {K : PySem.W.Frag} {X : Cx}
/-! in, not in -/
def rInU (K : PySem.W.Frag) : R2 := fun x y H Q => ((rInD K x y H Q ∨ rIn K false x y H Q) ∨ (∃ (c : Nat) (z : Str), x = .str ⟨#[c]⟩ ∧ y = .str z ∧ Q (.bl (decide (c ∈ z.cps.toList))) H)) ∨ (∃ i j, x = .str i ∧ y = .str j ∧ Q (.bl (!(Builtin.Str.occurrences j i 0 j.length 1).isEmpty)) H)
def rNotInU (K : PySem.W.Frag) : R2 := fun x y H Q => ((rNotInD K x y H Q ∨ rIn K true x y H Q) ∨ (∃ (c : Nat) (z : Str), x = .str ⟨#[c]⟩ ∧ y = .str z ∧ Q (.bl (!decide (c ∈ z.cps.toList))) H)) ∨ (∃ i j, x = .str i ∧ y = .str j ∧ Q (.bl (!(!(Builtin.Str.occurrences j i 0 j.length 1).isEmpty))) H)
theorem op_inU (hu : X.A.units + 65 < cLine) : OpR X (compareOp .In) (rInU X.K) := OpR.or (OpR.or (OpR.or (op_inD hu) op_in_seq) op_in_sign) op_in_str
theorem op_notInU (hu : X.A.units + 65 < cLine) : OpR X (compareOp .NotIn) (rNotInU X.K) := OpR.or (OpR.or (OpR.or (op_notInD hu) op_notIn_seq) op_notIn_sign) op_notIn_str
theorem flat_v {G : Hp} {v : V} {u : U} (h : Dq K G v u) (f : flatU u = true) : flatV v = true := by
  cases h <;> first | rfl | cases f
theorem flats_v {G : Hp} : ∀ {vs : List V} {us : List U}, DqAll K G vs us → us.all flatU = true → vs.all flatV = true
  | _, [], h, _ => by cases h; rfl
  | _, u :: us, h, f => by
    cases h with
    | cons h1 h2 =>
      rw [List.all_cons, Bool.and_eq_true] at f ⊢
      exact ⟨flat_v h1 f.1, flats_v h2 f.2⟩
theorem eqV_u {G : Hp} {x y : V} {u z : U} (h : Dq K G x u) (k : Dq K G y z) (f : flatU u = true) (g : flatU z = true) : eqV y x = eqD z u := by
  cases h <;> first | cases f | skip
  all_goals cases k <;> first | cases g | skip
  all_goals first | rfl | (simp [eqV, eqD, U.py, PyData.eqv]; done) | (unfold eqD; simp [U.py]; unfold PyData.eqv; rfl)
theorem inV_u {G : Hp} {x : V} {u : U} (h : Dq K G x u) (f : flatU u = true) : ∀ {vs : List V} {us : List U}, DqAll K G vs us → us.all flatU = true → inV x vs = us.any fun z => eqD z u
  | _, [], k, _ => by cases k; rfl
  | _, z :: us, k, g => by
    cases k with
    | cons k1 k2 =>
      rw [List.all_cons, Bool.and_eq_true] at g
      have ih := inV_u h f k2 g.2
      unfold inV at ih ⊢
      rw [List.any_cons, List.any_cons, ih, eqV_u h k1 f g.1]
theorem any_py (f : PyData → Bool) : ∀ us : List U, (U.pys us).any f = us.any fun u => f u.py
  | [] => rfl
  | u :: us => by rw [U.pys, List.any_cons, List.any_cons, any_py f us]
theorem in_core {G H : Hp} {v x : V} {u w d : U} (e : uIn u w = some d) (ex : Ex G H) (b : (bowB K u).b G H v) (b2 : (bowB K w).b G H x) : ∃ k, d = .bool k ∧ (∀ Q : VK, Q (.bl k) H → rInU K v x H Q) ∧ ∀ Q : VK, Q (.bl (!k)) H → rNotInU K v x H Q := by
  unfold uIn at e
  split at e
  · rename_i ds
    split at e
    · rename_i hc
      simp only [Bool.and_eq_true] at hc
      cases e
      have h1 := shp_dp ex b hc.1
      have h2 := shp_dp ex b2 hc.2
      rw [U.py] at h2
      refine ⟨_, rfl, fun Q q => .inl (.inl (.inl ⟨_, _, h1.1, h2.1, h1.2, h2.2, ?_⟩)), fun Q q => .inl (.inl (.inl ⟨_, _, h1.1, h2.1, h1.2, h2.2, ?_⟩))⟩
      · rw [any_py]; exact q
      · rw [any_py]; exact q
    · cases e
  · rename_i ds
    split at e
    · rename_i hc
      simp only [Bool.and_eq_true] at hc
      cases e
      obtain ⟨a, vs, rfl, h3, h2⟩ := bow_tp ex b2
      have hv : Dq K G v u := bow_at ex b (by rintro _ rfl; cases hc.1) (by rintro _ rfl; cases hc.1) (by rintro _ rfl; cases hc.1) (by rintro _ _ rfl; cases hc.1)
      have e1 := inV_u hv hc.1 h2 hc.2
      refine ⟨_, rfl, fun Q q => .inl (.inl (.inr ⟨_, vs, rfl, .inr h3, flat_v hv hc.1, flats_v h2 hc.2, ?_⟩)), fun Q q => .inl (.inl (.inr ⟨_, vs, rfl, .inr h3, flat_v hv hc.1, flats_v h2 hc.2, ?_⟩))⟩
      · rw [if_neg Bool.false_ne_true, e1]; exact q
      · rw [if_pos rfl, e1]; exact q
    · cases e
  · rename_i i j
    cases e
    obtain ⟨rfl, h1⟩ := bow_str b
    obtain ⟨rfl, h2⟩ := bow_str b2
    by_cases hl : i.length = 1
    · obtain ⟨⟨cs⟩⟩ := i
      match cs, hl with
      | [c], hl =>
        refine ⟨_, rfl, fun Q q => .inl (.inr ⟨c, j, rfl, rfl, ?_⟩), fun Q q => .inl (.inr ⟨c, j, rfl, rfl, ?_⟩)⟩
        · rw [if_pos hl] at q; exact q
        · rw [if_pos hl] at q; exact q
    · refine ⟨_, rfl, fun Q q => .inr ⟨_, _, rfl, rfl, ?_⟩, fun Q q => .inr ⟨_, _, rfl, rfl, ?_⟩⟩
      · rw [if_neg hl] at q; exact q
      · rw [if_neg hl] at q; exact q
  · cases e
theorem pr_in : Pr K (dU K) (r2l (rInU K)) (a2 uIn) := pr2 fun u w d e G H v x Q ex b b2 q => by
  obtain ⟨k, rfl, h, _⟩ := in_core e ex b b2
  exact h Q (q _ G H (Grow.refl ex) (.bl _))
theorem pr_notIn : Pr K (dU K) (r2l (rNotInU K)) (a2 uNotIn) := pr2 fun u w d e G H v x Q ex b b2 q => by
  unfold uNotIn at e
  split at e
  · rename_i k hk
    cases e
    obtain ⟨k', e', _, h⟩ := in_core hk ex b b2
    cases e'
    exact h Q (q _ G H (Grow.refl ex) (.bl _))
  · cases e
/-! is -/
def rIsU : R2 := fun x y H Q => (y = .non ∧ Q (.bl (decide (x = .non))) H) ∨ rIsB x y H Q
def rIsNotU : R2 := fun x y H Q => (y = .non ∧ Q (.bl (!decide (x = .non))) H) ∨ rNotB x y H Q
theorem op_isU : OpR X (compareOp .Is) rIsU := OpR.or op_isN op_isBl
theorem op_isNotU : OpR X (compareOp .IsNot) rIsNotU := OpR.or op_notN op_notBl
theorem is_core {G H : Hp} {v x : V} {u w d : U} (e : uIs u w = some d) (ex : Ex G H) (b : (bowB K u).b G H v) (b2 : (bowB K w).b G H x) : ∃ k, d = .bool k ∧ (∀ Q : VK, Q (.bl k) H → rIsU v x H Q) ∧ ∀ Q : VK, Q (.bl (!k)) H → rIsNotU v x H Q := by
  unfold uIs at e
  split at e
  · cases e
    cases bow_bl b; cases bow_bl b2
    exact ⟨_, rfl, fun Q q => .inr ⟨_, _, rfl, rfl, q⟩, fun Q q => .inr ⟨_, _, rfl, rfl, q⟩⟩
  · cases e
    cases bow_non b; cases bow_non b2
    exact ⟨_, rfl, fun Q q => .inl ⟨rfl, q⟩, fun Q q => .inl ⟨rfl, q⟩⟩
  · rename_i hn
    cases e
    cases bow_non b2
    have hv : v ≠ .non := by
      rintro rfl
      have z := bow_dq ex b
      cases z
      exact hn rfl
    refine ⟨_, rfl, fun Q q => .inl ⟨rfl, ?_⟩, fun Q q => .inl ⟨rfl, ?_⟩⟩
    · rw [decide_eq_false hv]; exact q
    · rw [decide_eq_false hv]; exact q
  · cases e
theorem pr_is : Pr K (dU K) (r2l rIsU) (a2 uIs) := pr2 fun u w d e G H v x Q ex b b2 q => by
  obtain ⟨k, rfl, h, _⟩ := is_core e ex b b2
  exact h Q (q _ G H (Grow.refl ex) (.bl _))
theorem pr_isNot : Pr K (dU K) (r2l rIsNotU) (a2 uIsNot) := pr2 fun u w d e G H v x Q ex b b2 q => by
  unfold uIsNot at e
  split at e
  · rename_i k hk
    cases e
    obtain ⟨k', e', _, h⟩ := is_core hk ex b b2
    cases e'
    exact h Q (q _ G H (Grow.refl ex) (.bl _))
  · cases e
/-! items -/
theorem dpAll_atI {G : Hp} {vs : List V} {us : List U} {i : Int} {d : U} (h : DqAll K G vs us) (e : atI us i = some d) : ∃ v, atI vs i = some v ∧ Dq K G v d := by
  unfold atI at e ⊢
  rw [dpAll_len h]
  cases hx : ixN us.length i with
  | none => rw [hx] at e; cases e
  | some j =>
    rw [hx] at e
    obtain ⟨v, h1, h2⟩ := dpAll_get h e
    exact ⟨v, h1, h2⟩
theorem atI_mem {α : Type} {xs : List α} {i : Int} {c : α} (hc : atI xs i = some c) : c ∈ xs := by
  unfold atI at hc
  obtain ⟨j, _, hj⟩ := Option.bind_eq_some_iff.mp hc
  exact List.mem_of_getElem? hj
theorem sign_ok {z : Str} {c : Nat} (h : PyData.strOk z = true) (hm : c ∈ z.cps.toList) : PyData.strOk ⟨#[c]⟩ = true := by
  have := (Array.all_eq_true_iff_forall_mem.mp h) c (by simpa using hm)
  simpa [PyData.strOk] using this
theorem pr_idx : Pr K (dU K) (r2l (rIx K)) (a2 uIdx) := pr2 fun u w d e G H v x Q ex b b2 q => by
  unfold uIdx at e
  split at e
  · cases bow_int b2
    obtain ⟨a, vs, rfl, h3, h2⟩ := bow_ls ex b
    obtain ⟨y, h4, h5⟩ := dpAll_atI h2 e
    exact .inl ⟨_, vs, _, y, rfl, rfl, h3, h4, q _ G H (Grow.refl ex) h5⟩
  · cases bow_int b2
    obtain ⟨a, vs, rfl, h3, h2⟩ := bow_tp ex b
    obtain ⟨y, h4, h5⟩ := dpAll_atI h2 e
    exact .inr (.inl ⟨_, vs, _, y, rfl, rfl, h3, h4, q _ G H (Grow.refl ex) h5⟩)
  · split at e
    · rename_i hz
      cases bow_int b2
      obtain ⟨rfl, hok⟩ := bow_str b
      obtain ⟨c, hc, rfl⟩ := Option.map_eq_some_iff.mp e
      have hm := atI_mem hc
      exact .inr (.inr ⟨_, _, c, rfl, rfl, hz, hc, q _ G H (Grow.refl ex) (.str _ (sign_ok hok hm))⟩)
    · cases e
  · cases e
/-! slices: parts whole numbers -/
def cutU (us : List U) (lo hi : Option Int) : List U := (us.drop (HT.sIx us.length 0 lo)).take (HT.sIx us.length us.length hi - HT.sIx us.length 0 lo)
theorem dpAll_cut {G : Hp} {vs : List V} {us : List U} (lo hi : Option Int) (h : DqAll K G vs us) : DqAll K G (cutV vs lo hi) (cutU us lo hi) := by
  unfold cutV cutU
  rw [dpAll_len h]
  exact dpAll_take _ (dpAll_drop _ h)
def uCut (u : U) (lo hi : Option Int) : Option U := match u with
  | .list ds => some (.list (cutU ds lo hi))
  | .tuple ds => if HT.sIx ds.length 0 lo = 0 ∧ HT.sIx ds.length ds.length hi = ds.length then none else some (.tuple (cutU ds lo hi))
  | .str z => if z.length ≤ sizeLine then some (.str (cutS z lo hi)) else none
  | _ => none
theorem SlR.or {r r' : V → Option Int → Option Int → Hp → VK → Prop} (h : SlR X r) (h' : SlR X r') : SlR X (fun x l u H Q => r x l u H Q ∨ r' x l u H Q) := by
  intro pins s σ H x v vl vu lo hi sl Q I rx hs pl pu q
  rcases q with q | q
  · exact h pins s σ H x v vl vu lo hi sl Q I rx hs pl pu q
  · exact h' pins s σ H x v vl vu lo hi sl Q I rx hs pl pu q
def rSlU (K : PySem.W.Frag) : V → Option Int → Option Int → Hp → VK → Prop := fun x lo hi H Q => (rSlL K x lo hi H Q ∨ rSlT K x lo hi H Q) ∨ rSlS x lo hi H Q
theorem sl_u : SlR X (rSlU X.K) := SlR.or (SlR.or sl_list sl_tup) sl_str
theorem cut_ok {z : Str} {lo hi : Option Int} (h : PyData.strOk z = true) : PyData.strOk (cutS z lo hi) = true := by
  unfold PyData.strOk at h ⊢
  rw [Array.all_eq_true_iff_forall_mem] at h ⊢
  intro c hc
  refine h c ?_
  unfold cutS at hc
  rw [List.mem_toArray] at hc
  simpa using List.mem_of_mem_drop (List.mem_of_mem_take hc)
theorem cut_run {G H : Hp} {v : V} {u d : U} {lo hi : Option Int} {Q : VK} (e : uCut u lo hi = some d) (ex : Ex G H) (b : (bowB K u).b G H v) (q : ∀ v G' H', Grow G H G' H' → Rok (dU K d) H G' H' v → Q v H') : rSlU K v lo hi H Q := by
  unfold uCut at e
  split at e
  · cases e
    obtain ⟨a, vs, rfl, h3, h2⟩ := bow_ls ex b
    refine .inl (.inl ⟨a, vs, rfl, h3, fun l hl => ?_⟩)
    exact q _ _ _ (Grow.newF ex hl) (.lst (.inl (.inl upd_same)) (dpAll_ex (Ex.new (Ex.back ex hl)) _ _ (dpAll_cut lo hi h2)))
  · split at e
    · cases e
    · rename_i hn
      cases e
      obtain ⟨a, vs, rfl, h3, h2⟩ := bow_tp ex b
      refine .inl (.inr ⟨a, vs, rfl, h3, by rw [dpAll_len h2]; exact hn, fun l hl => tNew (H0 := H) ex hl (dpAll_cut lo hi h2) q⟩)
  · split at e
    · rename_i hz
      cases e
      obtain ⟨rfl, hok⟩ := bow_str b
      exact .inr ⟨_, rfl, hz, q _ G H (Grow.refl ex) (.str _ (cut_ok hok))⟩
    · cases e
  · cases e
end
section
variable {S β γ δ : Type} {X : Cx} {w : Env1} {Γ : S → Gam} {a b c e : Expr} {pos p p2 : Pos} {x : Str}
def asI (u : U) : StM S Int := match u with | .int i => .pure i | _ => .fail
/-- a part of a slice: none, or a whole number -/
def PartE (X : Cx) (w : Env1) (Γ : S → Gam) (o : Option Expr) (m : StM S (Option Int)) : Prop := ∃ t, PO X o t ∧ ∀ M G0 H0 G H σ s, At M G0 H0 (Γ s) G H σ → ∀ Q : Option Int → Hp → Prop,
  (m s).wp (fun l s' => ∀ G' H', At M G0 H0 (Γ s') G' H' σ → Step (Γ s) (Γ s') σ G H G' H' → Q l H') (ExcK X w Γ M G0 H0 σ) → t σ H Q
theorem pt_none_ : PartE X w Γ none (.pure none) := ⟨_, po_none, fun M G0 H0 G H σ s at_ Q q => q G H at_ Step.refl⟩
theorem pt_some_ {m : StM S U} (h : EvD X w Γ e m) : PartE X w Γ (some e) (.bind m fun u => .bind (asI u) fun i => .pure (some i)) := ⟨_, po_some pe_se, fun M G0 H0 G H σ s at_ Q q => h M G0 H0 G H σ s at_ _ (wp_mono (wp_bind.mp q) (fun u s1 q1 v G1 H1 a1 st1 r1 => by
  cases u with
  | int i => cases r1; exact ⟨i, rfl, q1 G1 H1 a1 st1⟩
  | _ => exact q1.elim) fun _ _ h => h)⟩
/-- e[lo:hi], frozen -/
theorem sl_ {ma : StM S β} {rd : β → S → U} {lo hi : Option Expr} {ml mh : StM S (Option Int)} (ha : Opd X w Γ a ma rd) (hl : PartE X w Γ lo ml) (hh : PartE X w Γ hi mh) :
    EvD X w Γ (.Subscript a (.Slice lo hi none p2) pos) (.bind ma fun x => .bind ml fun l => .bind mh fun h s => (StM.ofOpt (uCut (rd x s) l h) : StM S U) s) := fun M G0 H0 G H σ s at_ Q q => by
  obtain ⟨pers, hp, hr, hv⟩ := ha
  obtain ⟨tl, pl, hl⟩ := hl
  obtain ⟨th, ph, hh⟩ := hh
  refine SE.of (pe_slice sl_u pe_se pl ph) (hv M G0 H0 G H σ s at_ _ (wp_mono (wp_bind.mp q) (fun x s1 q1 v G1 H1 a1 st1 r1 => ?_) fun _ _ h => h))
  refine hl M G0 H0 G1 H1 σ s1 a1 _ (wp_mono (wp_bind.mp q1) (fun l s2 q2 G2 H2 a2 st2 => ?_) fun _ _ h => h)
  refine hh M G0 H0 G2 H2 σ s2 a2 _ (wp_mono (wp_bind.mp q2) (fun h s3 q3 G3 H3 a3 st3 => ?_) fun _ _ h => h)
  have st := (st1.trans st2).trans st3
  cases e1 : uCut (rd x s3) l h with
  | none =>
    rw [show (StM.ofOpt (uCut (rd x s3) l h) : StM S U) s3 = (StM.ofOpt (none : Option U) : StM S U) s3 by rw [e1]] at q3
    exact q3.elim
  | some d =>
    rw [show (StM.ofOpt (uCut (rd x s3) l h) : StM S U) s3 = (StM.ofOpt (some d) : StM S U) s3 by rw [e1]] at q3
    exact cut_run e1 a3.sub (hr _ _ _ _ _ _ _ _ _ a3 (hp _ _ _ _ _ (st2.post.1.trans st3.post.1) r1)) fun v2 G4 H4 g4 r4 => q3 v2 G4 H4 (a3.grow g4) (st.trans g4.step) r4
/-- a op b op' c -/
theorem chain_ {op op' : CmpOp} {r r' : R2} {f f' : U → U → Option U} {ma : StM S U} {mb : StM S U} {mc : StM S U} (hop : OpR X (compareOp op) r) (hop' : OpR X (compareOp op') r') (pr : Pr X.K (dU X.K) (r2l r) (a2 f)) (pr' : Pr X.K (dU X.K) (r2l r') (a2 f')) (ha : EvD X w Γ a ma) (hb : EvD X w Γ b mb) (hc : EvD X w Γ c mc)
    (hm : lastMarks [op, op'] [b, c] = false := by with_unfolding_all rfl) : EvD X w Γ (.Compare a [op, op'] [b, c] pos) (.bind ma fun x => .bind mb fun y => .bind (.ofOpt (f x y)) fun d => .bind (asB d) fun k => if k = true then .bind mc fun z => .ofOpt (f' y z) else .pure (.bool false)) := fun M G0 H0 G H σ s at_ Q q =>
  SE.of (pe_chain hop hop' pe_se pe_se pe_se hm) (ha M G0 H0 G H σ s at_ _ (wp_mono (wp_bind.mp q) (fun x s1 q1 v1 G1 H1 at1 st1 r1 => hb M G0 H0 G1 H1 σ s1 at1 _ (wp_mono (wp_bind.mp q1) (fun y s2 q2 v2 G2 H2 at2 st2 r2 => by
    cases e1 : f x y with
    | none => rw [e1] at q2; exact q2.elim
    | some d =>
      rw [e1] at q2
      have q2 := wp_bind.mp q2
      refine pr [x, y] d e1 H1 G2 H2 [v1, v2] _ at2.sub ⟨.inl (dp_ex st2.post.1 _ _ r1), .inl r2, trivial⟩ fun v3 G3 H3 g3 r3 => ?_
      cases d with
      | bool k =>
        cases r3
        refine ⟨k, rfl, ?_⟩
        have q3 := wp_bind.mp q2
        cases k with
        | true =>
          rw [if_pos rfl]
          have q4 : ((StM.bind mc fun z => (StM.ofOpt (f' y z) : StM S U)) s2).wp _ _ := q3
          refine hc M G0 H0 G3 H3 σ s2 (at2.grow g3) _ (wp_mono (wp_bind.mp q4) (fun z s4 q5 v4 G4 H4 a4 st4 r4 => ?_) fun _ _ h => h)
          have st := ((st1.trans st2).trans g3.step).trans st4
          cases e2 : f' y z with
          | none => rw [e2] at q5; exact q5.elim
          | some d2 =>
            rw [e2] at q5
            exact pr' [y, z] d2 e2 H3 G4 H4 [v2, v4] Q a4.sub ⟨.inl (dp_ex (g3.ex.trans st4.post.1) _ _ r2), .inl r4, trivial⟩ fun v5 G5 H5 g5 r5 => q5 v5 G5 H5 (a4.grow g5) (st.trans g5.step) r5
        | false =>
          rw [if_neg Bool.false_ne_true]
          exact q3 _ G3 H3 (at2.grow g3) ((st1.trans st2).trans g3.step) (.bl false)
      | _ => exact q2.elim) fun _ _ h => h)) fun _ _ h => h))
end
/-! ### texts -/
section
variable {S β γ δ : Type} {X : Cx} {w : Env1} {Γ : S → Gam} {a b c e : Expr} {pos apos p p2 : Pos} {x : Str}
def uJoin : U → U → Option U
  | .str a, .list us => (strsU us).bind fun ys => if (ys.map (·.length)).sum + ys.length * a.length ≤ 16777216 ∧ PyData.strOk (Txt.join a ys) = true then some (.str (Txt.join a ys)) else none
  | .str a, .tuple us => (strsU us).bind fun ys => if (ys.map (·.length)).sum + ys.length * a.length ≤ 16777216 ∧ PyData.strOk (Txt.join a ys) = true then some (.str (Txt.join a ys)) else none
  | _, _ => none
def isStrU : U → Bool
  | .str _ => true
  | _ => false
/-- a.m(e) of a text -/
theorem sm1_ {R : U → Sl} {r : V → List V → Hp → VK → Prop} {f : U → U → Option U} {ma mb : StM S U} (pe : PE X e (tM1 r (SE X a) (SE X b))) (hf : ∀ u z d, f u z = some d → isStrU u = true) (pr : Pr X.K R (r2l fun x y => r x [y]) (a2 f)) (ha : EvD X w Γ a ma) (hb : EvD X w Γ b mb) :
    EvE X w Γ e (.bind ma fun u => .bind (if isStrU u then .pure () else .fail) fun _ => .bind mb fun z => .ofOpt (f u z)) R := fun M G0 H0 G H σ s at_ Q q =>
  SE.of pe (ha M G0 H0 G H σ s at_ _ (wp_mono (wp_bind.mp q) (fun x s1 q1 v1 G1 H1 at1 st1 r1 => by
    cases x with
    | str z =>
      have e1 : v1 = .str z := by cases r1; rfl
      subst e1
      have q1 : ((StM.bind mb fun y => (StM.ofOpt (f (.str z) y) : StM S U)) s1).wp _ _ := q1
      refine ⟨⟨z, rfl⟩, hb M G0 H0 G1 H1 σ s1 at1 _ (wp_mono (wp_bind.mp q1) (fun y s2 q2 v2 G2 H2 at2 st2 r2 => ?_) fun _ _ h => h)⟩
      have st := st1.trans st2
      cases e1 : f (.str z) y with
      | none => rw [e1] at q2; exact q2.elim
      | some d =>
        rw [e1] at q2
        exact pr [.str z, y] d e1 H G2 H2 [.str z, v2] Q at2.sub ⟨.inl (dp_ex st2.post.1 _ _ r1), .inl r2, trivial⟩ fun v5 G5 H5 g5 r5 => q2 v5 G5 H5 (at2.grow g5) (st.trans g5.step) (r5.since fun l h => st.fresh at2 h)
    | _ => exact q1.elim) fun _ _ h => h))
theorem pr_join {K : PySem.W.Frag} : Pr K (dU K) (r2l fun x y => (fun x xs H Q => ∃ a p, ∃ ys : List Str, x = .str a ∧ xs = [.ref p] ∧ (SqL K H p (ys.map V.str) ∨ SqT K H p (ys.map V.str)) ∧
    (ys.map (·.length)).sum + ys.length * a.length ≤ 16777216 ∧ Q (.str (Txt.join a ys)) H) x [y]) (a2 uJoin) := pr2 fun u w d e G H v x Q ex b b2 q => by
  unfold uJoin at e
  split at e
  · obtain ⟨ys, h1, h2⟩ := Option.bind_eq_some_iff.mp e
    split at h2
    · rename_i hz
      cases h2
      obtain ⟨a, vs, rfl, h3, h4⟩ := bow_ls ex b2
      obtain ⟨rfl, hok⟩ := bow_str b
      rw [strsU_dq h1 h4] at h3
      exact ⟨_, a, ys, rfl, rfl, .inl h3, hz.1, q _ G H (Grow.refl ex) (.str _ hz.2)⟩
    · cases h2
  · obtain ⟨ys, h1, h2⟩ := Option.bind_eq_some_iff.mp e
    split at h2
    · rename_i hz
      cases h2
      obtain ⟨a, vs, rfl, h3, h4⟩ := bow_tp ex b2
      obtain ⟨rfl, hok⟩ := bow_str b
      rw [strsU_dq h1 h4] at h3
      exact ⟨_, a, ys, rfl, rfl, .inr h3, hz.1, q _ G H (Grow.refl ex) (.str _ hz.2)⟩
    · cases h2
  · cases e
theorem join_str {u z d : U} (h : uJoin u z = some d) : isStrU u = true := by
  unfold uJoin at h
  split at h
  · rfl
  · rfl
  · cases h
theorem join_ {ma mb : StM S U} (ha : EvD X w Γ a ma) (hb : EvD X w Γ b mb) (hs : starEach [b] X.env = [(false, eval b X.env)] := by rfl) (hbase : attributeBase a "join" X.env (eval a X.env) = eval a X.env := by rfl) (hline : (apos.endLine == pos.line) = true := by rfl) :
    EvD X w Γ (.Call (.Attribute a "join" apos) [b] [] pos) (.bind ma fun u => .bind (if isStrU u then .pure () else .fail) fun _ => .bind mb fun z => .ofOpt (uJoin u z)) := sm1_ (pe_join pe_se pe_se hs hbase hline) (fun _ _ _ h => join_str h) pr_join ha hb
/-! ### dict displays; list(text) -/
end
end L3

namespace L3
open PySem PySem.Spec PyProof.Rows L2

/-! ### dicts -/
section
variable {K : PySem.W.Frag}
def putU {κ : Type} [DecidableEq κ] (kvs : List (κ × U)) (k : κ) (v : U) : List (κ × U) :=
  if (kvs.any fun kv => decide (kv.1 = k)) = true then kvs.map (fun kv => if kv.1 = k then (kv.1, v) else kv) else kvs ++ [(k, v)]
def valU {κ : Type} [DecidableEq κ] (kvs : List (κ × U)) (k : κ) : Option U := (kvs.find? fun kv => decide (kv.1 = k)).map (·.2)
def mergeU (kvs more : List (Key × U)) : List (Key × U) := more.foldl (fun acc kv => putU acc kv.1 kv.2) kvs
theorem kv_any {G : Hp} {k : Key} : ∀ {kvs : List (Key × V)} {us : List (Key × U)}, DqKvs K G kvs us → (kvs.any fun kv => decide (kv.1 = k)) = us.any fun kv => decide (kv.1 = k)
  | _, [], h => by cases h; rfl
  | _, _ :: us, h => by cases h with | cons h1 h2 => rw [List.any_cons, List.any_cons, kv_any h2]
theorem kv_map {G : Hp} {k : Key} {v : V} {d : U} (q : Dq K G v d) : ∀ {kvs : List (Key × V)} {us : List (Key × U)}, DqKvs K G kvs us → DqKvs K G (kvs.map fun kv => if kv.1 = k then (kv.1, v) else kv) (us.map fun kv => if kv.1 = k then (kv.1, d) else kv)
  | _, [], h => by cases h; exact .nil
  | _, (k', _) :: us, h => by
    cases h with
    | cons h1 h2 =>
      rw [List.map_cons, List.map_cons]
      by_cases hk : k' = k
      · simp only [hk, if_true]; exact .cons q (kv_map q h2)
      · simp only [hk, if_false]; exact .cons h1 (kv_map q h2)
theorem kv_append {G : Hp} : ∀ {kvs ws : List (Key × V)} {us xs : List (Key × U)}, DqKvs K G kvs us → DqKvs K G ws xs → DqKvs K G (kvs ++ ws) (us ++ xs)
  | _, _, [], _, h, k => by cases h; exact k
  | _, _, _ :: _, _, h, k => by cases h with | cons h1 h2 => exact .cons h1 (kv_append h2 k)
theorem kv_put {G : Hp} {k : Key} {v : V} {d : U} {kvs : List (Key × V)} {us : List (Key × U)} (q : Dq K G v d) (h : DqKvs K G kvs us) : DqKvs K G (putK kvs k v) (putU us k d) := by
  unfold putK putU
  rw [kv_any h]
  split
  · exact kv_map q h
  · exact kv_append h (.cons q .nil)
theorem kv_merge {G : Hp} : ∀ {more : List (Key × V)} {mu : List (Key × U)} {kvs : List (Key × V)} {us : List (Key × U)}, DqKvs K G more mu → DqKvs K G kvs us → DqKvs K G (mergeK kvs more) (mergeU us mu)
  | _, [], _, _, h, q => by cases h; exact q
  | _, _ :: mu, _, _, h, q => by cases h with | @cons k v kvs2 d _ h1 h2 => exact kv_merge (more := kvs2) (mu := mu) h2 (kv_put h1 q)
theorem kv_val {G : Hp} {k : Key} : ∀ {kvs : List (Key × V)} {us : List (Key × U)}, DqKvs K G kvs us → ∀ {d : U}, valU us k = some d → ∃ v, valV kvs k = some v ∧ Dq K G v d
  | _, [], h, d, e => by cases e
  | _, (k', d') :: us, h, d, e => by
    cases h with
    | cons h1 h2 =>
      unfold valU at e
      rw [List.find?_cons] at e
      by_cases hk : k' = k
      · rw [show decide ((k', d').1 = k) = true from decide_eq_true hk] at e
        cases e
        exact ⟨_, valV_pos hk, h1⟩
      · rw [show decide ((k', d').1 = k) = false from decide_eq_false hk] at e
        obtain ⟨v, e1, e2⟩ := kv_val h2 (d := d) e
        exact ⟨v, by rw [valV_neg hk]; exact e1, e2⟩
theorem kv_noval {G : Hp} {k : Key} : ∀ {kvs : List (Key × V)} {us : List (Key × U)}, DqKvs K G kvs us → valU us k = none → valV kvs k = none
  | _, [], h, e => by cases h; rfl
  | _, (k', d') :: us, h, e => by
    cases h with
    | cons h1 h2 =>
      unfold valU at e
      rw [List.find?_cons] at e
      by_cases hk : k' = k
      · rw [show decide ((k', d').1 = k) = true from decide_eq_true hk] at e
        cases e
      · rw [show decide ((k', d').1 = k) = false from decide_eq_false hk] at e
        rw [valV_neg hk]
        exact kv_noval h2 e
theorem kv_len {G : Hp} : ∀ {kvs : List (Key × V)} {us : List (Key × U)}, DqKvs K G kvs us → kvs.length = us.length
  | _, [], h => by cases h; rfl
  | _, _ :: _, h => by cases h with | cons _ h2 => simp [kv_len h2]
def keyU : U → Option Key
  | .int i => some (.inl i)
  | .str x => some (.inr x)
  | _ => none
theorem keyU_v {G : Hp} {v : V} {u : U} {k : Key} (e : keyU u = some k) (h : Dq K G v u) : v = kV k := by
  cases h <;> cases e <;> rfl
end
section
variable {S β γ δ : Type} {X : Cx} {w : Env1} {Γ : S → Gam} {a b c e : Expr} {pos apos p p2 : Pos} {x : Str}
theorem o_dct0 : EvO X w Γ (.Dict [] [] pos) (.pure (.dict [])) := fun M G0 H0 G H σ s at_ Q q =>
  SE.of pe_dnewK fun l hl => by
    have g := Grow.new (o := .dK []) at_.sub hl
    exact q _ _ _ (at_.grow g) g.step ⟨l, _, rfl, hl, Ex.back at_.sub hl, upd_same, .nil⟩
/-- pairs of a dict display -/
def PrsE (X : Cx) (w : Env1) (Γ : S → Gam) (pos : Pos) (ks : List (Option Expr)) (vs : List Expr) (m : StM S (List (Key × U))) : Prop := ∃ trs, PPs X pos ks vs trs ∧ ∀ M G0 H0 G H σ s, At M G0 H0 (Γ s) G H σ → ∀ Q : List (V × V) → Hp → Prop,
  (m s).wp (fun us s' => ∀ kvs G' H', At M G0 H0 (Γ s') G' H' σ → Step (Γ s) (Γ s') σ G H G' H' → DqKvs X.K G' kvs us → us.length = ks.length → Q (kvs.map fun kv => (kV kv.1, kv.2)) H') (ExcK X w Γ M G0 H0 σ) → tPairs trs σ H Q
theorem prs_nil : PrsE X w Γ pos [] [] (.pure []) := ⟨[], pps_nil, fun M G0 H0 G H σ s at_ Q q => q [] G H at_ Step.refl .nil rfl⟩
theorem prs_cons {ks : List (Option Expr)} {vs : List Expr} {mk mv : StM S U} {ms : StM S (List (Key × U))} (hk : EvD X w Γ a mk) (hv : EvD X w Γ b mv) (hr : PrsE X w Γ pos ks vs ms) :
    PrsE X w Γ pos (some a :: ks) (b :: vs) (.bind mk fun u => .bind mv fun v => .bind (.ofOpt (keyU u)) fun k => .bind ms fun r => .pure ((k, v) :: r)) := by
  obtain ⟨trs, pp, h⟩ := hr
  refine ⟨(SE X a, SE X b) :: trs, pps_cons pe_se pe_se pp, fun M G0 H0 G H σ s at_ Q q => ?_⟩
  refine hk M G0 H0 G H σ s at_ _ (wp_mono (wp_bind.mp q) (fun u s1 q1 v1 G1 H1 a1 st1 r1 => ?_) fun _ _ h => h)
  refine hv M G0 H0 G1 H1 σ s1 a1 _ (wp_mono (wp_bind.mp q1) (fun v s2 q2 v2 G2 H2 a2 st2 r2 => ?_) fun _ _ h => h)
  cases e1 : keyU u with
  | none => rw [e1] at q2; exact q2.elim
  | some k =>
    rw [e1] at q2
    have q2 : ((StM.bind ms fun r => .pure ((k, v) :: r)) s2).wp _ _ := q2
    refine h M G0 H0 G2 H2 σ s2 a2 _ (wp_mono (wp_bind.mp q2) (fun us s3 q3 kvs G3 H3 a3 st3 r3 l3 => ?_) fun _ _ h => h)
    rw [keyU_v e1 r1]
    exact q3 ((k, v2) :: kvs) G3 H3 a3 ((st1.trans st2).trans st3) (.cons (dp_ex st3.post.1 _ _ r2) r3) (by simp [l3])
theorem o_dct {ks : List (Option Expr)} {vs : List Expr} {ms : StM S (List (Key × U))} (h : PrsE X w Γ pos ks vs ms) (hsh : ∀ s s', Shp (Γ s) (Γ s') := by intro _ _; exact Shp.refl _) (hall : ks.all (·.isSome) = true := by rfl) (hl : ks.length = vs.length := by rfl) (h0 : ks ≠ [] := by exact fun z => nomatch z) (h15 : ks.length ≤ 15 := by decide) :
    EvO X w Γ (.Dict ks vs pos) (.bind ms fun us => .pure (.dict (mergeU [] us))) := fun M G0 H0 G H σ s at_ Q q => by
  obtain ⟨trs, pp, h⟩ := h
  refine SE.of (pe_disp pp hall hl h0 h15) fun l hl => ?_
  have hG := Ex.back at_.sub hl
  have g := Grow.new (o := .dK []) at_.sub hl
  have f0 := at_.fresh hl
  have nO : ¬ OwnA (Γ s) σ l := fun z => by
    obtain ⟨o, y⟩ := OwnA.ne at_ z
    rw [hl] at y; cases y
  refine h M G0 H0 G (upd H l (.dK [])) σ s (at_.grow g) _ (wp_mono (wp_bind.mp q) (fun us s1 q1 kvs G1 H1 a1 st1 r1 l1 => ?_) fun _ _ h => h)
  have d1 := st1.post.2 l _ upd_same nO
  have hlen := kv_len r1
  have a2 := a1.other (o := .dK (mergeK [] kvs)) (d1.2.trans hG) f0.1 fun z => nO ((hsh s s1).own z)
  refine ⟨d1.1, kvs, rfl, by omega, q1 _ G1 _ a2 ⟨⟨st1.post.1, fun c o e hc => ?_⟩, st1.shp⟩ ⟨l, _, rfl, hl, d1.2.trans hG, upd_same, kv_merge r1 .nil⟩⟩
  have z := st1.post.2 c o (g.exH c o e) hc
  rw [upd_ne (ne_of_none e hl)]
  exact z
/-! list(a text) -/
def rListS : List V → Hp → VK → Prop := fun xs H Q => ∃ z, xs = [.str z] ∧ z.length ≤ sizeLine ∧ ∀ l, H l = none → Q (.ref l) (upd H l (.lst ((L3.signs z).map V.str)))
theorem call_listS {X : Cx} (hc : X.calm = true) : CallR X (.type "list") rListS := by
  intro pins s σ H xs us Q I r h
  obtain ⟨z, rfl, hz, q⟩ := h
  obtain ⟨u, rfl, t, rfl⟩ := vals1 r
  refine call_list_str (I.ok.hd hc) z t (fun h' tk acc' c' hk hS hacc => ?_) hz
  have hl : ((L3.signs z).map V.str).length = z.cps.size := by simp [L3.signs]
  refine ⟨.ref s.heap.objs.size, upd H s.heap.objs.size (.lst ((L3.signs z).map V.str)), I.laid hk (Nat.le_refl _) (show ObjOk X.prog X.w _ _ _ (.lst _) from ⟨by rw [hl]; exact hz, acc'.toList, c', ?_, by simpa using hS⟩), rfl, q _ (I.hok.fresh (Nat.le_refl _))⟩
  refine vals_of_at (by rw [hl]; simp [hacc.1]) fun j y w h1 h2 => ?_
  obtain ⟨c, tk', hc', rfl⟩ := hacc.2 j w (by simpa using h2)
  have e1 : ((L3.signs z).map V.str)[j]? = some (V.str ⟨#[c]⟩) := by
    unfold L3.signs
    rw [List.getElem?_map, List.getElem?_map, Array.getElem?_toList, hc']
    rfl
  rw [e1] at h1
  cases h1
  exact ⟨_, rfl⟩
def rListU (K : PySem.W.Frag) : List V → Hp → VK → Prop := fun xs H Q => (∃ p ys, xs = [.ref p] ∧ (SqL K H p ys ∨ SqT K H p ys) ∧ ∀ l, H l = none → Q (.ref l) (upd H l (.lst ys))) ∨ rListS xs H Q
theorem call_listU {X : Cx} (hc : X.calm = true) : CallR X (.type "list") (rListU X.K) := CallR.or call_list_of (call_listS hc)
theorem dq_signs {K : PySem.W.Frag} {G : Hp} {z : Str} (h : PyData.strOk z = true) : ∀ {l : List Str}, (∀ y ∈ l, y ∈ L3.signs z) → DqAll K G (l.map V.str) (l.map U.str)
  | [], _ => .nil
  | y :: l, hl => by
    refine .cons (.str _ ?_) (dq_signs h fun y hy => hl y (List.mem_cons_of_mem _ hy))
    obtain ⟨c, hc, rfl⟩ := List.mem_map.mp (hl y List.mem_cons_self)
    exact sign_ok h hc
theorem pr_listU {K : PySem.W.Frag} : Pr K (oU K) (rListU K) (a1 uList) := pr1 fun u d e G H v Q ex b q => by
  unfold uList at e
  split at e
  · cases e
    obtain ⟨a, vs, rfl, h3, h2⟩ := bow_ls ex b
    exact .inl ⟨a, vs, rfl, .inl h3, fun l hl => oNew (H0 := H) ex hl h2 q⟩
  · cases e
    obtain ⟨a, vs, rfl, h3, h2⟩ := bow_tp ex b
    exact .inl ⟨a, vs, rfl, .inr h3, fun l hl => oNew (H0 := H) ex hl h2 q⟩
  · split at e
    · rename_i hz
      cases e
      obtain ⟨rfl, hok⟩ := bow_str b
      exact .inr ⟨_, rfl, hz, fun l hl => oNew (H0 := H) ex hl (dq_signs hok fun y hy => hy) q⟩
    · cases e
  · cases e
end
end L3

namespace L3
open PySem PySem.Spec PyProof.Rows L2

/-! ### the state of a def is what one of its slots holds -/
def StM.hide {β : Type} (m : StM U β) : StM Unit β := fun _ => match m U.none with
  | .ok b _ => .ok b ()
  | .exc e _ => .exc e ()
  | .stuck => .stuck
theorem wp_hide {β : Type} {m : StM U β} {P : β → Unit → Prop} {E : Err → Unit → Prop} : (StM.hide m ()).wp P E ↔ (m U.none).wp (fun b _ => P b ()) (fun e _ => E e ()) := by
  unfold StM.hide Out.wp
  cases m U.none <;> exact Iff.rfl
def StM.put (u : U) : StM U Unit := fun _ => .ok () u
section
variable {P : Program} {wd : World} {K : PySem.W.Frag} {mg : Str → Option Value} {base : Heap} {T α β : Type} {x qual : Str} {st : Stmt} {f : Addr} {fd : FuncData} {N ps : List Str} {k : Nat} {ca : Str → Addr}
/-- a def with such a state that comes from within -/
theorem fn_okH {par : α → Gam} {m : α → StM U β} {res : β → Sl} (F : Fun K x qual st f fd) (Sc : FnScope N ps (defScope st)) (hlen : ∀ x, (par x).length = ps.length) (hno : ∀ x (i : Nat) (a : Option Addr) (p : Po), (par x)[i]? ≠ some (Sl.ow a p))
    (hb : ∀ (cdv : Value) (A : Around) (outer : List PySem.Env) (s : Shared) (H : Hp) (E : XK) (x : α), Room k (cx P wd K mg base N qual st f cdv A outer s H E).A →
      BlkR (cx P wd K mg base N qual st f cdv A outer s H E) (wE ca E) NoM io0 (fun (_ : U) => par x ++ uns (N.length - ps.length)) (defBody st) (m x) res) : FnOk P wd K mg base (L2.CX P wd) (k + 1) f fd ps (SpOf K ca (fun x (_ : Unit) => par x) (fun x => StM.hide (m x)) res) := by
  refine fn_ok0 F Sc hlen hno fun cdv A outer s H E x hr => ?_
  intro G0 H0 G H1 σ u at_ D q
  refine hb cdv A outer s H E x hr G0 H0 G H1 σ U.none at_ D ?_
  exact wp_mono (wp_hide.mp q) (fun r _ q1 v G' H' po ex _ rk => q1 v G' H' po ex trivial rk) fun e _ h => h
end
section
variable {S T β γ : Type} {X : Cx} {w : Env1} {M : Addr → Prop} {Γ : S → Gam} {Γ0 : Gam} {Γu : U → Gam} {e a b c : Expr} {pos p ps p2 : Pos} {x y : Str}
/-- x = e, a new thing of ours whose content is the state from here on -/
theorem s_asgS (i : Nat) {m : StM U U} (hN : X.N.Nodup) (he : EvO X w (fun _ => Γ0) e m) (hi : X.N[i]? = some x := by rfl) (hl : Loc X.env.scope x := by first | exact Or.inl rfl | exact Or.inr rfl)
    (hf : X.fn x = true ∨ X.env.scope.names.lookup x = some .local := by first | exact .inl rfl | exact .inr rfl) (hsw : swapsWith e (some (.Name x ps)) pos.line X.env = pure false := by rfl) :
    StmE X w M (fun (_ : U) => Γ0) (.Assign [.Name x ps] e pos) (.bind m StM.put) fun (_ : Unit) s => Γ0.set i (oU X.K s) := fun G0 H0 G H σ s at_ D q =>
  s_asg i hN he (fun _ => trivial) hi hl hf hsw G0 H0 G H σ s at_ D (wp_mono (wp_bind.mp q) (fun u s1 q1 => q1) fun _ _ h => h)
/-- what own slot i holds is written anew -/
theorem At.write {M : Addr → Prop} {G0 H0 G H : Hp} {Γ : Gam} {σ : L2.St} {i : Nat} {ad : Option Addr} {u u' : U} {l : Addr} {o : HO} {K : PySem.W.Frag} (at_ : At M G0 H0 Γ G H σ) (hi : Γ[i]? = some (.ow ad (ownO K u))) (hl : σ[i]? = some (some (V.ref l))) (ht : topO K G o u') :
    At M G0 H0 (Γ.set i (.ow ad (ownO K u'))) G (upd H l o) σ := at_.mutate hi hl ht
/-- of a list: the item at k is v -/
def uPut (u k v : U) : Option U := match u, k with
  | .list ds, .int i => (ixN ds.length i).map fun j => .list (ds.set j v)
  | .dict kvs, k => (keyU k).bind fun k => if kvs.length < 1000000 then some (.dict (putU kvs k v)) else none
  | _, _ => none
theorem put_list {K : PySem.W.Frag} {G : Hp} {o : HO} {u k v u' : U} (h : topO K G o u) (e : uPut u k v = some u') (hL : ∀ kvs, u ≠ .dict kvs) {kv vv : V} (hk : Dq K G kv k) (hv : Dq K G vv v) : ∃ xs i j, o = .lst xs ∧ kv = .int i ∧ ixN xs.length i = some j ∧ topO K G (.lst (xs.set j vv)) u' := by
  unfold uPut at e
  split at e
  · obtain ⟨j, hj, rfl⟩ := Option.map_eq_some_iff.mp e
    cases hk
    cases o <;> first | exact h.elim | skip
    rename_i xs
    exact ⟨xs, _, j, rfl, rfl, by rw [dpAll_len (show DqAll K G xs _ from h)]; exact hj, dpAll_set j h hv⟩
  · exact absurd rfl (hL _)
  · cases e
/-- a variable's value at hand -/
theorem se_name {σ : L2.St} {H : Hp} {Q : VK} {i : Nat} {v : V} (e : σ[i]? = some (some v)) (h : Q v H) (hN : X.N[i]? = some x) (hv : Vis X.env.scope x) (hd : (x == ("__debug__" : Str)) = false) (hcd : (x == ("__classdict__" : Str)) = false) : SE X (.Name x pos) σ H Q := SE.of (pe_var hN hv hd hcd) ⟨v, e, h⟩
/-- x[k] = e; x is the state's own list -/
theorem s_putS (i : Nat) {me mk : StM U U} (he : EvD X w Γu e me) (hk : EvD X w Γu a mk) (hL : ∀ s, ∃ ad, (Γu s)[i]? = some (.ow ad (ownO X.K s)) ∧ ∀ u, Γu u = (Γu s).set i (.ow ad (ownO X.K u))) (hN : X.N[i]? = some x := by rfl) (hv : Vis X.env.scope x := by first | exact Or.inl rfl | exact Or.inr (Or.inl rfl) | exact Or.inr (Or.inr rfl))
    (hd : (x == ("__debug__" : Str)) = false := by decide) (hcd : (x == ("__classdict__" : Str)) = false := by decide)
    (hs : swapsWithSole [.Subscript (.Name x ps) a p2] e pos.line X.env = pure false := by rfl) (hw : swappedStores [.Subscript (.Name x ps) a p2] e X.env = pure none := by rfl)
    (h1 : (assignEach [.Subscript (.Name x ps) a p2] X.env).map (·.2) = [assign (.Subscript (.Name x ps) a p2) X.env] := by rfl)
    (ha : ∀ v, assign (.Subscript (.Name x ps) a p2) X.env v = (do
      let ov ← holding [v] (eval (.Name x ps) X.env)
      let iv ← holding [v, ov] (eval a X.env)
      standAt p2
      holding [v, ov, iv] (setItem ov iv v)
      release [v, ov, iv] []) := by intro _; rfl) :
    StmE X w M Γu (.Assign [.Subscript (.Name x ps) a p2] e pos) (.bind me fun v => .bind mk fun k s => ((StM.ofOpt (match s with | .list _ => uPut s k v | _ => none) : StM U U).bind StM.put) s) fun (_ : Unit) s => Γu s := fun G0 H0 G H σ s at_ D q => by
  refine SS.of (ps_asg pe_se (pg_sub (to := SE X (.Name x ps)) (ti := SE X a) pe_se pe_se set_list ha) hs hw h1) ?_
  refine he M G0 H0 G H σ s at_ _ (wp_mono (wp_bind.mp q) (fun v s1 q1 vv G1 H1 a1 st1 r1 => ?_) fun e s h => exb_k e s h)
  obtain ⟨ad, hi1, _⟩ := hL s1
  obtain ⟨l, o, e1, e2, e3, e4, _⟩ := a1.slot i _ hi1
  refine se_name e1 ?_ hN hv hd hcd
  refine hk M G0 H0 G1 H1 σ s1 a1 _ (wp_mono (wp_bind.mp q1) (fun k s2 q2 kv G2 H2 a2 st2 r2 => ?_) fun e s h => exb_k e s h)
  obtain ⟨ad, hi2, hset⟩ := hL s2
  obtain ⟨l2, o2, f1, f2, f3, f4, _⟩ := a2.slot i _ hi2
  rw [e1] at f1
  cases f1
  cases s2 with
  | list ds =>
    have q3 : ((StM.bind (StM.ofOpt (uPut (.list ds) k v)) StM.put) (U.list ds)).wp _ _ := q2
    cases ep : uPut (.list ds) k v with
    | none => rw [ep] at q3; exact q3.elim
    | some u' =>
      rw [ep] at q3
      obtain ⟨xs, i2, j, rfl, rfl, hj, ht⟩ := put_list f4 ep (fun _ z => nomatch z) r2 (dp_ex st2.post.1 _ _ r1)
      refine ⟨l, xs, i2, j, rfl, rfl, f3, hj, ?_⟩
      have a3 := a2.write (u' := u') hi2 e1 ht
      rw [← hset u'] at a3
      exact q3 σ G2 _ a3 (st1.post.1.trans st2.post.1)
  | _ => exact q2.elim
/-- x[k], y = e -/
theorem s_divS (i j : Nat) {kt : Nat} {pt py : Pos} {me mk : StM U U} (hc : X.calm = true) (hNd : X.N.Nodup) (he : EvD X w Γu e me) (hk : EvD X w Γu a mk) (hL : ∀ s, ∃ ad, (Γu s)[i]? = some (.ow ad (ownO X.K s)) ∧ ∀ u, Γu u = (Γu s).set i (.ow ad (ownO X.K u))) (hN : X.N[i]? = some x := by rfl) (hv : Vis X.env.scope x := by first | exact Or.inl rfl | exact Or.inr (Or.inl rfl) | exact Or.inr (Or.inr rfl))
    (hd : (x == ("__debug__" : Str)) = false := by decide) (hcd : (x == ("__classdict__" : Str)) = false := by decide) (hNy : X.N[j]? = some y := by rfl) (hly : Loc X.env.scope y := by first | exact Or.inl rfl | exact Or.inr rfl)
    (hfy : X.fn y = true ∨ X.env.scope.names.lookup y = some .local := by first | exact .inl rfl | exact .inr rfl)
    (hs : swapsWithSole [.Tuple [.Subscript (.Name x ps) a p2, .Name y py] kt pt] e pos.line X.env = pure false := by rfl) (hw : swappedStores [.Tuple [.Subscript (.Name x ps) a p2, .Name y py] kt pt] e X.env = pure none := by rfl)
    (h1 : (assignEach [.Tuple [.Subscript (.Name x ps) a p2, .Name y py] kt pt] X.env).map (·.2) = [assign (.Tuple [.Subscript (.Name x ps) a p2, .Name y py] kt pt) X.env] := by rfl)
    (hn2 : (assignEach [.Subscript (.Name x ps) a p2, .Name y py] X.env).length = 2 := by rfl) (hst : (assignEach [.Subscript (.Name x ps) a p2, .Name y py] X.env).findIdx? (·.1) = none := by rfl)
    (hm1 : (assignEach [.Subscript (.Name x ps) a p2, .Name y py] X.env).map (·.2) = assign (.Subscript (.Name x ps) a p2) X.env :: (assignEach [.Name y py] X.env).map (·.2) := by rfl)
    (hm2 : (assignEach [.Name y py] X.env).map (·.2) = assign (.Name y py) X.env :: (assignEach [] X.env).map (·.2) := by rfl)
    (ha : ∀ v, assign (.Subscript (.Name x ps) a p2) X.env v = (do
      let ov ← holding [v] (eval (.Name x ps) X.env)
      let iv ← holding [v, ov] (eval a X.env)
      standAt p2
      holding [v, ov, iv] (setItem ov iv v)
      release [v, ov, iv] []) := by intro _; rfl) :
    StmE X w M Γu (.Assign [.Tuple [.Subscript (.Name x ps) a p2, .Name y py] kt pt] e pos) (.bind me fun v => match v with
      | .tuple [v1, v2] => .bind mk fun k s => ((StM.ofOpt (match s with | .list _ => uPut s k v1 | _ => none) : StM U U).bind fun u => .bind (StM.put u) fun _ => .pure v2) s
      | _ => .fail) fun (t : U) s => (Γu s).set j (dU X.K t) := fun G0 H0 G H σ s at_ D q => by
  refine SS.of (ps_asg pe_se (pg_tup hc (pgs_cons (pg_sub (to := SE X (.Name x ps)) (ti := SE X a) pe_se pe_se set_list ha) (pgs_cons (pg_name (i := j) hNd hNy hly hfy) pgs_nil hm2) hm1) hn2 hst) hs hw h1) ?_
  refine he M G0 H0 G H σ s at_ _ (wp_mono (wp_bind.mp q) (fun v s1 q1 vv G1 H1 a1 st1 r1 => ?_) fun e s h => exb_k e s h)
  match v, q1, r1 with
  | .tuple [v1, v2], q1, r1 =>
    cases r1 with
    | tup hs2 hd2 =>
      cases hd2 with
      | @cons x1 _ _ _ hx1 hd2 =>
        cases hd2 with
        | @cons x2 _ _ _ hx2 hd2 =>
          cases hd2
          refine ⟨_, _, rfl, sqT_ex a1.sub hs2, rfl, _, _, rfl, ?_⟩
          obtain ⟨ad, hi1, _⟩ := hL s1
          obtain ⟨l, o, e1, e2, e3, e4, _⟩ := a1.slot i _ hi1
          refine se_name e1 ?_ hN hv hd hcd
          refine hk M G0 H0 G1 H1 σ s1 a1 _ (wp_mono (wp_bind.mp q1) (fun k s2 q2 kv G2 H2 a2 st2 r2 => ?_) fun e s h => exb_k e s h)
          obtain ⟨ad, hi2, hset⟩ := hL s2
          obtain ⟨l2, o2, f1, f2, f3, f4, _⟩ := a2.slot i _ hi2
          rw [e1] at f1
          cases f1
          cases s2 with
          | list ds =>
            have q3 : ((StM.bind (StM.ofOpt (uPut (.list ds) k v1)) fun u => .bind (StM.put u) fun _ => .pure v2) (U.list ds)).wp _ _ := q2
            cases ep : uPut (.list ds) k v1 with
            | none => rw [ep] at q3; exact q3.elim
            | some u' =>
              rw [ep] at q3
              obtain ⟨xs, i2, j2, rfl, rfl, hj, ht⟩ := put_list f4 ep (fun _ z => nomatch z) r2 (dp_ex st2.post.1 _ _ hx1)
              refine ⟨l, xs, i2, j2, rfl, rfl, f3, hj, ?_⟩
              have a3 := a2.write (u' := u') hi2 e1 ht
              rw [← hset u'] at a3
              have a4 := a3.set_ (i := j) (s := dU X.K v2) (dp_ex st2.post.1 _ _ hx2) (Grow.refl a3.sub) trivial
              exact ⟨_, _, rfl, rfl, q3 _ G2 _ a4 (st1.post.1.trans st2.post.1)⟩
          | _ => exact q2.elim
/-! ### own slots that are no state -/
/-- a call of a method of what slot i holds, which is changed by it -/
def MutR (K : PySem.W.Frag) (r : V → List V → Hp → VK → Prop) (g : U → List U → Option (U × U)) : Prop := ∀ u us u' d, g u us = some (u', d) → ∀ (G H : Hp) (l : Addr) (o : HO) vs (Q : VK), Ex G H → H l = some o → topO K G o u → DqAll K G vs us →
  (∀ o' v, topO K G o' u' → Dq K G v d → Q v (upd H l o')) → r (V.ref l) vs H Q
def uAppend (u : U) (us : List U) : Option (U × U) := match u, us with
  | .list ds, [d] => if ds.length < sizeLine then some (.list (ds ++ [d]), .none) else none
  | _, _ => none
theorem mu_append {K : PySem.W.Frag} : MutR K rAppend uAppend := fun u us u' d e G H l o vs Q ex hl ht hd q => by
  unfold uAppend at e
  split at e
  · split at e
    · rename_i ds y hz
      cases e
      cases o <;> first | exact ht.elim | skip
      rename_i xs
      cases hd with
      | cons h1 h2 =>
        cases h2
        have hl2 := dpAll_len (show DqAll K G xs ds from ht)
        exact ⟨l, xs, _, rfl, rfl, hl, by omega, q (.lst _) .non (dpAll_append ht (.cons h1 .nil)) .non⟩
    · cases e
  · cases e
def uReverse (u : U) (us : List U) : Option (U × U) := match u, us with
  | .list ds, [] => some (.list ds.reverse, .none)
  | _, _ => none
theorem mu_reverse {K : PySem.W.Frag} : MutR K rReverse uReverse := fun u us u' d e G H l o vs Q ex hl ht hd q => by
  unfold uReverse at e
  split at e
  · cases e
    cases o <;> first | exact ht.elim | skip
    cases hd
    exact ⟨l, _, rfl, rfl, hl, q (.lst _) .non (dpAll_reverse ht) .non⟩
  · cases e
def uClear (u : U) (us : List U) : Option (U × U) := match u, us with
  | .list ds, [] => some (.list [], .none)
  | _, _ => none
theorem mu_clear {K : PySem.W.Frag} : MutR K rClear uClear := fun u us u' d e G H l o vs Q ex hl ht hd q => by
  unfold uClear at e
  split at e
  · cases e
    cases o <;> first | exact ht.elim | skip
    cases hd
    exact ⟨l, _, rfl, rfl, hl, q (.lst _) .non .nil .non⟩
  · cases e
end
end L3

namespace L3
open PySem PySem.Spec PyProof.Rows L2

section
variable {S T α β γ : Type} {X : Cx} {w : Env1} {M : Addr → Prop} {Γ : S → Gam} {e a b c l l2 tg : Expr} {es : List Expr} {pos p ps p2 apos : Pos} {x y nm : Str} {i j : Nat} {ad : Option Addr}
/-! ### methods that change an own slot -/
def MutE (X : Cx) (w : Env1) (Γ : S → Gam) (i : Nat) (ad : Option Addr) (e : Expr) (m : StM S (U × U)) : Prop := ∀ M G0 H0 G H σ s, At M G0 H0 (Γ s) G H σ → ∀ Q : VK,
  (m s).wp (fun z s' => ∀ v G' H', At M G0 H0 ((Γ s').set i (.ow ad (ownO X.K z.1))) G' H' σ → Ex G G' → Dq X.K G' v z.2 → Q v H') (ExcK X w Γ M G0 H0 σ) → SE X e σ H Q
theorem s_mut {m : StM S (U × U)} (h : MutE X w Γ i ad e m) (hs : swapsWith e none pos.line X.env = pure false := by rfl) : StmE X w M Γ (.Expr e pos) (.bind m fun z => .pure z.1) fun u s => (Γ s).set i (.ow ad (ownO X.K u)) := fun G0 H0 G H σ s at_ D q =>
  SS.of (ps_expr pe_se hs) (h M G0 H0 G H σ s at_ _ (wp_mono (wp_bind.mp q) (fun z s' q' v G' H' a' ex r' => q' σ G' H' a' ex) fun e s h => exb_k e s h))
theorem s_mutA (k : Nat) {m : StM S (U × U)} (hN : X.N.Nodup) (h : MutE X w Γ i ad e m) (hi : X.N[k]? = some x := by rfl) (hl : Loc X.env.scope x := by first | exact Or.inl rfl | exact Or.inr rfl)
    (hf : X.fn x = true ∨ X.env.scope.names.lookup x = some .local := by first | exact .inl rfl | exact .inr rfl) (hsw : swapsWith e (some (.Name x ps)) pos.line X.env = pure false := by rfl) :
    StmE X w M Γ (.Assign [.Name x ps] e pos) m fun z s => ((Γ s).set i (.ow ad (ownO X.K z.1))).set k (dU X.K z.2) := fun G0 H0 G H σ s at_ D q =>
  SS.of (ps_asg pe_se (pg_name (i := k) hN hi hl hf) hsw) (h M G0 H0 G H σ s at_ _ (wp_mono q (fun z s' q' v G' H' a' ex r' => q' (σ.set k (some v)) G' H' (a'.set_ (i := k) (s := dU X.K z.2) r' (Grow.refl a'.sub) trivial) ex) fun e s h => exb_k e s h))
def isLsU : U → Bool
  | .list _ => true
  | _ => false
def StM.chk (f : S → Bool) : StM S Unit := fun s => if f s = true then .ok () s else .stuck
theorem mut_l {c : S → U} {ms : StM S (List U)} {r : V → List V → Hp → VK → Prop} {g : U → List U → Option (U × U)} (pe : ∀ σ H (Q : VK), SE X (.Name x p) σ H (fun xv H1 => tyV X.K "list" xv H1 ∧ SA X es σ H1 fun vs H2 => r xv vs H2 Q) → SE X e σ H Q) (mr : MutR X.K r g)
    (ha : EvDs X w Γ es ms) (hi : ∀ s, (Γ s)[i]? = some (.ow ad (ownO X.K (c s)))) (hN : X.N[i]? = some x) (hv : Vis X.env.scope x) (hd : (x == ("__debug__" : Str)) = false) (hcd : (x == ("__classdict__" : Str)) = false) :
    MutE X w Γ i ad e (.bind (.chk fun s => isLsU (c s)) fun _ => .bind ms fun us s => (StM.ofOpt (g (c s) us) : StM S (U × U)) s) := fun M G0 H0 G H σ s at_ Q q => by
  obtain ⟨l, o, e1, e2, e3, e4, _⟩ := at_.slot i _ (hi s)
  have q := wp_bind.mp q
  unfold StM.chk at q
  split at q
  · rename_i hty
    have q : ((StM.bind ms fun us s => (StM.ofOpt (g (c s) us) : StM S (U × U)) s) s).wp _ _ := q
    refine pe σ H Q (se_name e1 ⟨?_, ?_⟩ hN hv hd hcd)
    · have e4' : topO X.K G o (c s) := e4
      have hty' : isLsU (c s) = true := hty
      cases hc : c s <;> rw [hc] at hty' <;> first | cases hty' | skip
      rw [hc] at e4'
      cases o <;> first | exact e4'.elim | skip
      exact .inl ⟨rfl, _, .inl (.inl e3)⟩
    · refine ha M G0 H0 G H σ s at_ _ (wp_mono (wp_bind.mp q) (fun us s1 q1 vs G1 H1 a1 st1 r1 l1 => ?_) fun _ _ h => h)
      obtain ⟨l2, o2, f1, f2, f3, f4, _⟩ := a1.slot i _ (hi s1)
      rw [e1] at f1
      cases f1
      cases eg : g (c s1) us with
      | none =>
        rw [show (StM.ofOpt (g (c s1) us) : StM S (U × U)) s1 = (StM.ofOpt (none : Option (U × U)) : StM S (U × U)) s1 by rw [eg]] at q1
        exact q1.elim
      | some z =>
        rw [show (StM.ofOpt (g (c s1) us) : StM S (U × U)) s1 = (StM.ofOpt (some z) : StM S (U × U)) s1 by rw [eg]] at q1
        exact mr (c s1) us z.1 z.2 eg G1 H1 l o2 vs Q a1.sub f3 f4 r1 fun o' v ht hv2 => q1 v G1 _ (a1.write (hi s1) e1 ht) st1.post.1 hv2
  · exact q.elim
theorem append_ {c : S → U} {ms : StM S U} (i : Nat) (ha : EvD X w Γ a ms) (hi : ∀ s, (Γ s)[i]? = some (.ow ad (ownO X.K (c s))) := by intro _; rfl) (hN : X.N[i]? = some x := by rfl) (hv : Vis X.env.scope x := by first | exact Or.inl rfl | exact Or.inr (Or.inl rfl) | exact Or.inr (Or.inr rfl)) (hd : (x == ("__debug__" : Str)) = false := by decide) (hcd : (x == ("__classdict__" : Str)) = false := by decide)
    (hbase : attributeBase (.Name x p) "append" X.env (eval (.Name x p) X.env) = eval (.Name x p) X.env := by rfl)
    (hfew : ((backTo pos (starEach [a] X.env)).all (fun x => !x.1) && (backToKw pos (keywordEach [] X.env)).all (fun x => x.1.isSome)
      && decide (([a] : List Expr).length + ([] : List Keyword).length + (if ([] : List Keyword).isEmpty then 0 else 1) < 30)) = true := by rfl)
    (hline : (apos.endLine == pos.line) = true := by rfl) (hs : starEach [a] X.env = (false, eval a X.env) :: starEach [] X.env := by rfl) (hplain : (backTo pos (starEach [] X.env)).any (·.1) = false := by rfl) :
    MutE X w Γ i ad (.Call (.Attribute (.Name x p) "append" apos) [a] [] pos) (.bind (.chk fun s => isLsU (c s)) fun _ => .bind (.bind ms fun u => .bind (.pure []) fun us => .pure (u :: us)) fun us s => (StM.ofOpt (uAppend (c s) us) : StM S (U × U)) s) :=
  mut_l (fun σ H Q h => SE.of (pe_bm F.plainAttrs_list F.slot_list_append F.type_list_append mt_append pe_se pa_sa hbase hfew hline hs hplain) h) mu_append (es_cons ha es_nil hs) hi hN hv hd hcd
theorem mut0_ {c : S → U} {id : String} {r : V → List V → Hp → VK → Prop} {g : U → List U → Option (U × U)} (i : Nat) (slot : Slot "list" nm id) (ty : typeOf (.builtin id) = pure (.type "method_descriptor")) (mt : MtR X id r) (mr : MutR X.K r g)
    (hi : ∀ s, (Γ s)[i]? = some (.ow ad (ownO X.K (c s))) := by intro _; rfl) (hN : X.N[i]? = some x := by rfl) (hv : Vis X.env.scope x := by first | exact Or.inl rfl | exact Or.inr (Or.inl rfl) | exact Or.inr (Or.inr rfl)) (hd : (x == ("__debug__" : Str)) = false := by decide) (hcd : (x == ("__classdict__" : Str)) = false := by decide)
    (hbase : attributeBase (.Name x p) nm X.env (eval (.Name x p) X.env) = eval (.Name x p) X.env := by rfl) (hline : (apos.endLine == pos.line) = true := by rfl) :
    MutE X w Γ i ad (.Call (.Attribute (.Name x p) nm apos) [] [] pos) (.bind (.chk fun s => isLsU (c s)) fun _ s => (StM.ofOpt (g (c s) []) : StM S (U × U)) s) := fun M G0 H0 G H σ s at_ Q q => by
  obtain ⟨l, o, e1, e2, e3, e4, _⟩ := at_.slot i _ (hi s)
  have q := wp_bind.mp q
  unfold StM.chk at q
  split at q
  · rename_i hty
    have q : ((StM.ofOpt (g (c s) []) : StM S (U × U)) s).wp _ _ := q
    refine SE.of (pe_bm0 F.plainAttrs_list slot ty mt pe_se hbase hline) (se_name e1 ⟨?_, ?_⟩ hN hv hd hcd)
    · have e4' : topO X.K G o (c s) := e4
      have hty' : isLsU (c s) = true := hty
      cases hc : c s <;> rw [hc] at hty' <;> first | cases hty' | skip
      rw [hc] at e4'
      cases o <;> first | exact e4'.elim | skip
      exact .inl ⟨rfl, _, .inl (.inl e3)⟩
    · cases eg : g (c s) [] with
      | none => rw [eg] at q; exact q.elim
      | some z =>
        rw [eg] at q
        exact mr (c s) [] z.1 z.2 eg G H l o [] Q at_.sub e3 e4 .nil fun o' v ht hv2 => q v G _ (at_.write (hi s) e1 ht) (Ex.refl _) hv2
  · exact q.elim
/-- a fresh thing of ours is changed and forgotten: e.append(a) -/
theorem tmp_l {mo : StM S U} {ms : StM S (List U)} {r : V → List V → Hp → VK → Prop} {g : U → List U → Option (U × U)} {o : Expr} (pe : ∀ σ H (Q : VK), SE X o σ H (fun xv H1 => tyV X.K "list" xv H1 ∧ SA X es σ H1 fun vs H2 => r xv vs H2 Q) → SE X e σ H Q) (mr : MutR X.K r g)
    (ho : EvO X w Γ o mo) (ha : EvDs X w Γ es ms) : EvD X w Γ e (.bind mo fun u => .bind (if isLsU u then .pure () else .fail) fun _ => .bind ms fun us => .bind (.ofOpt (g u us)) fun z => .pure z.2) := fun M G0 H0 G H σ s at_ Q q => by
  refine pe σ H Q (ho M G0 H0 G H σ s at_ _ (wp_mono (wp_bind.mp q) (fun u s1 q1 v G1 H1 a1 st1 r1 => ?_) fun _ _ h => h))
  obtain ⟨l, ob, rfl, h0, hg, hh, ht⟩ := r1
  cases u with
  | list ds =>
    have q1 : ((StM.bind ms fun us => .bind (.ofOpt (g (.list ds) us)) fun z => .pure z.2) s1).wp _ _ := q1
    refine ⟨?_, ?_⟩
    · have ht' : topO X.K G1 ob (.list ds) := ht
      cases ob <;> first | exact ht'.elim | skip
      exact .inl ⟨rfl, _, .inl (.inl hh)⟩
    · have nO : ¬ OwnA (Γ s) σ l := fun z => by
        obtain ⟨o, y⟩ := OwnA.ne at_ z
        rw [h0] at y; cases y
      have nO1 : ¬ OwnA (Γ s1) σ l := fun z => nO (st1.shp.own z)
      have f0 := at_.fresh h0
      refine ha M G0 H0 G1 H1 σ s1 a1 _ (wp_mono (wp_bind.mp q1) (fun us s2 q2 vs G2 H2 a2 st2 r2 l2 => ?_) fun _ _ h => h)
      have d2 := st2.post.2 l ob hh nO1
      have nO2 : ¬ OwnA (Γ s2) σ l := fun z => nO1 (st2.shp.own z)
      cases eg : g (.list ds) us with
      | none => rw [eg] at q2; exact q2.elim
      | some z =>
        rw [eg] at q2
        refine mr (.list ds) us z.1 z.2 eg G2 H2 l ob vs Q a2.sub d2.1 (topO_mono st2.post.1 ht) r2 fun o' v ht' hv2 => ?_
        refine q2 v G2 _ (a2.other (d2.2.trans hg) f0.1 nO2) ⟨⟨(st1.post.trans st2.post fun _ _ _ z => st1.shp.own z).1, fun c o hc hn => ?_⟩, st1.shp.trans st2.shp⟩ hv2
        rw [upd_ne (ne_of_none hc h0)]
        exact (st1.post.trans st2.post fun _ _ _ z => st1.shp.own z).2 c o hc hn
  | _ => exact q1.elim
/-! ### what is walked, as U's -/
def asL (u : U) : StM S (List U) := match u with | .list ds => .pure ds | _ => .fail
def asT (u : U) : StM S (List U) := match u with | .tuple ds => .pure ds | _ => .fail
def asS (u : U) : StM S Str := match u with | .str z => .pure z | _ => .fail
theorem kw_l {m : StM S U} (h : EvD X w Γ l m) : WalkE X w Γ tg l (.bind m asL) fun u => isD X.K u := wk_ls (enc := fun u : U => u) fun M G0 H0 G H σ s at_ Q q =>
  h M G0 H0 G H σ s at_ Q (wp_mono (wp_bind.mp q) (fun u s1 q1 v G1 H1 a1 st1 r1 => by
    cases u with
    | list ds => exact q1 v G1 H1 a1 st1 (by show (isD X.K (.list (ds.map fun u => u))).p G1 v; rw [List.map_id']; exact r1)
    | _ => exact q1.elim) fun _ _ h => h)
theorem kw_t {m : StM S U} (h : EvD X w Γ l m) : WalkE X w Γ tg l (.bind m asT) fun u => isD X.K u := wk_tp (enc := fun u : U => u) fun M G0 H0 G H σ s at_ Q q =>
  h M G0 H0 G H σ s at_ Q (wp_mono (wp_bind.mp q) (fun u s1 q1 v G1 H1 a1 st1 r1 => by
    cases u with
    | tuple ds => exact q1 v G1 H1 a1 st1 (by show (isD X.K (.tuple (ds.map fun u => u))).p G1 v; rw [List.map_id']; exact r1)
    | _ => exact q1.elim) fun _ _ h => h)
/-- another way to see what is walked -/
theorem wk_map {m : StM S (List α)} {p : α → Pv} {p' : β → Pv} {f : List α → List β} (h : WalkE X w Γ tg l m p) (hf : ∀ xs (i : Nat) y, (f xs)[i]? = some y → ∃ x, xs[i]? = some x ∧ ∀ G v, (p x).p G v → (p' y).p G v) (hl : ∀ xs, (f xs).length = xs.length) : WalkE X w Γ tg l (.bind m fun xs => .pure (f xs)) p' := by
  obtain ⟨wi, h1, h2⟩ := h
  refine ⟨wi, h1, fun M G0 H0 G H σ s at_ R q => h2 M G0 H0 G H σ s at_ R (wp_mono (wp_bind.mp q) (fun xs s1 q1 J G1 H1 a1 st1 wk => q1 J G1 H1 a1 st1 ⟨by rw [hl]; exact wk.sz, fun i G2 H2 e1 e2 hi => wk.stop i G2 H2 e1 e2 (by rw [hl] at hi; exact hi), fun i y G2 H2 e1 e2 hy => ?_⟩) fun _ _ h => h)⟩
  obtain ⟨x, hx, hp⟩ := hf xs i y hy
  obtain ⟨g1, g2⟩ := wk.go i x G2 H2 e1 e2 hx
  exact ⟨g1, fun v H3 hv => let ⟨G3, gr, pv⟩ := g2 v H3 hv; ⟨G3, gr, hp G3 v pv⟩⟩
def viewL {α β : Type} (f : α → Option β) : List α → Option (List β)
  | [] => some []
  | x :: xs => (f x).bind fun y => (viewL f xs).map (y :: ·)
theorem viewL_get {f : α → Option β} : ∀ {xs : List α} {ys : List β}, viewL f xs = some ys → ys.length = xs.length ∧ ∀ (i : Nat) y, ys[i]? = some y → ∃ x, xs[i]? = some x ∧ f x = some y
  | [], ys, e => by cases e; exact ⟨rfl, fun i y h => by simp at h⟩
  | x :: xs, ys, e => by
    unfold viewL at e
    obtain ⟨y, h1, h2⟩ := Option.bind_eq_some_iff.mp e
    obtain ⟨zs, h3, rfl⟩ := Option.map_eq_some_iff.mp h2
    obtain ⟨l1, l2⟩ := viewL_get h3
    refine ⟨by simp [l1], fun i z h => ?_⟩
    cases i with
    | zero => simp at h; subst h; exact ⟨x, rfl, h1⟩
    | succ i => simpa using l2 i z (by simpa using h)
theorem wk_view {m : StM S (List α)} {p : α → Pv} {p' : β → Pv} {f : α → Option β} (h : WalkE X w Γ tg l m p) (hf : ∀ x y, f x = some y → ∀ G v, (p x).p G v → (p' y).p G v) : WalkE X w Γ tg l (.bind m fun xs => .ofOpt (viewL f xs)) p' := by
  obtain ⟨wi, h1, h2⟩ := h
  refine ⟨wi, h1, fun M G0 H0 G H σ s at_ R q => h2 M G0 H0 G H σ s at_ R (wp_mono (wp_bind.mp q) (fun xs s1 q1 J G1 H1 a1 st1 wk => ?_) fun _ _ h => h)⟩
  cases ev : viewL f xs with
  | none => rw [ev] at q1; exact q1.elim
  | some ys =>
    rw [ev] at q1
    obtain ⟨l1, l2⟩ := viewL_get ev
    refine q1 J G1 H1 a1 st1 ⟨by rw [l1]; exact wk.sz, fun i G2 H2 e1 e2 hi => wk.stop i G2 H2 e1 e2 (by rw [l1] at hi; exact hi), fun i y G2 H2 e1 e2 hy => ?_⟩
    obtain ⟨x, hx, hp⟩ := l2 i y hy
    obtain ⟨g1, g2⟩ := wk.go i x G2 H2 e1 e2 hx
    exact ⟨g1, fun v H3 hv => let ⟨G3, gr, pv⟩ := g2 v H3 hv; ⟨G3, gr, hf x y hp G3 v pv⟩⟩
def pairU : U → Option (U × U)
  | .tuple [a, b] => some (a, b)
  | _ => none
def tripU : U → Option (U × U × U)
  | .tuple [a, b, c] => some (a, b, c)
  | _ => none
theorem kw_2 {m : StM S (List U)} (h : WalkE X w Γ tg l m fun u => isD X.K u) : WalkE X w Γ tg l (.bind m fun xs => .ofOpt (viewL pairU xs)) fun y => isD X.K (.tuple [y.1, y.2]) := wk_view h fun u y e G v q => by
  unfold pairU at e
  split at e
  · cases e; exact q
  · cases e
theorem kw_3 {m : StM S (List U)} (h : WalkE X w Γ tg l m fun u => isD X.K u) : WalkE X w Γ tg l (.bind m fun xs => .ofOpt (viewL tripU xs)) fun y => isD X.K (.tuple [y.1, y.2.1, y.2.2]) := wk_view h fun u y e G v q => by
  unfold tripU at e
  split at e
  · cases e; exact q
  · cases e
theorem kw_s {m : StM S U} (h : EvD X w Γ l m) : WalkE X w Γ tg l (.bind (.bind (.bind m asS) strM) fun xs => .pure (xs.map U.str)) fun u => isD X.K u :=
  wk_map (p := fun c => isD X.K (.str c)) (wk_str fun M G0 H0 G H σ s at_ Q q =>
  h M G0 H0 G H σ s at_ Q (wp_mono (wp_bind.mp q) (fun u s1 q1 v G1 H1 a1 st1 r1 => by
    cases u with
    | str z => exact q1 v G1 H1 a1 st1 r1
    | _ => exact q1.elim) fun _ _ h => h)) (fun xs i y hy => by
      rw [List.getElem?_map] at hy
      obtain ⟨x, h1, rfl⟩ := Option.map_eq_some_iff.mp hy
      exact ⟨x, h1, fun _ _ h => h⟩) fun xs => List.length_map _
theorem kw_r {m : StM S (List Int)} (h : WalkE X w Γ tg l m fun i => isD X.K (.int i)) : WalkE X w Γ tg l (.bind m fun xs => .pure (xs.map U.int)) fun u => isD X.K u :=
  wk_map h (fun xs i y hy => by
      rw [List.getElem?_map] at hy
      obtain ⟨x, h1, rfl⟩ := Option.map_eq_some_iff.mp hy
      exact ⟨x, h1, fun _ _ h => h⟩) fun xs => List.length_map _
theorem d_int {m : StM S U} (h : EvD X w Γ e m) : EvE X w Γ e (.bind m asI) fun i => .im (isD X.K (.int i)) := fun M G0 H0 G H σ s at_ Q q =>
  h M G0 H0 G H σ s at_ Q (wp_mono (wp_bind.mp q) (fun u s1 q1 v G1 H1 a1 st1 r1 => by
    cases u with
    | int z => exact q1 v G1 H1 a1 st1 r1
    | _ => exact q1.elim) fun _ _ h => h)
theorem d_list {m : StM S U} (h : EvD X w Γ e m) : EvE X w Γ e (.bind m asL) fun xs => .im (isD X.K (.list (xs.map fun u => u))) := fun M G0 H0 G H σ s at_ Q q =>
  h M G0 H0 G H σ s at_ Q (wp_mono (wp_bind.mp q) (fun u s1 q1 v G1 H1 a1 st1 r1 => by
    cases u with
    | list z => exact q1 v G1 H1 a1 st1 (by show (isD X.K (.list (z.map fun u => u))).p G1 v; rw [List.map_id']; exact r1)
    | _ => exact q1.elim) fun _ _ h => h)
/-- any target of parts -/
theorem tgt_ {K : PySem.W.Frag} {g1 g2 : TG} {d e : U} {u1 u2 : Gam → Gam} {js ks : List Nat} (h1 : Tgt g1 (isD K d) u1 js) (h2 : Tgt g2 (isD K e) u2 ks) : Tgt (gTup K 2 (gCons g1 (gCons g2 gNil))) (isD K (.tuple [d, e])) (fun Γ => u2 (u1 Γ)) (js ++ ks) := fun M G0 H0 Γ G H σ v at_ r Q q => by
  cases r with
  | tup hs ha =>
    cases ha with
    | cons r1 ha =>
      cases ha with
      | cons r2 ha =>
        cases ha
        refine ⟨_, _, rfl, sqT_ex at_.sub hs, rfl, _, _, rfl, h1 M G0 H0 Γ G H σ _ at_ r1 _ fun σ1 a1 f1 l1 => ⟨_, _, rfl, h2 M G0 H0 _ G H σ1 _ a1 r2 _ fun σ2 a2 f2 l2 => ⟨rfl, q σ2 a2 (fun i hi => ?_) (l2.trans l1)⟩⟩⟩
        rw [f2 i fun z => hi (List.mem_append_right _ z), f1 i fun z => hi (List.mem_append_left _ z)]
/-- a comprehension: a new list -/
theorem lcO_ {tg iter elt : Expr} {cs : List Expr} {scope : Scope} {own : List (Str × Nat)} {pos : Pos} {m : StM S (List α)} {p : α → Pv} {g : TG} {u : α → Gam → Gam} {js : List Nat} {ft : α → StM S Bool} {fe : α → StM S U}
    (hc : X.calm = true) (hN : X.N.Nodup) (hw : WalkE X w Γ tg iter m p) (ok : BlkOk X.N X.env.scope scope own) (hcs : cs.length ≤ 1) (hg : ∀ s H C cl fp, PG (bx X s H scope C cl fp) tg g) (ht : ∀ x, Tgt g (p x) (u x) js) (hj : ∀ i ∈ js, i ∈ own.map (·.2))
    (hsh : ∀ s s', Shp (Γ s) (Γ s')) (hln : ∀ s s', (Γ s).length = (Γ s').length) (hu : ∀ x (Γ : Gam) (i : Nat), i ∉ js → (u x Γ)[i]? = Γ[i]?) (hu2 : ∀ x (Γ : Gam) (i : Nat) ad q, i ∈ js → (u x Γ)[i]? ≠ some (Sl.ow ad q))
    (hin : ∀ s s' (i : Nat), i ∈ own.map (·.2) → (Γ s')[i]? = (Γ s)[i]? ∧ ((Γ s)[i]? = some Sl.un ∨ ∃ p, (Γ s)[i]? = some (Sl.im p)))
    (hT : TtE X (noW w) scope (fun x u' => u x (wipeΓ (Γ u') (own.map (·.2)))) ft cs) (hE : ∀ s H C cl fp x, EvD (bx X s H scope C cl fp) (noW w) (fun u' => u x (wipeΓ (Γ u') (own.map (·.2)))) elt (fe x))
    (hs : ∀ x, foldedSetIterable iter X.env x = pure x := by intro _; rfl) :
    EvO X w Γ (.ListComp elt [⟨tg, iter, cs, 0⟩] scope pos) (.bind (.bind m fun xs => .noX (compM ft fe xs [])) fun ys => .pure (.list ys)) :=
  ee_map (ee_lc (enc := fun u : U => u) hc hN hw ok hcs hg ht hj hsh hln hu hu2 hin hT hE hs) fun ys H0 G H v _ h => by
    rw [List.map_id'] at h
    obtain ⟨l, o, e1, e2, e3, e4, vs, rfl, e5⟩ := h
    exact ⟨l, _, e1, e2, e3, e4, e5⟩
end
end L3

namespace L3
open PySem PySem.Spec PyProof.Rows L2
section
variable {S T α β γ : Type} {X : Cx} {w : Env1} {M : Addr → Prop} {Γ : S → Gam} {e a b c l l2 tg : Expr} {es : List Expr} {pos p ps p2 apos : Pos} {x y nm : Str} {i j : Nat} {ad : Option Addr}
theorem takes_no : Takes X fun _ _ _ _ => False := fun u s' ⟨_, _, _, _, _, _, _, _, _, _, _, _, _, _, _, _, z⟩ => z.elim
/-- isinstance(a, T), T a built-in type -/
theorem isi_ {T : Str} {Ts : String} {ma : StM S β} {rd : β → S → U} (ha : Opd X w Γ a ma rd) (hm : X.mg "isinstance" = none) (hT : X.mg T = none) (hv : bootBuiltins T = some (.type Ts)) (hb : bootBuiltins "isinstance" = some (.builtin "isinstance")) (hg : Gl X "isinstance" := by rfl) (hgT : Gl X T := by rfl) (hn : T ≠ "__name__" := by decide) (hdT : (T == ("__debug__" : Str)) = false := by decide)
    (h1 : starEach [a, .Name T p2] X.env = (false, eval a X.env) :: starEach [.Name T p2] X.env := by rfl) (hpl : (backTo pos (starEach [.Name T p2] X.env)).any (·.1) = false := by rfl) (h2 : starEach [.Name T p2] X.env = (false, eval (.Name T p2) X.env) :: starEach [] X.env := by rfl) :
    EvD X w Γ (.Call (.Name "isinstance" p) [a, .Name T p2] [] pos) (.bind ma fun x s => (StM.ofOpt (uIsi Ts (rd x s)) : StM S U) s) :=
  e1_ (r := fun v => rIsi X.K [v, .ty Ts]) (fun σ H Q h => SE.of (pe_callB (x := ("isinstance" : Str)) call_isi hg hm hb (pa_cons pe_se (pa_cons (pe_bltn (v := .ty Ts) hgT hT hv rfl hn hdT) pa_nil h2) h1) (by decide) (by decide) h1 hpl) h) (pr1 fun u d e G H v Q ex b q => pr_isi [u] d e H G H [v] Q ex ⟨b, trivial⟩ q) ha
end
/-! ### at the end: the law's own call -/
theorem law_sp {K : PySem.W.Frag} {ca : Str → Addr} {m : U → StM Unit U} {ns : List Int} {H : Hp} {a : Addr} (h : m (.list (ns.map U.int)) () = .ok (.bool true) ()) (hS : SqL K H a (ns.map V.int)) :
    SpOf K ca (fun x (_ : Unit) => [dU K x]) m (fun u => dU K u) [.ref a] H (fun v _ => v = .bl true) fun _ _ _ => False := by
  have hD : DqAll K H (ns.map V.int) (ns.map U.int) := by
    clear h hS
    induction ns with
    | nil => exact .nil
    | cons n ns ih => exact .cons (.int n) ih
  refine ⟨.list (ns.map U.int), (), H, ⟨rfl, Ex.refl _, Post.refl, fun l ⟨i, ad, q, e, _⟩ => ?_, fun i s e => ?_, fun i j x y p q l e1 _ _ _ => ?_⟩, ?_⟩
  · cases i with
    | zero => simp at e
    | succ i => simp at e
  · cases i with
    | zero => simp at e; subst e; exact ⟨_, rfl, .lst hS hD⟩
    | succ i => simp at e
  · cases i with
    | zero => simp at e1
    | succ i => simp at e1
  · rw [h]
    intro v G' H' _ _ _ r
    cases r
    rfl
theorem callee_X {w : World} {P : Program} {H : Hp} {s : Shared} {e : Value} {s' : Shared} (h : L2.CX P w [] H s (fun _ _ _ => False) e s') : False := by
  obtain ⟨_, _, _, _, _, _, _, _, _, _, _, _, z⟩ := h
  exact z
end L3

namespace L3
open PySem PySem.Spec PyProof.Rows L2
theorem bt_len : bootBuiltins "len" = some (.builtin "len") := by decide +kernel
theorem bt_isinstance : bootBuiltins "isinstance" = some (.builtin "isinstance") := by decide +kernel
theorem bt_all : bootBuiltins "all" = some (.builtin "all") := by decide +kernel
theorem bt_any : bootBuiltins "any" = some (.builtin "any") := by decide +kernel
theorem bt_max : bootBuiltins "max" = some (.builtin "max") := by decide +kernel
theorem bt_min : bootBuiltins "min" = some (.builtin "min") := by decide +kernel
theorem bt_sum : bootBuiltins "sum" = some (.builtin "sum") := by decide +kernel
theorem bt_abs : bootBuiltins "abs" = some (.builtin "abs") := by decide +kernel
theorem bt_divmod : bootBuiltins "divmod" = some (.builtin "divmod") := by decide +kernel
theorem bt_sorted : bootBuiltins "sorted" = some (.builtin "sorted") := by decide +kernel
theorem bt_list : bootBuiltins "list" = some (.type "list") := by decide +kernel
theorem bt_tuple : bootBuiltins "tuple" = some (.type "tuple") := by decide +kernel
theorem bt_int : bootBuiltins "int" = some (.type "int") := by decide +kernel
theorem bt_str : bootBuiltins "str" = some (.type "str") := by decide +kernel
theorem bt_bool : bootBuiltins "bool" = some (.type "bool") := by decide +kernel
theorem bt_dict : bootBuiltins "dict" = some (.type "dict") := by decide +kernel
section
variable {S T α β γ ρ : Type} {X : Cx} {w : Env1} {M : Addr → Prop} {io : S → Hp → Hp → Prop} {Γ : S → Gam} {Γn : T → S → Gam} {R : ρ → Sl} {e a b c l l2 tg : Expr} {es : List Expr} {A B rest : List Stmt} {pos p ps p2 apos : Pos} {x y nm : Str} {i j : Nat} {ad : Option Addr}
theorem dge_ {v : V} {d : U} (hm : ∃ u, X.mg x = some u ∧ RelV v u) (hq : ∀ G, Dq X.K G v d) (hg : Gl X x := by rfl) (hd : (x == ("__debug__" : Str)) = false := by decide) : EvD X w Γ (.Name x pos) (.pure d) := by
  obtain ⟨u, h1, h2⟩ := hm
  exact dg_ h1 h2 hq hg hd
/-- what must not come to its end -/
def Fl.stop {S T ρ : Type} (o : Fl T ρ) : StM S (Fl T ρ) := match o with
  | .nx _ => .fail
  | o => .pure o
theorem n_if {mc : StM S Bool} {mA mB : StM S (Fl T ρ)} (hc : TeE X w Γ c mc) (hA : BlkN X w M io Γ A mA Γn R) (hB : BlkN X w M io Γ rest mB Γn R) : BlkN X w M io Γ (.If c A [] pos :: rest) (.bind mc fun b => if b = true then .bind mA Fl.stop else mB) Γn R := fun G0 H0 G H σ s at_ D q =>
  SB.of (pss_cons (ps_if pt_st pss_sb pss_nil) pss_sb) (hc M G0 H0 G H σ s at_ _ (wp_mono (wp_bind.mp q) (fun b s1 q1 G1 H1 a1 st1 => by
    cases b with
    | true =>
      refine hA G0 H0 G1 H1 σ s1 a1 _ (wp_mono (wp_bind.mp q1) (fun o s2 q2 => ?_) fun _ _ h => h)
      cases o with
      | nx t => exact q2.elim
      | ct t => exact FlK.ex st1.post.1 q2
      | bk t => exact FlK.ex st1.post.1 q2
      | ret r => exact q2
    | false => exact hB G0 H0 G1 H1 σ s1 a1 _ (wp_mono q1 (fun o s2 q2 => q2.ex st1.post.1) fun _ _ h => h)) fun e s h => exb_k e s h))
theorem hr65 {k : Nat} {A : Around} (r : Room k A) : A.units + 65 < cLine := by have := r.un; omega
/-- a test by a comparison -/
theorem tcm_ {op : CmpOp} {β γ : Type} {r : R2} {f : U → U → Option U} {ma : StM S β} {rd : β → S → U} {mb : StM S γ} {rd2 : γ → S → U} (hop : OpR X (compareOp op) r) (pr : Pr X.K (dU X.K) (r2l r) (a2 f)) (ha : Opd X w Γ a ma rd) (hb : Opd X w Γ b mb rd2) (hm : behindInMarks op b = false := by first | exact nomark _ | rfl) :
    TeE X w Γ (.Compare a [op] [b] pos) (.bind (.bind ma fun x => .bind mb fun y s => (StM.ofOpt (f (rd x s) (rd2 y s)) : StM S U) s) asB) := fun M G0 H0 G H σ s at_ Q q => by
  obtain ⟨pers, hp, hr, hv⟩ := ha
  obtain ⟨pers2, hp2, hr2, hv2⟩ := hb
  refine ST.of (pt_cmpR hop pe_se pe_se hm) (show SE X a σ H (fun x H1 => SE X b σ H1 fun y H2 => r x y H2 fun z H3 => ∃ c, z = .bl c ∧ Q c H3) from hv M G0 H0 G H σ s at_ _ (wp_mono (wp_bind.mp (wp_bind.mp q)) (fun x s1 q1 v G1 H1 a1 st1 r1 => ?_) fun _ _ h => h))
  refine hv2 M G0 H0 G1 H1 σ s1 a1 _ (wp_mono (wp_bind.mp q1) (fun y s2 q2 u G2 H2 at2 st2 r2 => ?_) fun _ _ h => h)
  have st := st1.trans st2
  cases e1 : f (rd x s2) (rd2 y s2) with
  | none =>
    rw [show (StM.ofOpt (f (rd x s2) (rd2 y s2)) : StM S U) s2 = (StM.ofOpt (none : Option U) : StM S U) s2 by rw [e1]] at q2
    exact q2.elim
  | some d =>
    rw [show (StM.ofOpt (f (rd x s2) (rd2 y s2)) : StM S U) s2 = (StM.ofOpt (some d) : StM S U) s2 by rw [e1]] at q2
    refine pr [rd x s2, rd2 y s2] d e1 H G2 H2 [v, u] _ at2.sub ⟨hr _ _ _ _ _ _ _ _ _ at2 (hp _ _ _ _ _ st2.post.1 r1), hr2 _ _ _ _ _ _ _ _ _ at2 r2, trivial⟩ fun v2 G3 H3 g2 r3 => ?_
    cases d with
    | bool k => cases r3; exact ⟨k, rfl, q2 G3 H3 (at2.grow g2) (st.trans g2.step)⟩
    | _ => exact q2.elim
theorem tch_ {op op' : CmpOp} {r r' : R2} {f f' : U → U → Option U} {ma : StM S U} {mb : StM S U} {mc : StM S U} (hop : OpR X (compareOp op) r) (hop' : OpR X (compareOp op') r') (pr : Pr X.K (dU X.K) (r2l r) (a2 f)) (pr' : Pr X.K (dU X.K) (r2l r') (a2 f')) (ha : EvD X w Γ a ma) (hb : EvD X w Γ b mb) (hc : EvD X w Γ c mc)
    (hm : lastMarks [op, op'] [b, c] = false := by with_unfolding_all rfl) : TeE X w Γ (.Compare a [op, op'] [b, c] pos) (.bind ma fun x => .bind mb fun y => .bind (.ofOpt (f x y)) fun d => .bind (asB d) fun k => if k = true then .bind mc fun z => .bind (.ofOpt (f' y z)) asB else .pure false) := fun M G0 H0 G H σ s at_ Q q =>
  ST.of (pt_chain hop hop' pe_se pe_se pe_se hm) (ha M G0 H0 G H σ s at_ _ (wp_mono (wp_bind.mp q) (fun x s1 q1 v1 G1 H1 at1 st1 r1 => hb M G0 H0 G1 H1 σ s1 at1 _ (wp_mono (wp_bind.mp q1) (fun y s2 q2 v2 G2 H2 at2 st2 r2 => by
    cases e1 : f x y with
    | none => rw [e1] at q2; exact q2.elim
    | some d =>
      rw [e1] at q2
      have q2 := wp_bind.mp q2
      refine pr [x, y] d e1 H1 G2 H2 [v1, v2] _ at2.sub ⟨.inl (dp_ex st2.post.1 _ _ r1), .inl r2, trivial⟩ fun v3 G3 H3 g3 r3 => ?_
      cases d with
      | bool k =>
        cases r3
        refine ⟨k, rfl, ?_⟩
        have q3 := wp_bind.mp q2
        cases k with
        | true =>
          rw [if_pos rfl]
          have q4 : ((StM.bind mc fun z => (StM.bind (StM.ofOpt (f' y z)) asB : StM S Bool)) s2).wp _ _ := q3
          refine hc M G0 H0 G3 H3 σ s2 (at2.grow g3) _ (wp_mono (wp_bind.mp q4) (fun z s4 q5 v4 G4 H4 a4 st4 r4 => ?_) fun _ _ h => h)
          have st := ((st1.trans st2).trans g3.step).trans st4
          cases e2 : f' y z with
          | none => rw [e2] at q5; exact q5.elim
          | some d2 =>
            rw [e2] at q5
            refine pr' [y, z] d2 e2 H3 G4 H4 [v2, v4] _ a4.sub ⟨.inl (dp_ex (g3.ex.trans st4.post.1) _ _ r2), .inl r4, trivial⟩ fun v5 G5 H5 g5 r5 => ?_
            cases d2 with
            | bool k2 => cases r5; exact ⟨k2, rfl, q5 G5 H5 (a4.grow g5) (st.trans g5.step)⟩
            | _ => exact q5.elim
        | false =>
          rw [if_neg Bool.false_ne_true]
          exact ⟨false, rfl, q3 G3 H3 (at2.grow g3) ((st1.trans st2).trans g3.step)⟩
      | _ => exact q2.elim) fun _ _ h => h)) fun _ _ h => h))
theorem own_bow {K : PySem.W.Frag} {u : U} : ∀ (G H : Hp) (l : Addr) (o : HO), H l = some o → (ownO K u).q G o → (bowB K u).b G H (V.ref l) := fun G H l o h t => .inr ⟨l, o, rfl, h, t⟩
theorem im_bow {K : PySem.W.Frag} {u : U} : ∀ (G H : Hp) (v : V), Ex G H → (isD K u).p G v → (bowB K u).b G H v := fun G H v _ t => .inl t
theorem im_bow1 {K : PySem.W.Frag} {u : U} : ∀ (G H : Hp) (v : V), Ex G H → (isD K u).p G v → (bowB K u).b G H v := im_bow
theorem set1_ne {Γ : Gam} {j i : Nat} {s : Sl} (h : i ∉ [j]) : (Γ.set j s)[i]? = Γ[i]? := List.getElem?_set_ne fun z => h (by rw [← z]; exact List.mem_cons_self)
theorem set1_im {Γ : Gam} {j i : Nat} {p : Pv} {ad : Option Addr} {q : Po} (h : i ∈ [j]) : (Γ.set j (.im p))[i]? ≠ some (Sl.ow ad q) := by
  have e : i = j := by simpa using h
  subst e
  intro z
  by_cases hl : i < Γ.length
  · rw [List.getElem?_set_self hl] at z; cases z
  · rw [List.getElem?_eq_none (by rw [List.length_set]; omega)] at z; cases z
theorem set2_ne {Γ : Gam} {j k i : Nat} {s t : Sl} (h : i ∉ [j, k]) : ((Γ.set j s).set k t)[i]? = Γ[i]? := by
  rw [set1_ne (fun z => h (List.mem_cons_of_mem _ z)), set1_ne fun z => h (by simp at z; simp [z])]
theorem set2_im {Γ : Gam} {j k i : Nat} {p r : Pv} {ad : Option Addr} {q : Po} (h : i ∈ [j, k]) : ((Γ.set j (.im p)).set k (.im r))[i]? ≠ some (Sl.ow ad q) := by
  by_cases hk : i = k
  · exact set1_im (by simp [hk])
  · rw [set1_ne (by simp [hk])]
    exact set1_im (by simp at h; simp; omega)
theorem set3_ne {Γ : Gam} {j k l i : Nat} {s t v : Sl} (h : i ∉ [j, k, l]) : (((Γ.set j s).set k t).set l v)[i]? = Γ[i]? := by
  rw [set1_ne (fun z => h (by simp at z; simp [z])), set2_ne fun z => h (by simp at z; simp; omega)]
theorem set3_im {Γ : Gam} {j k l i : Nat} {p r v : Pv} {ad : Option Addr} {q : Po} (h : i ∈ [j, k, l]) : (((Γ.set j (.im p)).set k (.im r)).set l (.im v))[i]? ≠ some (Sl.ow ad q) := by
  by_cases hk : i = l
  · exact set1_im (by simp [hk])
  · rw [set1_ne (by simp [hk])]
    exact set2_im (by simp at h; simp; omega)
end
end L3

namespace L3
open PySem PySem.Spec PyProof.Rows L2
/-! ### mirrors: what they come to -/
section
variable {S β γ δ T ρ α : Type}
/-- the run ends well, with P -/
def Ok (o : Out S β) (P : β → S → Prop) : Prop := o.wp P fun _ _ => False
theorem ok_mono {o : Out S β} {P P' : β → S → Prop} (h : Ok o P) (k : ∀ b s, P b s → P' b s) : Ok o P' := wp_mono h k fun _ _ z => z
@[simp] theorem ok_bind {m : StM S β} {f : β → StM S γ} {s : S} {P : γ → S → Prop} : Ok (StM.bind m f s) P ↔ Ok (m s) fun b s' => Ok (f b s') P := wp_bind
@[simp] theorem ok_pure {b : β} {s : S} {P : β → S → Prop} : Ok (StM.pure b s) P ↔ P b s := Iff.rfl
@[simp] theorem ok_some {b : β} {s : S} {P : β → S → Prop} : Ok ((StM.ofOpt (some b) : StM S β) s) P ↔ P b s := Iff.rfl
@[simp] theorem ok_opt {o : Option β} {s : S} {P : β → S → Prop} : Ok ((StM.ofOpt o : StM S β) s) P ↔ ∃ b, o = some b ∧ P b s := by
  cases o with
  | none => exact ⟨fun h => h.elim, fun ⟨_, h, _⟩ => nomatch h⟩
  | some b => exact ⟨fun h => ⟨b, rfl, h⟩, fun ⟨_, h, k⟩ => by cases h; exact k⟩
@[simp] theorem ok_fail {s : S} {P : β → S → Prop} : Ok ((StM.fail : StM S β) s) P ↔ False := Iff.rfl
@[simp] theorem ok_lift {m : StM Unit β} {s : S} {P : β → S → Prop} : Ok ((StM.lift m : StM S β) s) P ↔ Ok (m ()) fun b _ => P b s := wp_lift
@[simp] theorem ok_hide {m : StM U β} {P : β → Unit → Prop} : Ok (StM.hide m ()) P ↔ Ok (m U.none) fun b _ => P b () := wp_hide
@[simp] theorem ok_noX {m : StM S β} {s : S} {P : β → S → Prop} : Ok (StM.noX m s) P ↔ Ok (m s) P := by
  unfold StM.noX Ok Out.wp
  cases m s <;> exact Iff.rfl
@[simp] theorem ok_ite {c : Prop} [Decidable c] {x y : StM S β} {s : S} {P : β → S → Prop} : Ok ((if c then x else y) s) P ↔ if c then Ok (x s) P else Ok (y s) P := by
  split <;> exact Iff.rfl
@[simp] theorem ok_put {u : U} {s : U} {P : Unit → U → Prop} : Ok (StM.put u s) P ↔ P () u := Iff.rfl
@[simp] theorem ok_asB {b : Bool} {s : S} {P : Bool → S → Prop} : Ok (asB (U.bool b) s) P ↔ P b s := Iff.rfl
@[simp] theorem ok_asI {b : Int} {s : S} {P : Int → S → Prop} : Ok (asI (U.int b) s) P ↔ P b s := Iff.rfl
@[simp] theorem ok_asL {b : List U} {s : S} {P : List U → S → Prop} : Ok (asL (U.list b) s) P ↔ P b s := Iff.rfl
@[simp] theorem ok_asT {b : List U} {s : S} {P : List U → S → Prop} : Ok (asT (U.tuple b) s) P ↔ P b s := Iff.rfl
@[simp] theorem ok_asS {b : Str} {s : S} {P : Str → S → Prop} : Ok (asS (U.str b) s) P ↔ P b s := Iff.rfl
theorem ok_eq {o : Out S β} {b : β} {s : S} (h : Ok o fun b' s' => b' = b ∧ s' = s) : o = .ok b s := by
  cases o with
  | ok b' s' => obtain ⟨rfl, rfl⟩ := h; rfl
  | exc e s' => exact h.elim
  | stuck => exact h.elim
theorem ok_of {o : Out S β} {b : β} {s : S} {P : β → S → Prop} (e : o = .ok b s) (h : P b s) : Ok o P := by rw [e]; exact h
/-- a loop by what holds at each turn -/
theorem ok_for {f : α → T → StM S (Fl T ρ)} {I : T → S → Prop} : ∀ {xs : List α} {t : T} {s : S}, (∀ x ∈ xs, ∀ t s, I t s → Ok (f x t s) fun o s' => ∃ t', (o = .nx t' ∨ o = .ct t') ∧ I t' s') → I t s → Ok (forM f xs t s) fun o s' => ∃ t', o = .nx t' ∧ I t' s'
  | [], t, s, _, h => ⟨t, rfl, h⟩
  | x :: xs, t, s, hf, h => by
    unfold forM
    rw [ok_bind]
    refine ok_mono (hf x List.mem_cons_self t s h) fun o s' => ?_
    rintro ⟨t', rfl | rfl, h'⟩
    · exact ok_for (fun x hx => hf x (List.mem_cons_of_mem _ hx)) h'
    · exact ok_for (fun x hx => hf x (List.mem_cons_of_mem _ hx)) h'
/-- a comprehension: every item by Q, the state by I -/
theorem ok_comp {fe : α → StM S β} {I : S → Prop} {Q : β → Prop} : ∀ {xs : List α} {acc : List β} {s : S}, (∀ x ∈ xs, ∀ s, I s → Ok (fe x s) fun y s' => Q y ∧ I s') → I s →
    Ok (compM (fun _ => .pure true) fe xs acc s) fun ys s' => I s' ∧ ∃ zs, ys = acc ++ zs ∧ zs.length = xs.length ∧ ∀ z ∈ zs, Q z
  | [], acc, s, _, h => ⟨h, [], by simp, rfl, fun z hz => by simp at hz⟩
  | x :: xs, acc, s, hf, h => by
    show Ok (StM.bind (fe x) (fun y => compM (fun _ => .pure true) fe xs (acc ++ [y])) s) _
    rw [ok_bind]
    refine ok_mono (hf x List.mem_cons_self s h) fun y s' ⟨q, i⟩ => ?_
    refine ok_mono (ok_comp (fun x hx => hf x (List.mem_cons_of_mem _ hx)) i) fun ys s2 ⟨i2, zs, e, l, a⟩ => ⟨i2, y :: zs, by rw [e]; simp, by simp [l], fun z hz => ?_⟩
    rcases List.mem_cons.mp hz with rfl | hz
    · exact q
    · exact a z hz
theorem bind_ok {m : StM S β} {f : β → StM S γ} {s s' : S} {b : β} (h : m s = .ok b s') : StM.bind m f s = f b s' := by
  unfold StM.bind
  rw [h]
/-- a comprehension that changes nothing -/
theorem comp_map {ft : α → StM S Bool} {fe : α → StM S β} {c : α → Bool} {g : α → β} : ∀ {xs : List α} {acc : List β} {s : S}, (∀ x ∈ xs, ft x s = .ok (c x) s) → (∀ x ∈ xs, c x = true → fe x s = .ok (g x) s) → compM ft fe xs acc s = .ok (acc ++ (xs.filter c).map g) s
  | [], acc, s, _, _ => by unfold compM; simp [StM.pure]
  | x :: xs, acc, s, h1, h2 => by
    have h1' : ∀ y ∈ xs, ft y s = .ok (c y) s := fun y hy => h1 y (List.mem_cons_of_mem _ hy)
    have h2' : ∀ y ∈ xs, c y = true → fe y s = .ok (g y) s := fun y hy => h2 y (List.mem_cons_of_mem x hy)
    have hx := h1 x List.mem_cons_self
    have e0 : compM ft fe (x :: xs) acc s = (if c x = true then StM.bind (fe x) fun y => compM ft fe xs (acc ++ [y]) else compM ft fe xs acc) s := bind_ok (m := ft x) (f := fun b => if b = true then StM.bind (fe x) fun y => compM ft fe xs (acc ++ [y]) else compM ft fe xs acc) hx
    rw [e0]
    cases hc : c x with
    | true =>
      rw [if_pos rfl]
      have e1 : (StM.bind (fe x) fun y => compM ft fe xs (acc ++ [y])) s = compM ft fe xs (acc ++ [g x]) s := bind_ok (h2 x List.mem_cons_self hc)
      rw [e1, comp_map h1' h2', List.filter_cons_of_pos hc]
      simp
    | false =>
      rw [if_neg Bool.false_ne_true, comp_map h1' h2', List.filter_cons_of_neg (by simp [hc])]
theorem ok_compmap {ft : α → StM S Bool} {fe : α → StM S β} {c : α → Bool} {g : α → β} {xs : List α} {acc : List β} {s : S} {P : List β → S → Prop} (h1 : ∀ x ∈ xs, ft x s = .ok (c x) s) (h2 : ∀ x ∈ xs, c x = true → fe x s = .ok (g x) s) (h : P (acc ++ (xs.filter c).map g) s) : Ok (compM ft fe xs acc s) P := ok_of (comp_map h1 h2) h
theorem ok_compall {fe : α → StM S β} {g : α → β} {xs : List α} {s : S} {P : List β → S → Prop} (h2 : ∀ x ∈ xs, fe x s = .ok (g x) s) (h : P (xs.map g) s) : Ok (compM (fun _ => .pure true) fe xs [] s) P :=
  ok_compmap (c := fun _ => true) (fun _ _ => rfl) (fun x hx _ => h2 x hx) (by rw [List.filter_eq_self.mpr (fun _ _ => rfl)]; exact h)
end
section
variable {S : Type}
@[simp] theorem blsU_map (bs : List Bool) : blsU (bs.map U.bool) = some bs := by
  induction bs with
  | nil => rfl
  | cons b bs ih => simp [blsU, ih]
@[simp] theorem strsU_map (bs : List Str) : strsU (bs.map U.str) = some bs := by
  induction bs with
  | nil => rfl
  | cons b bs ih => simp [strsU, ih]
@[simp] theorem intsU_map (bs : List Int) : intsU (bs.map U.int) = some bs := by
  induction bs with
  | nil => rfl
  | cons b bs ih => simp [intsU, ih]
/-- what a law draws from -/
def RowU (s : U) : Prop := ∃ a b : Int, s = .list [.int a, .int b]
end
@[simp] theorem uMul_s {i j : Int} (h : j.natAbs < 2 ^ 64) : uMul (.int i) (.int j) = some (.int (i * j)) := by
  simp only [uMul, h, or_true, if_true]
@[simp] theorem uMod_p {i j : Int} (h : 0 < j) : uMod (.int i) (.int j) = some (.int (i % j)) := by
  simp only [uMod, h, if_true]
theorem uFdiv_p {i j : Int} (h : 0 < j) (h2 : j.natAbs.log2 < 9000) : uFdiv (.int i) (.int j) = some (.int (i / j)) := by
  simp only [uFdiv, h, h2, and_self, if_true]
theorem uDivmod_p {i j : Int} (h : 0 < j) (h2 : j.natAbs.log2 < 9000) : uDivmod (.int i) (.int j) = some (.tuple [.int (i / j), .int (i % j)]) := by
  have := PyProof.noPylong_of_log2 (x := i) h2
  simp only [uDivmod, h, this, and_self, if_true]
@[simp] theorem uPow_s {i j : Int} (h : 0 ≤ j) (h2 : j ≤ 1000000) (h3 : i.natAbs < 2 ^ 64) : uPow (.int i) (.int j) = some (.int (i ^ j.toNat)) := by
  simp only [uPow, h, h2, h3, and_self, if_true]
@[simp] theorem uMul_l {i j : Int} (h : i.natAbs < 2 ^ 64) : uMul (.int i) (.int j) = some (.int (i * j)) := by
  simp only [uMul, h, true_or, if_true]
theorem idx_at {us : List U} {i : Int} {n : Nat} {u : U} (e : i = (n : Int)) (h : us[n]? = some u) : uIdx (.list us) (.int i) = some u := by
  subst e
  have hl := (List.getElem?_eq_some_iff.mp h).1
  simp only [uIdx, atI, ixN]
  rw [if_pos (by omega), if_pos (by omega)]
  simpa using h
@[simp] theorem shp_int {i : Int} : shp (.int i) = true := by simp [shp, noDct, U.py, PyData.depth]
@[simp] theorem eqD_int {i j : Int} : eqD (.int i) (.int j) = decide (i = j) := by simp [eqD, U.py, PyData.eqv, Bool.beq_eq_decide_eq]
@[simp] theorem uEq_int {i j : Int} : uEq (.int i) (.int j) = some (.bool (decide (i = j))) := by simp [uEq, shp_int, eqD_int]
@[simp] theorem put_row0 {a b c : Int} : uPut (.list [.int a, .int b]) (.int 0) (.int c) = some (.list [.int c, .int b]) := rfl
@[simp] theorem put_row1 {a b c : Int} : uPut (.list [.int a, .int b]) (.int 1) (.int c) = some (.list [.int a, .int c]) := rfl
@[simp] theorem idx_row0 {a b : Int} : uIdx (.list [.int a, .int b]) (.int 0) = some (.int a) := rfl
@[simp] theorem idx_row1 {a b : Int} : uIdx (.list [.int a, .int b]) (.int 1) = some (.int b) := rfl
@[simp] theorem after_nx {S T ρ : Type} {k : T → StM S ρ} {t : T} : Fl.after k (.nx t) = k t := rfl
@[simp] theorem after_ret {S T ρ : Type} {k : T → StM S ρ} {r : ρ} : Fl.after k (.ret r) = .pure r := rfl
theorem ok_at {S β : Type} {f : S → Out S β} {s : S} {P : β → S → Prop} : Ok ((fun s => f s) s) P ↔ Ok (f s) P := Iff.rfl
@[simp] theorem uLen_list {ds : List U} : uLen (.list ds) = some (.int ds.length) := rfl
@[simp] theorem uLen_tuple {ds : List U} : uLen (.tuple ds) = some (.int ds.length) := rfl
@[simp] theorem uLt_int {i j : Int} : uLt (.int i) (.int j) = some (.bool (decide (i < j))) := rfl
@[simp] theorem uLe_int {i j : Int} : uLe (.int i) (.int j) = some (.bool (decide (i ≤ j))) := rfl
@[simp] theorem uGt_int {i j : Int} : uGt (.int i) (.int j) = some (.bool (decide (j < i))) := rfl
@[simp] theorem uGe_int {i j : Int} : uGe (.int i) (.int j) = some (.bool (decide (j ≤ i))) := rfl
@[simp] theorem uAdd_int {i j : Int} : uAdd (.int i) (.int j) = some (.int (i + j)) := rfl
@[simp] theorem uSub_int {i j : Int} : uSub (.int i) (.int j) = some (.int (i - j)) := rfl
@[simp] theorem uNeg_int {i : Int} : uNeg (.int i) = some (.int (-i)) := rfl
@[simp] theorem uMin2_int {i j : Int} : uMin2 (.int i) (.int j) = some (.int (if j < i then j else i)) := rfl
@[simp] theorem uMax2_int {i j : Int} : uMax2 (.int i) (.int j) = some (.int (if j > i then j else i)) := rfl
@[simp] theorem isStrU_str {z : Str} : isStrU (.str z) = true := rfl
theorem log2_small {j : Int} (h : j.natAbs < 2 ^ 64) : j.natAbs.log2 < 9000 := by
  have : j.natAbs.log2 < 64 := PySem.Flt.log2_lt_of (by decide) h
  omega
@[simp] theorem uFdiv_s {i j : Int} (h : 0 < j) (h2 : j.natAbs < 2 ^ 64) : uFdiv (.int i) (.int j) = some (.int (i / j)) := uFdiv_p h (log2_small h2)
@[simp] theorem uDivmod_s {i j : Int} (h : 0 < j) (h2 : j.natAbs < 2 ^ 64) : uDivmod (.int i) (.int j) = some (.tuple [.int (i / j), .int (i % j)]) := uDivmod_p h (log2_small h2)
theorem ok_compf {S α β γ : Type} {fe : α → StM S β} {f : γ → α} {g : γ → β} {xs : List γ} {s : S} {P : List β → S → Prop} (h2 : ∀ x ∈ xs, fe (f x) s = .ok (g x) s) (h : P (xs.map g) s) : Ok (compM (fun _ => .pure true) fe (xs.map f) [] s) P := by
  have e : compM (fun _ => .pure true) fe (xs.map f) [] s = .ok (xs.map g) s := by
    have key : ∀ (xs : List γ) (acc : List β), (∀ x ∈ xs, fe (f x) s = .ok (g x) s) → compM (fun _ => .pure true) fe (xs.map f) acc s = .ok (acc ++ xs.map g) s := by
      intro xs
      induction xs with
      | nil => intro acc _; unfold compM; simp [StM.pure]
      | cons x xs ih =>
        intro acc h
        have e0 : compM (fun _ => StM.pure true) fe (f x :: xs.map f) acc s = compM (fun _ => StM.pure true) fe (xs.map f) (acc ++ [g x]) s := bind_ok (m := fe (f x)) (f := fun y => compM (fun _ => StM.pure true) fe (xs.map f) (acc ++ [y])) (h x List.mem_cons_self)
        rw [List.map_cons, e0, ih _ fun y hy => h y (List.mem_cons_of_mem _ hy)]
        simp
    simpa using key xs [] h2
  exact ok_of e h
@[simp] theorem blsU_mapf {α : Type} (b : α → Bool) (xs : List α) : blsU (xs.map fun x => U.bool (b x)) = some (xs.map b) := by
  induction xs with
  | nil => rfl
  | cons x xs ih => simp [blsU, ih]
@[simp] theorem uAll_list {ds : List U} : uAll (.list ds) = (blsU ds).map fun bs => .bool (bs.all id) := rfl
@[simp] theorem uAny_list {ds : List U} : uAny (.list ds) = (blsU ds).map fun bs => .bool (bs.any id) := rfl
theorem uLen_str {z : Str} (h : z.length ≤ 1000000) : uLen (.str z) = some (.int z.length) := by
  have : sizeLine = 16777216 := sizeLine_eq
  unfold uLen
  simp only
  rw [if_pos (by omega)]
theorem strM_ok {S : Type} {z : Str} {s : S} (h : z.length ≤ 1000000) : (strM z : StM S (List Str)) s = .ok (signs z) s := by
  have : sizeLine = 16777216 := sizeLine_eq
  unfold strM
  rw [if_pos (by omega)]
  rfl
@[simp] theorem isi_NoneType_str  : uIsi "str" (.none) = some (.bool false) := by
  have e : kitB "NoneType" "str" = some false := by decide +kernel
  rw [uIsi, if_neg (by simp [isInsU]), show kitB (tyU (.none)) "str" = kitB "NoneType" "str" from rfl, e]; rfl
@[simp] theorem isi_bool_str {b : Bool} : uIsi "str" (.bool b) = some (.bool false) := by
  have e : kitB "bool" "str" = some false := by decide +kernel
  rw [uIsi, if_neg (by simp [isInsU]), show kitB (tyU (.bool b)) "str" = kitB "bool" "str" from rfl, e]; rfl
@[simp] theorem isi_int_str {i : Int} : uIsi "str" (.int i) = some (.bool false) := by
  have e : kitB "int" "str" = some false := by decide +kernel
  rw [uIsi, if_neg (by simp [isInsU]), show kitB (tyU (.int i)) "str" = kitB "int" "str" from rfl, e]; rfl
@[simp] theorem isi_str_str {z : Str} : uIsi "str" (.str z) = some (.bool true) := by
  have e : kitB "str" "str" = some true := by decide +kernel
  rw [uIsi, if_neg (by simp [isInsU]), show kitB (tyU (.str z)) "str" = kitB "str" "str" from rfl, e]; rfl
@[simp] theorem isi_list_str {ds : List U} : uIsi "str" (.list ds) = some (.bool false) := by
  have e : kitB "list" "str" = some false := by decide +kernel
  rw [uIsi, if_neg (by simp [isInsU]), show kitB (tyU (.list ds)) "str" = kitB "list" "str" from rfl, e]; rfl
@[simp] theorem isi_tuple_str {ds : List U} : uIsi "str" (.tuple ds) = some (.bool false) := by
  have e : kitB "tuple" "str" = some false := by decide +kernel
  rw [uIsi, if_neg (by simp [isInsU]), show kitB (tyU (.tuple ds)) "str" = kitB "tuple" "str" from rfl, e]; rfl
@[simp] theorem isi_dict_str {ks : List (Key × U)} : uIsi "str" (.dict ks) = some (.bool false) := by
  have e : kitB "dict" "str" = some false := by decide +kernel
  rw [uIsi, if_neg (by simp [isInsU]), show kitB (tyU (.dict ks)) "str" = kitB "dict" "str" from rfl, e]; rfl
@[simp] theorem isi_NoneType_int  : uIsi "int" (.none) = some (.bool false) := by
  have e : kitB "NoneType" "int" = some false := by decide +kernel
  rw [uIsi, if_neg (by simp [isInsU]), show kitB (tyU (.none)) "int" = kitB "NoneType" "int" from rfl, e]; rfl
@[simp] theorem isi_bool_int {b : Bool} : uIsi "int" (.bool b) = some (.bool true) := by
  have e : kitB "bool" "int" = some true := by decide +kernel
  rw [uIsi, if_neg (by simp [isInsU]), show kitB (tyU (.bool b)) "int" = kitB "bool" "int" from rfl, e]; rfl
@[simp] theorem isi_int_int {i : Int} : uIsi "int" (.int i) = some (.bool true) := by
  have e : kitB "int" "int" = some true := by decide +kernel
  rw [uIsi, if_neg (by simp [isInsU]), show kitB (tyU (.int i)) "int" = kitB "int" "int" from rfl, e]; rfl
@[simp] theorem isi_str_int {z : Str} : uIsi "int" (.str z) = some (.bool false) := by
  have e : kitB "str" "int" = some false := by decide +kernel
  rw [uIsi, if_neg (by simp [isInsU]), show kitB (tyU (.str z)) "int" = kitB "str" "int" from rfl, e]; rfl
@[simp] theorem isi_list_int {ds : List U} : uIsi "int" (.list ds) = some (.bool false) := by
  have e : kitB "list" "int" = some false := by decide +kernel
  rw [uIsi, if_neg (by simp [isInsU]), show kitB (tyU (.list ds)) "int" = kitB "list" "int" from rfl, e]; rfl
@[simp] theorem isi_tuple_int {ds : List U} : uIsi "int" (.tuple ds) = some (.bool false) := by
  have e : kitB "tuple" "int" = some false := by decide +kernel
  rw [uIsi, if_neg (by simp [isInsU]), show kitB (tyU (.tuple ds)) "int" = kitB "tuple" "int" from rfl, e]; rfl
@[simp] theorem isi_dict_int {ks : List (Key × U)} : uIsi "int" (.dict ks) = some (.bool false) := by
  have e : kitB "dict" "int" = some false := by decide +kernel
  rw [uIsi, if_neg (by simp [isInsU]), show kitB (tyU (.dict ks)) "int" = kitB "dict" "int" from rfl, e]; rfl
@[simp] theorem isi_NoneType_bool  : uIsi "bool" (.none) = some (.bool false) := by
  have e : kitB "NoneType" "bool" = some false := by decide +kernel
  rw [uIsi, if_neg (by simp [isInsU]), show kitB (tyU (.none)) "bool" = kitB "NoneType" "bool" from rfl, e]; rfl
@[simp] theorem isi_bool_bool {b : Bool} : uIsi "bool" (.bool b) = some (.bool true) := by
  have e : kitB "bool" "bool" = some true := by decide +kernel
  rw [uIsi, if_neg (by simp [isInsU]), show kitB (tyU (.bool b)) "bool" = kitB "bool" "bool" from rfl, e]; rfl
@[simp] theorem isi_int_bool {i : Int} : uIsi "bool" (.int i) = some (.bool false) := by
  have e : kitB "int" "bool" = some false := by decide +kernel
  rw [uIsi, if_neg (by simp [isInsU]), show kitB (tyU (.int i)) "bool" = kitB "int" "bool" from rfl, e]; rfl
@[simp] theorem isi_str_bool {z : Str} : uIsi "bool" (.str z) = some (.bool false) := by
  have e : kitB "str" "bool" = some false := by decide +kernel
  rw [uIsi, if_neg (by simp [isInsU]), show kitB (tyU (.str z)) "bool" = kitB "str" "bool" from rfl, e]; rfl
@[simp] theorem isi_list_bool {ds : List U} : uIsi "bool" (.list ds) = some (.bool false) := by
  have e : kitB "list" "bool" = some false := by decide +kernel
  rw [uIsi, if_neg (by simp [isInsU]), show kitB (tyU (.list ds)) "bool" = kitB "list" "bool" from rfl, e]; rfl
@[simp] theorem isi_tuple_bool {ds : List U} : uIsi "bool" (.tuple ds) = some (.bool false) := by
  have e : kitB "tuple" "bool" = some false := by decide +kernel
  rw [uIsi, if_neg (by simp [isInsU]), show kitB (tyU (.tuple ds)) "bool" = kitB "tuple" "bool" from rfl, e]; rfl
@[simp] theorem isi_dict_bool {ks : List (Key × U)} : uIsi "bool" (.dict ks) = some (.bool false) := by
  have e : kitB "dict" "bool" = some false := by decide +kernel
  rw [uIsi, if_neg (by simp [isInsU]), show kitB (tyU (.dict ks)) "bool" = kitB "dict" "bool" from rfl, e]; rfl
@[simp] theorem isi_NoneType_list  : uIsi "list" (.none) = some (.bool false) := by
  have e : kitB "NoneType" "list" = some false := by decide +kernel
  rw [uIsi, if_neg (by simp [isInsU]), show kitB (tyU (.none)) "list" = kitB "NoneType" "list" from rfl, e]; rfl
@[simp] theorem isi_bool_list {b : Bool} : uIsi "list" (.bool b) = some (.bool false) := by
  have e : kitB "bool" "list" = some false := by decide +kernel
  rw [uIsi, if_neg (by simp [isInsU]), show kitB (tyU (.bool b)) "list" = kitB "bool" "list" from rfl, e]; rfl
@[simp] theorem isi_int_list {i : Int} : uIsi "list" (.int i) = some (.bool false) := by
  have e : kitB "int" "list" = some false := by decide +kernel
  rw [uIsi, if_neg (by simp [isInsU]), show kitB (tyU (.int i)) "list" = kitB "int" "list" from rfl, e]; rfl
@[simp] theorem isi_str_list {z : Str} : uIsi "list" (.str z) = some (.bool false) := by
  have e : kitB "str" "list" = some false := by decide +kernel
  rw [uIsi, if_neg (by simp [isInsU]), show kitB (tyU (.str z)) "list" = kitB "str" "list" from rfl, e]; rfl
@[simp] theorem isi_list_list {ds : List U} : uIsi "list" (.list ds) = some (.bool true) := by
  have e : kitB "list" "list" = some true := by decide +kernel
  rw [uIsi, if_neg (by simp [isInsU]), show kitB (tyU (.list ds)) "list" = kitB "list" "list" from rfl, e]; rfl
@[simp] theorem isi_tuple_list {ds : List U} : uIsi "list" (.tuple ds) = some (.bool false) := by
  have e : kitB "tuple" "list" = some false := by decide +kernel
  rw [uIsi, if_neg (by simp [isInsU]), show kitB (tyU (.tuple ds)) "list" = kitB "tuple" "list" from rfl, e]; rfl
@[simp] theorem isi_dict_list {ks : List (Key × U)} : uIsi "list" (.dict ks) = some (.bool false) := by
  have e : kitB "dict" "list" = some false := by decide +kernel
  rw [uIsi, if_neg (by simp [isInsU]), show kitB (tyU (.dict ks)) "list" = kitB "dict" "list" from rfl, e]; rfl
@[simp] theorem isi_NoneType_tuple  : uIsi "tuple" (.none) = some (.bool false) := by
  have e : kitB "NoneType" "tuple" = some false := by decide +kernel
  rw [uIsi, if_neg (by simp [isInsU]), show kitB (tyU (.none)) "tuple" = kitB "NoneType" "tuple" from rfl, e]; rfl
@[simp] theorem isi_bool_tuple {b : Bool} : uIsi "tuple" (.bool b) = some (.bool false) := by
  have e : kitB "bool" "tuple" = some false := by decide +kernel
  rw [uIsi, if_neg (by simp [isInsU]), show kitB (tyU (.bool b)) "tuple" = kitB "bool" "tuple" from rfl, e]; rfl
@[simp] theorem isi_int_tuple {i : Int} : uIsi "tuple" (.int i) = some (.bool false) := by
  have e : kitB "int" "tuple" = some false := by decide +kernel
  rw [uIsi, if_neg (by simp [isInsU]), show kitB (tyU (.int i)) "tuple" = kitB "int" "tuple" from rfl, e]; rfl
@[simp] theorem isi_str_tuple {z : Str} : uIsi "tuple" (.str z) = some (.bool false) := by
  have e : kitB "str" "tuple" = some false := by decide +kernel
  rw [uIsi, if_neg (by simp [isInsU]), show kitB (tyU (.str z)) "tuple" = kitB "str" "tuple" from rfl, e]; rfl
@[simp] theorem isi_list_tuple {ds : List U} : uIsi "tuple" (.list ds) = some (.bool false) := by
  have e : kitB "list" "tuple" = some false := by decide +kernel
  rw [uIsi, if_neg (by simp [isInsU]), show kitB (tyU (.list ds)) "tuple" = kitB "list" "tuple" from rfl, e]; rfl
@[simp] theorem isi_tuple_tuple {ds : List U} : uIsi "tuple" (.tuple ds) = some (.bool true) := by
  have e : kitB "tuple" "tuple" = some true := by decide +kernel
  rw [uIsi, if_neg (by simp [isInsU]), show kitB (tyU (.tuple ds)) "tuple" = kitB "tuple" "tuple" from rfl, e]; rfl
@[simp] theorem isi_dict_tuple {ks : List (Key × U)} : uIsi "tuple" (.dict ks) = some (.bool false) := by
  have e : kitB "dict" "tuple" = some false := by decide +kernel
  rw [uIsi, if_neg (by simp [isInsU]), show kitB (tyU (.dict ks)) "tuple" = kitB "dict" "tuple" from rfl, e]; rfl
@[simp] theorem isi_NoneType_dict  : uIsi "dict" (.none) = some (.bool false) := by
  have e : kitB "NoneType" "dict" = some false := by decide +kernel
  rw [uIsi, if_neg (by simp [isInsU]), show kitB (tyU (.none)) "dict" = kitB "NoneType" "dict" from rfl, e]; rfl
@[simp] theorem isi_bool_dict {b : Bool} : uIsi "dict" (.bool b) = some (.bool false) := by
  have e : kitB "bool" "dict" = some false := by decide +kernel
  rw [uIsi, if_neg (by simp [isInsU]), show kitB (tyU (.bool b)) "dict" = kitB "bool" "dict" from rfl, e]; rfl
@[simp] theorem isi_int_dict {i : Int} : uIsi "dict" (.int i) = some (.bool false) := by
  have e : kitB "int" "dict" = some false := by decide +kernel
  rw [uIsi, if_neg (by simp [isInsU]), show kitB (tyU (.int i)) "dict" = kitB "int" "dict" from rfl, e]; rfl
@[simp] theorem isi_str_dict {z : Str} : uIsi "dict" (.str z) = some (.bool false) := by
  have e : kitB "str" "dict" = some false := by decide +kernel
  rw [uIsi, if_neg (by simp [isInsU]), show kitB (tyU (.str z)) "dict" = kitB "str" "dict" from rfl, e]; rfl
@[simp] theorem isi_list_dict {ds : List U} : uIsi "dict" (.list ds) = some (.bool false) := by
  have e : kitB "list" "dict" = some false := by decide +kernel
  rw [uIsi, if_neg (by simp [isInsU]), show kitB (tyU (.list ds)) "dict" = kitB "list" "dict" from rfl, e]; rfl
@[simp] theorem isi_tuple_dict {ds : List U} : uIsi "dict" (.tuple ds) = some (.bool false) := by
  have e : kitB "tuple" "dict" = some false := by decide +kernel
  rw [uIsi, if_neg (by simp [isInsU]), show kitB (tyU (.tuple ds)) "dict" = kitB "tuple" "dict" from rfl, e]; rfl
@[simp] theorem isi_dict_dict {ks : List (Key × U)} : uIsi "dict" (.dict ks) = some (.bool true) := by
  have e : kitB "dict" "dict" = some true := by decide +kernel
  rw [uIsi, if_neg (by simp [isInsU]), show kitB (tyU (.dict ks)) "dict" = kitB "dict" "dict" from rfl, e]; rfl
/-- a small letter -/
def lowC (n : Nat) : Bool := decide (97 ≤ n ∧ n ≤ 122)
def nameB (z : Str) : Bool := decide (1 ≤ z.length) && decide (z.length ≤ 8) && z.cps.toList.all lowC
theorem letters_mem {c : Nat} : decide (c ∈ ("abcdefghijklmnopqrstuvwxyz" : Str).cps.toList) = lowC c := by
  have e : ("abcdefghijklmnopqrstuvwxyz" : Str).cps.toList = List.range' 97 26 := by decide +kernel
  rw [e]
  unfold lowC
  simp only [List.mem_range']
  rw [decide_eq_decide]
  constructor
  · rintro ⟨i, h1, h2⟩; omega
  · intro h; exact ⟨c - 97, by omega, by omega⟩
theorem uIn_letters {c : Nat} : uIn (.str ⟨#[c]⟩) (.str "abcdefghijklmnopqrstuvwxyz") = some (.bool (lowC c)) := by
  rw [← letters_mem]
  rfl
theorem signs_all {z : Str} {f : Str → Bool} {g : Nat → Bool} (h : ∀ c, f ⟨#[c]⟩ = g c) : ((signs z).map f).all id = z.cps.toList.all g := by
  unfold signs
  rw [List.map_map, List.all_map]
  congr 1
  funext c
  exact h c
theorem range_ok {S : Type} {d : Int} {s : S} (h0 : 0 ≤ d) (h : d ≤ 1000000) : (rangeM 0 d : StM S (List Int)) s = .ok (rangeL 0 d) s := by
  unfold rangeM
  rw [if_pos (by omega)]
  rfl
theorem rangeL_mem {d x : Int} (h : x ∈ rangeL 0 d) : 0 ≤ x ∧ x < d := by
  unfold rangeL at h
  obtain ⟨i, hi, rfl⟩ := List.mem_map.mp h
  have := List.mem_range.mp hi
  omega
theorem str_len {x y : Str} : (x ++ y).length = x.length + y.length := by
  show (x.cps ++ y.cps).size = _
  rw [Array.size_append]; rfl
theorem join_ok (a : Str) (ha : PyData.strOk a = true) : ∀ ys : List Str, (∀ y ∈ ys, PyData.strOk y = true) → PyData.strOk (Str.join a ys) = true
  | [], _ => by simp [Str.join, Str.empty, PyData.strOk]
  | [x], h => h x List.mem_cons_self
  | x :: y :: r, h => by
    show PyData.strOk (x ++ a ++ Str.join a (y :: r)) = true
    exact strOk_append (strOk_append (h x List.mem_cons_self) ha) (join_ok a ha (y :: r) fun z hz => h z (List.mem_cons_of_mem _ hz))
theorem uJoin_ok {a : Str} {ys : List Str} (ha : PyData.strOk a = true) (hy : ∀ y ∈ ys, PyData.strOk y = true) (hz : (ys.map (·.length)).sum + ys.length * a.length ≤ 16777216) : uJoin (.str a) (.list (ys.map U.str)) = some (.str (Str.join a ys)) := by
  unfold uJoin
  simp only [strsU_map, Option.bind_some]
  rw [show Txt.join a ys = Str.join a ys from PySem.StrLaws.glued_eq_join a ys, if_pos ⟨hz, join_ok a ha ys hy⟩]
theorem join0_len : ∀ ys : List Str, (Str.join ("" : Str) ys).length = (ys.map (·.length)).sum
  | [] => rfl
  | [x] => by simp [Str.join]
  | x :: y :: r => by
    show (x ++ ("" : Str) ++ Str.join ("" : Str) (y :: r)).length = _
    rw [str_len, str_len, join0_len (y :: r)]
    show x.length + 0 + _ = _
    simp
theorem idx_str {z : Str} {d : Int} (h0 : 0 ≤ d) (h : d < z.length) (hz : z.length ≤ 1000000) : ∃ c, c ∈ z.cps.toList ∧ uIdx (.str z) (.int d) = some (.str ⟨#[c]⟩) := by
  have e : sizeLine = 16777216 := sizeLine_eq
  have hl : z.cps.toList.length = z.length := by simp [Str.length]
  have hd : d.toNat < z.cps.toList.length := by omega
  refine ⟨z.cps.toList[d.toNat], List.getElem_mem hd, ?_⟩
  unfold uIdx
  simp only
  rw [if_pos (by omega)]
  unfold atI ixN
  rw [if_pos h0, if_pos (by omega)]
  simp
theorem cutS_len {z : Str} {lo hi : Option Int} : (cutS z lo hi).length ≤ z.length := by
  unfold cutS
  show (List.toArray _).size ≤ _
  rw [List.size_toArray, List.length_take, List.length_drop]
  simp [Str.length]
  omega
theorem uCut_str {z : Str} {lo hi : Option Int} (h : z.length ≤ 1000000) : uCut (.str z) lo hi = some (.str (cutS z lo hi)) := by
  have e : sizeLine = 16777216 := sizeLine_eq
  unfold uCut
  simp only
  rw [if_pos (by omega)]
theorem uAdd_str {x y : Str} (h : x.length + y.length ≤ 1000000) : uAdd (.str x) (.str y) = some (.str (x ++ y)) := by
  have e : sizeLine = 16777216 := sizeLine_eq
  unfold uAdd
  simp only
  rw [if_pos (by omega)]
end L3

namespace L3
open PySem PySem.Spec PyProof.Rows L2
/-! ### the law's own promise -/
def spTrue (K : PySem.W.Frag) : Sp := fun vs H Q E => ∃ (a : Addr) (ns : List Int), vs = [.ref a] ∧ SqL K H a (ns.map V.int) ∧ ns.length ≤ 63 ∧ (∀ z ∈ ns, Builtin.Int.intBits z ≤ 1048576) ∧ ∀ H', Q (.bl true) H'
theorem fn_true {P : Program} {w : World} {K : PySem.W.Frag} {mg : Str → Option Value} {base : Heap} {CX : CXT} {k : Nat} {f : Addr} {fd : FuncData} {ps : List Str} {ca : Str → Addr} {m : U → StM Unit U}
    (F : FnOk P w K mg base CX k f fd ps (SpOf K ca (fun x (_ : Unit) => [dU K x]) m (fun u => dU K u))) (h : ∀ ns : List Int, ns.length ≤ 63 → (∀ z ∈ ns, Builtin.Int.intBits z ≤ 1048576) → Ok (m (.list (ns.map U.int)) ()) fun u _ => u = .bool true) : FnOk P w K mg base CX k f fd ps (spTrue K) := F.imp fun vs H Q E ⟨a, ns, hv, hS, hl, hb, q⟩ => by
  subst hv
  have hD : DqAll K H (ns.map V.int) (ns.map U.int) := by
    clear h hS hl hb q
    induction ns with
    | nil => exact .nil
    | cons n ns ih => exact .cons (.int n) ih
  refine ⟨.list (ns.map U.int), (), H, ⟨rfl, Ex.refl _, Post.refl, fun l ⟨i, ad, q, e, _⟩ => ?_, fun i s e => ?_, fun i j x y p q l e1 _ _ _ => ?_⟩, ?_⟩
  · cases i with
    | zero => simp at e
    | succ i => simp at e
  · cases i with
    | zero => simp at e; subst e; exact ⟨_, rfl, .lst hS hD⟩
    | succ i => simp at e
  · cases i with
    | zero => simp at e1
    | succ i => simp at e1
  · rw [show m (.list (ns.map U.int)) () = .ok (.bool true) () from ok_eq (ok_mono (h ns hl hb) fun u _ e => ⟨e, rfl⟩)]
    intro v G' H' _ _ _ r
    cases r
    exact q H'
theorem walkT {l : PySem.W.OpenLaw} {k : Nat} {q : Program} {loose : List Str} {XP : (Str → Option Value) → Heap → Prop} {YP : World → Heap → Prop} {d : DefRec} {K : Params → PySem.W.Frag} {x : Str} (hn : l.most = some 63) (hdf : d.params.defaults = []) (hr : Room k callerA)
    (hY : ∀ (w : World) (h : Heap), YP w h → (K w.params).In h)
    (F : ∀ (w : World) (mg : Str → Option Value) (fa : Addr) (h : Heap), (K w.params).In h → h.Ns mainGlobals mg → mg d.name = some (.ref fa) →
      ∃ fd : FuncData, (∀ (s : Shared) (u : Value), BindsTo s fd ⟨[u], []⟩ [(x, u)]) ∧ ∀ base : Heap, (K w.params).In base → base.Ns mainGlobals mg → FnOk l.prog w (K w.params) mg base (L2.CX l.prog w) k fa fd [x] (spTrue (K w.params))) :
    PySem.W.WalkO q loose XP YP l.row.toRowW d [] (fun f vs => PySem.call f vs) :=
  L2.walk_ofB (n := 63) (K := K) (CX := fun w => L2.CX l.prog w) (sp := fun w => spTrue (K w.params)) hn (by decide) hdf hr hY F (fun w H a ns hl hb _ hS => ⟨a, ns, rfl, hS, hl, hb, fun _ => rfl⟩) fun w H s e s' z => callee_X z
end L3

namespace C_k11
open PySem PySem.Spec PyProof.Rows L2 L3
def top (i : Nat) : Stmt := PySem.Challenge.pw_cutmeet_k11_names.main.body.getD i (.Pass ⟨0, 0, 0, 0⟩)
structure Tx (K : PySem.W.Frag) (mg : Str → Option Value) : Prop where
  n_all : mg "all" = none
  n_bool : mg "bool" = none
  n_divmod : mg "divmod" = none
  n_isinstance : mg "isinstance" = none
  n_len : mg "len" = none
  n_list : mg "list" = none
  n_max : mg "max" = none
  n_min : mg "min" = none
  n_range : mg "range" = none
  n_str : mg "str" = none
  c_LETTERS : ∃ u, mg "LETTERS" = some u ∧ RelV (.str "abcdefghijklmnopqrstuvwxyz") u
  c_LONGEST : ∃ u, mg "LONGEST" = some u ∧ RelV (.int 8) u
/-! is_name -/
abbrev st_is_name : Stmt := top 3
def mir_is_name (p_thing : U) : StM Unit U :=
  StM.bind (StM.bind (StM.bind (StM.bind (StM.bind (StM.pure p_thing) fun x1 => StM.ofOpt (uIsi "str" x1)) asB) fun k => StM.pure (!k)) fun c => if c = true then StM.pure true else StM.bind (StM.bind (StM.bind (StM.bind (StM.pure p_thing) fun x2 => StM.ofOpt (uLen x2)) fun x3 => StM.bind (StM.pure (U.int 1)) fun x4 => StM.ofOpt (uLt x3 x4)) asB) fun c => if c = true then StM.pure true else StM.bind (StM.bind (StM.bind (StM.pure p_thing) fun x5 => StM.ofOpt (uLen x5)) fun x6 => StM.bind (StM.pure (U.int 8)) fun x7 => StM.ofOpt (uGt x6 x7)) asB) fun b => if b = true then StM.pure (U.bool false) else
  StM.bind (StM.bind (StM.bind (StM.bind (StM.bind (StM.bind (StM.pure p_thing) asS) strM) fun xs => StM.pure (xs.map U.str)) fun xs => StM.noX (compM (fun x8 => StM.pure true) (fun x8 => StM.bind (StM.pure x8) fun x9 => StM.bind (StM.pure (U.str "abcdefghijklmnopqrstuvwxyz")) fun x10 => StM.ofOpt (uIn x9 x10)) xs [])) fun ys11 => StM.pure (U.list ys11)) fun x12 => StM.ofOpt (uAll x12)
abbrev prm_is_name (z : U) : StM Unit U := mir_is_name z
abbrev par_is_name (K : PySem.W.Frag) (z : U) (s : Unit) : Gam := [dU K z]
abbrev res_is_name (K : PySem.W.Frag) (u : U) : Sl := dU K u
theorem Sc_is_name : FnScope [("thing" : Str), ("sign" : Str)] ["thing"] (defScope st_is_name) := ⟨rfl, rfl, rfl, by decide +kernel, rfl, by decide +kernel, by decide +kernel⟩
theorem ok_is_name {K : PySem.W.Frag} {mg : Str → Option Value} (T : Tx K mg) {P : Program} {wd : World} {base : Heap} {ca : Str → Addr} {f : Addr} {fd : FuncData} (F : Fun K "is_name" "is_name" st_is_name f fd)
     :
    FnOk P wd K mg base (L2.CX P wd) 1 f fd ["thing"] (SpOf K ca (par_is_name K) prm_is_name (res_is_name K)) := by
  refine fn_ok0 F Sc_is_name (fun _ => rfl) (fun z i a p h => by match i, h with | 0, h => cases h | i + 1, h => simp [par_is_name] at h) fun cdv A outer s H E p_thing hr => ?_
  have hu := hr65 hr
  exact (r_if (te_wE (tw_orE (te_notE (te_d (isi_ (od_ (dv_ 0)) T.n_isinstance T.n_str bt_str bt_isinstance))) (tw_orE (tcm_ op_ltU pr_lt (od_ (call1_ (bcB call_len T.n_len bt_len) pr_len (od_ (dv_ 0)))) (od_ di_)) (tw_or1E (tcm_ op_gtU pr_gt (od_ (call1_ (bcB call_len T.n_len bt_len) pr_len (od_ (dv_ 0)))) (od_ (dge_ T.c_LONGEST fun _ => .int _))))))) (r_ret db_ (fun _ _ _ _ _ _ _ => trivial))
  (r_ret (call1_ (bcB (cr_all rfl) T.n_all bt_all) pr_all (od_ (do_ (lcO_ (own := [("sign", 1)]) (js := [1]) rfl Sc_is_name.nd (kw_s (dv_ 0)) (by change BlkOk [("thing" : Str), ("sign" : Str)] (defScope st_is_name) _ _; exact ⟨rfl, by decide +kernel, by decide +kernel, by decide +kernel, by decide +kernel⟩) (by decide) (fun s H C cl fp => (pg_name (i := 1) Sc_is_name.nd rfl (by first | exact Or.inl rfl | exact Or.inr rfl))) (fun x => tgt_name 1) (by decide) (fun _ _ => Shp.refl _) (fun _ _ => rfl) (fun x Γ i hi => set1_ne hi) (fun x Γ i ad q hi => set1_im hi) (fun s s2 i hi => by simp only [List.map_cons, List.map_nil, List.mem_cons, List.not_mem_nil, or_false] at hi; subst hi; exact ⟨rfl, .inl rfl⟩) (fun _ => rfl) (fun s H C cl fp x8 => (cmp_ (op_inU hu) pr_in (od_ (dv_ 1)) (od_ (dge_ T.c_LETTERS fun _ => .str _ (by decide +kernel))))))))) (fun _ _ _ _ _ _ _ => trivial)))
/-! law_row_at -/
abbrev st__law_row_at : Stmt := top 5
def mir__law_row_at (p__law_script p__law_k : U) : StM Unit U :=
  StM.bind (StM.pure (U.int 0)) fun v__law_cell1 =>
  StM.bind (StM.bind (StM.bind (StM.bind (StM.pure p__law_k) fun x7 => StM.bind (StM.bind (StM.pure p__law_script) fun x6 => StM.ofOpt (uLen x6)) fun x8 => StM.ofOpt (uLt x7 x8)) asB) fun b => if b = true then
    StM.bind (StM.bind (StM.pure p__law_script) fun x10 => StM.bind (StM.pure p__law_k) fun x11 => StM.ofOpt (uIdx x10 x11)) fun v__law_cell9 =>
    StM.pure (Fl.nx v__law_cell9)
  else
    StM.pure (Fl.nx v__law_cell1)) fun o12 => Fl.after (fun t5 =>
  StM.bind (StM.bind (StM.bind (StM.bind (StM.pure t5) fun x14 => StM.bind (StM.pure (U.int 48271)) fun x15 => StM.ofOpt (uMul x14 x15)) fun x20 => StM.bind (StM.bind (StM.pure (U.int 39373)) fun x18 => StM.bind (StM.bind (StM.pure p__law_k) fun x16 => StM.bind (StM.pure (U.int 1)) fun x17 => StM.ofOpt (uAdd x16 x17)) fun x19 => StM.ofOpt (uMul x18 x19)) fun x21 => StM.ofOpt (uAdd x20 x21)) fun x22 => StM.bind (StM.pure (U.int 2147483647)) fun x23 => StM.ofOpt (uMod x22 x23)) fun v__law_mixed13 =>
  StM.bind (StM.bind (StM.bind (StM.pure t5) fun x26 => StM.bind (StM.bind (StM.pure (U.int 10)) fun x24 => StM.bind (StM.pure (U.int 18)) fun x25 => StM.ofOpt (uPow x24 x25)) fun x27 => StM.ofOpt (uLt x26 x27)) asB) fun b => if b = true then StM.bind (StM.bind (StM.pure (U.int 0)) fun x30 => StM.bind (StM.bind (StM.pure v__law_mixed13) fun x28 => StM.bind (StM.pure []) fun xs29 => StM.pure (x28 :: xs29)) fun xs31 => StM.pure (x30 :: xs31)) fun xs32 => StM.pure (U.list xs32) else
  StM.bind (StM.bind (StM.bind (StM.bind (StM.bind (StM.pure t5) fun x38 => StM.bind (StM.pure (U.int 2)) fun x39 => StM.ofOpt (uMod x38 x39)) fun x40 => StM.bind (StM.pure (U.int 1)) fun x41 => StM.ofOpt (uEq x40 x41)) asB) fun b => if b = true then
    StM.bind (StM.bind (StM.pure (U.int 1)) fun x43 => StM.ofOpt (uNeg x43)) fun v__law_mixed42 =>
    StM.pure (Fl.nx v__law_mixed42)
  else
    StM.pure (Fl.nx v__law_mixed13)) fun o44 => Fl.after (fun t37 =>
  StM.bind (StM.bind (StM.bind (StM.bind (StM.pure t5) fun x47 => StM.bind (StM.bind (StM.pure (U.int 10)) fun x45 => StM.bind (StM.pure (U.int 18)) fun x46 => StM.ofOpt (uPow x45 x46)) fun x48 => StM.ofOpt (uSub x47 x48)) fun x49 => StM.bind (StM.pure (U.int 2)) fun x50 => StM.ofOpt (uFdiv x49 x50)) fun x53 => StM.bind (StM.bind (StM.pure t37) fun x51 => StM.bind (StM.pure []) fun xs52 => StM.pure (x51 :: xs52)) fun xs54 => StM.pure (x53 :: xs54)) fun xs55 => StM.pure (U.list xs55)) o44) o12
abbrev prm__law_row_at (z : U × U) : StM Unit U := mir__law_row_at z.1 z.2
abbrev par__law_row_at (K : PySem.W.Frag) (z : U × U) (s : Unit) : Gam := [dU K z.1, dU K z.2]
abbrev res__law_row_at (K : PySem.W.Frag) (u : U) : Sl := oU K u
theorem Sc__law_row_at : FnScope [("_law_script" : Str), ("_law_k" : Str), ("_law_cell" : Str), ("_law_mixed" : Str)] ["_law_script", "_law_k"] (defScope st__law_row_at) := ⟨rfl, rfl, rfl, by decide +kernel, rfl, by decide +kernel, by decide +kernel⟩
theorem ok__law_row_at {K : PySem.W.Frag} {mg : Str → Option Value} (T : Tx K mg) {P : Program} {wd : World} {base : Heap} {ca : Str → Addr} {f : Addr} {fd : FuncData} (F : Fun K "_law_row_at" "_law_row_at" st__law_row_at f fd)
     :
    FnOk P wd K mg base (L2.CX P wd) 1 f fd ["_law_script", "_law_k"] (SpOf K ca (par__law_row_at K) prm__law_row_at (res__law_row_at K)) := by
  refine fn_ok0 F Sc__law_row_at (fun _ => rfl) (fun z i a p h => by match i, h with | 0, h => cases h | 1, h => cases h | i + 2, h => simp [par__law_row_at] at h) fun cdv A outer s H E z hr => ?_
  obtain ⟨p__law_script, p__law_k⟩ := z
  have hu := hr65 hr
  exact (r_seq (Γ' := fun v__law_cell1 s => [dU K p__law_script, dU K p__law_k, dU K v__law_cell1, .un]) (s_asg 2 Sc__law_row_at.nd di_) fun v__law_cell1 =>
  (r_blk (Γn := fun t5 s => [dU K p__law_script, dU K p__law_k, dU K t5, .un]) (f_if (tcm_ op_ltU pr_lt (od_ (dv_ 1)) (od_ (call1_ (bcB call_len T.n_len bt_len) pr_len (od_ (dv_ 0)))))
    (n_seq (Γ' := fun v__law_cell9 s => [dU K p__law_script, dU K p__law_k, dU K v__law_cell9, .un]) (s_asg 2 Sc__law_row_at.nd (ix_ ix_seq pr_idx (od_ (dv_ 0)) (od_ (dv_ 1)))) fun v__law_cell9 =>
    (n_nil v__law_cell9 (fun _ => (.s (.s (.s (.s .nil)))))))
    (n_nil v__law_cell1 (fun _ => (.s (.s (.s (.s .nil)))))))
  fun t5 => (r_seq (Γ' := fun v__law_mixed13 s => [dU K p__law_script, dU K p__law_k, dU K t5, dU K v__law_mixed13]) (s_asg 3 Sc__law_row_at.nd (op2_ op_mod pr_mod (od_ (op2_ op_addU pr_add (od_ (op2_ op_mul pr_mul (od_ (dv_ 2)) (od_ di_))) (od_ (op2_ op_mul pr_mul (od_ di_) (od_ (op2_ op_addU pr_add (od_ (dv_ 1)) (od_ di_))))))) (od_ di_))) fun v__law_mixed13 =>
  (r_if (tcm_ op_ltU pr_lt (od_ (dv_ 2)) (od_ (op2_ op_pow pr_pow (od_ di_) (od_ di_)))) (r_ret (o_lst (es_cons di_ (es_cons (dv_ 3) es_nil))) (fun _ _ _ _ _ _ _ => trivial))
  (r_blk (Γn := fun t37 s => [dU K p__law_script, dU K p__law_k, dU K t5, dU K t37]) (f_if (tcm_ (op_eqD hr.units) pr_eq (od_ (op2_ op_mod pr_mod (od_ (dv_ 2)) (od_ di_))) (od_ di_))
    (n_seq (Γ' := fun v__law_mixed42 s => [dU K p__law_script, dU K p__law_k, dU K t5, dU K v__law_mixed42]) (s_asg 3 Sc__law_row_at.nd (un1_ un_neg pr_neg (od_ di_))) fun v__law_mixed42 =>
    (n_nil v__law_mixed42 (fun _ => (.s (.s (.s (.s .nil)))))))
    (n_nil v__law_mixed13 (fun _ => (.s (.s (.s (.s .nil)))))))
  fun t37 => (r_ret (o_lst (es_cons (op2_ op_fdivW pr_fdiv (od_ (op2_ op_sub pr_sub (od_ (dv_ 2)) (od_ (op2_ op_pow pr_pow (od_ di_) (od_ di_))))) (od_ di_)) (es_cons (dv_ 3) es_nil))) (fun _ _ _ _ _ _ _ => trivial)))))))
/-! law_draw -/
abbrev st__law_draw : Stmt := top 6
def mir__law_draw (p__law_many : U) : StM U U :=
  StM.bind (StM.bind (StM.bind (StM.bind (StM.pure ()) fun _ => StM.bind (StM.pure (U.int 0)) fun x2 => fun s => (StM.ofOpt (uIdx s x2) : StM U U) s) fun x3 => StM.bind (StM.pure (U.int 0)) fun x4 => StM.ofOpt (uGt x3 x4)) asB) fun b => if b = true then StM.bind (StM.bind (StM.bind (StM.bind (StM.pure ()) fun _ => StM.bind (StM.pure (U.int 0)) fun x6 => fun s => (StM.ofOpt (uIdx s x6) : StM U U) s) fun x7 => StM.bind (StM.pure p__law_many) fun x8 => StM.ofOpt (uDivmod x7 x8)) fun v9 => match v9 with | .tuple [v1, v2] => StM.bind (StM.pure (U.int 0)) fun k10 s => ((StM.ofOpt (match s with | .list _ => uPut s k10 v1 | _ => none) : StM U U).bind fun u => StM.bind (StM.put u) fun _ => StM.pure v2) s | _ => StM.fail) fun v__law_digit11 =>
    StM.pure v__law_digit11 else
  StM.bind (StM.bind (StM.bind (StM.bind (StM.pure ()) fun _ => StM.bind (StM.pure (U.int 1)) fun x13 => fun s => (StM.ofOpt (uIdx s x13) : StM U U) s) fun x14 => StM.bind (StM.pure (U.int 0)) fun x15 => StM.ofOpt (uLt x14 x15)) asB) fun b => if b = true then StM.pure (U.int 0) else
  StM.bind (StM.bind (StM.bind (StM.bind (StM.bind (StM.bind (StM.pure ()) fun _ => StM.bind (StM.pure (U.int 1)) fun x17 => fun s => (StM.ofOpt (uIdx s x17) : StM U U) s) fun x18 => StM.bind (StM.pure (U.int 48271)) fun x19 => StM.ofOpt (uMul x18 x19)) fun x20 => StM.bind (StM.pure (U.int 11213)) fun x21 => StM.ofOpt (uAdd x20 x21)) fun x22 => StM.bind (StM.pure (U.int 2147483647)) fun x23 => StM.ofOpt (uMod x22 x23)) fun v24 => StM.bind (StM.pure (U.int 1)) fun k25 s => ((StM.ofOpt (match s with | .list _ => uPut s k25 v24 | _ => none) : StM U U).bind StM.put) s) fun _ =>
  StM.bind (StM.bind (StM.bind (StM.pure ()) fun _ => StM.bind (StM.pure (U.int 1)) fun x27 => fun s => (StM.ofOpt (uIdx s x27) : StM U U) s) fun x28 => StM.bind (StM.pure (U.int 32)) fun x29 => StM.ofOpt (uFdiv x28 x29)) fun x30 => StM.bind (StM.pure p__law_many) fun x31 => StM.ofOpt (uMod x30 x31)
abbrev prm__law_draw (z : U) : StM U U := mir__law_draw z
abbrev par__law_draw (K : PySem.W.Frag) (z : U) (s : U) : Gam := [oU K s, dU K z]
abbrev res__law_draw (K : PySem.W.Frag) (u : U) : Sl := dU K u
theorem Sc__law_draw : FnScope [("_law_row" : Str), ("_law_many" : Str), ("_law_digit" : Str)] ["_law_row", "_law_many"] (defScope st__law_draw) := ⟨rfl, rfl, rfl, by decide +kernel, rfl, by decide +kernel, by decide +kernel⟩
theorem uniq__law_draw {K : PySem.W.Frag} {z : U} {s : U} : Uniq (par__law_draw K z s) := by
  intro i j a b p q h1 h2
  have key : ∀ (i : Nat) a p, (par__law_draw K z s)[i]? = some (Sl.ow a p) → i = 0 := by
    intro i a p h
    match i, h with
    | 0, h => rfl
    | 1, h => cases h
    | i + 2, h => simp [par__law_draw] at h
  rw [key _ _ _ h1, key _ _ _ h2]
theorem ok__law_draw {K : PySem.W.Frag} {mg : Str → Option Value} (T : Tx K mg) {P : Program} {wd : World} {base : Heap} {ca : Str → Addr} {f : Addr} {fd : FuncData} (F : Fun K "_law_draw" "_law_draw" st__law_draw f fd)
     :
    FnOk P wd K mg base (L2.CX P wd) 1 f fd ["_law_row", "_law_many"] (SpOf K ca (par__law_draw K) prm__law_draw (res__law_draw K)) := by
  refine fn_ok1 0 (qp := fun s => ownO K s) F Sc__law_draw (fun _ _ => rfl) (fun _ _ => rfl) (fun z s j a p h => by match j, h with | 0, h => rfl | 1, h => cases h | i + 2, h => simp [par__law_draw] at h) fun cdv A outer s H E p__law_many r hr => ?_
  have hu := hr65 hr
  exact (r_if (tcm_ op_gtU pr_gt (od_ (ix_ ix_seq pr_idx (oo_ (ad := (some r)) (c := fun s => s) 0) (od_ di_))) (od_ di_)) (r_seq (Γ' := fun v__law_digit11 s => [.ow (some r) (ownO K s), dU K p__law_many, dU K v__law_digit11]) (s_divS 0 2 rfl Sc__law_draw.nd (call2_ (bcB call_divmodW T.n_divmod bt_divmod) pr_divmod (od_ (ix_ ix_seq pr_idx (oo_ (ad := (some r)) (c := fun s => s) 0) (od_ di_))) (od_ (dv_ 1))) di_ (fun s => ⟨_, rfl, fun _ => rfl⟩)) fun v__law_digit11 =>
    (r_ret (dv_ 2) (fun _ _ _ _ _ _ a => io1_at (i := 0) a rfl)))
  (r_if (tcm_ op_ltU pr_lt (od_ (ix_ ix_seq pr_idx (oo_ (ad := (some r)) (c := fun s => s) 0) (od_ di_))) (od_ di_)) (r_ret di_ (fun _ _ _ _ _ _ a => io1_at (i := 0) a rfl))
  (r_seq (Γ' := fun _ s => [.ow (some r) (ownO K s), dU K p__law_many, .un]) (s_putS 0 (op2_ op_mod pr_mod (od_ (op2_ op_addU pr_add (od_ (op2_ op_mul pr_mul (od_ (ix_ ix_seq pr_idx (oo_ (ad := (some r)) (c := fun s => s) 0) (od_ di_))) (od_ di_))) (od_ di_))) (od_ di_)) di_ (fun s => ⟨_, rfl, fun _ => rfl⟩)) fun _ =>
  (r_ret (op2_ op_mod pr_mod (od_ (op2_ op_fdivW pr_fdiv (od_ (ix_ ix_seq pr_idx (oo_ (ad := (some r)) (c := fun s => s) 0) (od_ di_))) (od_ di_))) (od_ (dv_ 1))) (fun _ _ _ _ _ _ a => io1_at (i := 0) a rfl)))))
/-! law_text -/
abbrev st__law_text : Stmt := top 7
def mir__law_text  : StM U U :=
  StM.bind (StM.pure (U.str "abcdefghijklmnopqrstuvwxyz")) fun v__law_letters1 =>
  StM.bind (StM.pure (U.str " !\"#$&'()*+,-./0123456789:;<=>?@ABCDEFGHIJKLMNOPQRSTUVWXYZ[\\]^_`abcdefghijklmnopqrstuvwxyz{|}~\n")) fun v__law_signs2 =>
  StM.bind (StM.bind (StM.pure (U.str "")) fun x12 => StM.bind (if isStrU x12 then StM.pure () else StM.fail) fun _ => StM.bind (StM.bind (StM.bind (StM.bind (StM.bind (StM.bind (StM.bind (StM.bind (StM.pure (U.int 11)) fun x4 => StM.bind (StM.pure ()) fun y5 => StM.pure (x4, y5)) fun b => StM.noX (mir__law_draw b.1)) asI) fun n => rangeM 0 n) fun xs => StM.pure (xs.map U.int)) fun xs => StM.noX (compM (fun x6 => StM.pure true) (fun x6 => StM.bind (StM.pure v__law_letters1) fun x9 => StM.bind (StM.bind (StM.bind (StM.pure (U.int 26)) fun x7 => StM.bind (StM.pure ()) fun y8 => StM.pure (x7, y8)) fun b => StM.noX (mir__law_draw b.1)) fun x10 => StM.ofOpt (uIdx x9 x10)) xs [])) fun ys11 => StM.pure (U.list ys11)) fun x13 => StM.ofOpt (uJoin x12 x13)) fun v__law_text_here3 =>
  StM.bind (StM.bind (StM.bind (StM.bind (StM.bind (StM.bind (StM.pure (U.int 2)) fun x19 => StM.bind (StM.pure ()) fun y20 => StM.pure (x19, y20)) fun b => StM.noX (mir__law_draw b.1)) fun x21 => StM.bind (StM.pure (U.int 1)) fun x22 => StM.ofOpt (uEq x21 x22)) asB) fun b => if b = true then
    StM.bind (StM.bind (StM.bind (StM.bind (StM.bind (StM.pure v__law_text_here3) fun x24 => StM.ofOpt (uLen x24)) fun x25 => StM.bind (StM.pure (U.int 1)) fun x26 => StM.ofOpt (uAdd x25 x26)) fun x27 => StM.bind (StM.pure ()) fun y28 => StM.pure (x27, y28)) fun b => StM.noX (mir__law_draw b.1)) fun v__law_at23 =>
    StM.bind (StM.bind (StM.bind (StM.bind (StM.pure v__law_text_here3) fun x31 => StM.bind (StM.pure none) fun l32 => StM.bind (StM.bind (StM.pure v__law_at23) fun x30 => StM.bind (asI x30) fun i => StM.pure (some i)) fun h33 => StM.ofOpt (uCut x31 l32 h33)) fun x39 => StM.bind (StM.bind (StM.pure v__law_signs2) fun x37 => StM.bind (StM.bind (StM.bind (StM.bind (StM.pure v__law_signs2) fun x34 => StM.ofOpt (uLen x34)) fun x35 => StM.bind (StM.pure ()) fun y36 => StM.pure (x35, y36)) fun b => StM.noX (mir__law_draw b.1)) fun x38 => StM.ofOpt (uIdx x37 x38)) fun x40 => StM.ofOpt (uAdd x39 x40)) fun x47 => StM.bind (StM.bind (StM.pure v__law_text_here3) fun x44 => StM.bind (StM.bind (StM.bind (StM.pure v__law_at23) fun x41 => StM.bind (StM.pure (U.int 1)) fun x42 => StM.ofOpt (uAdd x41 x42)) fun x43 => StM.bind (asI x43) fun i => StM.pure (some i)) fun l45 => StM.bind (StM.pure none) fun h46 => StM.ofOpt (uCut x44 l45 h46)) fun x48 => StM.ofOpt (uAdd x47 x48)) fun v__law_text_here29 =>
    StM.pure (Fl.nx v__law_text_here29)
  else
    StM.pure (Fl.nx v__law_text_here3)) fun o49 => Fl.after (fun t18 =>
  StM.pure t18) o49
abbrev prm__law_text (z : Unit) : StM U U := mir__law_text 
abbrev par__law_text (K : PySem.W.Frag) (z : Unit) (s : U) : Gam := [oU K s]
abbrev res__law_text (K : PySem.W.Frag) (u : U) : Sl := dU K u
theorem Sc__law_text : FnScope [("_law_row" : Str), ("_law_letters" : Str), ("_law_signs" : Str), ("_law_text_here" : Str), ("_law_k" : Str), ("_law_at" : Str)] ["_law_row"] (defScope st__law_text) := ⟨rfl, rfl, rfl, by decide +kernel, rfl, by decide +kernel, by decide +kernel⟩
theorem uniq__law_text {K : PySem.W.Frag} {z : Unit} {s : U} : Uniq (par__law_text K z s) := by
  intro i j a b p q h1 h2
  have key : ∀ (i : Nat) a p, (par__law_text K z s)[i]? = some (Sl.ow a p) → i = 0 := by
    intro i a p h
    match i, h with
    | 0, h => rfl
    | i + 1, h => simp [par__law_text] at h
  rw [key _ _ _ h1, key _ _ _ h2]
theorem ok__law_text {K : PySem.W.Frag} {mg : Str → Option Value} (T : Tx K mg) {P : Program} {wd : World} {base : Heap} {ca : Str → Addr} {f : Addr} {fd : FuncData} (F : Fun K "_law_text" "_law_text" st__law_text f fd)
    {a__law_draw : Addr} {fd__law_draw : FuncData} (G__law_draw : FnOk P wd K mg base (L2.CX P wd) 1 a__law_draw fd__law_draw ["_law_row", "_law_many"] (SpOf K ca (par__law_draw K) prm__law_draw (res__law_draw K))) (m__law_draw : mg "_law_draw" = some (Value.ref a__law_draw)) (k__law_draw : PySem.W.keepIn K (Value.ref a__law_draw) = true) (B__law_draw : Binds K fd__law_draw ["_law_row", "_law_many"] []) :
    FnOk P wd K mg base (L2.CX P wd) 2 f fd ["_law_row"] (SpOf K ca (par__law_text K) prm__law_text (res__law_text K)) := by
  refine fn_ok1 0 (qp := fun s => ownO K s) F Sc__law_text (fun _ _ => rfl) (fun _ _ => rfl) (fun z s j a p h => by match j, h with | 0, h => rfl | i + 1, h => simp [par__law_text] at h) fun cdv A outer s H E z r hr => ?_
  have hu := hr65 hr
  exact (r_seq (Γ' := fun v__law_letters1 s => [.ow (some r) (ownO K s), dU K v__law_letters1, .un, .un, .un, .un]) (s_asg 1 Sc__law_text.nd ds_) fun v__law_letters1 =>
  (r_seq (Γ' := fun v__law_signs2 s => [.ow (some r) (ownO K s), dU K v__law_letters1, dU K v__law_signs2, .un, .un, .un]) (s_asg 2 Sc__law_text.nd ds_) fun v__law_signs2 =>
  (r_seq (Γ' := fun v__law_text_here3 s => [.ow (some r) (ownO K s), dU K v__law_letters1, dU K v__law_signs2, dU K v__law_text_here3, .un, .un]) (s_asg 3 Sc__law_text.nd (join_ ds_ (do_ (lcO_ (own := [("_law_k", 4)]) (js := [4]) rfl Sc__law_text.nd (kw_r (wk_range1 T.n_range (d_int (ee_io (par := par__law_draw K) (m := prm__law_draw) (res := res__law_draw K) (fun (b : U × Unit) => b.1) 0 0 (fun s => ownO K s) (rule_fn cx_takes G__law_draw (hr.mono (by decide)) m__law_draw k__law_draw B__law_draw) (ea_at 0 (ea_cons (p := fun u => isD K u) di_ ea_nil)) (fun b s => (Fit.io (ad := (some r)) rfl rfl (Fit.im Fit.nil))) (fun b s => ⟨_, rfl⟩) (fun b s => uniq__law_draw) (fun s => ⟨_, rfl, fun _ => rfl⟩))))) (by change BlkOk [("_law_row" : Str), ("_law_letters" : Str), ("_law_signs" : Str), ("_law_text_here" : Str), ("_law_k" : Str), ("_law_at" : Str)] (defScope st__law_text) _ _; exact ⟨rfl, by decide +kernel, by decide +kernel, by decide +kernel, by decide +kernel⟩) (by decide) (fun s H C cl fp => (pg_name (i := 4) Sc__law_text.nd rfl (by first | exact Or.inl rfl | exact Or.inr rfl))) (fun x => tgt_name 4) (by decide) (fun s s2 => Shp.set (i := 0) (b := (some r)) (p := ownO K s2) rfl) (fun _ _ => rfl) (fun x Γ i hi => set1_ne hi) (fun x Γ i ad q hi => set1_im hi) (fun s s2 i hi => by simp only [List.map_cons, List.map_nil, List.mem_cons, List.not_mem_nil, or_false] at hi; subst hi; exact ⟨rfl, .inl rfl⟩) (fun _ => rfl) (fun s H C cl fp x6 => (ix_ ix_seq pr_idx (od_ (dv_ 1)) (od_ (ee_io (par := par__law_draw K) (m := prm__law_draw) (res := res__law_draw K) (fun (b : U × Unit) => b.1) 0 0 (fun s => ownO K s) (rule_fn takes_no G__law_draw (hr.mono (by decide)) m__law_draw k__law_draw B__law_draw) (ea_at 0 (ea_cons (p := fun u => isD K u) di_ ea_nil)) (fun b s => (Fit.io (ad := (some r)) rfl rfl (Fit.im Fit.nil))) (fun b s => ⟨_, rfl⟩) (fun b s => uniq__law_draw) (fun s => ⟨_, rfl, fun _ => rfl⟩))))))))) fun v__law_text_here3 =>
  (r_blk (Γn := fun t18 s => [.ow (some r) (ownO K s), dU K v__law_letters1, dU K v__law_signs2, dU K t18, .un, .un]) (f_if (tcm_ (op_eqD hr.units) pr_eq (od_ (ee_io (par := par__law_draw K) (m := prm__law_draw) (res := res__law_draw K) (fun (b : U × Unit) => b.1) 0 0 (fun s => ownO K s) (rule_fn cx_takes G__law_draw (hr.mono (by decide)) m__law_draw k__law_draw B__law_draw) (ea_at 0 (ea_cons (p := fun u => isD K u) di_ ea_nil)) (fun b s => (Fit.io (ad := (some r)) rfl rfl (Fit.im Fit.nil))) (fun b s => ⟨_, rfl⟩) (fun b s => uniq__law_draw) (fun s => ⟨_, rfl, fun _ => rfl⟩))) (od_ di_))
    (n_seq (Γ' := fun v__law_at23 s => [.ow (some r) (ownO K s), dU K v__law_letters1, dU K v__law_signs2, dU K v__law_text_here3, .un, dU K v__law_at23]) (s_asg 5 Sc__law_text.nd (ee_io (par := par__law_draw K) (m := prm__law_draw) (res := res__law_draw K) (fun (b : U × Unit) => b.1) 0 0 (fun s => ownO K s) (rule_fn cx_takes G__law_draw (hr.mono (by decide)) m__law_draw k__law_draw B__law_draw) (ea_at 0 (ea_cons (p := fun u => isD K u) (op2_ op_addU pr_add (od_ (call1_ (bcB call_len T.n_len bt_len) pr_len (od_ (dv_ 3)))) (od_ di_)) ea_nil)) (fun b s => (Fit.io (ad := (some r)) rfl rfl (Fit.im Fit.nil))) (fun b s => ⟨_, rfl⟩) (fun b s => uniq__law_draw) (fun s => ⟨_, rfl, fun _ => rfl⟩))) fun v__law_at23 =>
    (n_seq (Γ' := fun v__law_text_here29 s => [.ow (some r) (ownO K s), dU K v__law_letters1, dU K v__law_signs2, dU K v__law_text_here29, .un, dU K v__law_at23]) (s_asg 3 Sc__law_text.nd (op2_ op_addU pr_add (od_ (op2_ op_addU pr_add (od_ (sl_ (od_ (dv_ 3)) pt_none_ (pt_some_ (dv_ 5)))) (od_ (ix_ ix_seq pr_idx (od_ (dv_ 2)) (od_ (ee_io (par := par__law_draw K) (m := prm__law_draw) (res := res__law_draw K) (fun (b : U × Unit) => b.1) 0 0 (fun s => ownO K s) (rule_fn cx_takes G__law_draw (hr.mono (by decide)) m__law_draw k__law_draw B__law_draw) (ea_at 0 (ea_cons (p := fun u => isD K u) (call1_ (bcB call_len T.n_len bt_len) pr_len (od_ (dv_ 2))) ea_nil)) (fun b s => (Fit.io (ad := (some r)) rfl rfl (Fit.im Fit.nil))) (fun b s => ⟨_, rfl⟩) (fun b s => uniq__law_draw) (fun s => ⟨_, rfl, fun _ => rfl⟩))))))) (od_ (sl_ (od_ (dv_ 3)) (pt_some_ (op2_ op_addU pr_add (od_ (dv_ 5)) (od_ di_))) pt_none_)))) fun v__law_text_here29 =>
    (n_nil v__law_text_here29 (fun _ => (.s (.s (.s (.s (.s (.d .nil))))))))))
    (n_nil v__law_text_here3 (fun _ => (.s (.s (.s (.s (.s (.s .nil)))))))))
  fun t18 => (r_ret (dv_ 3) (fun _ _ _ _ _ _ a => io1_at (i := 0) a rfl))))))
/-! law_due -/
abbrev st__law_due : Stmt := top 8
def mir__law_due (p__law_text_here : U) : StM Unit U :=
  StM.bind (StM.bind (StM.bind (StM.bind (StM.bind (StM.pure p__law_text_here) fun x1 => StM.ofOpt (uLen x1)) fun x2 => StM.bind (StM.pure (U.int 1)) fun x3 => StM.ofOpt (uLt x2 x3)) asB) fun c => if c = true then StM.pure true else StM.bind (StM.bind (StM.bind (StM.pure p__law_text_here) fun x4 => StM.ofOpt (uLen x4)) fun x5 => StM.bind (StM.pure (U.int 8)) fun x6 => StM.ofOpt (uGt x5 x6)) asB) fun b => if b = true then StM.pure (U.bool false) else
  StM.bind (StM.bind (StM.bind (StM.bind (StM.bind (StM.bind (StM.pure p__law_text_here) asS) strM) fun xs => StM.pure (xs.map U.str)) fun xs => StM.noX (compM (fun x7 => StM.pure true) (fun x7 => StM.bind (StM.bind (StM.bind (StM.bind (StM.pure (U.str "a")) fun x8 => StM.bind (StM.pure x7) fun x9 => StM.ofOpt (uLe x8 x9)) asB) fun c => if c = true then StM.bind (StM.bind (StM.pure x7) fun x10 => StM.bind (StM.pure (U.str "z")) fun x11 => StM.ofOpt (uLe x10 x11)) asB else StM.pure false) fun k => StM.pure (U.bool k)) xs [])) fun ys12 => StM.pure (U.list ys12)) fun x13 => StM.ofOpt (uAll x13)
abbrev prm__law_due (z : U) : StM Unit U := mir__law_due z
abbrev par__law_due (K : PySem.W.Frag) (z : U) (s : Unit) : Gam := [dU K z]
abbrev res__law_due (K : PySem.W.Frag) (u : U) : Sl := dU K u
theorem Sc__law_due : FnScope [("_law_text_here" : Str), ("_law_sign" : Str)] ["_law_text_here"] (defScope st__law_due) := ⟨rfl, rfl, rfl, by decide +kernel, rfl, by decide +kernel, by decide +kernel⟩
theorem ok__law_due {K : PySem.W.Frag} {mg : Str → Option Value} (T : Tx K mg) {P : Program} {wd : World} {base : Heap} {ca : Str → Addr} {f : Addr} {fd : FuncData} (F : Fun K "_law_due" "_law_due" st__law_due f fd)
     :
    FnOk P wd K mg base (L2.CX P wd) 1 f fd ["_law_text_here"] (SpOf K ca (par__law_due K) prm__law_due (res__law_due K)) := by
  refine fn_ok0 F Sc__law_due (fun _ => rfl) (fun z i a p h => by match i, h with | 0, h => cases h | i + 1, h => simp [par__law_due] at h) fun cdv A outer s H E p__law_text_here hr => ?_
  have hu := hr65 hr
  exact (r_if (te_wE (tw_orE (tcm_ op_ltU pr_lt (od_ (call1_ (bcB call_len T.n_len bt_len) pr_len (od_ (dv_ 0)))) (od_ di_)) (tw_or1E (tcm_ op_gtU pr_gt (od_ (call1_ (bcB call_len T.n_len bt_len) pr_len (od_ (dv_ 0)))) (od_ di_))))) (r_ret db_ (fun _ _ _ _ _ _ _ => trivial))
  (r_ret (call1_ (bcB (cr_all rfl) T.n_all bt_all) pr_all (od_ (do_ (lcO_ (own := [("_law_sign", 1)]) (js := [1]) rfl Sc__law_due.nd (kw_s (dv_ 0)) (by change BlkOk [("_law_text_here" : Str), ("_law_sign" : Str)] (defScope st__law_due) _ _; exact ⟨rfl, by decide +kernel, by decide +kernel, by decide +kernel, by decide +kernel⟩) (by decide) (fun s H C cl fp => (pg_name (i := 1) Sc__law_due.nd rfl (by first | exact Or.inl rfl | exact Or.inr rfl))) (fun x => tgt_name 1) (by decide) (fun _ _ => Shp.refl _) (fun _ _ => rfl) (fun x Γ i hi => set1_ne hi) (fun x Γ i ad q hi => set1_im hi) (fun s s2 i hi => by simp only [List.map_cons, List.map_nil, List.mem_cons, List.not_mem_nil, or_false] at hi; subst hi; exact ⟨rfl, .inl rfl⟩) (fun _ => rfl) (fun s H C cl fp x7 => (d_ve (ve_and (ve_d (cmp_ op_leU pr_le (od_ ds_) (od_ (dv_ 1)))) (ve_one (ve_d (cmp_ op_leU pr_le (od_ (dv_ 1)) (od_ ds_))))))))))) (fun _ _ _ _ _ _ _ => trivial)))
/-! law -/
abbrev st_law : Stmt := top 9
def mirS_law (p__law_script : U) : StM U U :=
  StM.bind (StM.bind (StM.bind (StM.bind (StM.bind (StM.bind (StM.pure (U.int 1)) fun x4 => StM.bind (StM.bind (StM.bind (StM.pure p__law_script) fun x1 => StM.ofOpt (uLen x1)) fun x2 => StM.bind (StM.pure (U.int 60)) fun x3 => StM.ofOpt (uMin2 x2 x3)) fun x5 => StM.ofOpt (uMax2 x4 x5)) asI) fun n => rangeM 0 n) fun xs => StM.pure (xs.map U.int)) fun xs => forM (T := Unit) (fun x7 t6 =>
    StM.bind (StM.bind (StM.bind (StM.bind (StM.pure p__law_script) fun x11 => StM.bind (StM.bind (StM.pure x7) fun x9 => StM.bind (StM.pure ()) fun y10 => StM.pure (x9, y10)) fun y12 => StM.pure (x11, y12)) fun b => StM.lift (mir__law_row_at b.1 b.2.1)) StM.put) fun _ =>
    StM.bind (StM.bind (StM.pure ()) fun b => StM.noX (mir__law_text)) fun v__law_text_here13 =>
    StM.bind (StM.bind (StM.bind (StM.pure v__law_text_here13) fun x15 => StM.bind (StM.pure ()) fun y16 => StM.pure (x15, y16)) fun b => StM.lift (mir_is_name b.1)) fun v__law_found14 =>
    StM.bind (StM.bind (StM.bind (StM.bind (StM.bind (StM.pure v__law_found14) fun x17 => StM.ofOpt (uIsi "bool" x17)) asB) fun k => StM.pure (!k)) fun c => if c = true then StM.pure true else StM.bind (StM.bind (StM.pure v__law_found14) fun x20 => StM.bind (StM.bind (StM.bind (StM.pure v__law_text_here13) fun x18 => StM.bind (StM.pure ()) fun y19 => StM.pure (x18, y19)) fun b => StM.lift (mir__law_due b.1)) fun x21 => StM.ofOpt (uNe x20 x21)) asB) fun b => if b = true then StM.bind (StM.bind (StM.pure (U.bool false)) fun r22 => StM.pure (Fl.ret r22)) Fl.stop else
    StM.bind (StM.bind (StM.bind (StM.pure U.none) fun x64 => StM.bind (StM.bind (StM.pure (U.bool true)) fun x62 => StM.bind (StM.bind (StM.pure (U.int 7)) fun x60 => StM.bind (StM.bind (StM.bind (StM.pure (U.int 1)) fun x24 => StM.ofOpt (uNeg x24)) fun x58 => StM.bind (StM.bind (StM.bind (StM.bind (StM.pure v__law_text_here13) fun x25 => StM.bind (StM.pure []) fun xs26 => StM.pure (x25 :: xs26)) fun xs27 => StM.pure (U.list xs27)) fun x56 => StM.bind (StM.bind (StM.bind (StM.bind (StM.pure v__law_text_here13) fun x28 => StM.bind (StM.pure []) fun xs29 => StM.pure (x28 :: xs29)) fun xs30 => StM.pure (U.tuple xs30)) fun x54 => StM.bind (StM.bind (StM.bind (StM.bind (StM.pure v__law_text_here13) fun x31 => StM.bind (StM.pure (U.int 1)) fun x32 => StM.bind (StM.ofOpt (keyU x31)) fun k33 => StM.bind (StM.pure []) fun r34 => StM.pure ((k33, x32) :: r34)) fun xs35 => StM.pure (U.dict (mergeU [] xs35))) fun x52 => StM.bind (StM.bind (StM.bind (StM.bind (StM.pure (U.str "a")) fun x36 => StM.bind (StM.pure []) fun xs37 => StM.pure (x36 :: xs37)) fun xs38 => StM.pure (U.list xs38)) fun x50 => StM.bind (StM.bind (StM.bind (StM.pure (U.str "ab")) fun x39 => StM.ofOpt (uList x39)) fun x48 => StM.bind (StM.bind (StM.bind (StM.pure []) fun xs40 => StM.pure (U.tuple xs40)) fun x46 => StM.bind (StM.bind (StM.bind (StM.pure []) fun xs41 => StM.pure (U.list xs41)) fun x44 => StM.bind (StM.bind (StM.pure (U.dict [])) fun x42 => StM.bind (StM.pure []) fun xs43 => StM.pure (x42 :: xs43)) fun xs45 => StM.pure (x44 :: xs45)) fun xs47 => StM.pure (x46 :: xs47)) fun xs49 => StM.pure (x48 :: xs49)) fun xs51 => StM.pure (x50 :: xs51)) fun xs53 => StM.pure (x52 :: xs53)) fun xs55 => StM.pure (x54 :: xs55)) fun xs57 => StM.pure (x56 :: xs57)) fun xs59 => StM.pure (x58 :: xs59)) fun xs61 => StM.pure (x60 :: xs61)) fun xs63 => StM.pure (x62 :: xs63)) fun xs65 => StM.pure (x64 :: xs65)) fun xs66 => StM.pure (U.list xs66)) fun v__law_some23 =>
    StM.bind (StM.bind (StM.bind (StM.bind (StM.bind (StM.bind (StM.pure v__law_some23) fun x70 => StM.bind (StM.bind (StM.bind (StM.bind (StM.pure v__law_some23) fun x67 => StM.ofOpt (uLen x67)) fun x68 => StM.bind (StM.pure ()) fun y69 => StM.pure (x68, y69)) fun b => StM.noX (mir__law_draw b.1)) fun x71 => StM.ofOpt (uIdx x70 x71)) fun x72 => StM.bind (StM.pure ()) fun y73 => StM.pure (x72, y73)) fun b => StM.lift (mir_is_name b.1)) fun x74 => StM.bind (StM.pure (U.bool false)) fun x75 => StM.ofOpt (uIsNot x74 x75)) asB) fun b => if b = true then
      StM.bind (StM.pure (U.bool false)) fun r76 => StM.pure (Fl.ret r76)
    else
      StM.pure (Fl.nx ())) xs ()) fun o77 => Fl.after (fun t6 =>
  StM.pure (U.bool true)) o77
def mir_law (p__law_script : U) : StM Unit U := StM.hide (mirS_law p__law_script)
abbrev prm_law (z : U) : StM Unit U := mir_law z
abbrev par_law (K : PySem.W.Frag) (z : U) (s : Unit) : Gam := [dU K z]
abbrev res_law (K : PySem.W.Frag) (u : U) : Sl := dU K u
theorem Sc_law : FnScope [("_law_script" : Str), ("_law_k" : Str), ("_law_row" : Str), ("_law_text_here" : Str), ("_law_found" : Str), ("_law_some" : Str)] ["_law_script"] (defScope st_law) := ⟨rfl, rfl, rfl, by decide +kernel, rfl, by decide +kernel, by decide +kernel⟩
theorem ok_law {K : PySem.W.Frag} {mg : Str → Option Value} (T : Tx K mg) {P : Program} {wd : World} {base : Heap} {ca : Str → Addr} {f : Addr} {fd : FuncData} (F : Fun K "law" "law" st_law f fd)
    {a__law_row_at : Addr} {fd__law_row_at : FuncData} (G__law_row_at : FnOk P wd K mg base (L2.CX P wd) 1 a__law_row_at fd__law_row_at ["_law_script", "_law_k"] (SpOf K ca (par__law_row_at K) prm__law_row_at (res__law_row_at K))) (m__law_row_at : mg "_law_row_at" = some (Value.ref a__law_row_at)) (k__law_row_at : PySem.W.keepIn K (Value.ref a__law_row_at) = true) (B__law_row_at : Binds K fd__law_row_at ["_law_script", "_law_k"] []) {a__law_text : Addr} {fd__law_text : FuncData} (G__law_text : FnOk P wd K mg base (L2.CX P wd) 2 a__law_text fd__law_text ["_law_row"] (SpOf K ca (par__law_text K) prm__law_text (res__law_text K))) (m__law_text : mg "_law_text" = some (Value.ref a__law_text)) (k__law_text : PySem.W.keepIn K (Value.ref a__law_text) = true) (B__law_text : Binds K fd__law_text ["_law_row"] []) {a_is_name : Addr} {fd_is_name : FuncData} (G_is_name : FnOk P wd K mg base (L2.CX P wd) 1 a_is_name fd_is_name ["thing"] (SpOf K ca (par_is_name K) prm_is_name (res_is_name K))) (m_is_name : mg "is_name" = some (Value.ref a_is_name)) (k_is_name : PySem.W.keepIn K (Value.ref a_is_name) = true) (B_is_name : Binds K fd_is_name ["thing"] []) {a__law_due : Addr} {fd__law_due : FuncData} (G__law_due : FnOk P wd K mg base (L2.CX P wd) 1 a__law_due fd__law_due ["_law_text_here"] (SpOf K ca (par__law_due K) prm__law_due (res__law_due K))) (m__law_due : mg "_law_due" = some (Value.ref a__law_due)) (k__law_due : PySem.W.keepIn K (Value.ref a__law_due) = true) (B__law_due : Binds K fd__law_due ["_law_text_here"] []) {a__law_draw : Addr} {fd__law_draw : FuncData} (G__law_draw : FnOk P wd K mg base (L2.CX P wd) 1 a__law_draw fd__law_draw ["_law_row", "_law_many"] (SpOf K ca (par__law_draw K) prm__law_draw (res__law_draw K))) (m__law_draw : mg "_law_draw" = some (Value.ref a__law_draw)) (k__law_draw : PySem.W.keepIn K (Value.ref a__law_draw) = true) (B__law_draw : Binds K fd__law_draw ["_law_row", "_law_many"] []) :
    FnOk P wd K mg base (L2.CX P wd) 3 f fd ["_law_script"] (SpOf K ca (par_law K) prm_law (res_law K)) := by
  refine fn_okH (par := fun z => par_law K z ()) (m := fun z => mirS_law z) F Sc_law (fun _ => rfl) (fun z i a p h => by match i, h with | 0, h => cases h | i + 1, h => simp [par_law] at h) fun cdv A outer s H E p__law_script hr => ?_
  have hu := hr65 hr
  exact (r_blk (Γn := fun t6 s => [dU K p__law_script, .un, .un, .un, .un, .un]) (f_for (Γl := fun t6 s => [dU K p__law_script, .un, .un, .un, .un, .un]) () cx_po rfl (kw_r (wk_range1 T.n_range (d_int (call2_ (bcB (call_max2 rfl) T.n_max bt_max) pr_max2 (od_ di_) (od_ (call2_ (bcB (call_min2 rfl) T.n_min bt_min) pr_min2 (od_ (call1_ (bcB call_len T.n_len bt_len) pr_len (od_ (dv_ 0)))) (od_ di_))))))) (pg_name (i := 1) Sc_law.nd rfl (by first | exact Or.inl rfl | exact Or.inr rfl)) (fun x => tgt_name 1) (fun _ => (.s (.s (.s (.s (.s (.s .nil))))))) (fun x7 t6 =>
    (n_seq (Γ' := fun _ s => [dU K p__law_script, dU K x7, .ow none (ownO K s), .un, .un, .un]) (s_asgS 2 Sc_law.nd (ee_pure (par := par__law_row_at K) (m := prm__law_row_at) (res := res__law_row_at K) (fun (b : U × U × Unit) => (b.1, b.2.1)) (rule_fn cx_takes G__law_row_at (hr.mono (by decide)) m__law_row_at k__law_row_at B__law_row_at) (ea_cons (p := fun u => isD K u) (dv_ 0) (ea_cons (p := fun u => isD K u) (dv_ 1) ea_nil)) (fun b s => (Fit.im (Fit.im Fit.nil))))) fun _ =>
    (n_seq (Γ' := fun v__law_text_here13 s => [dU K p__law_script, dU K x7, .ow none (ownO K s), dU K v__law_text_here13, .un, .un]) (s_asg 3 Sc_law.nd (ee_io (par := par__law_text K) (m := prm__law_text) (res := res__law_text K) (fun (b : Unit) => ()) 2 0 (fun s => ownO K s) (rule_fn cx_takes G__law_text (hr.mono (by decide)) m__law_text k__law_text B__law_text) (ea_at 2 ea_nil) (fun b s => (Fit.io (ad := none) rfl rfl Fit.nil)) (fun b s => ⟨_, rfl⟩) (fun b s => uniq__law_text) (fun s => ⟨_, rfl, fun _ => rfl⟩))) fun v__law_text_here13 =>
    (n_seq (Γ' := fun v__law_found14 s => [dU K p__law_script, dU K x7, .ow none (ownO K s), dU K v__law_text_here13, dU K v__law_found14, .un]) (s_asg 4 Sc_law.nd (ee_pure (par := par_is_name K) (m := prm_is_name) (res := res_is_name K) (fun (b : U × Unit) => b.1) (rule_fn cx_takes G_is_name (hr.mono (by decide)) m_is_name k_is_name B_is_name) (ea_cons (p := fun u => isD K u) (dv_ 3) ea_nil) (fun b s => (Fit.im Fit.nil)))) fun v__law_found14 =>
    (n_if (te_wE (tw_orE (te_notE (te_d (isi_ (od_ (dv_ 4)) T.n_isinstance T.n_bool bt_bool bt_isinstance))) (tw_or1E (tcm_ (op_neD hr.units) pr_ne (od_ (dv_ 4)) (od_ (ee_pure (par := par__law_due K) (m := prm__law_due) (res := res__law_due K) (fun (b : U × Unit) => b.1) (rule_fn cx_takes G__law_due (hr.mono (by decide)) m__law_due k__law_due B__law_due) (ea_cons (p := fun u => isD K u) (dv_ 3) ea_nil) (fun b s => (Fit.im Fit.nil)))))))) (n_ret db_ (fun _ _ _ _ _ _ _ => trivial))
    (n_seq (Γ' := fun v__law_some23 s => [dU K p__law_script, dU K x7, .ow none (ownO K s), dU K v__law_text_here13, dU K v__law_found14, dU K v__law_some23]) (s_asg 5 Sc_law.nd (do_ (o_lst (es_cons dn_ (es_cons db_ (es_cons di_ (es_cons (un1_ un_neg pr_neg (od_ di_)) (es_cons (do_ (o_lst (es_cons (dv_ 3) es_nil))) (es_cons (d_tup (es_cons (dv_ 3) es_nil)) (es_cons (do_ (o_dct (prs_cons (dv_ 3) di_ prs_nil) (hsh := (fun s s2 => Shp.set (i := 2) (b := none) (p := ownO K s2) rfl)))) (es_cons (do_ (o_lst (es_cons ds_ es_nil))) (es_cons (do_ (call1_ (bcT (call_listU rfl) T.n_list bt_list) pr_listU (od_ ds_))) (es_cons (d_tup es_nil) (es_cons (do_ (o_lst es_nil)) (es_cons (do_ o_dct0) es_nil))))))))))))))) fun v__law_some23 =>
    (n_ife (tcm_ op_isNotU pr_isNot (od_ (ee_pure (par := par_is_name K) (m := prm_is_name) (res := res_is_name K) (fun (b : U × Unit) => b.1) (rule_fn cx_takes G_is_name (hr.mono (by decide)) m_is_name k_is_name B_is_name) (ea_cons (p := fun u => isD K u) (ix_ ix_seq pr_idx (od_ (dv_ 5)) (od_ (ee_io (par := par__law_draw K) (m := prm__law_draw) (res := res__law_draw K) (fun (b : U × Unit) => b.1) 2 0 (fun s => ownO K s) (rule_fn cx_takes G__law_draw (hr.mono (by decide)) m__law_draw k__law_draw B__law_draw) (ea_at 2 (ea_cons (p := fun u => isD K u) (call1_ (bcB call_len T.n_len bt_len) pr_len (od_ (dv_ 5))) ea_nil)) (fun b s => (Fit.io (ad := none) rfl rfl (Fit.im Fit.nil))) (fun b s => ⟨_, rfl⟩) (fun b s => uniq__law_draw) (fun s => ⟨_, rfl, fun _ => rfl⟩)))) ea_nil) (fun b s => (Fit.im Fit.nil)))) (od_ db_))
      (n_ret db_ (fun _ _ _ _ _ _ _ => trivial))
      (n_nil () (fun _ => (.s (.d (.d (.d (.d (.d .nil))))))))))))))))
  fun t6 => (r_ret db_ (fun _ _ _ _ _ _ _ => trivial)))
end C_k11

namespace C_k11
open PySem PySem.Spec PyProof.Rows L2 L3
theorem draw_ok {n : Int} {s : U} (h0 : 0 < n) (hn : n.natAbs < 2 ^ 64) (hs : RowU s) : Ok (mir__law_draw (.int n) s) fun u s' => RowU s' ∧ ∃ d : Int, u = .int d ∧ 0 ≤ d ∧ d < n := by
  obtain ⟨a, b, rfl⟩ := hs
  unfold mir__law_draw
  have h1 := Int.emod_nonneg a (show n ≠ 0 by omega)
  have h2 := Int.emod_lt_of_pos a h0
  simp [h0, hn, RowU]
  split
  · exact ⟨h1, h2⟩
  · intro
    exact ⟨Int.emod_nonneg _ (by omega), Int.emod_lt_of_pos _ h0⟩
theorem row_at {ns : List Int} {k : Nat} : Ok (mir__law_row_at (.list (ns.map U.int)) (.int k) ()) fun u _ => RowU u := by
  unfold mir__law_row_at
  simp
  split
  · rename_i hk
    have hk' : k < ns.length := by omega
    rw [idx_at (n := k) rfl (u := .int ns[k]) (by simp [hk'])]
    simp
    split
    · exact ⟨_, _, rfl⟩
    · split <;> exact ⟨_, _, rfl⟩
  · exact ⟨_, _, rfl⟩
theorem len_lt {z : Str} {n : Nat} : ((z.length : Int) < (n : Int)) ↔ z.length < n := by omega
theorem name_no {z : Str} (h : z.length < 1 ∨ 8 < z.length) : nameB z = false := by
  unfold nameB
  rcases h with h | h
  · rw [decide_eq_false (show ¬ 1 ≤ z.length by omega)]; rfl
  · rw [decide_eq_false (show ¬ z.length ≤ 8 by omega), Bool.and_false]; rfl
theorem name_all {z : Str} (h1 : ¬ z.length < 1) (h2 : ¬ 8 < z.length) : z.cps.toList.all lowC = nameB z := by
  unfold nameB
  rw [decide_eq_true (show 1 ≤ z.length by omega), decide_eq_true (show z.length ≤ 8 by omega)]
  rfl
theorem is_name_str {z : Str} (h : z.length ≤ 1000000) : Ok (mir_is_name (.str z) ()) fun u _ => u = .bool (nameB z) := by
  unfold mir_is_name
  simp [uLen_str h]
  split
  · exact name_no (by omega)
  · split
    · exact name_no (by omega)
    · refine ok_of (strM_ok h) (ok_compf (g := fun y : Str => U.bool (lowC (y.cps.getD 0 0))) (fun y hy => ?_) ?_)
      · obtain ⟨c, _, rfl⟩ := List.mem_map.mp hy
        rw [uIn_letters]
        rfl
      · rw [blsU_mapf]
        exact ⟨_, rfl, (signs_all fun c => rfl).trans (name_all (by omega) (by omega))⟩
theorem le_a {c : Nat} : uLe (.str "a") (.str ⟨#[c]⟩) = some (.bool (decide (97 ≤ c))) := by
  have e1 : ("a" : Str).cps.toList = [97] := by decide +kernel
  have e2 : ([c] < [97]) ↔ c < 97 := by simp [List.cons_lt_cons_iff]
  unfold uLe
  simp only [e1, e2]
  rw [← decide_not, decide_eq_decide.mpr (show ¬ c < 97 ↔ 97 ≤ c by omega)]
theorem le_z {c : Nat} : uLe (.str ⟨#[c]⟩) (.str "z") = some (.bool (decide (c ≤ 122))) := by
  have e1 : ("z" : Str).cps.toList = [122] := by decide +kernel
  have e2 : ([122] < [c]) ↔ 122 < c := by simp [List.cons_lt_cons_iff]
  unfold uLe
  simp only [e1, e2]
  rw [← decide_not, decide_eq_decide.mpr (show ¬ 122 < c ↔ c ≤ 122 by omega)]
theorem due_str {z : Str} (h : z.length ≤ 1000000) : Ok (mir__law_due (.str z) ()) fun u _ => u = .bool (nameB z) := by
  unfold mir__law_due
  simp [uLen_str h]
  split
  · exact name_no (by omega)
  · split
    · exact name_no (by omega)
    · refine ok_of (strM_ok h) (ok_compf (g := fun y : Str => U.bool (lowC (y.cps.getD 0 0))) (fun y hy => ?_) ?_)
      · obtain ⟨c, _, rfl⟩ := List.mem_map.mp hy
        refine ok_eq ?_
        simp [le_a, le_z, lowC]
        split
        · rename_i h
          simp [h]
        · rename_i h
          simp [h]
      · rw [blsU_mapf]
        exact ⟨_, rfl, (signs_all fun c => rfl).trans (name_all (by omega) (by omega))⟩
theorem text_ok {s : U} (hs : RowU s) : Ok (mir__law_text s) fun u s' => RowU s' ∧ ∃ z : Str, u = .str z ∧ z.length ≤ 100 := by
  unfold mir__law_text
  simp
  refine ok_mono (draw_ok (by decide) (by decide) hs) fun u s1 ⟨h1, d, e, d0, d1⟩ => ?_
  subst e
  simp
  refine ok_of (range_ok d0 (by omega)) ?_
  refine ok_mono (ok_comp (I := RowU) (Q := fun u => ∃ y : Str, u = .str y ∧ y.length = 1 ∧ PyData.strOk y = true) (fun x _ s2 h2 => ?_) h1) fun zs s3 ⟨h3, ws, e3, l3, q3⟩ => ?_
  · simp
    refine ok_mono (draw_ok (by decide) (by decide) h2) fun u s3 ⟨h3, d, e, d0, d1⟩ => ?_
    subst e
    obtain ⟨c, hc, e⟩ := idx_str (z := "abcdefghijklmnopqrstuvwxyz") d0 (by rw [show ("abcdefghijklmnopqrstuvwxyz" : Str).length = 26 by decide +kernel]; exact d1) (by decide +kernel)
    simp [e]
    exact ⟨⟨rfl, sign_ok (by decide +kernel) hc⟩, h3⟩
  · have key : ∀ ws : List U, (∀ z ∈ ws, ∃ y : Str, z = .str y ∧ y.length = 1 ∧ PyData.strOk y = true) → ∃ ys : List Str, ws = ys.map U.str ∧ (∀ y ∈ ys, PyData.strOk y = true) ∧ (ys.map (·.length)).sum = ws.length := by
      intro ws
      induction ws with
      | nil => intro _; exact ⟨[], rfl, fun y hy => by simp at hy, rfl⟩
      | cons w ws ih =>
        intro h
        obtain ⟨ys, e1, e2, e4⟩ := ih fun z hz => h z (List.mem_cons_of_mem _ hz)
        obtain ⟨y, f1, f2, f3⟩ := h w List.mem_cons_self
        refine ⟨y :: ys, by rw [f1, e1]; rfl, fun z hz => ?_, by simp [e4, f2]; omega⟩
        rcases List.mem_cons.mp hz with rfl | hz
        · exact f3
        · exact e2 z hz
    obtain ⟨ys, e1, e2, e4⟩ := key ws q3
    have hw : ws.length ≤ 11 := by
      rw [l3]
      simp [rangeL_len]
      omega
    have e0 : ("" : Str).length = 0 := rfl
    rw [List.nil_append] at e3
    subst e3
    rw [e1, uJoin_ok (by decide +kernel) e2 (by rw [e0]; omega)]
    have hj : (Str.join ("" : Str) ys).length ≤ 11 := by rw [join0_len]; omega
    generalize Str.join ("" : Str) ys = z at hj ⊢
    simp
    refine ok_mono (draw_ok (by decide) (by decide) h3) fun u s4 ⟨h4, d, e, d0, d1⟩ => ?_
    subst e
    simp [uLen_str (show z.length ≤ 1000000 by omega)]
    split
    · refine ok_mono (draw_ok (by omega) (by omega) h4) fun u s5 ⟨h5, d, e, d0, d1⟩ => ?_
      subst e
      simp [uCut_str (show z.length ≤ 1000000 by omega)]
      rw [uLen_str (by decide +kernel)]
      simp
      refine ok_mono (draw_ok (by decide +kernel) (by decide +kernel) h5) fun u s6 ⟨h6, d2, e, d20, d21⟩ => ?_
      subst e
      obtain ⟨c, hc, e⟩ := idx_str (z := " !\"#$&'()*+,-./0123456789:;<=>?@ABCDEFGHIJKLMNOPQRSTUVWXYZ[\\]^_`abcdefghijklmnopqrstuvwxyz{|}~\n") d20 d21 (by decide +kernel)
      have a1 := cutS_len (z := z) (lo := none) (hi := some d)
      have a2 := cutS_len (z := z) (lo := some (d + 1)) (hi := none)
      have a3 : (⟨#[c]⟩ : Str).length = 1 := rfl
      simp [e]
      rw [uAdd_str (by omega)]
      simp
      rw [uAdd_str (by rw [str_len]; omega)]
      simp
      refine ⟨h6, ?_⟩
      rw [str_len, str_len]; omega
    · exact ⟨h4, by omega⟩
theorem uList_str {z : Str} (h : z.length ≤ 1000000) : uList (.str z) = some (.list ((L3.signs z).map U.str)) := by
  have e : sizeLine = 16777216 := sizeLine_eq
  unfold uList
  simp only
  rw [if_pos (by omega)]
theorem is_name_no {u : U} (h : uIsi "str" u = some (.bool false)) : Ok (mir_is_name u ()) fun v _ => v = .bool false := by
  unfold mir_is_name
  simp [h]
@[simp] theorem uNe_bool {a b : Bool} : uNe (.bool a) (.bool b) = some (.bool (!decide (a = b))) := by
  cases a <;> cases b <;> simp [uNe, shp, noDct, U.py, PyData.depth, eqD, PyData.eqv]
theorem law_ok (ns : List Int) (hl : ns.length ≤ 63) (hb : ∀ z ∈ ns, Builtin.Int.intBits z ≤ 1048576) : Ok (mir_law (.list (ns.map U.int)) ()) fun u _ => u = .bool true := by
  unfold mir_law
  rw [ok_hide]
  unfold mirS_law
  simp
  refine ok_of (range_ok (by split <;> split <;> omega) (by split <;> split <;> omega)) ?_
  refine ok_mono (ok_for (I := fun _ _ => True) (fun x hx _ s _ => ?_) trivial) fun o s' ⟨t', e, _⟩ => ?_
  · obtain ⟨k, hk, rfl⟩ := List.mem_map.mp hx
    have hk0 := rangeL_mem hk
    obtain ⟨n, rfl⟩ : ∃ n : Nat, k = (n : Int) := ⟨k.toNat, by omega⟩
    simp
    refine ok_mono row_at fun u _ h1 => ?_
    refine ok_mono (text_ok h1) fun u2 s2 ⟨h2, z, e, hz⟩ => ?_
    subst e
    refine ok_mono (is_name_str (by omega)) fun u3 _ e => ?_
    subst e
    simp
    refine ok_mono (due_str (by omega)) fun u4 _ e => ?_
    subst e
    simp
    refine ⟨.inr z, rfl, .list ((L3.signs ("ab" : Str)).map U.str), uList_str (by decide +kernel), ?_⟩
    refine ok_mono (draw_ok (by decide) (by decide) h2) fun u5 s3 ⟨h3, d, e, d0, d1⟩ => ?_
    subst e
    obtain ⟨j, rfl⟩ : ∃ j : Nat, d = (j : Int) := ⟨d.toNat, by omega⟩
    generalize hus : [U.none, U.bool true, U.int 7, U.int (-1), U.list [U.str z], U.tuple [U.str z], U.dict (mergeU [] [(Sum.inr z, U.int 1)]), U.list [U.str (Str.ofString "a")], U.list ((L3.signs ("ab" : Str)).map U.str), U.tuple [], U.list [], U.dict []] = us
    have hl : us.length = 12 := by rw [← hus]; rfl
    have hno : ∀ u ∈ us, uIsi "str" u = some (.bool false) := by
      rw [← hus]
      simp
    have hj : j < us.length := by omega
    rw [idx_at (n := j) rfl (u := us[j]) (by simp [hj])]
    refine ⟨us[j], rfl, ok_mono (is_name_no (hno _ (List.getElem_mem hj))) fun v _ e => ?_⟩
    subst e
    simp [uIsNot, uIs]
  · subst e
    simp
end C_k11

namespace C_k11
open PySem PySem.Spec PyProof.Rows L2 L3
theorem all_mk {l : PySem.W.OpenLaw} {w : World} {K : PySem.W.Frag} {h : Heap} {mg : Str → Option Value} {fa : Addr} (X : K.In h) (Gn : h.Ns mainGlobals mg) (hfa : mg "law" = some (.ref fa))
    {f0 : Addr} {oc0 kV0 dc0 pm0 cd0 ct0 : Value} {od0 an0 : Option Addr} {sl0 : Array (Option Value)}
    (a0 : PySem.W.nsIn K mainGlobals "is_name" = some (some (.ref f0))) (l0 : K.lookup f0 = some ⟨oc0, od0, .func (PySem.W.fnOf "is_name" "is_name" (defArgs st_is_name) (defBody st_is_name) (defScope st_is_name) .none kV0 dc0 pm0 an0 cd0 ct0), sl0⟩) (c0 : PySem.W.codeIn K cd0 "is_name" = true) (k0 : PySem.W.keepIn K (.ref f0) = true)
    {f1 : Addr} {oc1 kV1 dc1 pm1 cd1 ct1 : Value} {od1 an1 : Option Addr} {sl1 : Array (Option Value)}
    (a1 : PySem.W.nsIn K mainGlobals "_law_row_at" = some (some (.ref f1))) (l1 : K.lookup f1 = some ⟨oc1, od1, .func (PySem.W.fnOf "_law_row_at" "_law_row_at" (defArgs st__law_row_at) (defBody st__law_row_at) (defScope st__law_row_at) .none kV1 dc1 pm1 an1 cd1 ct1), sl1⟩) (c1 : PySem.W.codeIn K cd1 "_law_row_at" = true) (k1 : PySem.W.keepIn K (.ref f1) = true)
    {f2 : Addr} {oc2 kV2 dc2 pm2 cd2 ct2 : Value} {od2 an2 : Option Addr} {sl2 : Array (Option Value)}
    (a2 : PySem.W.nsIn K mainGlobals "_law_draw" = some (some (.ref f2))) (l2 : K.lookup f2 = some ⟨oc2, od2, .func (PySem.W.fnOf "_law_draw" "_law_draw" (defArgs st__law_draw) (defBody st__law_draw) (defScope st__law_draw) .none kV2 dc2 pm2 an2 cd2 ct2), sl2⟩) (c2 : PySem.W.codeIn K cd2 "_law_draw" = true) (k2 : PySem.W.keepIn K (.ref f2) = true)
    {f3 : Addr} {oc3 kV3 dc3 pm3 cd3 ct3 : Value} {od3 an3 : Option Addr} {sl3 : Array (Option Value)}
    (a3 : PySem.W.nsIn K mainGlobals "_law_text" = some (some (.ref f3))) (l3 : K.lookup f3 = some ⟨oc3, od3, .func (PySem.W.fnOf "_law_text" "_law_text" (defArgs st__law_text) (defBody st__law_text) (defScope st__law_text) .none kV3 dc3 pm3 an3 cd3 ct3), sl3⟩) (c3 : PySem.W.codeIn K cd3 "_law_text" = true) (k3 : PySem.W.keepIn K (.ref f3) = true)
    {f4 : Addr} {oc4 kV4 dc4 pm4 cd4 ct4 : Value} {od4 an4 : Option Addr} {sl4 : Array (Option Value)}
    (a4 : PySem.W.nsIn K mainGlobals "_law_due" = some (some (.ref f4))) (l4 : K.lookup f4 = some ⟨oc4, od4, .func (PySem.W.fnOf "_law_due" "_law_due" (defArgs st__law_due) (defBody st__law_due) (defScope st__law_due) .none kV4 dc4 pm4 an4 cd4 ct4), sl4⟩) (c4 : PySem.W.codeIn K cd4 "_law_due" = true) (k4 : PySem.W.keepIn K (.ref f4) = true)
    {f5 : Addr} {oc5 kV5 dc5 pm5 cd5 ct5 : Value} {od5 an5 : Option Addr} {sl5 : Array (Option Value)}
    (a5 : PySem.W.nsIn K mainGlobals "law" = some (some (.ref f5))) (l5 : K.lookup f5 = some ⟨oc5, od5, .func (PySem.W.fnOf "law" "law" (defArgs st_law) (defBody st_law) (defScope st_law) .none kV5 dc5 pm5 an5 cd5 ct5), sl5⟩) (c5 : PySem.W.codeIn K cd5 "law" = true) (k5 : PySem.W.keepIn K (.ref f5) = true)
    (z_all : PySem.W.nsIn K mainGlobals "all" = some none)
    (z_bool : PySem.W.nsIn K mainGlobals "bool" = some none)
    (z_divmod : PySem.W.nsIn K mainGlobals "divmod" = some none)
    (z_isinstance : PySem.W.nsIn K mainGlobals "isinstance" = some none)
    (z_len : PySem.W.nsIn K mainGlobals "len" = some none)
    (z_list : PySem.W.nsIn K mainGlobals "list" = some none)
    (z_max : PySem.W.nsIn K mainGlobals "max" = some none)
    (z_min : PySem.W.nsIn K mainGlobals "min" = some none)
    (z_range : PySem.W.nsIn K mainGlobals "range" = some none)
    (z_str : PySem.W.nsIn K mainGlobals "str" = some none)
    {v_LETTERS : Value} (g_LETTERS : PySem.W.nsIn K mainGlobals "LETTERS" = some (some v_LETTERS)) (r_LETTERS : RelV (.str "abcdefghijklmnopqrstuvwxyz") v_LETTERS)
    {v_LONGEST : Value} (g_LONGEST : PySem.W.nsIn K mainGlobals "LONGEST" = some (some v_LONGEST)) (r_LONGEST : RelV (.int 8) v_LONGEST) :
    ∃ fd : FuncData, (∀ (s : Shared) (v : Value), BindsTo s fd ⟨[v], []⟩ [("_law_script", v)]) ∧ ∀ base : Heap, K.In base → base.Ns mainGlobals mg → FnOk l.prog w K mg base (L2.CX l.prog w) 3 fa fd ["_law_script"] (spTrue K) := by
  have e := hfa.symm.trans (PySem.W.mg_of X Gn a5)
  cases e
  have T : Tx K mg := ⟨PySem.W.mg_none_of X Gn z_all, PySem.W.mg_none_of X Gn z_bool, PySem.W.mg_none_of X Gn z_divmod, PySem.W.mg_none_of X Gn z_isinstance, PySem.W.mg_none_of X Gn z_len, PySem.W.mg_none_of X Gn z_list, PySem.W.mg_none_of X Gn z_max, PySem.W.mg_none_of X Gn z_min, PySem.W.mg_none_of X Gn z_range, PySem.W.mg_none_of X Gn z_str, ⟨_, PySem.W.mg_of X Gn g_LETTERS, r_LETTERS⟩, ⟨_, PySem.W.mg_of X Gn g_LONGEST, r_LONGEST⟩⟩
  have F0 := fun_mk (st := st_is_name) l0 c0 k0
  have b0 := F0.binds (ps := ["thing"]) fun _ _ _ _ _ _ us hl => match us, hl with | [_], _ => rfl
  have F1 := fun_mk (st := st__law_row_at) l1 c1 k1
  have b1 := F1.binds (ps := ["_law_script", "_law_k"]) fun _ _ _ _ _ _ us hl => match us, hl with | [_, _], _ => rfl
  have F2 := fun_mk (st := st__law_draw) l2 c2 k2
  have b2 := F2.binds (ps := ["_law_row", "_law_many"]) fun _ _ _ _ _ _ us hl => match us, hl with | [_, _], _ => rfl
  have F3 := fun_mk (st := st__law_text) l3 c3 k3
  have b3 := F3.binds (ps := ["_law_row"]) fun _ _ _ _ _ _ us hl => match us, hl with | [_], _ => rfl
  have F4 := fun_mk (st := st__law_due) l4 c4 k4
  have b4 := F4.binds (ps := ["_law_text_here"]) fun _ _ _ _ _ _ us hl => match us, hl with | [_], _ => rfl
  have F5 := fun_mk (st := st_law) l5 c5 k5
  have b5 := F5.binds (ps := ["_law_script"]) fun _ _ _ _ _ _ us hl => match us, hl with | [_], _ => rfl
  refine ⟨PySem.W.fnOf "law" "law" (defArgs st_law) (defBody st_law) (defScope st_law) .none kV5 dc5 pm5 an5 cd5 ct5, fun s v => .of_eq rfl, fun base _ _ => ?_⟩
  have Gk0 := ok_is_name (P := l.prog) (wd := w) (base := base) (ca := fun _ => fa) T F0 
  have Gk1 := ok__law_row_at (P := l.prog) (wd := w) (base := base) (ca := fun _ => fa) T F1 
  have Gk2 := ok__law_draw (P := l.prog) (wd := w) (base := base) (ca := fun _ => fa) T F2 
  have Gk3 := ok__law_text (P := l.prog) (wd := w) (base := base) (ca := fun _ => fa) T F3 Gk2 (PySem.W.mg_of X Gn a2) k2 b2
  have Gk4 := ok__law_due (P := l.prog) (wd := w) (base := base) (ca := fun _ => fa) T F4 
  exact fn_true (ok_law (ca := fun _ => fa) T F5 Gk1 (PySem.W.mg_of X Gn a1) k1 b1 Gk3 (PySem.W.mg_of X Gn a3) k3 b3 Gk0 (PySem.W.mg_of X Gn a0) k0 b0 Gk4 (PySem.W.mg_of X Gn a4) k4 b4 Gk2 (PySem.W.mg_of X Gn a2) k2 b2) fun ns hl hb => law_ok ns hl hb
end C_k11
open PySem PySem.W PyProof.Rows
set_option maxRecDepth 100000 in
set_option maxHeartbeats 0 in
theorem PySem.Challenge.cw_cutmeet_k11_names_holds : PySem.Challenge.rw_cutmeet_k11_names.Holds := by
  w_on; o_law; k_head; (case hw => w_witness2)
  k_fill
  refine L3.walkT (x := "_law_script") (k := 3) (l := PySem.Challenge.rw_cutmeet_k11_names) rfl rfl ⟨rfl, by decide, by decide⟩ (fun w h Y => PySem.W.kIn_of Y) ?F
  case F =>
    intro w mg fa h KX G hmg
    refine' C_k11.all_mk KX G hmg ?a0 ?l0 ?c0 ?k0 ?a1 ?l1 ?c1 ?k1 ?a2 ?l2 ?c2 ?k2 ?a3 ?l3 ?c3 ?k3 ?a4 ?l4 ?c4 ?k4 ?a5 ?l5 ?c5 ?k5 ?z_all ?z_bool ?z_divmod ?z_isinstance ?z_len ?z_list ?z_max ?z_min ?z_range ?z_str ?g_LETTERS ?r_LETTERS ?g_LONGEST ?r_LONGEST
    (case a0 => k_is)
    (case l0 => k_is)
    (case c0 => k_is)
    (case k0 => k_is)
    (case a1 => k_is)
    (case l1 => k_is)
    (case c1 => k_is)
    (case k1 => k_is)
    (case a2 => k_is)
    (case l2 => k_is)
    (case c2 => k_is)
    (case k2 => k_is)
    (case a3 => k_is)
    (case l3 => k_is)
    (case c3 => k_is)
    (case k3 => k_is)
    (case a4 => k_is)
    (case l4 => k_is)
    (case c4 => k_is)
    (case k4 => k_is)
    (case a5 => k_is)
    (case l5 => k_is)
    (case c5 => k_is)
    (case k5 => k_is)
    (case z_all => k_is)
    (case z_bool => k_is)
    (case z_divmod => k_is)
    (case z_isinstance => k_is)
    (case z_len => k_is)
    (case z_list => k_is)
    (case z_max => k_is)
    (case z_min => k_is)
    (case z_range => k_is)
    (case z_str => k_is)
    (case g_LETTERS => k_is)
    (case r_LETTERS => exact ⟨_, rfl⟩)
    (case g_LONGEST => k_is)
    (case r_LONGEST => exact ⟨_, rfl⟩)
