import PyProof.Rows.All
import Wide.All
import OpenK.AllK
import Wide.FinOn
import HandS.ForMost
import HandS.IsInst
import HandS.Wide
import HandS.Defaults
import HandS.More
import HandS.WordsExc
import HandS.Conv
import HandS.SortInts
import HandS.NoneIn
import HandS.HeadHook4
import HandS.TupLe
import HandS.Zip
import HandS.WordsDict
import HandS.Rev
import HandS.Exc
import HandS.ExcOwn
import HandS.ExcIs
import HandS.HeadHook1
import HandS.SetFor
import HandS.Strs
import HandS.Deep
import HandS.HotCalls
import HandS.StrMore
import HandS.ExcInit
import HandS.ExcField
import KE.KExcIs
import HandS.Head0
import HandS.Head1
import HandS.Head2
import HandS.HeadEnd
import HandS.HeadHook2
import HandS.HeadNt
import HandS.EndBits
import PyProof.ListStr
import KE.KRevSl
import HandS.Style
import KE.DatumOrd
import HandS.SetKeys
import HandS.RevTup
import PyProof.JoinWalk
import PyProof.Rows.CountFlat
import PyProof.CollectStr
import KE.KDictZip
import HandS.RevRange
import PyProof.FactsAll.range_iterator_1
import KE.KDictList
import KE.KDictSum
import KE.DataMinMax
import KE.SortData
import PyProof.TupleOfSeq
import PyProof.EqAt
import HandS.CallLocal
import HandS.CallSlots
import KE.KDictDisplayH
import KE.KSortTupG
import KE.KSortTupUse
import HandS.TupSets
import KE.GoesMore
import HandS.HeadHook3
import HandS.ExcValue
import KE.KDictKeyed
import KE.OsArith
import PyProof.StrLawsLast
import PyProof.StrLawsFirst
import PySem.Challenge.RW_fourway_k20_choices_of_words
set_option Elab.async false
set_option linter.all false
set_option maxRecDepth 100000
namespace Ty
open PySem L2

/-! ### the mirror's monad -/
inductive Err where
  | no
  | exc (c : Nat) (i : Int) (x : Str)
abbrev M := Except Err
def no {α : Type} : M α := .error .no
def gd (b : Bool) : M Unit := if b then .ok () else .error .no
def ofO {α : Type} : Option α → M α
  | some a => .ok a
  | none => .error .no
theorem bind_ok {α β : Type} {m : M α} {k : α → M β} {b : β} (h : (m >>= k) = .ok b) : ∃ a, m = .ok a ∧ k a = .ok b := by
  cases m with
  | error e => cases h
  | ok a => exact ⟨a, rfl, h⟩
theorem gd_ok {b : Bool} {u : Unit} (h : gd b = .ok u) : b = true := by
  cases b with
  | true => rfl
  | false => cases h
theorem ofO_ok {α : Type} {o : Option α} {a : α} (h : ofO o = .ok a) : o = some a := by
  cases o with
  | none => cases h
  | some x => cases h; rfl
theorem pure_ok {α : Type} {a b : α} (h : (pure a : M α) = .ok b) : a = b := by
  cases h; rfl

/-! ### what stands for a Lean value -/
class Rp (α : Type) where
  sh : PySem.W.Frag → Hp → V → α → Prop
  mono : ∀ {K : PySem.W.Frag} {H H' : Hp} {v : V} {a : α}, Same H H' → sh K H v a → sh K H' v a
/-- a value that needs no heap -/
class Fl (α : Type) extends Rp α where
  enc : α → V
  sh_iff : ∀ {K : PySem.W.Frag} {H : Hp} {v : V} {a : α}, sh K H v a ↔ v = enc a
@[reducible] def flOf {α : Type} (enc : α → V) : Fl α where
  sh _ _ v a := v = enc a
  mono _ h := h
  enc := enc
  sh_iff := Iff.rfl
instance : Fl Int := flOf V.int
instance : Fl Bool := flOf V.bl
instance : Fl Str := flOf V.str
instance : Fl Unit := flOf fun _ => V.non
instance : Fl (Option Int) := flOf fun o => match o with
  | some i => .int i
  | none => .non
instance : Fl (Option Str) := flOf fun o => match o with
  | some i => .str i
  | none => .non

def Fa {α : Type} (R : V → α → Prop) : List V → List α → Prop
  | [], [] => True
  | v :: vs, a :: as => R v a ∧ Fa R vs as
  | _, _ => False
theorem Fa.mono {α : Type} {R R' : V → α → Prop} (h : ∀ v a, R v a → R' v a) : ∀ {vs : List V} {as : List α}, Fa R vs as → Fa R' vs as
  | [], [], _ => True.intro
  | v :: vs, a :: as, ⟨x, y⟩ => ⟨h _ _ x, Fa.mono h y⟩
  | [], _ :: _, x => x.elim
  | _ :: _, [], x => x.elim
theorem Fa.len {α : Type} {R : V → α → Prop} : ∀ {vs : List V} {as : List α}, Fa R vs as → vs.length = as.length
  | [], [], _ => rfl
  | v :: vs, a :: as, ⟨_, y⟩ => congrArg (· + 1) (Fa.len y)
  | [], _ :: _, x => x.elim
  | _ :: _, [], x => x.elim
theorem Fa.get {α : Type} {R : V → α → Prop} : ∀ {vs : List V} {as : List α} {i : Nat} {v : V}, Fa R vs as → vs[i]? = some v → ∃ a, as[i]? = some a ∧ R v a
  | v :: vs, a :: as, 0, w, ⟨x, _⟩, e => by
    have e' : v = w := Option.some.inj e
    exact ⟨a, rfl, e' ▸ x⟩
  | v :: vs, a :: as, i + 1, w, ⟨_, y⟩, e => Fa.get (i := i) y e
  | [], _, _, _, _, e => by simp at e
  | _ :: _, [], _, _, x, _ => x.elim
theorem Fa.get' {α : Type} {R : V → α → Prop} : ∀ {vs : List V} {as : List α} {i : Nat} {a : α}, Fa R vs as → as[i]? = some a → ∃ v, vs[i]? = some v ∧ R v a
  | v :: vs, a :: as, 0, w, ⟨x, _⟩, e => by
    have e' : a = w := Option.some.inj e
    exact ⟨v, rfl, e' ▸ x⟩
  | v :: vs, a :: as, i + 1, w, ⟨_, y⟩, e => Fa.get' (i := i) y e
  | _, [], _, _, _, e => by simp at e
  | [], _ :: _, _, _, x, _ => x.elim
theorem Fa.append {α : Type} {R : V → α → Prop} : ∀ {vs ws : List V} {as bs : List α}, Fa R vs as → Fa R ws bs → Fa R (vs ++ ws) (as ++ bs)
  | [], _, [], _, _, h => h
  | v :: vs, _, a :: as, _, ⟨x, y⟩, h => ⟨x, Fa.append y h⟩
  | [], _, _ :: _, _, x, _ => x.elim
  | _ :: _, _, [], _, x, _ => x.elim
theorem Fa.take {α : Type} {R : V → α → Prop} : ∀ (n : Nat) {vs : List V} {as : List α}, Fa R vs as → Fa R (vs.take n) (as.take n)
  | 0, _, _, _ => by simp only [List.take_zero]; exact True.intro
  | n + 1, [], [], _ => True.intro
  | n + 1, v :: vs, a :: as, ⟨x, y⟩ => ⟨x, Fa.take n y⟩
  | _ + 1, [], _ :: _, x => x.elim
  | _ + 1, _ :: _, [], x => x.elim
theorem Fa.drop {α : Type} {R : V → α → Prop} : ∀ (n : Nat) {vs : List V} {as : List α}, Fa R vs as → Fa R (vs.drop n) (as.drop n)
  | 0, _, _, h => h
  | n + 1, [], [], _ => True.intro
  | n + 1, v :: vs, a :: as, ⟨_, y⟩ => Fa.drop n y
  | _ + 1, [], _ :: _, x => x.elim
  | _ + 1, _ :: _, [], x => x.elim
theorem Fa.set {α : Type} {R : V → α → Prop} {v : V} {a : α} (h : R v a) : ∀ {vs : List V} {as : List α} (i : Nat), Fa R vs as → Fa R (vs.set i v) (as.set i a)
  | [], [], _, _ => True.intro
  | w :: vs, b :: as, 0, ⟨_, y⟩ => ⟨h, y⟩
  | w :: vs, b :: as, i + 1, ⟨x, y⟩ => ⟨x, Fa.set h i y⟩
  | [], _ :: _, _, x => x.elim
  | _ :: _, [], _, x => x.elim
theorem Fa.reverse {α : Type} {R : V → α → Prop} : ∀ {vs : List V} {as : List α}, Fa R vs as → Fa R vs.reverse as.reverse
  | [], [], _ => True.intro
  | v :: vs, a :: as, ⟨x, y⟩ => by
    rw [List.reverse_cons, List.reverse_cons]
    exact Fa.append (Fa.reverse y) ⟨x, True.intro⟩
  | [], _ :: _, x => x.elim
  | _ :: _, [], x => x.elim
theorem Fa.rep {α : Type} {R : V → α → Prop} {vs : List V} {as : List α} (h : Fa R vs as) : ∀ k : Nat, Fa R (List.replicate k vs).flatten (List.replicate k as).flatten
  | 0 => True.intro
  | k + 1 => by
    rw [List.replicate_succ, List.replicate_succ, List.flatten_cons, List.flatten_cons]
    exact Fa.append h (Fa.rep h k)
theorem Fa.flat {α : Type} [Fl α] {K : PySem.W.Frag} {H : Hp} : ∀ {vs : List V} {as : List α}, Fa (Rp.sh K H) vs as ↔ vs = as.map Fl.enc
  | [], [] => ⟨fun _ => rfl, fun _ => True.intro⟩
  | v :: vs, a :: as => by
    show (Rp.sh K H v a ∧ Fa (Rp.sh K H) vs as) ↔ _
    rw [Fl.sh_iff, Fa.flat (vs := vs) (as := as)]
    simp
  | [], _ :: _ => ⟨fun x => x.elim, fun e => by simp at e⟩
  | _ :: _, [] => ⟨fun x => x.elim, fun e => by simp at e⟩

instance rpList {α : Type} [Rp α] : Rp (List α) where
  sh K H v as := ∃ p vs, v = .ref p ∧ H p = some (.lst vs) ∧ Fa (Rp.sh K H) vs as
  mono := fun {K H H' v a} e ⟨p, vs, h1, h2, h3⟩ => ⟨p, vs, h1, e _ _ h2, Fa.mono (fun _ _ h => Rp.mono e h) h3⟩
theorem sqT_mono {K : PySem.W.Frag} {H H' : Hp} {a : Addr} {xs : List V} (e : Same H H') (h : SqT K H a xs) : SqT K H' a xs := by
  rcases h with (h | ⟨o, h⟩) | h
  · exact .inl (.inl (e _ _ h))
  · exact .inl (.inr ⟨o, e _ _ h⟩)
  · exact .inr h
instance rpPair {α β : Type} [Rp α] [Rp β] : Rp (α × β) where
  sh K H v x := ∃ p va vb, v = .ref p ∧ SqT K H p [va, vb] ∧ Rp.sh K H va x.1 ∧ Rp.sh K H vb x.2
  mono := fun {K H H' v a} e ⟨p, va, vb, h1, h2, h3, h4⟩ => ⟨p, va, vb, h1, sqT_mono e h2, Rp.mono e h3, Rp.mono e h4⟩
structure T3 (α β γ : Type) where
  a : α
  b : β
  c : γ
  deriving DecidableEq
instance rpT3 {α β γ : Type} [Rp α] [Rp β] [Rp γ] : Rp (T3 α β γ) where
  sh K H v x := ∃ p va vb vc, v = .ref p ∧ SqT K H p [va, vb, vc] ∧ Rp.sh K H va x.a ∧ Rp.sh K H vb x.b ∧ Rp.sh K H vc x.c
  mono := fun {K H H' v a} e ⟨p, va, vb, vc, h1, h2, h3, h4, h5⟩ => ⟨p, va, vb, vc, h1, sqT_mono e h2, Rp.mono e h3, Rp.mono e h4, Rp.mono e h5⟩
/-- a tuple of things of one kind -/
structure Tu (α : Type) where
  l : List α
  deriving DecidableEq
instance rpTu {α : Type} [Rp α] : Rp (Tu α) where
  sh K H v x := ∃ p vs, v = .ref p ∧ SqT K H p vs ∧ Fa (Rp.sh K H) vs x.l
  mono := fun {K H H' v a} e ⟨p, vs, h1, h2, h3⟩ => ⟨p, vs, h1, sqT_mono e h2, Fa.mono (fun _ _ h => Rp.mono e h) h3⟩
/-- the script: a list of ints that is only read -/
structure Scr where
  l : List Int
instance : Rp Scr where
  sh K H v x := ∃ p, v = .ref p ∧ SqL K H p (x.l.map V.int)
  mono := fun e ⟨p, h1, h2⟩ => ⟨p, h1, e.seq h2⟩

/-! ### what is owned -/
structure Ow (α : Type) [Rp α] where
  rep : PySem.W.Frag → Hp → Hp → V → α → List Addr → Prop
  mono : ∀ {K : PySem.W.Frag} {HF HF' H H' : Hp} {v : V} {a : α} {fp : List Addr}, Same HF HF' → (∀ p ∈ fp, ∀ o, H p = some o → H' p = some o) → rep K HF H v a fp → rep K HF' H' v a fp
  dom : ∀ {K : PySem.W.Frag} {HF H : Hp} {v : V} {a : α} {fp : List Addr}, rep K HF H v a fp → ∀ p ∈ fp, ∃ o, H p = some o
  frz : ∀ {K : PySem.W.Frag} {HF HF' H : Hp} {v : V} {a : α} {fp : List Addr}, Same HF HF' → (∀ p ∈ fp, ∀ o, H p = some o → HF' p = some o) → rep K HF H v a fp → Rp.sh K HF' v a
  out : α → (V → Hp → Prop) → V → Hp → Prop := fun _ R v H => R v H
def Ow.v {α : Type} [Rp α] : Ow α where
  rep K HF _ v a fp := Rp.sh K HF v a ∧ fp = []
  mono := fun e _ ⟨h, f⟩ => ⟨Rp.mono e h, f⟩
  dom := fun ⟨_, f⟩ p hp => by subst f; cases hp
  frz := fun e _ ⟨h, _⟩ => Rp.mono e h
def Rl {α : Type} (R : V → α → List Addr → Prop) : List V → List α → List Addr → Prop
  | [], [], fp => fp = []
  | v :: vs, a :: as, fp => ∃ f1 f2, fp = f1 ++ f2 ∧ R v a f1 ∧ Rl R vs as f2
  | _, _, _ => False
theorem Rl.mono {α : Type} {R R' : V → α → List Addr → Prop} : ∀ {vs : List V} {as : List α} {fp : List Addr}, (∀ v a f, (∀ p ∈ f, p ∈ fp) → R v a f → R' v a f) → Rl R vs as fp → Rl R' vs as fp
  | [], [], _, _, e => e
  | v :: vs, a :: as, fp, h, ⟨f1, f2, e, x, y⟩ => ⟨f1, f2, e, h _ _ _ (fun p hp => by rw [e]; exact List.mem_append_left _ hp) x,
      Rl.mono (fun v a f hf => h v a f fun p hp => by rw [e]; exact List.mem_append_right _ (hf p hp)) y⟩
  | [], _ :: _, _, _, x => x.elim
  | _ :: _, [], _, _, x => x.elim
theorem Rl.fa {α : Type} {R : V → α → List Addr → Prop} {R' : V → α → Prop} : ∀ {vs : List V} {as : List α} {fp : List Addr}, (∀ v a f, (∀ p ∈ f, p ∈ fp) → R v a f → R' v a) → Rl R vs as fp → Fa R' vs as
  | [], [], _, _, _ => True.intro
  | v :: vs, a :: as, fp, h, ⟨f1, f2, e, x, y⟩ => ⟨h _ _ _ (fun p hp => by rw [e]; exact List.mem_append_left _ hp) x,
      Rl.fa (fun v a f hf => h v a f fun p hp => by rw [e]; exact List.mem_append_right _ (hf p hp)) y⟩
  | [], _ :: _, _, _, x => x.elim
  | _ :: _, [], _, _, x => x.elim
theorem Rl.dom {α : Type} {R : V → α → List Addr → Prop} {D : Addr → Prop} (h : ∀ v a f, R v a f → ∀ p ∈ f, D p) : ∀ {vs : List V} {as : List α} {fp : List Addr}, Rl R vs as fp → ∀ p ∈ fp, D p
  | [], [], fp, e, p, hp => by
    have e' : fp = [] := e
    subst e'; cases hp
  | v :: vs, a :: as, fp, ⟨f1, f2, e, x, y⟩, p, hp => by
    rw [e] at hp
    rcases List.mem_append.mp hp with hp | hp
    · exact h _ _ _ x p hp
    · exact Rl.dom h y p hp
  | [], _ :: _, _, x, _, _ => x.elim
  | _ :: _, [], _, x, _, _ => x.elim
theorem Rl.append {α : Type} {R : V → α → List Addr → Prop} : ∀ {vs ws : List V} {as bs : List α} {f g : List Addr}, Rl R vs as f → Rl R ws bs g → Rl R (vs ++ ws) (as ++ bs) (f ++ g)
  | [], _, [], _, f, g, e, h => by
    have e' : f = [] := e
    subst e'; exact h
  | v :: vs, _, a :: as, _, f, g, ⟨f1, f2, e, x, y⟩, h => ⟨f1, f2 ++ g, by rw [e, List.append_assoc], x, Rl.append y h⟩
  | [], _, _ :: _, _, _, _, x, _ => x.elim
  | _ :: _, _, [], _, _, _, x, _ => x.elim
theorem Rl.one {α : Type} {R : V → α → List Addr → Prop} {v : V} {a : α} {f : List Addr} (h : R v a f) : Rl R [v] [a] f := ⟨f, [], by simp, h, rfl⟩
theorem Rl.len {α : Type} {R : V → α → List Addr → Prop} : ∀ {vs : List V} {as : List α} {f : List Addr}, Rl R vs as f → vs.length = as.length
  | [], [], _, _ => rfl
  | v :: vs, a :: as, _, ⟨_, _, _, _, y⟩ => congrArg (· + 1) (Rl.len y)
  | [], _ :: _, _, x => x.elim
  | _ :: _, [], _, x => x.elim
/-- shared items -/
theorem Rl.ofFa {α : Type} [Rp α] {K : PySem.W.Frag} {HF H : Hp} : ∀ {vs : List V} {as : List α}, Fa (Rp.sh K HF) vs as → Rl (Ow.v.rep K HF H) vs as []
  | [], [], _ => rfl
  | v :: vs, a :: as, ⟨x, y⟩ => ⟨[], [], rfl, ⟨x, rfl⟩, Rl.ofFa y⟩
  | [], _ :: _, x => x.elim
  | _ :: _, [], x => x.elim
theorem Rl.toFa {α : Type} [Rp α] {K : PySem.W.Frag} {HF H : Hp} : ∀ {vs : List V} {as : List α} {fp : List Addr}, Rl (Ow.v.rep K HF H) vs as fp → Fa (Rp.sh K HF) vs as ∧ fp = []
  | [], [], _, e => ⟨True.intro, e⟩
  | v :: vs, a :: as, fp, ⟨f1, f2, e, ⟨x, e1⟩, y⟩ => by
    obtain ⟨y1, e2⟩ := Rl.toFa y
    exact ⟨⟨x, y1⟩, by rw [e, e1, e2]; rfl⟩
  | [], _ :: _, _, x => x.elim
  | _ :: _, [], _, x => x.elim
/-- an own list -/
def Ow.l {α : Type} [Rp α] (o : Ow α) : Ow (List α) where
  rep K HF H v as fp := ∃ p vs fq, v = .ref p ∧ fp = p :: fq ∧ H p = some (.lst vs) ∧ Rl (o.rep K HF H) vs as fq
  mono := fun e k ⟨p, vs, fq, h1, h2, h3, h4⟩ => by
    subst h2
    exact ⟨p, vs, fq, h1, rfl, k p (List.mem_cons_self ..) _ h3, Rl.mono (fun v a f hf h => o.mono e (fun q hq => k q (List.mem_cons_of_mem _ (hf q hq))) h) h4⟩
  dom := fun ⟨p, vs, fq, h1, h2, h3, h4⟩ q hq => by
    subst h2
    rcases List.mem_cons.mp hq with e | hq
    · exact ⟨_, e ▸ h3⟩
    · exact Rl.dom (fun v a f h => o.dom h) h4 q hq
  frz := fun e k ⟨p, vs, fq, h1, h2, h3, h4⟩ => by
    subst h2
    exact ⟨p, vs, h1, k p (List.mem_cons_self ..) _ h3, Rl.fa (fun v a f hf h => o.frz e (fun q hq => k q (List.mem_cons_of_mem _ (hf q hq))) h) h4⟩
def Ow.p {α β : Type} [Rp α] [Rp β] (o : Ow α) (u : Ow β) : Ow (α × β) where
  rep K HF H v x fp := ∃ p va vb f1 f2, v = .ref p ∧ fp = p :: (f1 ++ f2) ∧ H p = some (.tup [va, vb]) ∧ o.rep K HF H va x.1 f1 ∧ u.rep K HF H vb x.2 f2
  mono := fun e k ⟨p, va, vb, f1, f2, h1, h2, h3, h4, h5⟩ => by
    subst h2
    exact ⟨p, va, vb, f1, f2, h1, rfl, k p (List.mem_cons_self ..) _ h3, o.mono e (fun q hq => k q (List.mem_cons_of_mem _ (List.mem_append_left _ hq))) h4, u.mono e (fun q hq => k q (List.mem_cons_of_mem _ (List.mem_append_right _ hq))) h5⟩
  dom := fun ⟨p, va, vb, f1, f2, h1, h2, h3, h4, h5⟩ q hq => by
    subst h2
    rcases List.mem_cons.mp hq with e | hq
    · exact ⟨_, e ▸ h3⟩
    · rcases List.mem_append.mp hq with hq | hq
      · exact o.dom h4 q hq
      · exact u.dom h5 q hq
  frz := fun e k ⟨p, va, vb, f1, f2, h1, h2, h3, h4, h5⟩ => by
    subst h2
    exact ⟨p, va, vb, h1, .inl (.inl (k p (List.mem_cons_self ..) _ h3)), o.frz e (fun q hq => k q (List.mem_cons_of_mem _ (List.mem_append_left _ hq))) h4, u.frz e (fun q hq => k q (List.mem_cons_of_mem _ (List.mem_append_right _ hq))) h5⟩
def Ow.t3 {α β γ : Type} [Rp α] [Rp β] [Rp γ] (o : Ow α) (u : Ow β) (w : Ow γ) : Ow (T3 α β γ) where
  rep K HF H v x fp := ∃ p va vb vc f1 f2 f3, v = .ref p ∧ fp = p :: (f1 ++ (f2 ++ f3)) ∧ H p = some (.tup [va, vb, vc]) ∧ o.rep K HF H va x.a f1 ∧ u.rep K HF H vb x.b f2 ∧ w.rep K HF H vc x.c f3
  mono := fun e k ⟨p, va, vb, vc, f1, f2, f3, h1, h2, h3, h4, h5, h6⟩ => by
    subst h2
    exact ⟨p, va, vb, vc, f1, f2, f3, h1, rfl, k p (List.mem_cons_self ..) _ h3, o.mono e (fun q hq => k q (by simp [hq])) h4, u.mono e (fun q hq => k q (by simp [hq])) h5, w.mono e (fun q hq => k q (by simp [hq])) h6⟩
  dom := fun ⟨p, va, vb, vc, f1, f2, f3, h1, h2, h3, h4, h5, h6⟩ q hq => by
    subst h2
    rcases List.mem_cons.mp hq with e | hq
    · exact ⟨_, e ▸ h3⟩
    · rcases List.mem_append.mp hq with hq | hq
      · exact o.dom h4 q hq
      · rcases List.mem_append.mp hq with hq | hq
        · exact u.dom h5 q hq
        · exact w.dom h6 q hq
  frz := fun e k ⟨p, va, vb, vc, f1, f2, f3, h1, h2, h3, h4, h5, h6⟩ => by
    subst h2
    exact ⟨p, va, vb, vc, h1, .inl (.inl (k p (List.mem_cons_self ..) _ h3)), o.frz e (fun q hq => k q (by simp [hq])) h4, u.frz e (fun q hq => k q (by simp [hq])) h5, w.frz e (fun q hq => k q (by simp [hq])) h6⟩
/-- it leans on no shared object -/
class Ind {α : Type} [Rp α] (o : Ow α) : Prop where
  ind : ∀ {K : PySem.W.Frag} {HF HF' H : Hp} {v : V} {a : α} {fp : List Addr}, o.rep K HF H v a fp → o.rep K HF' H v a fp
instance indFl {α : Type} [Fl α] : Ind (Ow.v (α := α)) where
  ind := fun ⟨h, e⟩ => ⟨Fl.sh_iff.mpr (Fl.sh_iff.mp h), e⟩
instance indL {α : Type} [Rp α] {o : Ow α} [Ind o] : Ind o.l where
  ind := fun ⟨p, vs, fq, h1, h2, h3, h4⟩ => ⟨p, vs, fq, h1, h2, h3, Rl.mono (fun v a f _ h => Ind.ind h) h4⟩
instance indP {α β : Type} [Rp α] [Rp β] {o : Ow α} {u : Ow β} [Ind o] [Ind u] : Ind (o.p u) where
  ind := fun ⟨p, va, vb, f1, f2, h1, h2, h3, h4, h5⟩ => ⟨p, va, vb, f1, f2, h1, h2, h3, Ind.ind h4, Ind.ind h5⟩
instance indT3 {α β γ : Type} [Rp α] [Rp β] [Rp γ] {o : Ow α} {u : Ow β} {w : Ow γ} [Ind o] [Ind u] [Ind w] : Ind (o.t3 u w) where
  ind := fun ⟨p, va, vb, vc, f1, f2, f3, h1, h2, h3, h4, h5, h6⟩ => ⟨p, va, vb, vc, f1, f2, f3, h1, h2, h3, Ind.ind h4, Ind.ind h5, Ind.ind h6⟩

/-! ### the names at a place of the text -/
inductive Sl : Type 1 where
  | un
  | mk {α : Type} [i : Rp α] (o : Ow α) (a : α)
abbrev Ctx := List Sl
def look : Ctx → Nat → Sl
  | [], _ => .un
  | s :: _, 0 => s
  | _ :: Γ, i + 1 => look Γ i
def put : Ctx → Nat → Sl → Ctx
  | [], _, _ => []
  | _ :: Γ, 0, s => s :: Γ
  | t :: Γ, i + 1, s => t :: put Γ i s
def vw1 : Sl → Sl
  | .un => .un
  | .mk (α := α) (i := i) _ a => .mk (α := α) (i := i) .v a
def vw : Ctx → Ctx
  | [] => []
  | s :: Γ => vw1 s :: vw Γ
def HoldS (K : PySem.W.Frag) (HF H : Hp) : Sl → Option V → List Addr → Prop
  | .un, _, f => f = []
  | @Sl.mk α i o a, x, f => ∃ v, x = some v ∧ @Ow.rep α i o K HF H v a f
def Holds (K : PySem.W.Frag) (HF H : Hp) : Ctx → L2.St → List Addr → Prop
  | [], [], fs => fs = []
  | s :: Γ, x :: σ, fs => ∃ f1 f2, fs = f1 ++ f2 ∧ HoldS K HF H s x f1 ∧ Holds K HF H Γ σ f2
  | _, _, _ => False
/-- HF: what is shared; H: all; HF0, G: the same at the def's entry (G: what must stay) -/
structure Good (K : PySem.W.Frag) (HF0 G : Hp) (Γ : Ctx) (HF H : Hp) (σ : L2.St) : Prop where
  sub : Same HF H
  f0 : Same HF0 HF
  g0 : Same G H
  nf : ∀ p o, HF p = some o → HF0 p = none → G p = none
  held : ∃ fs, Holds K HF H Γ σ fs ∧ fs.Nodup ∧ ∀ p ∈ fs, HF p = none ∧ G p = none
/-- nothing that was there changes -/
structure Step (HF H HF' H' : Hp) : Prop where
  exF : Same HF HF'
  exH : Same H H'
  sub : Same HF' H'
  new : ∀ p o, HF' p = some o → HF p = none → H p = none
theorem Step.refl {HF H : Hp} (h : Same HF H) : Step HF H HF H := ⟨Same.refl _, Same.refl _, h, fun p o a b => by rw [a] at b; cases b⟩
theorem Step.trans {HF H HF1 H1 HF2 H2 : Hp} (a : Step HF H HF1 H1) (b : Step HF1 H1 HF2 H2) : Step HF H HF2 H2 :=
  ⟨a.exF.trans b.exF, a.exH.trans b.exH, b.sub, fun p o h n => by
    cases q : HF1 p with
    | some u => exact a.new p u q n
    | none => exact a.exH.free (b.new p o h q)⟩
/-- one new own object -/
theorem same_upd {H : Hp} {p : Addr} {o : HO} (h : H p = none) : Same H (upd H p o) := fun b x e => by
  rw [upd_ne (ne_of_none e h)]
  exact e
theorem Step.own {HF H : Hp} {p : Addr} {o : HO} (s : Same HF H) (h : H p = none) : Step HF H HF (upd H p o) :=
  ⟨Same.refl _, same_upd h, s.trans (same_upd h), fun p o a b => by rw [a] at b; cases b⟩
theorem HoldS.mono {K : PySem.W.Frag} {HF HF' H H' : Hp} (e : Same HF HF') : ∀ {s : Sl} {x : Option V} {f : List Addr}, (∀ p ∈ f, ∀ o, H p = some o → H' p = some o) → HoldS K HF H s x f → HoldS K HF' H' s x f
  | .un, _, _, _, h => h
  | @Sl.mk α i o a, _, _, k, ⟨v, h1, h2⟩ => ⟨v, h1, @Ow.mono α i o _ _ _ _ _ _ _ _ e k h2⟩
theorem HoldS.dom {K : PySem.W.Frag} {HF H : Hp} : ∀ {s : Sl} {x : Option V} {f : List Addr}, HoldS K HF H s x f → ∀ p ∈ f, ∃ o, H p = some o
  | .un, _, f, h, p, hp => by
    have e : f = [] := h
    subst e; cases hp
  | @Sl.mk α i o a, _, _, ⟨v, h1, h2⟩, p, hp => @Ow.dom α i o _ _ _ _ _ _ h2 p hp
theorem Holds.mono {K : PySem.W.Frag} {HF HF' H H' : Hp} (e : Same HF HF') : ∀ {Γ : Ctx} {σ : L2.St} {fs : List Addr}, (∀ p ∈ fs, ∀ o, H p = some o → H' p = some o) → Holds K HF H Γ σ fs → Holds K HF' H' Γ σ fs
  | [], [], _, _, h => h
  | s :: Γ, x :: σ, fs, k, ⟨f1, f2, h1, h2, h3⟩ => ⟨f1, f2, h1, HoldS.mono e (fun p hp => k p (by rw [h1]; exact List.mem_append_left _ hp)) h2, Holds.mono e (fun p hp => k p (by rw [h1]; exact List.mem_append_right _ hp)) h3⟩
  | [], _ :: _, _, _, h => h.elim
  | _ :: _, [], _, _, h => h.elim
theorem Holds.dom {K : PySem.W.Frag} {HF H : Hp} : ∀ {Γ : Ctx} {σ : L2.St} {fs : List Addr}, Holds K HF H Γ σ fs → ∀ p ∈ fs, ∃ o, H p = some o
  | [], [], fs, h, p, hp => by
    have e : fs = [] := h
    subst e; cases hp
  | s :: Γ, x :: σ, fs, ⟨f1, f2, h1, h2, h3⟩, p, hp => by
    rw [h1] at hp
    rcases List.mem_append.mp hp with hp | hp
    · exact h2.dom p hp
    · exact Holds.dom h3 p hp
  | [], _ :: _, _, h, _, _ => h.elim
  | _ :: _, [], _, h, _, _ => h.elim
theorem Holds.len {K : PySem.W.Frag} {HF H : Hp} : ∀ {Γ : Ctx} {σ : L2.St} {fs : List Addr}, Holds K HF H Γ σ fs → Γ.length = σ.length
  | [], [], _, _ => rfl
  | s :: Γ, x :: σ, _, ⟨_, _, _, _, h⟩ => congrArg (· + 1) (Holds.len h)
  | [], _ :: _, _, h => h.elim
  | _ :: _, [], _, h => h.elim
theorem Good.step {K : PySem.W.Frag} {HF0 G HF H HF' H' : Hp} {Γ : Ctx} {σ : L2.St} (g : Good K HF0 G Γ HF H σ) (s : Step HF H HF' H') : Good K HF0 G Γ HF' H' σ := by
  obtain ⟨fs, h1, h2, h3⟩ := g.held
  refine ⟨s.sub, g.f0.trans s.exF, g.g0.trans s.exH, fun p o a b => ?_, fs, h1.mono s.exF fun p _ o e => s.exH p o e, h2, fun p hp => ⟨?_, (h3 p hp).2⟩⟩
  · cases q : HF p with
    | some u => exact g.nf p u q b
    | none => exact g.g0.free (s.new p o a q)
  · cases q : HF' p with
    | none => rfl
    | some u =>
      have := s.new p u q (h3 p hp).1
      obtain ⟨o, ho⟩ := h1.dom p hp
      rw [ho] at this; cases this
theorem Holds.get {K : PySem.W.Frag} {HF H : Hp} {α : Type} [Rp α] {o : Ow α} {a : α} : ∀ {Γ : Ctx} {σ : L2.St} {fs : List Addr} {i : Nat}, Holds K HF H Γ σ fs → look Γ i = .mk o a → ∃ v f, σ[i]? = some (some v) ∧ o.rep K HF H v a f ∧ ∀ p ∈ f, p ∈ fs
  | [], [], _, _, _, e => by cases e
  | s :: Γ, x :: σ, fs, 0, ⟨f1, f2, h1, h2, h3⟩, e => by
    have e' : s = .mk o a := e
    subst e'
    obtain ⟨v, hv, r⟩ := h2
    exact ⟨v, f1, by rw [hv]; rfl, r, fun p hp => by rw [h1]; exact List.mem_append_left _ hp⟩
  | s :: Γ, x :: σ, fs, i + 1, ⟨f1, f2, h1, h2, h3⟩, e => by
    obtain ⟨v, f, q1, q2, q3⟩ := Holds.get (i := i) h3 e
    exact ⟨v, f, q1, q2, fun p hp => by rw [h1]; exact List.mem_append_right _ (q3 p hp)⟩
  | [], _ :: _, _, _, h, _ => h.elim
  | _ :: _, [], _, _, h, _ => h.elim
/-- the slot i without its things -/
theorem Holds.put {K : PySem.W.Frag} {HF H : Hp} : ∀ {Γ : Ctx} {σ : L2.St} {fs : List Addr} {i : Nat}, Holds K HF H Γ σ fs → i < Γ.length →
    ∃ fo fr : List Addr, HoldS K HF H (look Γ i) (σ.getD i none) fo ∧ (∀ p, p ∈ fs ↔ p ∈ fo ∨ p ∈ fr) ∧ (fs.Nodup → fr.Nodup ∧ fo.Nodup ∧ ∀ p ∈ fo, p ∉ fr) ∧
      ∀ {HF' H' : Hp} {s : Sl} {x : Option V} {f : List Addr}, (∀ {Γ : Ctx} {σ : L2.St} {f : List Addr}, (∀ p ∈ f, p ∈ fr) → Holds K HF H Γ σ f → Holds K HF' H' Γ σ f) → (∀ {s : Sl} {x : Option V} {f : List Addr}, (∀ p ∈ f, p ∈ fr) → HoldS K HF H s x f → HoldS K HF' H' s x f) → HoldS K HF' H' s x f →
        ∃ fs', Holds K HF' H' (put Γ i s) (σ.set i x) fs' ∧ (∀ p, p ∈ fs' ↔ p ∈ f ∨ p ∈ fr) ∧ (fr.Nodup → f.Nodup → (∀ p ∈ f, p ∉ fr) → fs'.Nodup)
  | [], [], _, i, _, hi => absurd hi (Nat.not_lt_zero _)
  | s :: Γ, x :: σ, fs, 0, ⟨f1, f2, h1, h2, h3⟩, _ => by
    refine ⟨f1, f2, h2, fun p => by rw [h1]; exact List.mem_append, fun nd => ?_, fun k1 k2 h => ?_⟩
    · rw [h1] at nd
      obtain ⟨a, b, c⟩ := List.nodup_append.mp nd
      exact ⟨b, a, fun p hp hq => c p hp p hq rfl⟩
    · rename_i f
      refine ⟨f ++ f2, ⟨f, f2, rfl, h, k1 (fun p hp => hp) h3⟩, fun p => List.mem_append, fun n1 n2 n3 => List.nodup_append.mpr ⟨n2, n1, fun p hp q hq e => n3 p hp (e ▸ hq)⟩⟩
  | s :: Γ, x :: σ, fs, i + 1, ⟨f1, f2, h1, h2, h3⟩, hi => by
    obtain ⟨fo, fr, q1, q2, q3, q4⟩ := Holds.put (i := i) h3 (Nat.lt_of_succ_lt_succ hi)
    refine ⟨fo, f1 ++ fr, q1, fun p => ?_, fun nd => ?_, fun k1 k2 h => ?_⟩
    · rw [h1, List.mem_append, q2, List.mem_append]
      constructor
      · rintro (a | a | a)
        · exact .inr (.inl a)
        · exact .inl a
        · exact .inr (.inr a)
      · rintro (a | a | a)
        · exact .inr (.inl a)
        · exact .inl a
        · exact .inr (.inr a)
    · rw [h1] at nd
      obtain ⟨a, b, c⟩ := List.nodup_append.mp nd
      obtain ⟨r1, r2, r3⟩ := q3 b
      refine ⟨List.nodup_append.mpr ⟨a, r1, fun p hp q hq e => c p hp q ((q2 q).mpr (.inr hq)) e⟩, r2, fun p hp hq => ?_⟩
      rcases List.mem_append.mp hq with hq | hq
      · exact c p hq p ((q2 p).mpr (.inl hp)) rfl
      · exact r3 p hp hq
    · rename_i f
      obtain ⟨fs', w1, w2, w3⟩ := q4 (f := f) (fun hp => k1 fun p z => List.mem_append_right _ (hp p z)) (fun hp => k2 fun p z => List.mem_append_right _ (hp p z)) h
      refine ⟨f1 ++ fs', ⟨f1, fs', rfl, k2 (fun p z => List.mem_append_left _ z) h2, w1⟩, fun p => ?_, fun n1 n2 n3 => ?_⟩
      · rw [List.mem_append, w2, List.mem_append]
        constructor
        · rintro (a | a | a)
          · exact .inr (.inl a)
          · exact .inl a
          · exact .inr (.inr a)
        · rintro (a | a | a)
          · exact .inr (.inl a)
          · exact .inl a
          · exact .inr (.inr a)
      · obtain ⟨a, b, c⟩ := List.nodup_append.mp n1
        refine List.nodup_append.mpr ⟨a, w3 b n2 fun p hp hq => n3 p hp (List.mem_append_right _ hq), fun p hp q hq e => ?_⟩
        subst e
        rcases (w2 p).mp hq with z | z
        · exact n3 p z (List.mem_append_left _ hp)
        · exact c p hp p z rfl
  | [], _ :: _, _, _, h, _ => h.elim
  | _ :: _, [], _, _, h, _ => h.elim
end Ty

namespace Ty
open PySem L2

/-- what a value of c, made of nothing that can change, is wanted to do -/
def RetK {α : Type} [Rp α] (K : PySem.W.Frag) (HF H : Hp) (o : Ow α) (c : α) (Q : VK) : Prop :=
  ∀ v HF' H' fp, Step HF H HF' H' → o.rep K HF' H' v c fp → fp.Nodup → (∀ p ∈ fp, H p = none ∧ HF' p = none) → Q v H'
theorem RetK.flat {α : Type} [Fl α] {K : PySem.W.Frag} {HF H : Hp} {c : α} {Q : VK} (k : RetK K HF H Ow.v c Q) (s : Same HF H) : Q (Fl.enc c) H :=
  k _ HF H [] (Step.refl s) ⟨Fl.sh_iff.mpr rfl, rfl⟩ List.nodup_nil (fun p hp => by cases hp)
theorem RetK.shv {α : Type} [Rp α] {K : PySem.W.Frag} {HF H : Hp} {c : α} {v : V} {Q : VK} (k : RetK K HF H Ow.v c Q) (s : Same HF H) (h : Rp.sh K HF v c) : Q v H :=
  k _ HF H [] (Step.refl s) ⟨h, rfl⟩ List.nodup_nil (fun p hp => by cases hp)
/-- a new list of shared things -/
theorem RetK.lst {α : Type} [Rp α] {K : PySem.W.Frag} {HF H : Hp} {c : List α} {vs : List V} {p : Addr} {Q : VK} (k : RetK K HF H (Ow.l Ow.v) c Q) (s : Same HF H) (h : Fa (Rp.sh K HF) vs c) (hp : H p = none) : Q (.ref p) (upd H p (.lst vs)) :=
  k _ HF _ [p] (Step.own s hp) ⟨p, vs, [], rfl, rfl, upd_same, Rl.ofFa h⟩ (by simp) (fun q hq => by
    have e : q = p := by simpa using hq
    subst e
    exact ⟨hp, s.free hp⟩)
def SemE {α : Type} [Rp α] (K : PySem.W.Frag) (Γ : Ctx) (t : TE) (o : Ow α) (m : M α) : Prop :=
  ∀ HF0 G HF H σ, Good K HF0 G Γ HF H σ → ∀ a, m = .ok a → ∀ Q : VK, RetK K HF H o a Q → t σ H Q
structure EX {α : Type} [Rp α] (X : Cx) (Γ : Ctx) (e : Expr) (o : Ow α) (m : M α) (t : TE) : Prop where
  pe : PE X e t
  sem : SemE X.K Γ t o m
def SemT (K : PySem.W.Frag) (Γ : Ctx) (t : TT) (m : M Bool) : Prop :=
  ∀ HF0 G HF H σ, Good K HF0 G Γ HF H σ → ∀ a, m = .ok a → ∀ Q : Bool → Hp → Prop, (∀ HF' H', Step HF H HF' H' → Q a H') → t σ H Q
structure ET (X : Cx) (Γ : Ctx) (e : Expr) (m : M Bool) (t : TT) : Prop where
  pt : PT X e t
  sem : SemT X.K Γ t m
structure EW (X : Cx) (Γ : Ctx) (e : Expr) (m : M Bool) (t : TT) : Prop where
  pw : PW X e t
  sem : SemT X.K Γ t m

section
variable {X : Cx} {Γ : Ctx} {α β γ : Type}

/-! ### names, constants -/
theorem ex_var [Rp α] (i : Nat) {x : Str} {pos : Pos} {a : α} (hl : look Γ i = .mk Ow.v a := by rfl) (hN : X.N[i]? = some x := by rfl) (hv : Vis X.env.scope x := by first | exact Or.inl rfl | exact Or.inr (Or.inl rfl) | exact Or.inr (Or.inr rfl)) (hd : (x == ("__debug__" : Str)) = false := by decide)
    (hcd : (x == ("__classdict__" : Str)) = false := by decide) : EX X Γ (.Name x pos) Ow.v (pure a) (tVar i) :=
  ⟨pe_var hN hv hd hcd, fun HF0 G HF H σ g c hc Q k => by
    cases pure_ok hc
    obtain ⟨fs, h1, _, _⟩ := g.held
    obtain ⟨v, f, h2, h3, _⟩ := h1.get hl
    exact ⟨v, h2, k.shv g.sub h3.1⟩⟩
theorem ex_int {i : Int} {j pos} : EX X Γ (.Constant (.int i) j pos) Ow.v (pure i) (tC (.int i)) :=
  ⟨pe_int, fun HF0 G HF H σ g c hc Q k => by cases pure_ok hc; exact k.flat g.sub⟩
theorem ex_bl {b : Bool} {j pos} : EX X Γ (.Constant (.bool b) j pos) Ow.v (pure b) (tC (.bl b)) :=
  ⟨pe_bl, fun HF0 G HF H σ g c hc Q k => by cases pure_ok hc; exact k.flat g.sub⟩
theorem ex_str {x : Str} {j pos} : EX X Γ (.Constant (.str x) j pos) Ow.v (pure x) (tC (.str x)) :=
  ⟨pe_str, fun HF0 G HF H σ g c hc Q k => by cases pure_ok hc; exact k.flat g.sub⟩
/-! ### own things looked at; own things made shared -/
theorem Holds.vw {K : PySem.W.Frag} {HF H : Hp} (s : Same HF H) : ∀ {Γ : Ctx} {σ : L2.St} {fs : List Addr}, Holds K HF H Γ σ fs → Holds K H H (vw Γ) σ []
  | [], [], _, _ => rfl
  | .un :: Γ, x :: σ, fs, ⟨f1, f2, h1, h2, h3⟩ => ⟨[], [], rfl, rfl, Holds.vw s h3⟩
  | @Sl.mk α i o a :: Γ, x :: σ, fs, ⟨f1, f2, h1, ⟨v, e, h2⟩, h3⟩ => ⟨[], [], rfl, ⟨v, e, @Ow.frz α i o _ _ _ _ _ _ _ s (fun p _ o e => e) h2, rfl⟩, Holds.vw s h3⟩
  | [], _ :: _, _, h => h.elim
  | _ :: _, [], _, h => h.elim
theorem Good.vw {K : PySem.W.Frag} {HF0 G HF H : Hp} {σ : L2.St} (g : Good K HF0 G Γ HF H σ) : Good K H H (vw Γ) H H σ := by
  obtain ⟨fs, h1, h2, h3⟩ := g.held
  exact ⟨Same.refl _, Same.refl _, Same.refl _, fun p o a b => b, [], h1.vw g.sub, List.nodup_nil, fun p hp => by cases hp⟩
theorem ex_view [Rp α] {o : Ow α} [Ind o] {e : Expr} {m : M α} {t : TE} (h : EX X (vw Γ) e o m t) : EX X Γ e o m t :=
  ⟨h.pe, fun HF0 G HF H σ g c hc Q k => h.sem H H H H σ g.vw c hc Q fun v HF' H' fp st r n f =>
    k v HF H' fp ⟨Same.refl _, st.exH, g.sub.trans st.exH, fun p o a b => by rw [a] at b; cases b⟩ (Ind.ind r) n fun p hp => ⟨(f p hp).1, g.sub.free (f p hp).1⟩⟩
theorem et_view {e : Expr} {m : M Bool} {t : TT} (h : ET X (vw Γ) e m t) : ET X Γ e m t :=
  ⟨h.pt, fun HF0 G HF H σ g c hc Q k => h.sem H H H H σ g.vw c hc Q fun HF' H' st =>
    k HF H' ⟨Same.refl _, st.exH, g.sub.trans st.exH, fun p o a b => by rw [a] at b; cases b⟩⟩
/-- HF and what stands at fp -/
def plus (HF H : Hp) (fp : List Addr) : Hp := fun p => if p ∈ fp then H p else HF p
theorem plus_same {HF H : Hp} {fp : List Addr} (h : ∀ p ∈ fp, HF p = none) : Same HF (plus HF H fp) := fun p o e => by
  unfold plus
  by_cases hp : p ∈ fp
  · rw [h p hp] at e; cases e
  · rw [if_neg hp]; exact e
theorem plus_sub {HF H : Hp} {fp : List Addr} (s : Same HF H) : Same (plus HF H fp) H := fun p o e => by
  unfold plus at e
  by_cases hp : p ∈ fp
  · rw [if_pos hp] at e; exact e
  · rw [if_neg hp] at e; exact s p o e
theorem plus_at {HF H : Hp} {fp : List Addr} : ∀ p ∈ fp, ∀ o, H p = some o → plus HF H fp p = some o := fun p hp o e => by
  unfold plus
  rw [if_pos hp]; exact e
theorem plus_out {HF H : Hp} {fp : List Addr} {p : Addr} (hp : p ∉ fp) : plus HF H fp p = HF p := by
  unfold plus
  rw [if_neg hp]
theorem ex_frz [Rp α] {o : Ow α} {e : Expr} {m : M α} {t : TE} (h : EX X Γ e o m t) : EX X Γ e Ow.v m t :=
  ⟨h.pe, fun HF0 G HF H σ g c hc Q k => h.sem HF0 G HF H σ g c hc Q fun v HF' H' fp st r n f =>
    k v (plus HF' H' fp) H' [] ⟨st.exF.trans (plus_same fun p hp => (f p hp).2), st.exH, plus_sub st.sub, fun p o a b => by
      by_cases hp : p ∈ fp
      · exact (f p hp).1
      · rw [plus_out hp] at a
        exact st.new p o a b⟩ ⟨o.frz (plus_same fun p hp => (f p hp).2) plus_at r, rfl⟩ List.nodup_nil fun p hp => by cases hp⟩

/-! ### operators on shared things -/
def SemR2 [Rp α] [Rp β] [Rp γ] (K : PySem.W.Frag) (r : R2) (o : Ow γ) (f : α → β → M γ) : Prop :=
  ∀ HF H v w a b c, Same HF H → Rp.sh K HF v a → Rp.sh K HF w b → f a b = .ok c → ∀ Q : VK, RetK K HF H o c Q → r v w H Q
def SemR1 [Rp α] [Rp γ] (K : PySem.W.Frag) (r : V → Hp → VK → Prop) (o : Ow γ) (f : α → M γ) : Prop :=
  ∀ HF H v a c, Same HF H → Rp.sh K HF v a → f a = .ok c → ∀ Q : VK, RetK K HF H o c Q → r v H Q
theorem RetK.back [Rp γ] {K : PySem.W.Frag} {HF H HF1 H1 : Hp} {o : Ow γ} {c : γ} {Q : VK} (k : RetK K HF H o c Q) (s : Step HF H HF1 H1) : RetK K HF1 H1 o c Q :=
  fun v HF' H' fp st r n f => k v HF' H' fp (s.trans st) r n fun p hp => ⟨s.exH.free (f p hp).1, (f p hp).2⟩
theorem sem_op [Rp α] [Rp β] [Rp γ] {K : PySem.W.Frag} {r : R2} {o : Ow γ} {f : α → β → M γ} {ta tb : TE} {ma : M α} {mb : M β} (hr : SemR2 K r o f) (ha : SemE K Γ ta Ow.v ma) (hb : SemE K Γ tb Ow.v mb) :
    SemE K Γ (tOp r ta tb) o (do let a ← ma; let b ← mb; f a b) := fun HF0 G HF H σ g c hc Q k => by
  obtain ⟨a, e1, hc⟩ := bind_ok hc
  obtain ⟨b, e2, hc⟩ := bind_ok hc
  refine ha HF0 G HF H σ g a e1 _ fun v HF1 H1 fp s1 r1 _ _ => ?_
  refine hb HF0 G HF1 H1 σ (g.step s1) b e2 _ fun w HF2 H2 fp2 s2 r2 _ _ => ?_
  exact hr HF2 H2 v w a b c s2.sub (Rp.mono s2.exF r1.1) r2.1 hc Q (k.back (s1.trans s2))
theorem sem_un [Rp α] [Rp γ] {K : PySem.W.Frag} {r : V → Hp → VK → Prop} {o : Ow γ} {f : α → M γ} {ta : TE} {ma : M α} (hr : SemR1 K r o f) (ha : SemE K Γ ta Ow.v ma) :
    SemE K Γ (tUn r ta) o (do let a ← ma; f a) := fun HF0 G HF H σ g c hc Q k => by
  obtain ⟨a, e1, hc⟩ := bind_ok hc
  refine ha HF0 G HF H σ g a e1 _ fun v HF1 H1 fp s1 r1 _ _ => ?_
  exact hr HF1 H1 v a c s1.sub r1.1 hc Q (k.back s1)
theorem ex_op [Rp α] [Rp β] [Rp γ] {op : Operator} {r : R2} {o : Ow γ} {f : α → β → M γ} {a b : Expr} {pos : Pos} {ta tb : TE} {ma : M α} {mb : M β} (ho : OpR X (binaryOp op) r) (hr : SemR2 X.K r o f) (ha : EX X Γ a Ow.v ma ta) (hb : EX X Γ b Ow.v mb tb) :
    EX X Γ (.BinOp a op b pos) o (do let a ← ma; let b ← mb; f a b) (tOp r ta tb) := ⟨pe_op ho ha.pe hb.pe, sem_op hr ha.sem hb.sem⟩
theorem ex_uop [Rp α] [Rp γ] {op : UnaryOp} {r : V → Hp → VK → Prop} {o : Ow γ} {f : α → M γ} {a : Expr} {pos : Pos} {ta : TE} {ma : M α} (ho : UnR X (unaryOp op) r) (hr : SemR1 X.K r o f) (ha : EX X Γ a Ow.v ma ta) :
    EX X Γ (.UnaryOp op a pos) o (do let a ← ma; f a) (tUn r ta) := ⟨pe_un ho ha.pe, sem_un hr ha.sem⟩
/-- ints -/
theorem sr_I0 [Fl γ] {K : PySem.W.Frag} {g : Int → Int → V} {f : Int → Int → γ} (h : ∀ i j, Fl.enc (f i j) = g i j) : SemR2 K (rI0 g) Ow.v (fun (a b : Int) => pure (f a b)) := fun HF H v w a b c s ra rb hc Q k => by
  cases pure_ok hc
  refine ⟨a, b, ra, rb, ?_⟩
  rw [← h]; exact k.flat s
theorem sr_I [Fl γ] {K : PySem.W.Frag} {C : Int → Int → Prop} {g : Int → Int → V} {f : Int → Int → γ} (B : Int → Int → Bool) (hB : ∀ i j, B i j = true → C i j) (h : ∀ i j, Fl.enc (f i j) = g i j) : SemR2 K (rI C g) Ow.v (fun (a b : Int) => do gd (B a b); pure (f a b)) := fun HF H v w a b c s ra rb hc Q k => by
  obtain ⟨u, e1, hc⟩ := bind_ok hc
  cases pure_ok hc
  refine ⟨a, b, ra, rb, hB _ _ (gd_ok e1), ?_⟩
  rw [← h]; exact k.flat s
theorem sr_U [Fl γ] {K : PySem.W.Frag} {g : Int → V} {f : Int → γ} (h : ∀ i, Fl.enc (f i) = g i) : SemR1 K (rU g) Ow.v (fun (a : Int) => pure (f a)) := fun HF H v a c s ra hc Q k => by
  cases pure_ok hc
  refine ⟨a, ra, ?_⟩
  rw [← h]; exact k.flat s
def divB (_i j : Int) : Bool := decide (0 < j) && decide (j.natAbs.log2 < 9000)
def posB (_i j : Int) : Bool := decide (0 < j)
def divM (a b : Int) : M Int := do gd (divB a b); pure (a / b)
def modM (a b : Int) : M Int := do gd (posB a b); pure (a % b)
variable {a b e : Expr} {pos : Pos} {ta tb : TE}
theorem ex_add {ma mb : M Int} (ha : EX X Γ a Ow.v ma ta) (hb : EX X Γ b Ow.v mb tb) : EX X Γ (.BinOp a .Add b pos) Ow.v (do let a ← ma; let b ← mb; pure (a + b)) (tOp (rI0 fun i j => .int (i + j)) ta tb) := ex_op op_add (sr_I0 fun _ _ => rfl) ha hb
theorem ex_sub {ma mb : M Int} (ha : EX X Γ a Ow.v ma ta) (hb : EX X Γ b Ow.v mb tb) : EX X Γ (.BinOp a .Sub b pos) Ow.v (do let a ← ma; let b ← mb; pure (a - b)) (tOp (rI0 fun i j => .int (i - j)) ta tb) := ex_op op_sub (sr_I0 fun _ _ => rfl) ha hb
theorem ex_fdiv {ma mb : M Int} (ha : EX X Γ a Ow.v ma ta) (hb : EX X Γ b Ow.v mb tb) : EX X Γ (.BinOp a .FloorDiv b pos) Ow.v (do let a ← ma; let b ← mb; divM a b) (tOp (rI CDivW fun i j => .int (i / j)) ta tb) :=
  ex_op op_fdivW (sr_I divB (fun i j h => by simpa [divB, CDivW] using h) fun _ _ => rfl) ha hb
theorem ex_mod {ma mb : M Int} (ha : EX X Γ a Ow.v ma ta) (hb : EX X Γ b Ow.v mb tb) : EX X Γ (.BinOp a .Mod b pos) Ow.v (do let a ← ma; let b ← mb; modM a b) (tOp (rI (fun _ j => 0 < j) fun i j => .int (i % j)) ta tb) :=
  ex_op op_mod (sr_I posB (fun i j h => by simpa [posB] using h) fun _ _ => rfl) ha hb
theorem ex_neg {ma : M Int} (ha : EX X Γ a Ow.v ma ta) : EX X Γ (.UnaryOp .USub a pos) Ow.v (do let a ← ma; pure (-a)) (tUn (rU fun i => .int (-i)) ta) := ex_uop un_neg (sr_U fun _ => rfl) ha
/-- by a written number: no guard is left -/
theorem sr_Ic [Fl γ] {K : PySem.W.Frag} {C : Int → Int → Prop} {g : Int → Int → V} {f : Int → Int → γ} {n : Int} {ta : TE} {ma : M Int} (hC : ∀ i, C i n) (h : ∀ i j, Fl.enc (f i j) = g i j) (ha : SemE K Γ ta Ow.v ma) :
    SemE K Γ (tOp (rI C g) ta (tC (.int n))) Ow.v (do let a ← ma; pure (f a n)) := fun HF0 G HF H σ gg c hc Q k => by
  obtain ⟨i, e1, hc⟩ := bind_ok hc
  cases pure_ok hc
  refine ha HF0 G HF H σ gg i e1 _ fun v HF1 H1 fp s1 r1 _ _ => ?_
  refine ⟨i, n, r1.1, rfl, hC i, ?_⟩
  rw [← h]; exact (k.back s1).flat s1.sub
theorem ex_mulc {ma : M Int} {n : Int} {j p2} (ha : EX X Γ a Ow.v ma ta) (hn : (decide (-(2 ^ 64) < n) && decide (n < 2 ^ 64)) = true := by rfl) : EX X Γ (.BinOp a .Mult (.Constant (.int n) j p2) pos) Ow.v (do let a ← ma; pure (a * n)) (tOp (rI CMul fun i j => .int (i * j)) ta (tC (.int n))) :=
  ⟨pe_op op_mul ha.pe pe_int, sr_Ic (f := fun i j : Int => i * j) (fun i => .inr (by simpa using hn)) (fun _ _ => rfl) ha.sem⟩
theorem ex_fdivc {ma : M Int} {n : Int} {j p2} (ha : EX X Γ a Ow.v ma ta) (hn : (decide (0 < n) && decide (n < 1073741824)) = true := by rfl) : EX X Γ (.BinOp a .FloorDiv (.Constant (.int n) j p2) pos) Ow.v (do let a ← ma; pure (a / n)) (tOp (rI CDiv fun i j => .int (i / j)) ta (tC (.int n))) :=
  ⟨pe_op op_fdiv ha.pe pe_int, sr_Ic (f := fun i j : Int => i / j) (fun i => by simpa [CDiv] using hn) (fun _ _ => rfl) ha.sem⟩
theorem ex_modc {ma : M Int} {n : Int} {j p2} (ha : EX X Γ a Ow.v ma ta) (hn : decide (0 < n) = true := by rfl) : EX X Γ (.BinOp a .Mod (.Constant (.int n) j p2) pos) Ow.v (do let a ← ma; pure (a % n)) (tOp (rI (fun _ j => 0 < j) fun i j => .int (i % j)) ta (tC (.int n))) :=
  ⟨pe_op op_mod ha.pe pe_int, sr_Ic (f := fun i j : Int => i % j) (fun i => by simpa using hn) (fun _ _ => rfl) ha.sem⟩
theorem ex_cmul {mb : M Int} {n : Int} {j p2} (hb : EX X Γ b Ow.v mb tb) (hn : (decide (-(2 ^ 64) < n) && decide (n < 2 ^ 64)) = true := by rfl) : EX X Γ (.BinOp (.Constant (.int n) j p2) .Mult b pos) Ow.v (do let b ← mb; pure (n * b)) (tOp (rI CMul fun i j => .int (i * j)) (tC (.int n)) tb) :=
  ⟨pe_op op_mul pe_int hb.pe, fun HF0 G HF H σ gg c hc Q k => by
    obtain ⟨i, e1, hc⟩ := bind_ok hc
    cases pure_ok hc
    refine hb.sem HF0 G HF H σ gg i e1 _ fun v HF1 H1 fp s1 r1 _ _ => ?_
    exact ⟨n, i, rfl, r1.1, .inl (by simpa using hn), (k.back s1).flat s1.sub⟩⟩
/-! ### comparisons -/
/-- scalars -/
class Sc (α : Type) [Fl α] [DecidableEq α] : Prop where
  sc : ∀ a b : α, scal (Fl.enc a) (Fl.enc b) = true
  inj : ∀ a b : α, Fl.enc a = Fl.enc b → a = b
instance : Sc Int := ⟨fun _ _ => rfl, fun _ _ h => by cases h; rfl⟩
instance : Sc Bool := ⟨fun _ _ => rfl, fun _ _ h => by cases h; rfl⟩
instance : Sc Str := ⟨fun _ _ => rfl, fun _ _ h => by cases h; rfl⟩
theorem sc_dec [Fl α] [DecidableEq α] [Sc α] (a b : α) : decide (Fl.enc a = Fl.enc b) = decide (a = b) := by
  by_cases h : a = b
  · subst h; simp
  · rw [decide_eq_false h, decide_eq_false fun e => h (Sc.inj a b e)]
theorem sr_eq [Fl α] [DecidableEq α] [Sc α] {K : PySem.W.Frag} : SemR2 K rEq Ow.v (fun (a b : α) => pure (decide (a = b))) := fun HF H v w a b c s ra rb hc Q k => by
  cases pure_ok hc
  rw [Fl.sh_iff.mp ra, Fl.sh_iff.mp rb]
  refine ⟨Sc.sc a b, ?_⟩
  rw [sc_dec]; exact k.flat s
theorem sr_ne [Fl α] [DecidableEq α] [Sc α] {K : PySem.W.Frag} : SemR2 K rNe Ow.v (fun (a b : α) => pure (!decide (a = b))) := fun HF H v w a b c s ra rb hc Q k => by
  cases pure_ok hc
  rw [Fl.sh_iff.mp ra, Fl.sh_iff.mp rb]
  refine ⟨Sc.sc a b, ?_⟩
  rw [sc_dec]; exact k.flat s
end

/-! ### data compared as a whole -/
class Eqv (α : Type) [Rp α] [DecidableEq α] where
  py : α → PyData
  ok : α → Bool
  dep : Nat
  dp : ∀ {K : PySem.W.Frag} {H : Hp} {v : V} {a : α}, Rp.sh K H v a → Dp K H v (py a)
  lay : ∀ a, ok a = true → (py a).canLay0 = true
  deep : ∀ a, (py a).depth ≤ dep
  eqv : ∀ a b, PyData.eqv (py a) (py b) = decide (a = b)
instance : Eqv Int := ⟨fun i => .int i, fun _ => true, 0, fun h => by cases h; exact .int _, fun _ _ => rfl, fun _ => by simp [PyData.depth], fun a b => by simp only [PyData.eqv]; by_cases h : a = b <;> simp [h]⟩
instance : Eqv Bool := ⟨fun i => .bool i, fun _ => true, 0, fun h => by cases h; exact .bl _, fun _ _ => rfl, fun _ => by simp [PyData.depth], fun a b => by simp only [PyData.eqv]; by_cases h : a = b <;> simp [h]⟩
instance : Eqv Str := ⟨fun i => .str i, fun x => PySem.PyData.strOk x, 0, fun h => by cases h; exact .str _, fun _ h => by simpa [PyData.canLay0] using h, fun _ => by simp [PyData.depth], fun a b => by simp only [PyData.eqv]; by_cases h : a = b <;> simp [h]⟩
theorem dpAll_of {α : Type} [Rp α] [DecidableEq α] [Eqv α] {K : PySem.W.Frag} {H : Hp} : ∀ {vs : List V} {as : List α}, Fa (Rp.sh K H) vs as → DpAll K H vs (as.map Eqv.py)
  | [], [], _ => .nil
  | v :: vs, a :: as, ⟨x, y⟩ => .cons (Eqv.dp x) (dpAll_of y)
  | [], _ :: _, x => x.elim
  | _ :: _, [], x => x.elim
theorem layAll_of {α : Type} [Rp α] [DecidableEq α] [Eqv α] : ∀ {as : List α}, as.all Eqv.ok = true → PyData.canLayAll0 (as.map Eqv.py) = true
  | [], _ => by simp [PyData.canLayAll0]
  | a :: as, h => by
    rw [List.all_cons, Bool.and_eq_true] at h
    simp [PyData.canLayAll0, Eqv.lay a h.1, layAll_of h.2]
theorem depAll_of {α : Type} [Rp α] [DecidableEq α] [Eqv α] : ∀ as : List α, PyData.depthAll (as.map Eqv.py) ≤ Eqv.dep α
  | [] => by simp [PyData.depthAll]
  | a :: as => by
    have h1 := Eqv.deep a
    have h2 := depAll_of as
    simp only [List.map_cons, PyData.depthAll]
    omega
theorem eqvAll_of {α : Type} [Rp α] [DecidableEq α] [Eqv α] : ∀ as bs : List α, PyData.eqvAll (as.map Eqv.py) (bs.map Eqv.py) = decide (as = bs)
  | [], [] => by simp [PyData.eqvAll]
  | a :: as, b :: bs => by
    simp only [List.map_cons, PyData.eqvAll, Eqv.eqv, eqvAll_of as bs]
    by_cases h1 : a = b <;> by_cases h2 : as = bs <;> simp [h1, h2]
  | [], b :: bs => by simp [PyData.eqvAll]
  | a :: as, [] => by simp [PyData.eqvAll]
instance eqvList {α : Type} [Rp α] [DecidableEq α] [Eqv α] : Eqv (List α) where
  py as := .list (as.map Eqv.py)
  ok as := as.all Eqv.ok
  dep := Eqv.dep α + 1
  dp := fun ⟨p, vs, h1, h2, h3⟩ => by subst h1; exact .lst (SqL.of h2) (dpAll_of h3)
  lay := fun as h => by simpa [PyData.canLay0] using layAll_of h
  deep := fun as => by simpa [PyData.depth] using depAll_of as
  eqv := fun as bs => by simpa [PyData.eqv] using eqvAll_of as bs
instance eqvTu {α : Type} [Rp α] [DecidableEq α] [Eqv α] : Eqv (Tu α) where
  py as := .tuple (as.l.map Eqv.py)
  ok as := as.l.all Eqv.ok
  dep := Eqv.dep α + 1
  dp := fun ⟨p, vs, h1, h2, h3⟩ => by subst h1; exact .tup h2 (dpAll_of h3)
  lay := fun as h => by simpa [PyData.canLay0] using layAll_of h
  deep := fun as => by simpa [PyData.depth] using depAll_of as.l
  eqv := fun ⟨as⟩ ⟨bs⟩ => by
    simp only [PyData.eqv, eqvAll_of as bs]
    simp
instance eqvPair {α β : Type} [Rp α] [Rp β] [DecidableEq α] [DecidableEq β] [Eqv α] [Eqv β] : Eqv (α × β) where
  py x := .tuple [Eqv.py x.1, Eqv.py x.2]
  ok x := Eqv.ok x.1 && Eqv.ok x.2
  dep := max (Eqv.dep α) (Eqv.dep β) + 1
  dp := fun ⟨p, va, vb, h1, h2, h3, h4⟩ => by subst h1; exact .tup h2 (.cons (Eqv.dp h3) (.cons (Eqv.dp h4) .nil))
  lay := fun x h => by
    rw [Bool.and_eq_true] at h
    simp [PyData.canLay0, PyData.canLayAll0, Eqv.lay x.1 h.1, Eqv.lay x.2 h.2]
  deep := fun x => by
    have h1 := Eqv.deep x.1
    have h2 := Eqv.deep x.2
    simp only [PyData.depth, PyData.depthAll]
    omega
  eqv := fun ⟨a, b⟩ ⟨c, d⟩ => by
    simp only [PyData.eqv, PyData.eqvAll, Eqv.eqv]
    by_cases h1 : a = c <;> by_cases h2 : b = d <;> simp [h1, h2]
def neM {α : Type} [Rp α] [DecidableEq α] [Eqv α] (a b : α) : M Bool := do gd (Eqv.ok a && Eqv.ok b); pure (!decide (a = b))
section
variable {X : Cx} {Γ : Ctx} {α β γ : Type} {a b e : Expr} {pos : Pos} {ta tb : TE}
theorem eqv_shaped [Rp α] [DecidableEq α] [Eqv α] {a : α} (h : Eqv.ok a = true) (hd : Eqv.dep α ≤ 64) : SeqAt.shaped (Eqv.py a) = true := by
  show ((Eqv.py a).canLay0 && decide ((Eqv.py a).depth ≤ 64)) = true
  rw [Bool.and_eq_true]
  exact ⟨Eqv.lay a h, decide_eq_true (Nat.le_trans (Eqv.deep a) hd)⟩
theorem sr_neD [Rp α] [DecidableEq α] [Eqv α] {K : PySem.W.Frag} (hd : Eqv.dep α ≤ 64) : SemR2 K (rNeD K) Ow.v (fun (a b : α) => neM a b) := fun HF H v w a b c s ra rb hc Q k => by
  obtain ⟨u, e1, hc⟩ := bind_ok hc
  cases pure_ok hc
  have e2 := gd_ok e1
  rw [Bool.and_eq_true] at e2
  refine ⟨_, _, Eqv.dp (Rp.mono s ra), Eqv.dp (Rp.mono s rb), eqv_shaped e2.1 hd, eqv_shaped e2.2 hd, ?_⟩
  rw [Eqv.eqv]; exact k.flat s
/-! ### truth -/
theorem et_val {m : M Bool} {t : TE} (h : EX X Γ e Ow.v m t) (he : ∀ whole, isTrue e X.env whole = (do let v ← whole; standAt e.pos; holding [v] (truthy v)) := by intro _; rfl) : ET X Γ e m (tB t) :=
  ⟨pt_val h.pe he, fun HF0 G HF H σ g c hc Q k => h.sem HF0 G HF H σ g c hc _ fun v HF' H' fp s r _ _ => ⟨c, r.1, k HF' H' s⟩⟩
def bNot (m : M Bool) : M Bool := do let a ← m; pure (!a)
def bAnd (m n : M Bool) : M Bool := do let a ← m; if a then n else pure false
def bOr (m n : M Bool) : M Bool := do let a ← m; if a then pure true else n
variable {m n : M Bool} {t u : TT} {rest : List Expr}
theorem et_not (h : ET X Γ e m t) : ET X Γ (.UnaryOp .Not e pos) (bNot m) (tNot t) :=
  ⟨pt_not h.pt, fun HF0 G HF H σ g c hc Q k => by
    obtain ⟨x, e1, hc⟩ := bind_ok hc
    cases pure_ok hc
    exact h.sem HF0 G HF H σ g x e1 _ fun HF' H' s => k HF' H' s⟩
theorem ew_pt (h : EW X Γ e m t) : ET X Γ e m t := ⟨h.pw.pt, h.sem⟩
theorem ew_or1 (h : ET X Γ a m t) : EW X Γ (.BoolOp .Or [a] pos) m t := ⟨pw_or1 h.pt, h.sem⟩
theorem semT_or {K : PySem.W.Frag} (h : SemT K Γ t m) (h' : SemT K Γ u n) : SemT K Γ (tOr t u) (bOr m n) := fun HF0 G HF H σ g c hc Q k => by
  obtain ⟨x, e1, hc⟩ := bind_ok hc
  refine h HF0 G HF H σ g x e1 _ fun HF' H' s => ?_
  cases x with
  | false => exact iteF (h' HF0 G HF' H' σ (g.step s) c hc Q fun HF2 H2 s2 => k HF2 H2 (s.trans s2))
  | true =>
    cases pure_ok (show (pure true : M Bool) = .ok c from hc)
    exact iteT (k HF' H' s)
theorem ew_or (h : ET X Γ a m t) (h' : EW X Γ (.BoolOp .Or (b :: rest) pos) n u) : EW X Γ (.BoolOp .Or (a :: b :: rest) pos) (bOr m n) (tOr t u) := ⟨pw_or h.pt h'.pw, semT_or h.sem h'.sem⟩
theorem ex_one {op} {m : M Bool} {t : TE} (h : EX X Γ a Ow.v m t) : EX X Γ (.BoolOp op [a] pos) Ow.v m t := ⟨pe_one h.pe, h.sem⟩
variable {t u : TE}
theorem ex_not (h : EX X Γ e Ow.v m t) : EX X Γ (.UnaryOp .Not e pos) Ow.v (bNot m) (tNotV t) :=
  ⟨pe_not h.pe, fun HF0 G HF H σ g c hc Q k => by
    obtain ⟨x, e1, hc⟩ := bind_ok hc
    cases pure_ok hc
    exact h.sem HF0 G HF H σ g x e1 _ fun v HF' H' fp s r _ _ => ⟨x, r.1, (k.back s).flat s.sub⟩⟩
theorem ex_and (h : EX X Γ a Ow.v m t) (h' : EX X Γ (.BoolOp .And (b :: rest) pos) Ow.v n u) : EX X Γ (.BoolOp .And (a :: b :: rest) pos) Ow.v (bAnd m n) (tAndV t u) :=
  ⟨pe_and h.pe h'.pe, fun HF0 G HF H σ g c hc Q k => by
    obtain ⟨x, e1, hc⟩ := bind_ok hc
    refine h.sem HF0 G HF H σ g x e1 _ fun v HF' H' fp s r _ _ => ⟨x, r.1, ?_⟩
    cases x with
    | true => exact iteT (h'.sem HF0 G HF' H' σ (g.step s) c hc Q (k.back s))
    | false =>
      cases pure_ok (show (pure false : M Bool) = .ok c from hc)
      exact iteF ((k.back s).flat s.sub)⟩
theorem ex_or (h : EX X Γ a Ow.v m t) (h' : EX X Γ (.BoolOp .Or (b :: rest) pos) Ow.v n u) : EX X Γ (.BoolOp .Or (a :: b :: rest) pos) Ow.v (bOr m n) (tOrV t u) :=
  ⟨pe_or h.pe h'.pe, fun HF0 G HF H σ g c hc Q k => by
    obtain ⟨x, e1, hc⟩ := bind_ok hc
    refine h.sem HF0 G HF H σ g x e1 _ fun v HF' H' fp s r _ _ => ⟨x, r.1, ?_⟩
    cases x with
    | false => exact iteF (h'.sem HF0 G HF' H' σ (g.step s) c hc Q (k.back s))
    | true =>
      cases pure_ok (show (pure true : M Bool) = .ok c from hc)
      exact iteT ((k.back s).flat s.sub)⟩
end
end Ty

namespace Ty
open PySem L2

/-! ### arguments -/
structure As (A : Type) where
  rep : PySem.W.Frag → Hp → List V → A → Prop
  mono : ∀ {K : PySem.W.Frag} {H H' : Hp} {vs : List V} {a : A}, Same H H' → rep K H vs a → rep K H' vs a
  n : Nat
  len : ∀ {K : PySem.W.Frag} {H : Hp} {vs : List V} {a : A}, rep K H vs a → vs.length = n
  ctx : A → Ctx
  held : ∀ {K : PySem.W.Frag} {HF H : Hp} {vs : List V} {a : A} (k : Nat), rep K HF vs a → Holds K HF H (ctx a ++ List.replicate k .un) (vs.map some ++ List.replicate k none) []
theorem held_un {K : PySem.W.Frag} {HF H : Hp} : ∀ k : Nat, Holds K HF H (List.replicate k .un) (List.replicate k none) []
  | 0 => rfl
  | k + 1 => ⟨[], [], rfl, rfl, held_un k⟩
def As.nil : As Unit where
  rep _ _ vs _ := vs = []
  mono _ h := h
  n := 0
  len h := by rw [h]; rfl
  ctx _ := []
  held k h := by rw [h]; exact held_un k
def As.cons {α B : Type} [Rp α] (r : As B) : As (α × B) where
  rep K H vs x := ∃ v ws, vs = v :: ws ∧ Rp.sh K H v x.1 ∧ r.rep K H ws x.2
  mono := fun e ⟨v, ws, h1, h2, h3⟩ => ⟨v, ws, h1, Rp.mono e h2, r.mono e h3⟩
  n := r.n + 1
  len := fun ⟨v, ws, h1, h2, h3⟩ => by rw [h1, List.length_cons, r.len h3]
  ctx x := .mk Ow.v x.1 :: r.ctx x.2
  held := fun k ⟨v, ws, h1, h2, h3⟩ => by
    subst h1
    exact ⟨[], [], rfl, ⟨v, rfl, h2, rfl⟩, r.held k h3⟩
def SemA {A : Type} (K : PySem.W.Frag) (Γ : Ctx) (t : TA) (r : As A) (m : M A) : Prop :=
  ∀ HF0 G HF H σ, Good K HF0 G Γ HF H σ → ∀ a, m = .ok a → ∀ Q : List V → Hp → Prop, (∀ vs HF' H', Step HF H HF' H' → r.rep K HF' vs a → Q vs H') → t σ H Q
structure EA {A : Type} (X : Cx) (Γ : Ctx) (es : List Expr) (r : As A) (m : M A) (t : TA) : Prop where
  pa : PA X es t
  sem : SemA X.K Γ t r m
section
variable {X : Cx} {Γ : Ctx} {α β γ A B : Type} {a b e : Expr} {es : List Expr} {pos p apos : Pos} {ta tb te : TE} {t : TA}
theorem ea_nil : EA X Γ [] As.nil (pure ()) tNil := ⟨pa_nil, fun HF0 G HF H σ g c hc Q k => k [] HF H (Step.refl g.sub) rfl⟩
theorem ea_cons [Rp α] {r : As B} {m : M α} {n : M B} (h : EX X Γ e Ow.v m te) (h' : EA X Γ es r n t) (hs : starEach (e :: es) X.env = (false, eval e X.env) :: starEach es X.env := by rfl) :
    EA X Γ (e :: es) (As.cons (α := α) r) (do let a ← m; let b ← n; pure (a, b)) (tCons te t) :=
  ⟨pa_cons h.pe h'.pa hs, fun HF0 G HF H σ g c hc Q k => by
    obtain ⟨x, e1, hc⟩ := bind_ok hc
    obtain ⟨y, e2, hc⟩ := bind_ok hc
    cases pure_ok hc
    refine h.sem HF0 G HF H σ g x e1 _ fun v HF1 H1 fp s1 r1 _ _ => ?_
    refine h'.sem HF0 G HF1 H1 σ (g.step s1) y e2 _ fun vs HF2 H2 s2 r2 => ?_
    exact k (v :: vs) HF2 H2 (s1.trans s2) ⟨v, vs, rfl, Rp.mono s2.exF r1.1, r2⟩⟩
/-! ### a builtin called -/
def SemC1 [Rp α] [Rp γ] (K : PySem.W.Frag) (r : List V → Hp → VK → Prop) (o : Ow γ) (f : α → M γ) : Prop :=
  ∀ HF H v a c, Same HF H → Rp.sh K HF v a → f a = .ok c → ∀ Q : VK, RetK K HF H o c Q → r [v] H Q
def SemC2 [Rp α] [Rp β] [Rp γ] (K : PySem.W.Frag) (r : List V → Hp → VK → Prop) (o : Ow γ) (f : α → β → M γ) : Prop :=
  ∀ HF H v w a b c, Same HF H → Rp.sh K HF v a → Rp.sh K HF w b → f a b = .ok c → ∀ Q : VK, RetK K HF H o c Q → r [v, w] H Q
theorem semC1_run [Rp α] [Rp γ] {K : PySem.W.Frag} {r : List V → Hp → VK → Prop} {o : Ow γ} {f : α → M γ} {m : M α} (hr : SemC1 K r o f) (ha : SemE K Γ te Ow.v m) : SemE K Γ (tCB r (tCons te tNil)) o (do let a ← m; f a) := fun HF0 G HF H σ g c hc Q k => by
  obtain ⟨x, e1, hc⟩ := bind_ok hc
  exact ha HF0 G HF H σ g x e1 _ fun v HF1 H1 fp s1 r1 _ _ => hr HF1 H1 v x c s1.sub r1.1 hc Q (k.back s1)
theorem semC2_run [Rp α] [Rp β] [Rp γ] {K : PySem.W.Frag} {r : List V → Hp → VK → Prop} {o : Ow γ} {f : α → β → M γ} {m : M α} {n : M β} (hr : SemC2 K r o f) (ha : SemE K Γ ta Ow.v m) (hb : SemE K Γ tb Ow.v n) : SemE K Γ (tCB r (tCons ta (tCons tb tNil))) o (do let a ← m; let b ← n; f a b) := fun HF0 G HF H σ g c hc Q k => by
  obtain ⟨x, e1, hc⟩ := bind_ok hc
  obtain ⟨y, e2, hc⟩ := bind_ok hc
  refine ha HF0 G HF H σ g x e1 _ fun v HF1 H1 fp s1 r1 _ _ => ?_
  refine hb HF0 G HF1 H1 σ (g.step s1) y e2 _ fun w HF2 H2 fp2 s2 r2 _ _ => ?_
  exact hr HF2 H2 v w x y c s2.sub (Rp.mono s2.exF r1.1) r2.1 hc Q (k.back (s1.trans s2))
section
variable {id T : String} {x : Str} {r : List V → Hp → VK → Prop}
theorem ex_b1 [Rp α] [Rp γ] {o : Ow γ} {f : α → M γ} {m : M α} (hc : CallR X (.builtin id) r) (hr : SemC1 X.K r o f) (hv : bootBuiltins x = some (.builtin id)) (hm : X.mg x = none) (ha : EX X Γ a Ow.v m ta) (hg : Gl X x := by rfl) (hn : x ≠ "__name__" := by decide) (hdb : (x == ("__debug__" : Str)) = false := by decide)
    (h1 : starEach [a] X.env = (false, eval a X.env) :: starEach [] X.env := by rfl) (hpl : (backTo pos (starEach [] X.env)).any (·.1) = false := by rfl) : EX X Γ (.Call (.Name x p) [a] [] pos) o (do let a ← m; f a) (tCB r (tCons ta tNil)) :=
  ⟨pe_callB hc hg hm hv (pa_cons ha.pe pa_nil h1) hn hdb h1 hpl, semC1_run hr ha.sem⟩
theorem ex_t1 [Rp α] [Rp γ] {o : Ow γ} {f : α → M γ} {m : M α} (hc : CallR X (.type T) r) (hr : SemC1 X.K r o f) (hv : bootBuiltins x = some (.type T)) (hm : X.mg x = none) (ha : EX X Γ a Ow.v m ta) (hg : Gl X x := by rfl) (hn : x ≠ "__name__" := by decide) (hdb : (x == ("__debug__" : Str)) = false := by decide)
    (h1 : starEach [a] X.env = (false, eval a X.env) :: starEach [] X.env := by rfl) (hpl : (backTo pos (starEach [] X.env)).any (·.1) = false := by rfl) : EX X Γ (.Call (.Name x p) [a] [] pos) o (do let a ← m; f a) (tCB r (tCons ta tNil)) :=
  ⟨pe_callTy hc hg hm hv (pa_cons ha.pe pa_nil h1) hn hdb h1 hpl, semC1_run hr ha.sem⟩
theorem ex_b2 [Rp α] [Rp β] [Rp γ] {o : Ow γ} {f : α → β → M γ} {m : M α} {n : M β} (hc : CallR X (.builtin id) r) (hr : SemC2 X.K r o f) (hv : bootBuiltins x = some (.builtin id)) (hm : X.mg x = none) (ha : EX X Γ a Ow.v m ta) (hb : EX X Γ b Ow.v n tb) (hg : Gl X x := by rfl) (hn : x ≠ "__name__" := by decide) (hdb : (x == ("__debug__" : Str)) = false := by decide)
    (h1 : starEach [a, b] X.env = (false, eval a X.env) :: starEach [b] X.env := by rfl) (h2 : starEach [b] X.env = (false, eval b X.env) :: starEach [] X.env := by rfl) (hpl : (backTo pos (starEach [b] X.env)).any (·.1) = false := by rfl) : EX X Γ (.Call (.Name x p) [a, b] [] pos) o (do let a ← m; let b ← n; f a b) (tCB r (tCons ta (tCons tb tNil))) :=
  ⟨pe_callB hc hg hm hv (pa_cons ha.pe (pa_cons hb.pe pa_nil h2) h1) hn hdb h1 hpl, semC2_run hr ha.sem hb.sem⟩
end
/-! ### len -/
def rLenQ (K : PySem.W.Frag) : List V → Hp → VK → Prop := fun xs H Q => ∃ p ys, xs = [.ref p] ∧ (SqL K H p ys ∨ SqT K H p ys) ∧ Q (.int ys.length) H
def rLenSt : List V → Hp → VK → Prop := fun xs H Q => ∃ z, xs = [.str z] ∧ z.length ≤ sizeLine ∧ Q (.int z.length) H
theorem cr_lenQ : CallR X (.builtin "len") (rLenQ X.K) := call_len_seq
theorem cr_lenSt : CallR X (.builtin "len") rLenSt := call_len_str
def lenS (x : Str) : M Int := do gd (decide (x.length ≤ sizeLine)); pure (x.length : Int)
theorem sc_lenL [Rp α] {K : PySem.W.Frag} : SemC1 K (rLenQ K) Ow.v (fun (x : List α) => pure (x.length : Int)) := fun HF H v a c s ⟨q, us, e, h1, h2⟩ hc Q k => by
  cases pure_ok hc
  subst e
  refine ⟨q, us, rfl, .inl (SqL.of (s _ _ h1)), ?_⟩
  rw [h2.len]; exact k.flat s
theorem sc_lenScr {K : PySem.W.Frag} : SemC1 K (rLenQ K) Ow.v (fun (x : Scr) => pure (x.l.length : Int)) := fun HF H v a c s ⟨q, e, h1⟩ hc Q k => by
  cases pure_ok hc
  subst e
  refine ⟨q, _, rfl, .inl (s.seq h1), ?_⟩
  rw [List.length_map]; exact k.flat s
theorem sc_lenS {K : PySem.W.Frag} : SemC1 K rLenSt Ow.v (fun (x : Str) => lenS x) := fun HF H v a c s h1 hc Q k => by
  obtain ⟨u, e1, hc⟩ := bind_ok hc
  cases pure_ok hc
  exact ⟨_, by rw [Fl.sh_iff.mp h1]; rfl, of_decide_eq_true (gd_ok e1), k.flat s⟩
theorem ex_lenL {K : PySem.W.Frag} [Rp α] {m : M (List α)} (ml : X.mg "len" = none) (h : EX X Γ e Ow.v m te) (hg : Gl X "len" := by rfl) (h1 : starEach [e] X.env = (false, eval e X.env) :: starEach [] X.env := by rfl) (hK : X.K = K := by rfl) : EX X Γ (.Call (.Name "len" p) [e] [] pos) Ow.v (do let a ← m; pure (a.length : Int)) (tCB (rLenQ K) (tCons te tNil)) := by
  subst hK
  exact ex_b1 cr_lenQ sc_lenL PySem.boot_len ml h hg (h1 := h1)
theorem ex_lenScr {K : PySem.W.Frag} {m : M Scr} (ml : X.mg "len" = none) (h : EX X Γ e Ow.v m te) (hg : Gl X "len" := by rfl) (h1 : starEach [e] X.env = (false, eval e X.env) :: starEach [] X.env := by rfl) (hK : X.K = K := by rfl) : EX X Γ (.Call (.Name "len" p) [e] [] pos) Ow.v (do let a ← m; pure (a.l.length : Int)) (tCB (rLenQ K) (tCons te tNil)) := by
  subst hK
  exact ex_b1 cr_lenQ sc_lenScr PySem.boot_len ml h hg (h1 := h1)
theorem ex_lenS {m : M Str} (ml : X.mg "len" = none) (h : EX X Γ e Ow.v m te) (hg : Gl X "len" := by rfl) (h1 : starEach [e] X.env = (false, eval e X.env) :: starEach [] X.env := by rfl) : EX X Γ (.Call (.Name "len" p) [e] [] pos) Ow.v (do let a ← m; lenS a) (tCB rLenSt (tCons te tNil)) := ex_b1 cr_lenSt sc_lenS PySem.boot_len ml h hg (h1 := h1)

/-! ### items -/
def atM {α : Type} (xs : List α) (i : Int) : M α := ofO (atI xs i)
theorem atI_fa {α : Type} {R : V → α → Prop} {vs : List V} {as : List α} {i : Int} {a : α} (h : Fa R vs as) (e : atI as i = some a) : ∃ v, atI vs i = some v ∧ R v a := by
  unfold atI at e ⊢
  rw [h.len]
  cases q : ixN as.length i with
  | none => rw [q] at e; cases e
  | some j =>
    rw [q] at e
    exact Fa.get' h e
theorem sr_ixL [Rp α] {K : PySem.W.Frag} : SemR2 K (rIxL K) Ow.v (fun (x : List α) (i : Int) => atM x i) := fun HF H v w a b c s ⟨q, us, e, h1, h2⟩ rb hc Q k => by
  subst e
  cases rb
  obtain ⟨y, e1, r1⟩ := atI_fa h2 (ofO_ok hc)
  exact ⟨q, us, b, y, rfl, rfl, SqL.of (s _ _ h1), e1, k.shv s r1⟩
theorem sr_ixTu [Rp α] {K : PySem.W.Frag} : SemR2 K (rIxT K) Ow.v (fun (x : Tu α) (i : Int) => atM x.l i) := fun HF H v w a b c s ⟨q, us, e, h1, h2⟩ rb hc Q k => by
  subst e
  cases rb
  obtain ⟨y, e1, r1⟩ := atI_fa h2 (ofO_ok hc)
  exact ⟨q, us, b, y, rfl, rfl, sqT_mono s h1, e1, k.shv s r1⟩
theorem sr_ixScr {K : PySem.W.Frag} : SemR2 K (rIxL K) Ow.v (fun (x : Scr) (i : Int) => atM x.l i) := fun HF H v w a b c s ⟨q, e, h1⟩ rb hc Q k => by
  subst e
  cases rb
  obtain ⟨y, e1, r1⟩ := atI_fa (Fa.flat (K := K) (H := H).mpr rfl) (ofO_ok hc)
  exact ⟨q, _, b, y, rfl, rfl, s.seq h1, e1, by rw [Fl.sh_iff.mp r1]; exact k.flat s⟩
def sgS (c : Nat) : Str := ⟨#[c]⟩
def atS (x : Str) (i : Int) : M Str := do gd (decide (x.length ≤ sizeLine)); let c ← ofO (atI x.cps.toList i); pure (sgS c)
theorem sr_ixS {K : PySem.W.Frag} : SemR2 K rIxS Ow.v (fun (x : Str) (i : Int) => atS x i) := fun HF H v w a b c s ra rb hc Q k => by
  obtain ⟨u, e1, hc⟩ := bind_ok hc
  obtain ⟨d, e2, hc⟩ := bind_ok hc
  cases pure_ok hc
  cases rb
  exact ⟨a, b, d, Fl.sh_iff.mp ra, rfl, of_decide_eq_true (gd_ok e1), ofO_ok e2, k.flat s⟩
theorem ex_ix [Rp α] [Rp β] [Rp γ] {r : R2} {f : α → β → M γ} {o : Ow γ} {m : M α} {n : M β} (hi : IxR X r) (hr : SemR2 X.K r o f) (ha : EX X Γ a Ow.v m ta) (hb : EX X Γ b Ow.v n tb) (hs : PlainIx b := by intro _ _; rfl) : EX X Γ (.Subscript a b pos) o (do let a ← m; let b ← n; f a b) (tOp r ta tb) := ⟨pe_ix hi ha.pe hb.pe hs, sem_op hr ha.sem hb.sem⟩
theorem ex_ixL {K : PySem.W.Frag} [Rp α] {m : M (List α)} {n : M Int} (ha : EX X Γ a Ow.v m ta) (hb : EX X Γ b Ow.v n tb) (hs : PlainIx b := by intro _ _; rfl) (hK : X.K = K := by rfl) : EX X Γ (.Subscript a b pos) Ow.v (do let a ← m; let b ← n; atM a b) (tOp (rIxL K) ta tb) := by
  subst hK
  exact ex_ix ix_list sr_ixL ha hb hs
theorem ex_ixTu {K : PySem.W.Frag} [Rp α] {m : M (Tu α)} {n : M Int} (ha : EX X Γ a Ow.v m ta) (hb : EX X Γ b Ow.v n tb) (hs : PlainIx b := by intro _ _; rfl) (hK : X.K = K := by rfl) : EX X Γ (.Subscript a b pos) Ow.v (do let a ← m; let b ← n; atM a.l b) (tOp (rIxT K) ta tb) := by
  subst hK
  exact ex_ix ix_tup sr_ixTu ha hb hs
theorem ex_ixScr {K : PySem.W.Frag} {m : M Scr} {n : M Int} (ha : EX X Γ a Ow.v m ta) (hb : EX X Γ b Ow.v n tb) (hs : PlainIx b := by intro _ _; rfl) (hK : X.K = K := by rfl) : EX X Γ (.Subscript a b pos) Ow.v (do let a ← m; let b ← n; atM a.l b) (tOp (rIxL K) ta tb) := by
  subst hK
  exact ex_ix ix_list sr_ixScr ha hb hs
theorem ex_ixS {m : M Str} {n : M Int} (ha : EX X Γ a Ow.v m ta) (hb : EX X Γ b Ow.v n tb) (hs : PlainIx b := by intro _ _; rfl) : EX X Γ (.Subscript a b pos) Ow.v (do let a ← m; let b ← n; atS a b) (tOp rIxS ta tb) := ex_ix ix_str sr_ixS ha hb hs
/-! ### slices, +, *, list(..) -/
structure EO (X : Cx) (Γ : Ctx) (e : Option Expr) (m : M (Option Int)) (t : TO) : Prop where
  po : PO X e t
  sem : ∀ HF0 G HF H σ, Good X.K HF0 G Γ HF H σ → ∀ a, m = .ok a → ∀ Q : Option Int → Hp → Prop, (∀ HF' H', Step HF H HF' H' → Q a H') → t σ H Q
theorem eo_none : EO X Γ none (pure none) tNoPart := ⟨po_none, fun HF0 G HF H σ g c hc Q k => by cases pure_ok hc; exact k HF H (Step.refl g.sub)⟩
theorem eo_some {m : M Int} (h : EX X Γ e Ow.v m te) : EO X Γ (some e) (do let i ← m; pure (some i)) (tPart te) :=
  ⟨po_some h.pe, fun HF0 G HF H σ g c hc Q k => by
    obtain ⟨x, e1, hc⟩ := bind_ok hc
    cases pure_ok hc
    exact h.sem HF0 G HF H σ g x e1 _ fun v HF1 H1 fp s1 r1 _ _ => ⟨x, r1.1, k HF1 H1 s1⟩⟩
def cutL {α : Type} (xs : List α) (lo hi : Option Int) : List α := (xs.drop (HT.sIx xs.length 0 lo)).take (HT.sIx xs.length xs.length hi - HT.sIx xs.length 0 lo)
theorem Fa.cut {α : Type} {R : V → α → Prop} {vs : List V} {as : List α} (h : Fa R vs as) (lo hi : Option Int) : Fa R (cutV vs lo hi) (cutL as lo hi) := by
  unfold cutV cutL
  rw [h.len]
  exact Fa.take _ (Fa.drop _ h)
def SemSl [Rp α] [Rp γ] (K : PySem.W.Frag) (r : V → Option Int → Option Int → Hp → VK → Prop) (o : Ow γ) (f : α → Option Int → Option Int → M γ) : Prop :=
  ∀ HF H v a l u c, Same HF H → Rp.sh K HF v a → f a l u = .ok c → ∀ Q : VK, RetK K HF H o c Q → r v l u H Q
theorem ex_slice [Rp α] [Rp γ] {r : V → Option Int → Option Int → Hp → VK → Prop} {o : Ow γ} {f : α → Option Int → Option Int → M γ} {m : M α} {ml mu : M (Option Int)} {lo hi : Option Expr} {tl th : TO} {p2 : Pos} (hr : SlR X r) (hs : SemSl X.K r o f) (h : EX X Γ e Ow.v m te) (hl : EO X Γ lo ml tl) (hu : EO X Γ hi mu th) :
    EX X Γ (.Subscript e (.Slice lo hi none p2) pos) o (do let a ← m; let l ← ml; let u ← mu; f a l u) (tSl r te tl th) :=
  ⟨pe_slice hr h.pe hl.po hu.po, fun HF0 G HF H σ g c hc Q k => by
    obtain ⟨x, e1, hc⟩ := bind_ok hc
    obtain ⟨l, e2, hc⟩ := bind_ok hc
    obtain ⟨u, e3, hc⟩ := bind_ok hc
    refine h.sem HF0 G HF H σ g x e1 _ fun v HF1 H1 fp s1 r1 _ _ => ?_
    have g1 := g.step s1
    refine hl.sem HF0 G HF1 H1 σ g1 l e2 _ fun HF2 H2 s2 => ?_
    have g2 := g1.step s2
    refine hu.sem HF0 G HF2 H2 σ g2 u e3 _ fun HF3 H3 s3 => ?_
    exact hs HF3 H3 v x l u c s3.sub (Rp.mono (s2.exF.trans s3.exF) r1.1) hc Q (k.back ((s1.trans s2).trans s3))⟩
def cutSM (x : Str) (l u : Option Int) : M Str := do gd (decide (x.length ≤ sizeLine)); pure (cutS x l u)
theorem ex_cutS {m : M Str} {ml mu : M (Option Int)} {lo hi : Option Expr} {tl th : TO} {p2 : Pos} (h : EX X Γ e Ow.v m te) (hl : EO X Γ lo ml tl) (hu : EO X Γ hi mu th) :
    EX X Γ (.Subscript e (.Slice lo hi none p2) pos) Ow.v (do let a ← m; let l ← ml; let u ← mu; cutSM a l u) (tSl rSlS te tl th) :=
  ex_slice (f := cutSM) sl_str (fun HF H v a l u c s ra hc Q k => by
    obtain ⟨w, e1, hc⟩ := bind_ok hc
    cases pure_ok hc
    exact ⟨a, Fl.sh_iff.mp ra, of_decide_eq_true (gd_ok e1), k.flat s⟩) h hl hu
def szB (n : Nat) : Bool := decide (n ≤ sizeLine)
def addSM (a b : Str) : M Str := do gd (szB (a.length + b.length)); pure (a ++ b)
def rAddSt : R2 := fun x y H Q => ∃ i j, x = .str i ∧ y = .str j ∧ i.length + j.length ≤ sizeLine ∧ Q (.str (i ++ j)) H
theorem ex_addS {m n : M Str} (ha : EX X Γ a Ow.v m ta) (hb : EX X Γ b Ow.v n tb) : EX X Γ (.BinOp a .Add b pos) Ow.v (do let a ← m; let b ← n; addSM a b) (tOp rAddSt ta tb) :=
  ex_op op_add_str (fun HF H v w a b c s ra rb hc Q k => by
    obtain ⟨u, e1, hc⟩ := bind_ok hc
    cases pure_ok hc
    exact ⟨a, b, Fl.sh_iff.mp ra, Fl.sh_iff.mp rb, of_decide_eq_true (gd_ok e1), k.flat s⟩) ha hb
def rListOf (K : PySem.W.Frag) : List V → Hp → VK → Prop := fun xs H Q => ∃ p ys, xs = [.ref p] ∧ (SqL K H p ys ∨ SqT K H p ys) ∧ ∀ l, H l = none → Q (.ref l) (upd H l (.lst ys))
theorem ex_listL {K : PySem.W.Frag} [Rp α] {m : M (List α)} (ml : X.mg "list" = none) (h : EX X Γ e Ow.v m te) (hg : Gl X "list" := by rfl) (h1 : starEach [e] X.env = (false, eval e X.env) :: starEach [] X.env := by rfl) (hK : X.K = K := by rfl) : EX X Γ (.Call (.Name "list" p) [e] [] pos) (Ow.l Ow.v) (m >>= fun a => pure a) (tCB (rListOf K) (tCons te tNil)) := by
  subst hK
  exact ex_t1 call_list_of (show SemC1 X.K (rListOf X.K) (Ow.l Ow.v) (fun (a : List α) => pure a) from fun HF H v a c s ⟨q, us, e, h1, h2⟩ hc Q k => by
      cases pure_ok hc
      subst e
      exact ⟨q, us, rfl, .inl (SqL.of (s _ _ h1)), fun l hl => k.lst s h2 hl⟩) (by decide +kernel) ml h hg (h1 := h1)
/-! ### displays -/
def SemL [Rp α] (K : PySem.W.Frag) (Γ : Ctx) (t : TA) (o : Ow α) (m : M (List α)) : Prop :=
  ∀ HF0 G HF H σ, Good K HF0 G Γ HF H σ → ∀ a, m = .ok a → ∀ Q : List V → Hp → Prop, (∀ vs HF' H' fp, Step HF H HF' H' → Rl (o.rep K HF' H') vs a fp → fp.Nodup → (∀ p ∈ fp, H p = none ∧ HF' p = none) → Q vs H') → t σ H Q
structure EL [Rp α] (X : Cx) (Γ : Ctx) (es : List Expr) (o : Ow α) (m : M (List α)) (t : TA) : Prop where
  pa : PA X es t
  sem : SemL X.K Γ t o m
theorem el_nil [Rp α] {o : Ow α} : EL X Γ [] o (pure []) tNil := ⟨pa_nil, fun HF0 G HF H σ g c hc Q k => by cases pure_ok hc; exact k [] HF H [] (Step.refl g.sub) rfl List.nodup_nil (fun p hp => by cases hp)⟩
theorem Rl.step [Rp α] {K : PySem.W.Frag} {o : Ow α} {HF H HF' H' : Hp} {vs : List V} {as : List α} {fp : List Addr} (h : Rl (o.rep K HF H) vs as fp) (s : Step HF H HF' H') : Rl (o.rep K HF' H') vs as fp := Rl.mono (fun v a f _ r => o.mono s.exF (fun p _ o e => s.exH p o e) r) h
theorem el_cons [Rp α] {o : Ow α} {m : M α} {n : M (List α)} (h : EX X Γ e o m te) (h' : EL X Γ es o n t) (hs : starEach (e :: es) X.env = (false, eval e X.env) :: starEach es X.env := by rfl) :
    EL X Γ (e :: es) o (do let a ← m; let b ← n; pure (a :: b)) (tCons te t) :=
  ⟨pa_cons h.pe h'.pa hs, fun HF0 G HF H σ g c hc Q k => by
    obtain ⟨x, e1, hc⟩ := bind_ok hc
    obtain ⟨y, e2, hc⟩ := bind_ok hc
    cases pure_ok hc
    refine h.sem HF0 G HF H σ g x e1 _ fun v HF1 H1 fp s1 r1 n1 f1 => ?_
    refine h'.sem HF0 G HF1 H1 σ (g.step s1) y e2 _ fun vs HF2 H2 fq s2 r2 n2 f2 => ?_
    have dm := o.dom r1
    refine k (v :: vs) HF2 H2 (fp ++ fq) (s1.trans s2) ⟨fp, fq, rfl, o.mono s2.exF (fun p _ o e => s2.exH p o e) r1, r2⟩ (List.nodup_append.mpr ⟨n1, n2, fun p hp q hq e => ?_⟩) fun p hp => ?_
    · subst e
      obtain ⟨u, hu⟩ := dm p hp
      rw [(f2 p hq).1] at hu; cases hu
    · rcases List.mem_append.mp hp with hp | hp
      · refine ⟨(f1 p hp).1, ?_⟩
        cases q : HF2 p with
        | none => rfl
        | some u =>
          have := s2.new p u q (f1 p hp).2
          obtain ⟨u', hu⟩ := dm p hp
          rw [this] at hu; cases hu
      · exact ⟨s1.exH.free (f2 p hp).1, (f2 p hp).2⟩⟩
/-- a new object over new things -/
theorem RetK.obj [Rp γ] {K : PySem.W.Frag} {HF0 H0 HF H : Hp} {o : Ow γ} {c : γ} {ho : HO} {p : Addr} {fp : List Addr} {Q : VK} (k : RetK K HF0 H0 o c Q) (s : Step HF0 H0 HF H) (hp : H p = none) (r : o.rep K HF (upd H p ho) (.ref p) c (p :: fp)) (n : fp.Nodup) (f : ∀ q ∈ fp, H0 q = none ∧ HF q = none) (hd : ∀ q ∈ fp, ∃ u, H q = some u) : Q (.ref p) (upd H p ho) :=
  k (.ref p) HF (upd H p ho) (p :: fp) (s.trans (Step.own s.sub hp)) r (List.nodup_cons.mpr ⟨fun hm => (by obtain ⟨u, hu⟩ := hd p hm; rw [hp] at hu; cases hu), n⟩) fun q hq => by
    rcases List.mem_cons.mp hq with e | hq
    · subst e; exact ⟨s.exH.free hp, s.sub.free hp⟩
    · exact f q hq
def lstM {α : Type} (as : List α) : M (List α) := do gd (szB as.length); pure as
theorem upd_keep {H : Hp} {p : Addr} {o : HO} (hp : H p = none) : ∀ q, ∀ u, H q = some u → upd H p o q = some u := fun q u e => by rw [upd_ne (ne_of_none e hp)]; exact e
theorem ex_lst [Rp α] {o : Ow α} {m : M (List α)} (h : EL X Γ es o m t) : EX X Γ (.List es pos) (Ow.l o) (do let a ← m; lstM a) (tLst t) :=
  ⟨pe_lst h.pa, fun HF0 G HF H σ g c hc Q k => by
    obtain ⟨x, e1, hc⟩ := bind_ok hc
    obtain ⟨u, e2, hc⟩ := bind_ok hc
    cases pure_ok hc
    refine h.sem HF0 G HF H σ g _ e1 _ fun vs HF1 H1 fp s1 r1 n1 f1 => ⟨by rw [r1.len]; exact of_decide_eq_true (gd_ok e2), fun p hp => ?_⟩
    exact k.obj s1 hp ⟨p, vs, fp, rfl, rfl, upd_same, Rl.mono (fun v a f _ r => o.mono (Same.refl _) (fun q _ u e => upd_keep hp q u e) r) r1⟩ n1 f1 (Rl.dom (fun v a f r => o.dom r) r1)⟩
theorem ex_tu [Rp α] {m : M (List α)} {k} (h : EL X Γ es Ow.v m t) : EX X Γ (.Tuple es k pos) Ow.v (do let a ← m; let b ← lstM a; pure (Tu.mk b)) (tTup t) :=
  ⟨pe_tup h.pa, fun HF0 G HF H σ g c hc Q kk => by
    obtain ⟨x, e1, hc⟩ := bind_ok hc
    obtain ⟨y, e2, hc⟩ := bind_ok hc
    obtain ⟨u, e3, hd⟩ := bind_ok e2
    cases pure_ok hd
    cases pure_ok hc
    refine h.sem HF0 G HF H σ g _ e1 _ fun vs HF1 H1 fp s1 r1 n1 f1 => ⟨by rw [r1.len]; exact of_decide_eq_true (gd_ok e3), fun p hp => ?_⟩
    have hF : HF1 p = none := s1.sub.free hp
    refine kk (.ref p) (upd HF1 p (.tup vs)) (upd H1 p (.tup vs)) [] ⟨s1.exF.trans (same_upd hF), s1.exH.trans (same_upd hp), fun q u e => ?_, fun q u e1 e2 => ?_⟩ ⟨⟨p, vs, rfl, SqT.of upd_same, Fa.mono (fun v a r => Rp.mono (same_upd hF) r) r1.toFa.1⟩, rfl⟩ List.nodup_nil fun q hq => by cases hq
    · by_cases hq : q = p
      · subst hq; rw [upd_same] at e ⊢; exact e
      · rw [upd_ne hq] at e ⊢; exact s1.sub q u e
    · by_cases hq : q = p
      · subst hq; exact s1.exH.free hp
      · rw [upd_ne hq] at e1; exact s1.new q u e1 e2⟩
theorem ex_pair [Rp α] [Rp β] {o : Ow α} {u : Ow β} {m : M α} {n : M β} {k} (ha : EX X Γ a o m ta) (hb : EX X Γ b u n tb) (h1 : starEach [a, b] X.env = (false, eval a X.env) :: starEach [b] X.env := by rfl) (h2 : starEach [b] X.env = (false, eval b X.env) :: starEach [] X.env := by rfl) :
    EX X Γ (.Tuple [a, b] k pos) (Ow.p o u) (do let a ← m; let b ← n; pure (a, b)) (tTup (tCons ta (tCons tb tNil))) :=
  ⟨pe_tup (pa_cons ha.pe (pa_cons hb.pe pa_nil h2) h1), fun HF0 G HF H σ g c hc Q kk => by
    obtain ⟨x, e1, hc⟩ := bind_ok hc
    obtain ⟨y, e2, hc⟩ := bind_ok hc
    cases pure_ok hc
    refine ha.sem HF0 G HF H σ g x e1 _ fun v HF1 H1 fp s1 r1 n1 f1 => ?_
    refine hb.sem HF0 G HF1 H1 σ (g.step s1) y e2 _ fun w HF2 H2 fq s2 r2 n2 f2 => ⟨by show 2 ≤ sizeLine; decide, fun p hp => ?_⟩
    have dm := o.dom r1
    have du := u.dom r2
    have r1' : o.rep X.K HF2 H2 v x fp := o.mono s2.exF (fun p _ o e => s2.exH p o e) r1
    refine kk.obj (s1.trans s2) hp (fp := fp ++ fq) ⟨p, v, w, fp, fq, rfl, rfl, upd_same, o.mono (Same.refl _) (fun q _ u e => upd_keep hp q u e) r1', u.mono (Same.refl _) (fun q _ u e => upd_keep hp q u e) r2⟩ (List.nodup_append.mpr ⟨n1, n2, fun p hp q hq e => ?_⟩) (fun p hp => ?_) fun p hp => ?_
    · subst e
      obtain ⟨u, hu⟩ := dm p hp
      rw [(f2 p hq).1] at hu; cases hu
    · rcases List.mem_append.mp hp with hp | hp
      · refine ⟨(f1 p hp).1, ?_⟩
        cases q : HF2 p with
        | none => rfl
        | some u =>
          have := s2.new p u q (f1 p hp).2
          obtain ⟨u', hu⟩ := dm p hp
          rw [this] at hu; cases hu
      · exact ⟨s1.exH.free (f2 p hp).1, (f2 p hp).2⟩
    · rcases List.mem_append.mp hp with hp | hp
      · obtain ⟨u, hu⟩ := dm p hp
        exact ⟨u, s2.exH p u hu⟩
      · exact du p hp⟩
end
end Ty

namespace Ty
open PySem L2

theorem of_blt {i n : Nat} (h : Nat.blt i n = true) : i < n := Nat.le_of_ble_eq_true h
/-! ### targets -/
/-- from a thing a, its value v, at Γ: behind the target stands Γ'; only the slots js change -/
def SemG {α : Type} [Rp α] (K : PySem.W.Frag) (Γ : Ctx) (g : TG) (a : α) (Γ' : Ctx) (js : List Nat) : Prop :=
  ∀ HF0 G HF H σ v, Good K HF0 G Γ HF H σ → Rp.sh K HF v a → ∀ Q : L2.St → Hp → Prop, (∀ σ', Good K HF0 G Γ' HF H σ' → σ'.length = σ.length → (∀ k, k ∉ js → σ'[k]? = σ[k]?) → Q σ' H) → g v σ H Q
structure EG {α : Type} [Rp α] (X : Cx) (Γ : Ctx) (tg : Expr) (g : TG) (a : α) (Γ' : Ctx) (js : List Nat) : Prop where
  pg : PG X tg g
  sem : SemG X.K Γ g a Γ' js
theorem Good.putO {α : Type} [Rp α] {K : PySem.W.Frag} {HF0 G HF H : Hp} {Γ : Ctx} {σ : L2.St} {i : Nat} {v : V} {a : α} {o : Ow α} {f : List Addr} (g : Good K HF0 G Γ HF H σ) (hi : i < Γ.length) (r : o.rep K HF H v a f) (nd : f.Nodup) (fr : ∀ fs, Holds K HF H Γ σ fs → ∀ p ∈ f, (HF p = none ∧ G p = none) ∧ p ∉ fs) : Good K HF0 G (put Γ i (.mk o a)) HF H (σ.set i (some v)) := by
  obtain ⟨fs, h1, h2, h3⟩ := g.held
  obtain ⟨fo, fr', q1, q2, q3, q4⟩ := h1.put hi
  obtain ⟨n1, n2, n3⟩ := q3 h2
  obtain ⟨fs', w1, w2, w3⟩ := q4 (HF' := HF) (H' := H) (s := .mk o a) (x := some v) (f := f) (fun _ h => h) (fun _ h => h) ⟨v, rfl, r⟩
  refine ⟨g.sub, g.f0, g.g0, g.nf, fs', w1, w3 n1 nd fun p hp hq => (fr fs h1 p hp).2 ((q2 p).mpr (.inr hq)), fun p hp => ?_⟩
  rcases (w2 p).mp hp with z | z
  · exact (fr fs h1 p z).1
  · exact h3 p ((q2 p).mpr (.inr z))
theorem Good.putv {α : Type} [Rp α] {K : PySem.W.Frag} {HF0 G HF H : Hp} {Γ : Ctx} {σ : L2.St} {i : Nat} {v : V} {a : α} (g : Good K HF0 G Γ HF H σ) (hi : i < Γ.length) (r : Rp.sh K HF v a) : Good K HF0 G (put Γ i (.mk Ow.v a)) HF H (σ.set i (some v)) :=
  g.putO hi (o := Ow.v) ⟨r, rfl⟩ List.nodup_nil fun _ _ p hp => by cases hp
theorem Good.len {K : PySem.W.Frag} {HF0 G HF H : Hp} {Γ : Ctx} {σ : L2.St} (g : Good K HF0 G Γ HF H σ) : Γ.length = σ.length := by
  obtain ⟨fs, h1, _, _⟩ := g.held
  exact h1.len
section
variable {X : Cx} {Γ : Ctx} {α β γ A B : Type} {a b e : Expr} {es : List Expr} {pos p apos : Pos} {ta tb te : TE} {t : TA}
theorem eg_name [Rp α] (i : Nat) {x : Str} {a : α} (hN : X.N.Nodup) (hlt : Nat.blt i Γ.length = true := by rfl) (hi : X.N[i]? = some x := by rfl) (hx : Loc X.env.scope x := by first | exact .inl rfl | exact .inr rfl) (hf : X.fn x = true ∨ X.env.scope.names.lookup x = some .local := by first | exact .inl rfl | exact .inr rfl) : EG X Γ (.Name x pos) (gName i) a (put Γ i (.mk Ow.v a)) [i] :=
  ⟨pg_name hN hi hx hf, fun HF0 G HF H σ v g r Q k => k _ (g.putv (of_blt hlt) r) (by rw [List.length_set]) fun j hj => by
    rw [List.getElem?_set_ne]
    intro e; subst e; exact hj (by simp)⟩
theorem eg_pair {K : PySem.W.Frag} [Rp α] [Rp β] {Γ1 Γ2 : Ctx} {js ks : List Nat} {x y : Expr} {kk : Nat} {g1 g2 : TG} {u : α × β} (hc : X.calm = true) (h1 : EG X Γ x g1 u.1 Γ1 js) (h2 : EG X Γ1 y g2 u.2 Γ2 ks)
    (hs : (assignEach [y] X.env).map (fun x => x.2) = assign y X.env :: (assignEach [] X.env).map (fun x => x.2) := by rfl) (hs2 : (assignEach [x, y] X.env).map (fun x => x.2) = assign x X.env :: (assignEach [y] X.env).map (fun x => x.2) := by rfl)
    (hpg : PGs X [x, y] (gCons g1 (gCons g2 gNil)) → PG X (.Tuple [x, y] kk pos) (gTup X.K 2 (gCons g1 (gCons g2 gNil))) := by exact fun h => pg_tup (by first | rfl | assumption) h) (hK : X.K = K := by rfl) : EG X Γ (.Tuple [x, y] kk pos) (gTup K 2 (gCons g1 (gCons g2 gNil))) u Γ2 (js ++ ks) := by
  subst hK
  exact ⟨hpg (pgs_cons h1.pg (pgs_cons h2.pg pgs_nil hs) hs2), fun HF0 G HF H σ v g ⟨q, va, vb, e1, e2, e3, e4⟩ Q k => by
    refine ⟨q, [va, vb], e1, sqT_mono g.sub e2, rfl, va, [vb], rfl, ?_⟩
    refine h1.sem HF0 G HF H σ va g e3 _ fun σ1 G1 l1 s1 => ⟨vb, [], rfl, ?_⟩
    refine h2.sem HF0 G HF H σ1 vb G1 e4 _ fun σ2 G2 l2 s2 => ⟨rfl, ?_⟩
    exact k σ2 G2 (l2.trans l1) fun j hj => (s2 j fun z => hj (List.mem_append_right _ z)).trans (s1 j fun z => hj (List.mem_append_left _ z))⟩
/-! ### what is walked -/
def Walks {α : Type} [Rp α] (K : PySem.W.Frag) (J : It) (HF1 : Hp) (xs : List α) : Prop :=
  ∀ HF2 H2 i, Same HF1 HF2 → Same HF2 H2 → (∀ x, xs[i]? = some x → J.go i H2 ∧ ∀ v H3, J.yld i H2 v H3 → ∃ HF3, Step HF2 H2 HF3 H3 ∧ Rp.sh K HF3 v x) ∧ (xs.length ≤ i → J.stop i H2)
def SemI {α : Type} [Rp α] (K : PySem.W.Frag) (Γ : Ctx) (wi : TI) (m : M (List α)) : Prop :=
  ∀ HF0 G HF H σ, Good K HF0 G Γ HF H σ → ∀ xs, m = .ok xs → ∀ R : It → Hp → Prop, (∀ J HF' H', Step HF H HF' H' → Walks K J HF' xs → R J H') → wi σ H R
structure EI {α : Type} [Rp α] (X : Cx) (Γ : Ctx) (tg iter : Expr) (m : M (List α)) (wi : TI) : Prop where
  pi : PI X tg iter wi
  sem : SemI X.K Γ wi m
variable {tg : Expr}
theorem ei_list' [Rp α] {K : PySem.W.Frag} {HF2 H2 HF : Hp} {q : Addr} {us : List V} {xs : List α} {i : Nat} (h1 : SqL K H2 q us) (h2 : Fa (Rp.sh K HF) us xs) (s1 : Same HF HF2) (s2 : Same HF2 H2) : (∀ x, xs[i]? = some x → (Itl K q).go i H2 ∧ ∀ v H3, (Itl K q).yld i H2 v H3 → ∃ HF3, Step HF2 H2 HF3 H3 ∧ Rp.sh K HF3 v x) ∧ (xs.length ≤ i → (Itl K q).stop i H2) := by
  refine ⟨fun x hx => ?_, fun hle => ⟨us, h1, by rw [h2.len]; exact hle⟩⟩
  obtain ⟨v, hv, r⟩ := h2.get' hx
  refine ⟨⟨us, v, h1, hv⟩, fun w H3 ⟨e, y⟩ => ?_⟩
  subst e
  have : us[i]? = some w := y us h1
  rw [hv] at this
  cases this
  exact ⟨HF2, Step.refl s2, Rp.mono s1 r⟩
theorem ei_list {K : PySem.W.Frag} [Rp α] {m : M (List α)} (h : EX X Γ e Ow.v m te) (hK : X.K = K := by rfl) : EI X Γ tg e m (iList K te) := by
  subst hK
  exact ⟨pi_list h.pe, fun HF0 G HF H σ g xs hc R k => by
    refine h.sem HF0 G HF H σ g xs hc _ fun v HF1 H1 fp s1 r1 _ _ => ?_
    obtain ⟨⟨q, us, e, h1, h2⟩, _⟩ := r1
    exact ⟨q, e, ⟨us, SqL.of (s1.sub _ _ h1)⟩, k _ HF1 H1 s1 fun HF2 H2 i a b => ei_list' (SqL.of (b _ _ (a _ _ h1))) h2 a b⟩⟩
theorem ei_tu {K : PySem.W.Frag} [Rp α] {m : M (Tu α)} (h : EX X Γ e Ow.v m te) (hK : X.K = K := by rfl) : EI X Γ tg e (do let a ← m; pure a.l) (iTup K te) := by
  subst hK
  exact ⟨pi_tup h.pe, fun HF0 G HF H σ g xs hc R k => by
    obtain ⟨x, e1, hc⟩ := bind_ok hc
    cases pure_ok hc
    refine h.sem HF0 G HF H σ g x e1 _ fun v HF1 H1 fp s1 r1 _ _ => ?_
    obtain ⟨⟨q, us, e, h1, h2⟩, _⟩ := r1
    refine ⟨q, e, ⟨us, sqT_mono s1.sub h1⟩, k _ HF1 H1 s1 fun HF2 H2 i s1' s2 => ?_⟩
    have hq : SqT X.K H2 q us := sqT_mono s2 (sqT_mono s1' h1)
    refine ⟨fun x hx => ?_, fun hle => ⟨us, hq, by rw [h2.len]; exact hle⟩⟩
    obtain ⟨v, hv, r⟩ := h2.get' hx
    refine ⟨⟨us, v, hq, hv⟩, fun w H3 ⟨e, y⟩ => ?_⟩
    subst e
    have : us[i]? = some w := y us hq
    rw [hv] at this
    cases this
    exact ⟨HF2, Step.refl s2, Rp.mono s1' r⟩⟩
/-- lo, lo + 1, .. below hi -/
def rangeL (lo hi : Int) : List Int := (List.range (hi - lo).toNat).map fun (k : Nat) => lo + (k : Int)
theorem rangeL_len (lo hi : Int) : (rangeL lo hi).length = (hi - lo).toNat := by unfold rangeL; rw [List.length_map, List.length_range]
theorem rangeL_get {lo hi x : Int} {i : Nat} (h : (rangeL lo hi)[i]? = some x) : i < (hi - lo).toNat ∧ x = lo + i := by
  unfold rangeL at h
  rw [List.getElem?_map] at h
  cases q : (List.range (hi - lo).toNat)[i]? with
  | none => rw [q] at h; cases h
  | some j =>
    rw [q] at h
    obtain ⟨hlt, e⟩ := List.getElem?_eq_some_iff.mp q
    rw [List.getElem_range] at e
    rw [List.length_range] at hlt
    cases h
    subst e
    exact ⟨hlt, rfl⟩
theorem walks_range {K : PySem.W.Frag} {HF : Hp} (lo hi : Int) : Walks K (Itr lo (hi - lo).toNat) HF (rangeL lo hi) := fun HF2 H2 i s1 s2 => by
  refine ⟨fun x hx => ?_, fun hle => by rw [rangeL_len] at hle; exact hle⟩
  obtain ⟨h1, h2⟩ := rangeL_get hx
  refine ⟨h1, fun v H3 ⟨e, y⟩ => ?_⟩
  subst e
  exact ⟨HF2, Step.refl s2, by rw [y, h2]; rfl⟩
def rgB (j : Int) : Bool := decide (-(2 ^ 62) ≤ j) && decide (j < 2 ^ 62)
def range1 (j : Int) : M (List Int) := do gd (rgB j); pure (rangeL 0 j)
theorem ei_range1 {m : M Int} (hm : X.mg "range" = none) (h : EX X Γ a Ow.v m ta) (hg : Gl X "range" := by rfl) (hs : starEach [a] X.env = [(false, eval a X.env)] := by rfl) : EI X Γ tg (.Call (.Name "range" p) [a] [] pos) (do let a ← m; range1 a) (iRng1 (tCons ta tNil)) :=
  ⟨pi_range1 hg hm (pa_cons h.pe pa_nil (by exact hs)) hs, fun HF0 G HF H σ g xs hc R k => by
    obtain ⟨x, e1, hc⟩ := bind_ok hc
    obtain ⟨u, e2, hc⟩ := bind_ok hc
    cases pure_ok hc
    have e3 := gd_ok e2
    unfold rgB at e3
    rw [Bool.and_eq_true, decide_eq_true_eq, decide_eq_true_eq] at e3
    refine h.sem HF0 G HF H σ g x e1 _ fun v HF1 H1 fp s1 r1 _ _ => ⟨x, by rw [Fl.sh_iff.mp r1.1]; rfl, e3.1, e3.2, ?_⟩
    have w := walks_range (K := X.K) (HF := HF1) 0 x
    rw [Int.sub_zero] at w
    exact k _ HF1 H1 s1 w⟩
theorem ei_str {m : M Str} (h : EX X Γ e Ow.v m te) : EI X Γ tg e (do let a ← m; pure (a.cps.toList.map sgS)) (iStr te) :=
  ⟨pi_str h.pe, fun HF0 G HF H σ g xs hc R k => by
    obtain ⟨x, e1, hc⟩ := bind_ok hc
    cases pure_ok hc
    refine h.sem HF0 G HF H σ g x e1 _ fun v HF1 H1 fp s1 r1 _ _ => ⟨x, Fl.sh_iff.mp r1.1, k _ HF1 H1 s1 fun HF2 H2 i a b => ⟨fun y hy => ?_, fun hle => (by show x.cps.size ≤ i; simpa using hle)⟩⟩
    rw [List.getElem?_map] at hy
    cases q : x.cps.toList[i]? with
    | none => rw [q] at hy; cases hy
    | some c =>
      rw [q] at hy
      cases hy
      have q' : x.cps[i]? = some c := by simpa using q
      refine ⟨(Array.getElem?_eq_some_iff.mp q').1, fun w H3 ⟨e, d, hd, hw⟩ => ?_⟩
      subst e
      rw [q'] at hd
      cases hd
      exact ⟨HF2, Step.refl b, by rw [hw]; rfl⟩⟩
/-- a new tuple, shared at once -/
theorem Step.shr {HF H : Hp} {p : Addr} {o : HO} (s : Same HF H) (h : H p = none) : Step HF H (upd HF p o) (upd H p o) := by
  have hF : HF p = none := s.free h
  refine ⟨same_upd hF, same_upd h, fun q u e => ?_, fun q u e1 e2 => ?_⟩
  · by_cases hq : q = p
    · subst hq; rw [upd_same] at e ⊢; exact e
    · rw [upd_ne hq] at e ⊢; exact s q u e
  · by_cases hq : q = p
    · subst hq; exact h
    · rw [upd_ne hq] at e1; rw [e2] at e1; cases e1
def enumL {α : Type} (xs : List α) : List (Int × α) := (xs.zipIdx).map fun x => ((x.2 : Int), x.1)
theorem enumL_get {α : Type} {xs : List α} {i : Nat} {x : Int × α} (h : (enumL xs)[i]? = some x) : x.1 = i ∧ xs[i]? = some x.2 := by
  unfold enumL at h
  rw [List.getElem?_map, List.getElem?_zipIdx] at h
  cases q : xs[i]? with
  | none => rw [q] at h; cases h
  | some y =>
    rw [q] at h
    cases h
    exact ⟨by simp, rfl⟩
theorem enumL_len {α : Type} (xs : List α) : (enumL xs).length = xs.length := by unfold enumL; rw [List.length_map, List.length_zipIdx]
theorem ei_enum {K : PySem.W.Frag} [Rp α] {m : M (List α)} {elts : List Expr} {kk : Nat} {tpos : Pos} (hm : X.mg "enumerate" = none) (h : EX X Γ e Ow.v m te) (hg : Gl X "enumerate" := by rfl) (hs : starEach [e] X.env = [(false, eval e X.env)] := by rfl) (hK : X.K = K := by rfl) : EI X Γ (.Tuple elts kk tpos) (.Call (.Name "enumerate" p) [e] [] pos) (do let a ← m; pure (enumL a)) (iEnum K (tCons te tNil)) := by
  subst hK
  exact ⟨pi_enum hg hm (pa_cons h.pe pa_nil (by exact hs)) hs, fun HF0 G HF H σ g xs hc R k => by
    obtain ⟨x, e1, hc⟩ := bind_ok hc
    cases pure_ok hc
    refine h.sem HF0 G HF H σ g x e1 _ fun v HF1 H1 fp s1 r1 _ _ => ?_
    obtain ⟨⟨q, us, e, h1, h2⟩, _⟩ := r1
    subst e
    refine ⟨q, us, rfl, SqL.of (s1.sub _ _ h1), k _ HF1 H1 s1 fun HF2 H2 i a b => ?_⟩
    have hq : SqL X.K H2 q us := SqL.of (b _ _ (a _ _ h1))
    refine ⟨fun y hy => ?_, fun hle => ⟨us, hq, by rw [enumL_len] at hle; rw [h2.len]; exact hle⟩⟩
    obtain ⟨hy1, hy2⟩ := enumL_get hy
    obtain ⟨v, hv, r⟩ := h2.get' hy2
    refine ⟨⟨us, v, hq, hv⟩, fun w H3 ⟨T, z, e, hT, eH, y⟩ => ?_⟩
    subst e eH
    have : us[i]? = some z := y us hq
    rw [hv] at this
    cases this
    have st := Step.shr (o := .tup [.int (i : Nat), v]) b hT
    exact ⟨_, st, T, .int (i : Nat), v, rfl, SqT.of upd_same, by rw [hy1]; rfl, Rp.mono (a.trans st.exF) r⟩⟩
/-! ### list comprehensions -/
def compL {α β : Type} (t : α → M Bool) (f : α → M β) : List α → M (List β)
  | [] => pure []
  | x :: xs => do
    let b ← t x
    if b then do
      let y ← f x
      let ys ← compL t f xs
      pure (y :: ys)
    else compL t f xs
def compM {α β : Type} (xs : List α) (t : α → M Bool) (f : α → M β) : M (List β) := do gd (decide (xs.length ≤ sizeLine)); compL t f xs
def wipeC (Γ : Ctx) : List Nat → Ctx
  | [] => Γ
  | v :: vs => put (wipeC Γ vs) v .un
theorem Good.un {K : PySem.W.Frag} {HF0 G HF H : Hp} {Γ : Ctx} {σ : L2.St} (g : Good K HF0 G Γ HF H σ) (i : Nat) (x : Option V) (hi : i < Γ.length) : Good K HF0 G (put Γ i .un) HF H (σ.set i x) := by
  obtain ⟨fs, h1, h2, h3⟩ := g.held
  obtain ⟨fo, fr', q1, q2, q3, q4⟩ := h1.put hi
  obtain ⟨n1, n2, n3⟩ := q3 h2
  obtain ⟨fs', w1, w2, w3⟩ := q4 (HF' := HF) (H' := H) (s := .un) (x := x) (f := []) (fun _ h => h) (fun _ h => h) rfl
  exact ⟨g.sub, g.f0, g.g0, g.nf, fs', w1, w3 n1 List.nodup_nil (fun p hp => by cases hp), fun p hp => by
    rcases (w2 p).mp hp with z | z
    · cases z
    · exact h3 p ((q2 p).mpr (.inr z))⟩
theorem put_len : ∀ (Γ : Ctx) (i : Nat) (s : Sl), (put Γ i s).length = Γ.length
  | [], _, _ => rfl
  | _ :: _, 0, _ => rfl
  | _ :: Γ, i + 1, s => congrArg (· + 1) (put_len Γ i s)
theorem wipeC_len (Γ : Ctx) : ∀ vs : List Nat, (wipeC Γ vs).length = Γ.length
  | [] => rfl
  | v :: vs => by unfold wipeC; rw [put_len, wipeC_len Γ vs]
theorem Good.wipe {K : PySem.W.Frag} {HF0 G HF H : Hp} {Γ : Ctx} {σ : L2.St} (g : Good K HF0 G Γ HF H σ) : ∀ vs : List Nat, (∀ i ∈ vs, i < Γ.length) → Good K HF0 G (wipeC Γ vs) HF H (wipe σ vs)
  | [], _ => g
  | v :: vs, h => (Good.wipe g vs fun i hi => h i (List.mem_cons_of_mem _ hi)).un v none (by rw [wipeC_len]; exact h v (List.mem_cons_self ..))
theorem wipe_out' {σ : L2.St} {i : Nat} : ∀ {vs : List Nat}, i ∉ vs → (L2.wipe σ vs)[i]? = σ[i]?
  | [], _ => rfl
  | v :: vs, h => by
    unfold L2.wipe
    rw [List.getElem?_set_ne (fun e => h (by rw [e]; exact List.mem_cons_self ..))]
    exact wipe_out' fun z => h (List.mem_cons_of_mem _ z)
theorem wipe_in {σ : L2.St} {i : Nat} : ∀ {vs : List Nat}, i ∈ vs → i < σ.length → (L2.wipe σ vs)[i]? = some none
  | v :: vs, h, hl => by
    unfold L2.wipe
    by_cases e : v = i
    · subst e
      rw [List.getElem?_set_self (by rw [L2.wipe_length]; exact hl)]
    · rw [List.getElem?_set_ne e]
      exact wipe_in ((List.mem_cons.mp h).resolve_left fun z => e z.symm) hl
theorem wipe_ext {σ σ' : L2.St} {vs : List Nat} (hl : σ'.length = σ.length) (h : ∀ k, k ∉ vs → σ'[k]? = σ[k]?) : L2.wipe σ' vs = L2.wipe σ vs := by
  apply List.ext_getElem?
  intro i
  by_cases hi : i ∈ vs
  · by_cases hlt : i < σ.length
    · rw [wipe_in hi hlt, wipe_in hi (by rw [hl]; exact hlt)]
    · rw [List.getElem?_eq_none (by rw [L2.wipe_length]; omega), List.getElem?_eq_none (by rw [L2.wipe_length]; omega)]
  · rw [wipe_out' hi, wipe_out' hi, h i hi]
structure EF (X : Cx) (Γ : Ctx) (ifs : List Expr) (m : M Bool) (t : TT) : Prop where
  pts : PTs X ifs t
  sem : SemT X.K Γ t m
theorem ef_nil : EF X Γ [] (pure true) tYes := ⟨pts_nil, fun HF0 G HF H σ g c hc Q k => by cases pure_ok hc; exact k HF H (Step.refl g.sub)⟩
theorem ef_one {c : Expr} {m : M Bool} {t : TT} (h : ET X Γ c m t) : EF X Γ [c] m t := ⟨pts_one h.pt, h.sem⟩
/-- behind some turns: the items made, what is left -/
structure Cmp {α β : Type} [Rp α] [Rp β] (K : PySem.W.Frag) (HF1 H1 : Hp) (o : Ow β) (D : Addr) (tm : α → M Bool) (fm : α → M β) (xs : List α) (ys : List β) (i : Nat) (HF H : Hp) : Prop where
  st : Step HF1 H1 HF H
  fD : H1 D = none
  fF : HF D = none
  ex : ∃ vs fp zs rs, H D = some (.lst vs) ∧ Rl (o.rep K HF H) vs zs fp ∧ fp.Nodup ∧ (∀ p ∈ fp, H1 p = none ∧ HF p = none ∧ p ≠ D) ∧ zs.length ≤ i ∧ i ≤ xs.length ∧ compL tm fm (xs.drop i) = .ok rs ∧ zs ++ rs = ys
theorem Step.nn {HF1 H1 HF H : Hp} (s : Step HF1 H1 HF H) {p : Addr} {u : HO} (h : HF1 p = none) (e : H1 p = some u) : HF p = none := by
  cases q : HF p with
  | none => rfl
  | some w =>
    have := s.new p w q h
    rw [e] at this; cases this
theorem Rl.upd {α : Type} [Rp α] {K : PySem.W.Frag} {o : Ow α} {HF H : Hp} {vs : List V} {as : List α} {fp : List Addr} {p : Addr} {u : HO} (h : Rl (o.rep K HF H) vs as fp) (hp : p ∉ fp) : Rl (o.rep K HF (upd H p u)) vs as fp :=
  Rl.mono (fun v a f hf r => o.mono (Same.refl _) (fun q hq w e => by rw [upd_ne (fun z => hp (by rw [← z]; exact hf q hq))]; exact e) r) h
theorem Step.mutD {HF1 H1 HF H : Hp} {D : Addr} {u : HO} (s : Step HF1 H1 HF H) (h : H1 D = none) (hF : HF D = none) : Step HF1 H1 HF (upd H D u) :=
  ⟨s.exF, fun q w e => by rw [upd_ne (ne_of_none e h)]; exact s.exH q w e, fun q w e => by rw [upd_ne (ne_of_none e hF)]; exact s.sub q w e, s.new⟩
theorem ex_lc [Rp α] [Rp β] [Inhabited α] {o : Ow β} {elt iter : Expr} {ifs : List Expr} {scope : Scope} {own : List (Str × Nat)} {wi : TI} {g : TG} {tt : TT} {m : M (List α)} {tm : α → M Bool} {fm : α → M β} {Γt : α → Ctx} {js : List Nat} (hc : X.calm = true) (hN : X.N.Nodup)
    (hi : EI X Γ tg iter m wi) (ok : blkC X.N X.env.scope scope own = true) (hown : (own.map (·.2)).all (fun i => decide (i < Γ.length)) = true) (hjs : js.all (fun i => (own.map (·.2)).contains i) = true)
    (hg : ∀ (s : Shared) (H : Hp) (C : Addr) (cl : List (Str × Addr)) (fp : List Addr) (x : α), EG (X.blk s H scope (compEnvC scope cl C X.env) fp) (wipeC Γ (own.map (·.2))) tg g x (Γt x) js)
    (ht : ∀ (s : Shared) (H : Hp) (C : Addr) (cl : List (Str × Addr)) (fp : List Addr) (x : α), EF (X.blk s H scope (compEnvC scope cl C X.env) fp) (Γt x) ifs (tm x) tt)
    (he : ∀ (s : Shared) (H : Hp) (C : Addr) (cl : List (Str × Addr)) (fp : List Addr) (x : α), EX (X.blk s H scope (compEnvC scope cl C X.env) fp) (Γt x) elt o (fm x) te)
    (hs : ∀ x, foldedSetIterable iter X.env x = pure x := by intro _; rfl) :
    EX X Γ (.ListComp elt [⟨tg, iter, ifs, 0⟩] scope pos) (Ow.l o) (do let xs ← m; compM xs tm fm) (tLc wi g tt te (own.map (·.2))) :=
  ⟨pe_lc hc hN hi.pi (blkOk_by ok) (fun s H C cl fp => (hg s H C cl fp default).pg) (fun s H C cl fp => (ht s H C cl fp default).pts) (fun s H C cl fp => (he s H C cl fp default).pe) hs, fun HF0 G HF H σ gd' ys hys Q k => by
    obtain ⟨xs, e1, hys⟩ := bind_ok hys
    obtain ⟨u, e2, hys⟩ := bind_ok hys
    have hsz : xs.length ≤ sizeLine := of_decide_eq_true (gd_ok e2)
    have hown' : ∀ i ∈ own.map (·.2), i < Γ.length := fun i hi' => of_decide_eq_true (List.all_eq_true.mp hown i hi')
    have hjs' : ∀ k, k ∉ own.map (·.2) → k ∉ js := fun k hk z => hk (by simpa using List.all_eq_true.mp hjs k z)
    refine hi.sem HF0 G HF H σ gd' xs e1 _ fun J HF1 H1 s1 wk D hD => ?_
    have g1 := gd'.step s1
    refine ⟨fun i n H2 => n = xs.length - i ∧ ∃ HF2, Cmp X.K HF1 H1 o D tm fm xs ys i HF2 H2, ⟨xs.length, rfl, HF1, ?_⟩, ?_⟩
    · exact ⟨Step.own s1.sub hD, hD, s1.sub.free hD, [], [], [], ys, upd_same, rfl, List.nodup_nil, (fun p hp => by cases hp), Nat.le_refl _, Nat.zero_le _, hys, rfl⟩
    · rintro i n H2 ⟨rfl, HF2, st, fD, fF, vs, fp, zs, rs, eD, rl, nd, fr, hz, hix, hrs, hzr⟩
      have g2 := g1.step st
      have wk2 := wk HF2 H2 i st.exF st.sub
      have rdom := Rl.dom (fun v a f r => o.dom r) rl
      by_cases hlt : i < xs.length
      · refine .inr ?_
        have hx : xs[i]? = some xs[i] := List.getElem?_eq_getElem hlt
        obtain ⟨hgo, hy⟩ := wk2.1 _ hx
        rw [List.drop_eq_getElem_cons hlt] at hrs
        obtain ⟨b, eb, hrs⟩ := bind_ok hrs
        refine ⟨hgo, fun H' => ∃ HF', Cmp X.K HF1 H1 o D tm fm xs ys (i + 1) HF' H', fun H' h' => ⟨xs.length - (i + 1), by omega, rfl, h'⟩, fun x H3 hyl => ?_⟩
        obtain ⟨HF3, s3, rx⟩ := hy x H3 hyl
        have g3 := (g2.step s3).wipe (own.map (·.2)) hown'
        have hsem := (hg X.s_0 X.H_0 0 [] [] xs[i]).sem
        refine hsem HF0 G HF3 H3 (L2.wipe σ (own.map (·.2))) x g3 rx _ ?_
        intro σ' g4 hl hsame
        refine ⟨?_, ?_⟩
        · rw [wipe_ext (σ := L2.wipe σ (own.map (·.2))) hl fun k hk => hsame k (hjs' k hk)]
          exact wipe_ext (L2.wipe_length _ _) fun k hk => wipe_out' hk
        · have htsem := (ht X.s_0 X.H_0 0 [] [] xs[i]).sem
          refine htsem HF0 G HF3 H3 σ' g4 b eb _ fun HF4 H4 s4 => ?_
          have s34 := s3.trans s4
          have sT := st.trans s34
          cases b with
          | false =>
            refine iteF ⟨HF4, sT, fD, s34.nn fF eD, vs, fp, zs, rs, s34.exH _ _ eD, rl.step s34, nd, fun p hp => ?_, by omega, hlt, hrs, hzr⟩
            obtain ⟨f1, f2, f3⟩ := fr p hp
            obtain ⟨w, hw⟩ := rdom p hp
            exact ⟨f1, s34.nn f2 hw, f3⟩
          | true =>
            obtain ⟨y, ey, hrs⟩ := bind_ok hrs
            obtain ⟨rs', ers, hrs⟩ := bind_ok hrs
            have hr := pure_ok hrs
            have hesem := (he X.s_0 X.H_0 0 [] [] xs[i]).sem
            refine iteT (hesem HF0 G HF4 H4 σ' (g4.step s4) y ey _ fun v HF5 H5 fq s5 r5 n5 f5 => ?_)
            have s35 := s34.trans s5
            have sT5 := st.trans s35
            have eD5 := s35.exH _ _ eD
            have hDF : HF5 D = none := s35.nn fF eD
            have rl5 := rl.step s35
            have hDp : D ∉ fp := fun z => (fr D z).2.2 rfl
            have hDq : D ∉ fq := fun z => by
              have := (f5 D z).1
              rw [s34.exH _ _ eD] at this; cases this
            refine ⟨vs, eD5, ?_, HF5, sT5.mutD fD hDF, fD, hDF, vs ++ [v], fp ++ fq, zs ++ [y], rs', upd_same, ?_, ?_, fun p hp => ?_, ?_, hlt, ers, ?_⟩
            · rw [rl.len]; exact Nat.lt_of_le_of_lt hz (Nat.lt_of_lt_of_le hlt hsz)
            · exact Rl.append (rl5.upd hDp) (Rl.one (o.mono (Same.refl _) (fun q hq w e => by rw [upd_ne (fun z => hDq (by rw [← z]; exact hq))]; exact e) r5))
            · refine List.nodup_append.mpr ⟨nd, n5, fun p hp q hq e => ?_⟩
              subst e
              obtain ⟨w, hw⟩ := rdom p hp
              have := (f5 p hq).1
              rw [s34.exH _ _ hw] at this; cases this
            · rcases List.mem_append.mp hp with z | z
              · obtain ⟨f1, f2, f3⟩ := fr p z
                obtain ⟨w, hw⟩ := rdom p z
                exact ⟨f1, s35.nn f2 hw, f3⟩
              · exact ⟨(st.trans s34).exH.free (f5 p z).1, (f5 p z).2, fun e => hDq (e ▸ z)⟩
            · rw [List.length_append]; exact Nat.succ_le_succ hz
            · rw [List.append_assoc, ← hzr, ← hr]; rfl
      · refine .inl ⟨wk2.2 (by omega), ?_⟩
        have hnil : xs.drop i = [] := List.drop_eq_nil_of_le (by omega)
        rw [hnil] at hrs
        have hr := pure_ok hrs
        rw [← hr, List.append_nil] at hzr
        subst hzr
        exact k (.ref D) HF2 H2 (D :: fp) (s1.trans st) ⟨D, vs, fp, rfl, rfl, eD, rl⟩ (List.nodup_cons.mpr ⟨fun z => (fr D z).2.2 rfl, nd⟩) fun p hp => by
          rcases List.mem_cons.mp hp with e | z
          · subst e; exact ⟨s1.exH.free fD, fF⟩
          · exact ⟨s1.exH.free (fr p z).1, (fr p z).2.1⟩⟩
end
end Ty

namespace Ty
open PySem PySem.Spec PyProof.Rows L2

/-! ### statements -/
inductive Ctl (S L ρ : Type) where
  | nx (s : S)
  | bk (l : L)
  | ct (l : L)
  | rt (r : ρ)
/-- what is wanted of a block's ends: HFs: what was shared ahead of it -/
def EndsOk {S L ρ : Type} [Rp ρ] (K : PySem.W.Frag) (HF0 G HFs : Hp) (Γo : S → Ctx) (ΓL : L → Ctx) (o : Ow ρ) (D : Ends) : Ctl S L ρ → Prop
  | .nx s => ∀ HF H σ, Same HFs HF → Good K HF0 G (Γo s) HF H σ → D.nx σ H
  | .bk s => ∀ HF H σ, Same HFs HF → Good K HF0 G (ΓL s) HF H σ → D.bk σ H
  | .ct s => ∀ HF H σ, Same HFs HF → Good K HF0 G (ΓL s) HF H σ → D.ct σ H
  | .rt r => ∀ v HF H fp, Same HF H → Same HF0 HF → Same G H → (∀ p u, HF p = some u → HF0 p = none → G p = none) → o.rep K HF H v r fp → fp.Nodup → (∀ p ∈ fp, HF p = none ∧ G p = none) → o.out r D.rt v H
theorem EndsOk.mono {S L ρ : Type} [Rp ρ] {K : PySem.W.Frag} {HF0 G HFs HFt : Hp} {Γo : S → Ctx} {ΓL : L → Ctx} {o : Ow ρ} {D : Ends} {c : Ctl S L ρ} (e : Same HFs HFt) (h : EndsOk K HF0 G HFs Γo ΓL o D c) : EndsOk K HF0 G HFt Γo ΓL o D c := by
  cases c with
  | nx s => exact fun HF H σ a b => h HF H σ (e.trans a) b
  | bk s => exact fun HF H σ a b => h HF H σ (e.trans a) b
  | ct s => exact fun HF H σ a b => h HF H σ (e.trans a) b
  | rt r => exact h
def SemS {S L ρ : Type} [Rp ρ] (K : PySem.W.Frag) (Γ : Ctx) (t : TS) (Γo : S → Ctx) (ΓL : L → Ctx) (o : Ow ρ) (m : M (Ctl S L ρ)) : Prop :=
  ∀ HF0 G HF H σ, Good K HF0 G Γ HF H σ → ∀ c, m = .ok c → ∀ D : Ends, EndsOk K HF0 G HF Γo ΓL o D c → t D σ H
structure SS {S L ρ : Type} [Rp ρ] (X : Cx) (Γ : Ctx) (sts : List Stmt) (Γo : S → Ctx) (ΓL : L → Ctx) (o : Ow ρ) (m : M (Ctl S L ρ)) (t : TS) : Prop where
  pss : PSs X sts t
  sem : SemS X.K Γ t Γo ΓL o m
/-- Δ knows no more than Γ -/
inductive Sub : Ctx → Ctx → Prop where
  | n : Sub [] []
  | k {s : Sl} {Γ Δ : Ctx} : Sub Γ Δ → Sub (s :: Γ) (s :: Δ)
  | w {s : Sl} {Γ Δ : Ctx} : Sub Γ Δ → Sub (s :: Γ) (.un :: Δ)
theorem Sub.held {K : PySem.W.Frag} {HF H : Hp} {Γ Δ : Ctx} (h : Sub Γ Δ) : ∀ {σ : L2.St} {fs : List Addr}, Holds K HF H Γ σ fs → ∃ gs, Holds K HF H Δ σ gs ∧ (∀ p ∈ gs, p ∈ fs) ∧ (fs.Nodup → gs.Nodup) := by
  induction h with
  | n => exact fun {σ fs} h => ⟨fs, h, fun _ h => h, fun h => h⟩
  | @k s Γ Δ _ ih =>
    intro σ fs h
    cases σ with
    | nil => exact h.elim
    | cons x σ =>
      obtain ⟨f1, f2, h1, h2, h3⟩ := h
      obtain ⟨gs, q1, q2, q3⟩ := ih h3
      refine ⟨f1 ++ gs, ⟨f1, gs, rfl, h2, q1⟩, fun p hp => ?_, fun nd => ?_⟩
      · rw [h1]
        rcases List.mem_append.mp hp with z | z
        · exact List.mem_append_left _ z
        · exact List.mem_append_right _ (q2 p z)
      · rw [h1] at nd
        obtain ⟨a, b, c⟩ := List.nodup_append.mp nd
        exact List.nodup_append.mpr ⟨a, q3 b, fun p hp q hq e => c p hp q (q2 q hq) e⟩
  | @w s Γ Δ _ ih =>
    intro σ fs h
    cases σ with
    | nil => exact h.elim
    | cons x σ =>
      obtain ⟨f1, f2, h1, h2, h3⟩ := h
      obtain ⟨gs, q1, q2, q3⟩ := ih h3
      refine ⟨gs, ⟨[], gs, rfl, rfl, q1⟩, fun p hp => by rw [h1]; exact List.mem_append_right _ (q2 p hp), fun nd => ?_⟩
      rw [h1] at nd
      exact q3 (List.nodup_append.mp nd).2.1
theorem Sub.good {K : PySem.W.Frag} {HF0 G HF H : Hp} {Γ Δ : Ctx} {σ : L2.St} (h : Sub Γ Δ) (g : Good K HF0 G Γ HF H σ) : Good K HF0 G Δ HF H σ := by
  obtain ⟨fs, h1, h2, h3⟩ := g.held
  obtain ⟨gs, q1, q2, q3⟩ := h.held h1
  exact ⟨g.sub, g.f0, g.g0, g.nf, gs, q1, q3 h2, fun p hp => h3 p (q2 p hp)⟩
section
variable {X : Cx} {Γ : Ctx} {S L ρ α β γ A B S' : Type} [Rp ρ] {o : Ow ρ} {Γo : S → Ctx} {ΓL : L → Ctx} {a b e : Expr} {es : List Expr} {pos p apos : Pos} {ta tb te : TE} {t : TA} {sts : List Stmt} {tr tr' : TS}
theorem ss_nil (s : S) (h : Sub Γ (Γo s)) : SS X Γ [] Γo ΓL o (pure (.nx s)) tNext := ⟨pss_nil, fun HF0 G HF H σ g c hc D k => by cases pure_ok hc; exact k HF H σ (Same.refl _) (h.good g)⟩
theorem ss_ret {m : M ρ} (h : EX X Γ e o m te) (ho : ∀ r R v H, o.out r R v H → R v H := by exact fun _ _ _ _ h => h) : SS X Γ [.Return (some e) pos] Γo ΓL o (do let r ← m; pure (.rt r)) (tRet te) :=
  ⟨pss_one (ps_ret h.pe), fun HF0 G HF H σ g c hc D k => by
    obtain ⟨r, e1, hc⟩ := bind_ok hc
    cases pure_ok hc
    refine h.sem HF0 G HF H σ g r e1 _ fun v HF' H' fp st rr n f => ?_
    have g' := g.step st
    exact ho _ _ _ _ <| k v HF' H' fp st.sub g'.f0 g'.g0 g'.nf rr n fun p hp => ⟨(f p hp).2, g.g0.free (f p hp).1⟩⟩
/-- an own thing handed back -/
theorem ss_retO (i : Nat) {r : ρ} {x : Str} {pos' : Pos} (hl : look Γ i = .mk o r := by rfl) (hN : X.N[i]? = some x := by rfl) (hv : Vis X.env.scope x := by first | exact Or.inl rfl | exact Or.inr (Or.inl rfl) | exact Or.inr (Or.inr rfl)) (hd : (x == ("__debug__" : Str)) = false := by decide)
    (hcd : (x == ("__classdict__" : Str)) = false := by decide) (ho : ∀ r R v H, o.out r R v H → R v H := by exact fun _ _ _ _ h => h) : SS X Γ [.Return (some (.Name x pos')) pos] Γo ΓL o (pure (.rt r)) (tRet (tVar i)) :=
  ⟨pss_one (ps_ret (pe_var hN hv hd hcd)), fun HF0 G HF H σ g c hc D k => by
    cases pure_ok hc
    obtain ⟨fs, h1, h2, h3⟩ := g.held
    have hi : i < Γ.length := by
      by_cases z : i < Γ.length
      · exact z
      · exfalso
        have q : ∀ (Γ : Ctx) (i : Nat), ¬ i < Γ.length → look Γ i = .un := fun Γ => by
          induction Γ with
          | nil => intro i _; rfl
          | cons s Γ ih =>
            intro i h
            cases i with
            | zero => exact absurd (Nat.zero_lt_succ _) h
            | succ i => exact ih i fun z => h (Nat.succ_lt_succ z)
        rw [q Γ i z] at hl
        cases hl
    obtain ⟨fo, fr', q1, q2, q3, q4⟩ := h1.put hi
    rw [hl] at q1
    obtain ⟨v, e1, r1⟩ := q1
    refine ⟨v, ?_, ho _ _ _ _ <| k v HF H fo g.sub g.f0 g.g0 g.nf r1 (q3 h2).2.1 fun p hp => h3 p ((q2 p).mpr (.inl hp))⟩
    have hlen := h1.len
    rw [List.getElem?_eq_getElem (by omega)]
    rw [List.getD_eq_getElem?_getD, List.getElem?_eq_getElem (by omega)] at e1
    exact congrArg some e1⟩
theorem Good.set {K : PySem.W.Frag} {HF0 G HF H HF' H' : Hp} {σ : L2.St} {i : Nat} {v : V} [Rp α] {a : α} {u : Ow α} {fp : List Addr} (g : Good K HF0 G Γ HF H σ) (hi : i < Γ.length) (st : Step HF H HF' H') (r : u.rep K HF' H' v a fp) (n : fp.Nodup) (f : ∀ p ∈ fp, H p = none ∧ HF' p = none) : Good K HF0 G (put Γ i (.mk u a)) HF' H' (σ.set i (some v)) := by
  obtain ⟨fs, h1, h2, h3⟩ := g.held
  have g' := g.step st
  obtain ⟨fo, fr', q1, q2, q3, q4⟩ := h1.put hi
  obtain ⟨n1, n2, n3⟩ := q3 h2
  obtain ⟨fs', w1, w2, w3⟩ := q4 (HF' := HF') (H' := H') (s := .mk u a) (x := some v) (f := fp) (fun _ h => h.mono st.exF fun p _ o e => st.exH p o e) (fun _ h => h.mono st.exF fun p _ o e => st.exH p o e) ⟨v, rfl, r⟩
  refine ⟨g'.sub, g'.f0, g'.g0, g'.nf, fs', w1, w3 n1 n fun p hp hq => ?_, fun p hp => ?_⟩
  · obtain ⟨w, hw⟩ := h1.dom p ((q2 p).mpr (.inr hq))
    rw [(f p hp).1] at hw; cases hw
  · rcases (w2 p).mp hp with z | z
    · exact ⟨(f p z).2, g.g0.free (f p z).1⟩
    · obtain ⟨w, hw⟩ := h1.dom p ((q2 p).mpr (.inr z))
      exact ⟨st.nn (h3 p ((q2 p).mpr (.inr z))).1 hw, (h3 p ((q2 p).mpr (.inr z))).2⟩
/-- x = e -/
theorem ss_asg [Rp α] [Inhabited α] (i : Nat) {x : Str} {u : Ow α} {m : M α} {k : α → M (Ctl S L ρ)} {pos' : Pos} (hN : X.N.Nodup) (he : EX X Γ e u m te) (hr : ∀ a, SS X (put Γ i (.mk u a)) sts Γo ΓL o (k a) tr) (hlt : Nat.blt i Γ.length = true := by rfl) (hi : X.N[i]? = some x := by rfl) (hx : Loc X.env.scope x := by first | exact .inl rfl | exact .inr rfl)
    (hs : swapsWith e (some (.Name x pos')) pos.line X.env = pure false := by rfl) (hf : X.fn x = true ∨ X.env.scope.names.lookup x = some .local := by first | exact .inl rfl | exact .inr rfl) : SS X Γ (.Assign [.Name x pos'] e pos :: sts) Γo ΓL o (do let a ← m; k a) (tSeq (tAsg te (gName i)) tr) :=
  ⟨pss_cons (ps_set hN hi hx he.pe hs hf) (hr default).pss, fun HF0 G HF H σ g c hc D kk => by
    obtain ⟨y, e1, hc⟩ := bind_ok hc
    refine he.sem HF0 G HF H σ g y e1 _ fun v HF' H' fp st r n f => ?_
    exact (hr y).sem HF0 G HF' H' _ (g.set (of_blt hlt) st r n f) c hc D (kk.mono st.exF)⟩
/-- x = [..], x a local: the text's own way of storing -/
theorem ss_asgLc [Rp α] [Rp β] [Inhabited α] {o' : Ow β} (i : Nat) {y : Str} {py : Pos} {elt tg iter : Expr} {ifs : List Expr} {scope : Scope} {own : List (Str × Nat)} {wi : TI} {g : TG} {tt : TT} {m : M (List α)} {tm : α → M Bool} {fm : α → M β} {Γt : α → Ctx} {js : List Nat} {k : List β → M (Ctl S L ρ)} {cpos : Pos} (hc : X.calm = true) (hN : X.N.Nodup)
    (hi : EI X Γ tg iter m wi) (ok : blkC X.N X.env.scope scope own = true) (hown : (own.map (·.2)).all (fun i => decide (i < Γ.length)) = true) (hjs : js.all (fun i => (own.map (·.2)).contains i) = true)
    (hg : ∀ (s : Shared) (H : Hp) (C : Addr) (cl : List (Str × Addr)) (fp : List Addr) (x : α), EG (X.blk s H scope (compEnvC scope cl C X.env) fp) (wipeC Γ (own.map (·.2))) tg g x (Γt x) js)
    (ht : ∀ (s : Shared) (H : Hp) (C : Addr) (cl : List (Str × Addr)) (fp : List Addr) (x : α), EF (X.blk s H scope (compEnvC scope cl C X.env) fp) (Γt x) ifs (tm x) tt)
    (he : ∀ (s : Shared) (H : Hp) (C : Addr) (cl : List (Str × Addr)) (fp : List Addr) (x : α), EX (X.blk s H scope (compEnvC scope cl C X.env) fp) (Γt x) elt o' (fm x) te)
    (hr : ∀ a, SS X (put Γ i (.mk (Ow.l o') a)) sts Γo ΓL o (k a) tr)
    (hlt : Nat.blt i Γ.length = true := by rfl) (hy : X.N[i]? = some y := by rfl) (hyl : X.env.scope.names.lookup y = some .local := by rfl)
    (hsw : swapsWith (.ListComp elt [⟨tg, iter, ifs, 0⟩] scope cpos) (some (.Name y py)) pos.line X.env = pure true := by exact sw_true rfl rfl rfl (by decide +kernel))
    (hs : ∀ x, foldedSetIterable iter X.env x = pure x := by intro _; rfl) :
    SS X Γ (.Assign [.Name y py] (.ListComp elt [⟨tg, iter, ifs, 0⟩] scope cpos) pos :: sts) Γo ΓL o (do let a ← (do let xs ← m; compM xs tm fm); k a) (tSeq (tAsg (tLc wi g tt te (own.map (·.2))) (gName i)) tr) := by
  have q : EX X Γ (.ListComp elt [⟨tg, iter, ifs, 0⟩] scope cpos) (Ow.l o') (do let xs ← m; compM xs tm fm) (tLc wi g tt te (own.map (·.2))) := ex_lc hc hN hi ok hown hjs hg ht he hs
  exact ⟨pss_cons (ps_setLc hc hN hy hyl hsw hi.pi (blkOk_by ok) (fun s H C cl fp => (hg s H C cl fp default).pg) (fun s H C cl fp => (ht s H C cl fp default).pts) (fun s H C cl fp => (he s H C cl fp default).pe) hs) (hr default).pss, fun HF0 G HF H σ gd c hcc D kk => by
    obtain ⟨z, e1, hcc⟩ := bind_ok hcc
    show tLc wi g tt te (own.map (·.2)) σ H (fun x H1 => tr D (σ.set i (some x)) H1)
    refine q.sem HF0 G HF H σ gd z e1 _ fun v HF' H' fp st r n f => ?_
    exact (hr z).sem HF0 G HF' H' _ (gd.set (of_blt hlt) st r n f) c hcc D (kk.mono st.exF)⟩
/-- if with an else or not, then the rest -/
def thenC {S1 : Type} (c : Ctl S1 L ρ) (k : S1 → M (Ctl S L ρ)) : M (Ctl S L ρ) := match c with
  | .nx s => k s
  | .bk l => pure (.bk l)
  | .ct l => pure (.ct l)
  | .rt r => pure (.rt r)
theorem ss_if {S1 : Type} [Inhabited S1] {c : Expr} {sa sb : List Stmt} {tc : TT} {t1 t2 : TS} {mc : M Bool} {ma mb : M (Ctl S1 L ρ)} {Γ1 : S1 → Ctx} {k : S1 → M (Ctl S L ρ)} (hc : ET X Γ c mc tc) (ha : SS X Γ sa Γ1 ΓL o ma t1) (hb : SS X Γ sb Γ1 ΓL o mb t2) (hr : ∀ s, SS X (Γ1 s) sts Γo ΓL o (k s) tr) :
    SS X Γ (.If c sa sb pos :: sts) Γo ΓL o (do let x ← mc; let y ← (if x then ma else mb); thenC y k) (tSeq (tIfS tc t1 t2) tr) :=
  ⟨pss_cons (ps_if hc.pt ha.pss hb.pss) (hr default).pss, fun HF0 G HF H σ g cc hcc D kk => by
    obtain ⟨x, e1, hcc⟩ := bind_ok hcc
    obtain ⟨y, e2, hcc⟩ := bind_ok hcc
    refine hc.sem HF0 G HF H σ g x e1 _ fun HF' H' st => ?_
    have kk' := kk.mono st.exF
    have fin : EndsOk X.K HF0 G HF' Γ1 ΓL o { D with nx := tr D } y := by
      cases y with
      | nx s => exact fun HF2 H2 σ2 a g2 => (hr s).sem HF0 G HF2 H2 σ2 g2 cc hcc D (kk'.mono a)
      | bk l => cases pure_ok (show (pure (.bk l) : M (Ctl S L ρ)) = .ok cc from hcc); exact kk'
      | ct l => cases pure_ok (show (pure (.ct l) : M (Ctl S L ρ)) = .ok cc from hcc); exact kk'
      | rt r => cases pure_ok (show (pure (.rt r) : M (Ctl S L ρ)) = .ok cc from hcc); exact kk'
    cases x with
    | true => exact iteT (ha.sem HF0 G HF' H' σ (g.step st) y e2 _ fin)
    | false => exact iteF (hb.sem HF0 G HF' H' σ (g.step st) y e2 _ fin)⟩
/-- if whose first branch leaves: nothing is joined -/
theorem ss_ifR {c : Expr} {sa : List Stmt} {tc : TT} {t1 : TS} {mc : M Bool} {ma : M (Ctl Empty L ρ)} {k : M (Ctl S L ρ)} (hc : ET X Γ c mc tc) (ha : SS X Γ sa (fun (_ : Empty) => []) ΓL o ma t1) (hr : SS X Γ sts Γo ΓL o k tr) :
    SS X Γ (.If c sa [] pos :: sts) Γo ΓL o (do let x ← mc; if x then (do let y ← ma; thenC y nofun) else k) (tSeq (tIfS tc t1 tNext) tr) :=
  ⟨pss_cons (ps_if hc.pt ha.pss pss_nil) hr.pss, fun HF0 G HF H σ g cc hcc D kk => by
    obtain ⟨x, e1, hcc⟩ := bind_ok hcc
    refine hc.sem HF0 G HF H σ g x e1 _ fun HF' H' st => ?_
    have kk' := kk.mono st.exF
    cases x with
    | true =>
      obtain ⟨y, e2, hcc⟩ := bind_ok hcc
      refine iteT (ha.sem HF0 G HF' H' σ (g.step st) y e2 _ ?_)
      cases y with
      | nx s => exact nomatch s
      | bk l => cases pure_ok (show (pure (.bk l) : M (Ctl S L ρ)) = .ok cc from hcc); exact kk'
      | ct l => cases pure_ok (show (pure (.ct l) : M (Ctl S L ρ)) = .ok cc from hcc); exact kk'
      | rt r => cases pure_ok (show (pure (.rt r) : M (Ctl S L ρ)) = .ok cc from hcc); exact kk'
    | false => exact iteF (hr.sem HF0 G HF' H' σ (g.step st) cc hcc D kk')⟩
/-- if at a block's end -/
theorem ss_ifE {c : Expr} {sa sb : List Stmt} {tc : TT} {t1 t2 : TS} {mc : M Bool} {ma mb : M (Ctl S L ρ)} (hc : ET X Γ c mc tc) (ha : SS X Γ sa Γo ΓL o ma t1) (hb : SS X Γ sb Γo ΓL o mb t2) :
    SS X Γ [.If c sa sb pos] Γo ΓL o (do let x ← mc; if x then ma else mb) (tIfS tc t1 t2) :=
  ⟨pss_one (ps_if hc.pt ha.pss hb.pss), fun HF0 G HF H σ g cc hcc D kk => by
    obtain ⟨x, e1, hcc⟩ := bind_ok hcc
    refine hc.sem HF0 G HF H σ g x e1 _ fun HF' H' st => ?_
    cases x with
    | true => exact iteT (ha.sem HF0 G HF' H' σ (g.step st) cc hcc _ (kk.mono st.exF))
    | false => exact iteF (hb.sem HF0 G HF' H' σ (g.step st) cc hcc _ (kk.mono st.exF))⟩

/-! ### loops -/
def loopM {α S ρ : Type} (f : α → S → M (Ctl S S ρ)) : List α → S → M (S ⊕ ρ)
  | [], s => pure (.inl s)
  | x :: xs, s => do
    let c ← f x s
    match c with
    | .nx s' => loopM f xs s'
    | .ct s' => loopM f xs s'
    | .bk s' => pure (.inl s')
    | .rt r => pure (.inr r)
def thenL (c : S' ⊕ ρ) (k : S' → M (Ctl S L ρ)) : M (Ctl S L ρ) := match c with
  | .inl s => k s
  | .inr r => pure (.rt r)
theorem ss_for [Rp α] [Inhabited α] {tg iter : Expr} {body : List Stmt} {wi : TI} {g : TG} {tb : TS} {js : List Nat} {m : M (List α)} {Γs : S' → Ctx} {Γt : S' → α → Ctx} {f : α → S' → M (Ctl S' S' ρ)} {k : S' → M (Ctl S L ρ)} (s0 : S') (hc : X.calm = true) (hxe : PassesOwn (model X.prog X.w) X.A X.env X.xe) (hi : EI X Γ tg iter m wi) (h0 : Sub Γ (Γs s0))
    (hg : ∀ s x, EG X (Γs s) tg g x (Γt s x) js) (hb : ∀ s x, SS X (Γt s x) body Γs Γs o (f x s) tb) (hr : ∀ s, SS X (Γs s) sts Γo ΓL o (k s) tr)
    (hs : ∀ x, foldedSetIterable iter X.env x = pure x := by intro _; rfl) : SS X Γ (.For tg iter body [] pos :: sts) Γo ΓL o (do let xs ← m; let c ← loopM f xs s0; thenL c k) (tSeq (tFor wi g tb) tr) :=
  ⟨pss_cons (ps_for hxe hc hi.pi (hg s0 default).pg (hb s0 default).pss hs) (hr s0).pss, fun HF0 G HF H σ gd cc hcc D kk => by
    obtain ⟨xs, e1, hcc⟩ := bind_ok hcc
    obtain ⟨c1, e2, hcc⟩ := bind_ok hcc
    refine hi.sem HF0 G HF H σ gd xs e1 _ fun J HF1 H1 st wk => ?_
    have kk' := kk.mono st.exF
    have nxt : ∀ s HF2 H2 σ2, c1 = .inl s → Same HF1 HF2 → Good X.K HF0 G (Γs s) HF2 H2 σ2 → tr D σ2 H2 := fun s HF2 H2 σ2 e a g2 => by
      subst e
      exact (hr s).sem HF0 G HF2 H2 σ2 g2 cc hcc D (kk'.mono a)
    refine ⟨fun i n σ2 H2 => n = xs.length - i ∧ i ≤ xs.length ∧ ∃ s HF2, Same HF1 HF2 ∧ Good X.K HF0 G (Γs s) HF2 H2 σ2 ∧ loopM f (xs.drop i) s = .ok c1, ⟨xs.length, rfl, Nat.zero_le _, s0, HF1, Same.refl _, h0.good (gd.step st), e2⟩, ?_⟩
    rintro i n σ2 H2 ⟨rfl, hix, s, HF2, a, g2, hl⟩
    have wk2 := wk HF2 H2 i a g2.sub
    by_cases hlt : i < xs.length
    · have hx : xs[i]? = some xs[i] := List.getElem?_eq_getElem hlt
      obtain ⟨hgo, hy⟩ := wk2.1 _ hx
      rw [List.drop_eq_getElem_cons hlt] at hl
      obtain ⟨c2, e3, hl⟩ := bind_ok hl
      refine .inr ⟨hgo, fun σ' H' => ∃ s' HF', Same HF1 HF' ∧ Good X.K HF0 G (Γs s') HF' H' σ' ∧ loopM f (xs.drop (i + 1)) s' = .ok c1, fun σ' H' h' => ⟨xs.length - (i + 1), by omega, rfl, hlt, h'⟩, fun x H3 hyl => ?_⟩
      obtain ⟨HF3, s3, rx⟩ := hy x H3 hyl
      refine (hg s xs[i]).sem HF0 G HF3 H3 σ2 x (g2.step s3) rx _ fun σ' g4 _ _ => ?_
      refine (hb s xs[i]).sem HF0 G HF3 H3 σ' g4 c2 e3 _ ?_
      have a3 := a.trans s3.exF
      cases c2 with
      | nx s' => exact fun HF5 H5 σ5 b g5 => ⟨s', HF5, a3.trans b, g5, hl⟩
      | ct s' => exact fun HF5 H5 σ5 b g5 => ⟨s', HF5, a3.trans b, g5, hl⟩
      | bk s' =>
        have e4 := pure_ok (show (pure (.inl s') : M (S' ⊕ ρ)) = .ok c1 from hl)
        exact fun HF5 H5 σ5 b g5 => nxt s' HF5 H5 σ5 e4.symm (a3.trans b) g5
      | rt r =>
        have e4 := pure_ok (show (pure (.inr r) : M (S' ⊕ ρ)) = .ok c1 from hl)
        subst e4
        cases pure_ok (show (pure (.rt r) : M (Ctl S L ρ)) = .ok cc from hcc)
        exact kk'
    · have hnil : xs.drop i = [] := List.drop_eq_nil_of_le (by omega)
      rw [hnil] at hl
      exact .inl ⟨wk2.2 (by omega), nxt s HF2 H2 σ2 (pure_ok hl).symm a g2⟩⟩
def whileM {S ρ : Type} (c : S → M Bool) (f : S → M (Ctl S S ρ)) : Nat → S → M (S ⊕ ρ)
  | 0, _ => no
  | n + 1, s => do
    let b ← c s
    if b then do
      let y ← f s
      match y with
      | .nx s' => whileM c f n s'
      | .ct s' => whileM c f n s'
      | .bk s' => pure (.inl s')
      | .rt r => pure (.inr r)
    else pure (.inl s)
theorem ss_while {c : Expr} {body : List Stmt} {tc : TT} {tb : TS} {Γs : S' → Ctx} {mc : S' → M Bool} {f : S' → M (Ctl S' S' ρ)} {k : S' → M (Ctl S L ρ)} (n : Nat) (s0 : S') (hxe : PassesOwn (model X.prog X.w) X.A X.env X.xe) (h0 : Sub Γ (Γs s0))
    (hc : ∀ s, ET X (Γs s) c (mc s) tc) (hb : ∀ s, SS X (Γs s) body Γs Γs o (f s) tb) (hr : ∀ s, SS X (Γs s) sts Γo ΓL o (k s) tr) : SS X Γ (.While c body [] pos :: sts) Γo ΓL o (do let y ← whileM mc f n s0; thenL y k) (tSeq (tWhile tc tb) tr) :=
  ⟨pss_cons (ps_while hxe (hc s0).pt (hb s0).pss) (hr s0).pss, fun HF0 G HF H σ gd cc hcc D kk => by
    obtain ⟨c1, e2, hcc⟩ := bind_ok hcc
    have nxt : ∀ s HF2 H2 σ2, c1 = .inl s → Same HF HF2 → Good X.K HF0 G (Γs s) HF2 H2 σ2 → tr D σ2 H2 := fun s HF2 H2 σ2 e a g2 => by
      subst e
      exact (hr s).sem HF0 G HF2 H2 σ2 g2 cc hcc D (kk.mono a)
    refine ⟨fun n σ2 H2 => ∃ s HF2, Same HF HF2 ∧ Good X.K HF0 G (Γs s) HF2 H2 σ2 ∧ whileM mc f n s = .ok c1, ⟨n, s0, HF, Same.refl _, h0.good gd, e2⟩, ?_⟩
    rintro n σ2 H2 ⟨s, HF2, a, g2, hl⟩
    cases n with
    | zero => cases hl
    | succ n =>
      obtain ⟨b, e3, hl⟩ := bind_ok hl
      refine (hc s).sem HF0 G HF2 H2 σ2 g2 b e3 _ fun HF3 H3 s3 => ?_
      have a3 := a.trans s3.exF
      cases b with
      | false =>
        have e4 := pure_ok (show (pure (.inl s) : M (S' ⊕ ρ)) = .ok c1 from hl)
        exact iteF (nxt s HF3 H3 σ2 e4.symm a3 (g2.step s3))
      | true =>
        obtain ⟨c2, e4, hl⟩ := bind_ok hl
        refine iteT ⟨fun σ' H' => ∃ s' HF', Same HF HF' ∧ Good X.K HF0 G (Γs s') HF' H' σ' ∧ whileM mc f n s' = .ok c1, fun σ' H' h' => ⟨n, Nat.lt_succ_self n, h'⟩, ?_⟩
        refine (hb s).sem HF0 G HF3 H3 σ2 (g2.step s3) c2 e4 _ ?_
        cases c2 with
        | nx s' => exact fun HF5 H5 σ5 b g5 => ⟨s', HF5, a3.trans b, g5, hl⟩
        | ct s' => exact fun HF5 H5 σ5 b g5 => ⟨s', HF5, a3.trans b, g5, hl⟩
        | bk s' =>
          have e5 := pure_ok (show (pure (.inl s') : M (S' ⊕ ρ)) = .ok c1 from hl)
          exact fun HF5 H5 σ5 b g5 => nxt s' HF5 H5 σ5 e5.symm (a3.trans b) g5
        | rt r =>
          have e5 := pure_ok (show (pure (.inr r) : M (S' ⊕ ρ)) = .ok c1 from hl)
          subst e5
          cases pure_ok (show (pure (.rt r) : M (Ctl S L ρ)) = .ok cc from hcc)
          exact kk⟩
/-- an own thing made shared from here on -/
theorem ss_frz [Rp α] (i : Nat) {u : Ow α} {x : α} {m : M (Ctl S L ρ)} (hl : look Γ i = .mk u x) (h : SS X (put Γ i (.mk Ow.v x)) sts Γo ΓL o m tr) (hlt : Nat.blt i Γ.length = true := by rfl) : SS X Γ sts Γo ΓL o m tr :=
  ⟨h.pss, fun HF0 G HF H σ g c hc D k => by
    obtain ⟨fs, h1, h2, h3⟩ := g.held
    obtain ⟨fo, fr', q1, q2, q3, q4⟩ := h1.put (of_blt hlt)
    obtain ⟨n1, n2, n3⟩ := q3 h2
    rw [hl] at q1
    obtain ⟨v, e1, r1⟩ := q1
    have hF : ∀ p ∈ fo, HF p = none := fun p hp => (h3 p ((q2 p).mpr (.inl hp))).1
    have sF : Same HF (plus HF H fo) := plus_same hF
    obtain ⟨fs', w1, w2, w3⟩ := q4 (HF' := plus HF H fo) (H' := H) (s := .mk Ow.v x) (x := some v) (f := []) (fun _ h => h.mono sF fun p _ o e => e) (fun _ h => h.mono sF fun p _ o e => e) ⟨v, rfl, u.frz sF plus_at r1, rfl⟩
    have eσ : σ.set i (some v) = σ := by
      have hlen := h1.len
      have hlt := of_blt hlt
      apply List.ext_getElem?
      intro j
      by_cases hj : i = j
      · subst hj
        rw [List.getElem?_set_self (by omega), List.getElem?_eq_getElem (by omega)]
        rw [List.getD_eq_getElem?_getD, List.getElem?_eq_getElem (by omega)] at e1
        exact congrArg some e1.symm
      · rw [List.getElem?_set_ne hj]
    refine h.sem HF0 G (plus HF H fo) H σ ⟨plus_sub g.sub, g.f0.trans sF, g.g0, fun p w e en => ?_, fs', by rw [← eσ]; exact w1, w3 n1 List.nodup_nil (fun p hp => by cases hp), fun p hp => ?_⟩ c hc D (k.mono sF)
    · by_cases hp : p ∈ fo
      · exact (h3 p ((q2 p).mpr (.inl hp))).2
      · rw [plus_out hp] at e; exact g.nf p w e en
    · rcases (w2 p).mp hp with z | z
      · cases z
      · rw [plus_out fun z' => n3 p z' z]
        exact h3 p ((q2 p).mpr (.inr z))⟩
end

/-! ### a def -/
def runC {ρ : Type} (m : M (Ctl Unit Empty ρ)) : M ρ := do
  let c ← m
  match c with
  | .rt r => pure r
  | _ => no
def spF {A ρ : Type} [Rp ρ] (K : PySem.W.Frag) (r : As A) (o : Ow ρ) (f : A → M ρ) : Sp := fun vs H Q _ =>
  ∃ HF a c, Same HF H ∧ r.rep K HF vs a ∧ f a = .ok c ∧ RetK K HF H o c Q
section
variable {P : Program} {w : World} {K : PySem.W.Frag} {mg : Str → Option Value} {base : Heap}
end
section
variable {X : Cx} {Γ : Ctx} {A ρ : Type} {e : Expr} {es : List Expr} {p pos : Pos} {t : TA}
theorem ex_call [Rp ρ] {K : PySem.W.Frag} {k : Nat} {f : Addr} {fd : FuncData} {ps : List Str} {x : Str} {r : As A} {o : Ow ρ} {fm : A → M ρ} {m : M A} (F : FnOk X.prog X.w X.K X.mg X.base CX0 k f fd ps (spF K r o fm)) (hr : Room k X.A) (hm : X.mg x = some (.ref f)) (hk : PySem.W.keepIn X.K (.ref f) = true) (hb : Binds X.K fd ps [])
    (ha : EA X Γ (e :: es) r m t) (hg : Gl X x := by rfl) (hdb : (x == ("__debug__" : Str)) = false := by decide) (he : starEach (e :: es) X.env = (false, eval e X.env) :: starEach es X.env := by rfl) (hpl : (backTo pos (starEach es X.env)).any (·.1) = false := by rfl) (hK : X.K = K := by rfl) :
    EX X Γ (.Call (.Name x p) (e :: es) [] pos) o (do let a ← m; fm a) (tCall (spF K r o fm) [] E0 t) := by
  subst hK
  exact ⟨pe_call F hr hg hm hk hb .nil pass0 ha.pa hdb he hpl, fun HF0 G HF H σ g c hc Q kk => by
    obtain ⟨x, e1, hc⟩ := bind_ok hc
    refine ha.sem HF0 G HF H σ g x e1 _ fun vs HF1 H1 s1 r1 => ?_
    show spF X.K r o fm (vs ++ []) H1 Q E0
    rw [List.append_nil]
    exact ⟨HF1, x, c, s1.sub, r1, hc, kk.back s1⟩⟩
end
end Ty

namespace Ty
open PySem PySem.Spec PyProof.Rows L2

instance : Inhabited Str := ⟨Str.empty⟩
instance : Inhabited Scr := ⟨⟨[]⟩⟩
instance {α : Type} : Inhabited (Tu α) := ⟨⟨[]⟩⟩
instance {α β γ : Type} [Inhabited α] [Inhabited β] [Inhabited γ] : Inhabited (T3 α β γ) := ⟨⟨default, default, default⟩⟩
theorem look_lt : ∀ {Γ : Ctx} {i : Nat}, look Γ i ≠ .un → i < Γ.length
  | [], _, h => absurd rfl h
  | _ :: _, 0, _ => Nat.zero_lt_succ _
  | _ :: Γ, i + 1, h => Nat.succ_lt_succ (look_lt (Γ := Γ) (i := i) h)
theorem look_lt' {α : Type} [Rp α] {Γ : Ctx} {i : Nat} {u : Ow α} {a : α} (h : look Γ i = .mk u a) : i < Γ.length := look_lt (by rw [h]; exact fun e => nomatch e)
theorem set_self {σ : L2.St} {i : Nat} {v : V} (h : σ[i]? = some (some v)) : σ.set i (some v) = σ := by
  apply List.ext_getElem?
  intro j
  by_cases hj : i = j
  · subst hj
    rw [List.getElem?_set_self (List.getElem?_eq_some_iff.mp h).1, h]
  · rw [List.getElem?_set_ne hj]
/-- an own thing, taken out and put back changed -/
theorem Good.take {K : PySem.W.Frag} {HF0 G HF H : Hp} {Γ : Ctx} {σ : L2.St} {i : Nat} {α : Type} [Rp α] {u : Ow α} {a : α} (g : Good K HF0 G Γ HF H σ) (hl : look Γ i = .mk u a) :
    ∃ v fo, σ[i]? = some (some v) ∧ u.rep K HF H v a fo ∧ fo.Nodup ∧ (∀ p ∈ fo, HF p = none ∧ G p = none) ∧
      ∀ {HF1 H1 H' : Hp} {β : Type} [Rp β] {u' : Ow β} {b : β} {v' : V} {f' : List Addr}, Step HF H HF1 H1 → (∀ p w, p ∉ fo → H1 p = some w → H' p = some w) → u'.rep K HF1 H' v' b f' → f'.Nodup → (∀ p ∈ f', p ∈ fo ∨ (H p = none ∧ HF1 p = none)) →
        Good K HF0 G (put Γ i (.mk u' b)) HF1 H' (σ.set i (some v')) := by
  have hi := look_lt' hl
  obtain ⟨fs, h1, h2, h3⟩ := g.held
  obtain ⟨fo, fr', q1, q2, q3, q4⟩ := h1.put hi
  obtain ⟨n1, n2, n3⟩ := q3 h2
  rw [hl] at q1
  obtain ⟨v, e1, r1⟩ := q1
  have hlen := h1.len
  have hσ : σ[i]? = some (some v) := by
    rw [List.getElem?_eq_getElem (by omega)]
    rw [List.getD_eq_getElem?_getD, List.getElem?_eq_getElem (by omega)] at e1
    exact congrArg some e1
  have hfo : ∀ p ∈ fo, HF p = none ∧ G p = none := fun p hp => h3 p ((q2 p).mpr (.inl hp))
  have hfr : ∀ p ∈ fr', HF p = none ∧ G p = none := fun p hp => h3 p ((q2 p).mpr (.inr hp))
  refine ⟨v, fo, hσ, r1, n2, hfo, ?_⟩
  intro HF1 H1 H' β _ u' b v' f' st hk hr hnd hf
  have g' := g.step st
  have kp : ∀ {f : List Addr}, (∀ p ∈ f, p ∈ fr') → ∀ p ∈ f, ∀ o, H p = some o → H' p = some o := fun hp p hm o e => hk p o (fun z => n3 p z (hp p hm)) (st.exH p o e)
  obtain ⟨fs', w1, w2, w3⟩ := q4 (HF' := HF1) (H' := H') (s := .mk u' b) (x := some v') (f := f') (fun hp h => h.mono st.exF (kp hp)) (fun hp h => h.mono st.exF (kp hp)) ⟨v', rfl, hr⟩
  have dm := h1.dom
  refine ⟨fun p w e => hk p w (fun z => ?_) (st.sub p w e), g'.f0, fun p w e => hk p w (fun z => ?_) (g'.g0 p w e), g'.nf, fs', w1, w3 n1 hnd fun p hp hq => ?_, fun p hp => ?_⟩
  · obtain ⟨w', hw⟩ := dm p ((q2 p).mpr (.inl z))
    rw [st.nn (hfo p z).1 hw] at e; cases e
  · rw [(hfo p z).2] at e; cases e
  · rcases hf p hp with z | z
    · exact n3 p z hq
    · obtain ⟨w', hw⟩ := dm p ((q2 p).mpr (.inr hq))
      rw [z.1] at hw; cases hw
  · rcases (w2 p).mp hp with z | z
    · rcases hf p z with z | z
      · obtain ⟨w', hw⟩ := dm p ((q2 p).mpr (.inl z))
        exact ⟨st.nn (hfo p z).1 hw, (hfo p z).2⟩
      · exact ⟨z.2, g.g0.free z.1⟩
    · obtain ⟨w', hw⟩ := dm p ((q2 p).mpr (.inr z))
      exact ⟨st.nn (hfr p z).1 hw, (hfr p z).2⟩
def appM {α : Type} (as : List α) (a : α) : M (List α) := do gd (decide (as.length < sizeLine)); pure (as ++ [a])
section
variable {X : Cx} {Γ : Ctx} {S L ρ α β γ A B S' : Type} [Rp ρ] {o : Ow ρ} {Γo : S → Ctx} {ΓL : L → Ctx} {a b e : Expr} {es : List Expr} {pos p apos cpos : Pos} {ta tb te : TE} {t : TA} {sts : List Stmt} {tr tr' : TS}
/-- x.append(e) -/
theorem ss_app [Rp α] (i : Nat) {u : Ow α} {as : List α} {x : Str} {m : M α} {k : List α → M (Ctl S L ρ)} (he : EX X Γ e u m te) (hr : ∀ l, SS X (put Γ i (.mk (Ow.l u) l)) sts Γo ΓL o (k l) tr) (hl : look Γ i = .mk (Ow.l u) as := by rfl) (hN : X.N[i]? = some x := by rfl) (hv : Vis X.env.scope x := by first | exact Or.inl rfl | exact Or.inr (Or.inl rfl) | exact Or.inr (Or.inr rfl)) (hd : (x == ("__debug__" : Str)) = false := by decide)
    (hcd : (x == ("__classdict__" : Str)) = false := by decide)
    (hpe : ∀ {to : TE} {tt : TA}, PE X (.Name x p) to → PA X [e] tt → PE X (.Call (.Attribute (.Name x p) "append" apos) [e] [] cpos) (tBM X.K "list" rAppend to tt) := by exact fun h h' => pe_bm PySem.F.plainAttrs_list PySem.F.slot_list_append PySem.F.type_list_append mt_append h h')
    (h1 : starEach [e] X.env = (false, eval e X.env) :: starEach [] X.env := by rfl)
    (hs : swapsWith (.Call (.Attribute (.Name x p) "append" apos) [e] [] cpos) none pos.line X.env = pure false := by rfl) :
    SS X Γ (.Expr (.Call (.Attribute (.Name x p) "append" apos) [e] [] cpos) pos :: sts) Γo ΓL o (do let a ← m; let l ← appM as a; k l) (tSeq (tDrop (tBM X.K "list" rAppend (tVar i) (tCons te tNil))) tr) :=
  ⟨pss_cons (ps_expr (hpe (pe_var hN hv hd hcd) (pa_cons he.pe pa_nil h1)) hs) (hr []).pss, fun HF0 G HF H σ g c hc D kk => by
    obtain ⟨y, e1, hc⟩ := bind_ok hc
    obtain ⟨l, e2, hc⟩ := bind_ok hc
    obtain ⟨w, e3, e2⟩ := bind_ok e2
    have e4 := pure_ok e2
    subst e4
    obtain ⟨v, fo, hσ, ⟨q, vs, fq, h1, h2, h3, h4⟩, nd, hfo, back⟩ := g.take hl
    subst h1 h2
    refine ⟨.ref q, hσ, .inl ⟨rfl, vs, SqL.of h3⟩, ?_⟩
    refine he.sem HF0 G HF H σ g y e1 _ fun v' HF1 H1 fp st r n f => ?_
    refine ⟨q, vs, v', rfl, rfl, st.exH _ _ h3, by rw [h4.len]; exact of_decide_eq_true (gd_ok e3), ?_⟩
    have hqn : q ∉ fq := (List.nodup_cons.mp nd).1
    have hqp : q ∉ fp := fun z => by
      have := (f q z).1
      rw [h3] at this; cases this
    have gg := back (u' := Ow.l u) (b := as ++ [y]) (v' := .ref q) (f' := q :: (fq ++ fp)) (H' := upd H1 q (.lst (vs ++ [v']))) st (fun p w hp e => by rw [upd_ne (fun z => hp (by rw [z]; exact List.mem_cons_self ..))]; exact e)
      ⟨q, vs ++ [v'], fq ++ fp, rfl, rfl, upd_same, Rl.append ((Rl.step h4 st).upd hqn) (Rl.one (u.mono (Same.refl _) (fun p hp w e => by rw [upd_ne (fun z => hqp (by rw [← z]; exact hp))]; exact e) r))⟩
      (List.nodup_cons.mpr ⟨fun z => (List.mem_append.mp z).elim hqn hqp, List.nodup_append.mpr ⟨(List.nodup_cons.mp nd).2, n, fun p hp p' hp' e => by
        subst e
        obtain ⟨w', hw⟩ := Rl.dom (fun v a f r => u.dom r) h4 p hp
        rw [(f p hp').1] at hw; cases hw⟩⟩)
      (fun p hp => by
        rcases List.mem_cons.mp hp with z | z
        · exact .inl (by rw [z]; exact List.mem_cons_self ..)
        · rcases List.mem_append.mp z with z | z
          · exact .inl (List.mem_cons_of_mem _ z)
          · exact .inr (f p z))
    rw [set_self hσ] at gg
    exact (hr (as ++ [y])).sem HF0 G HF1 _ σ gg c hc D (kk.mono st.exF)⟩
/-- from two own things: the one at j is given away -/
theorem Good.give {K : PySem.W.Frag} {HF0 G HF H : Hp} {σ : L2.St} {i j : Nat} [Rp α] [Rp β] {u : Ow α} {w : Ow β} {x : α} {y : β} (g : Good K HF0 G Γ HF H σ) (hj : look Γ j = .mk w y) :
    ∃ v fj, σ[j]? = some (some v) ∧ w.rep K HF H v y fj ∧ fj.Nodup ∧ (∀ p ∈ fj, HF p = none ∧ G p = none) ∧
      ∀ {Γ' : Ctx}, Γ' = put Γ j .un → look Γ' i = .mk u x → ∃ v' fo, σ[i]? = some (some v') ∧ u.rep K HF H v' x fo ∧ fo.Nodup ∧ (∀ p ∈ fo, HF p = none ∧ G p = none) ∧ (∀ p ∈ fo, p ∉ fj) ∧
        ∀ {H' : Hp} {γ : Type} [Rp γ] {u' : Ow γ} {b : γ} {v'' : V} {f' : List Addr}, (∀ p w, p ∉ fo → p ∉ fj → H p = some w → H' p = some w) → u'.rep K HF H' v'' b f' → f'.Nodup → (∀ p ∈ f', p ∈ fo ∨ p ∈ fj) →
          Good K HF0 G (put Γ' i (.mk u' b)) HF H' (σ.set i (some v'')) := by
  have hjl := look_lt' hj
  obtain ⟨fs, h1, h2, h3⟩ := g.held
  obtain ⟨fo, fr', q1, q2, q3, q4⟩ := h1.put hjl
  obtain ⟨n1, n2, n3⟩ := q3 h2
  rw [hj] at q1
  obtain ⟨v, e1, r1⟩ := q1
  have hlen := h1.len
  have hσ : σ[j]? = some (some v) := by
    rw [List.getElem?_eq_getElem (by omega)]
    rw [List.getD_eq_getElem?_getD, List.getElem?_eq_getElem (by omega)] at e1
    exact congrArg some e1
  refine ⟨v, fo, hσ, r1, n2, fun p hp => h3 p ((q2 p).mpr (.inl hp)), ?_⟩
  intro Γ' eΓ hl
  subst eΓ
  obtain ⟨fs', w1, w2, w3⟩ := q4 (HF' := HF) (H' := H) (s := .un) (x := some v) (f := []) (fun _ h => h) (fun _ h => h) rfl
  rw [set_self hσ] at w1
  have hi := look_lt' hl
  obtain ⟨fi, fr2, p1, p2, p3, p4⟩ := w1.put hi
  have nd' := w3 n1 List.nodup_nil (fun p hp => by cases hp)
  obtain ⟨m1, m2, m3⟩ := p3 nd'
  rw [hl] at p1
  obtain ⟨v', e2, r2⟩ := p1
  have hlen' := w1.len
  have hσ' : σ[i]? = some (some v') := by
    rw [List.getElem?_eq_getElem (by omega)]
    rw [List.getD_eq_getElem?_getD, List.getElem?_eq_getElem (by omega)] at e2
    exact congrArg some e2
  have inr : ∀ p, p ∈ fs' → p ∈ fr' := fun p hp => ((w2 p).mp hp).elim (fun z => by cases z) id
  have hfi : ∀ p ∈ fi, p ∈ fr' := fun p hp => inr p ((p2 p).mpr (.inl hp))
  have hfr2 : ∀ p ∈ fr2, p ∈ fr' := fun p hp => inr p ((p2 p).mpr (.inr hp))
  refine ⟨v', fi, hσ', r2, m2, fun p hp => h3 p ((q2 p).mpr (.inr (hfi p hp))), fun p hp z => n3 p z (hfi p hp), ?_⟩
  intro H' γ _ u' b v'' f' hk hr hnd hf
  have kp : ∀ {f : List Addr}, (∀ p ∈ f, p ∈ fr2) → ∀ p ∈ f, ∀ o, H p = some o → H' p = some o := fun hp p hm o e => hk p o (fun z => m3 p z (hp p hm)) (fun z => n3 p z (hfr2 p (hp p hm))) e
  obtain ⟨gs, x1, x2, x3⟩ := p4 (HF' := HF) (H' := H') (s := .mk u' b) (x := some v'') (f := f') (fun hp h => h.mono (Same.refl _) (kp hp)) (fun hp h => h.mono (Same.refl _) (kp hp)) ⟨v'', rfl, hr⟩
  have hF : ∀ p, p ∈ fi ∨ p ∈ fo → HF p = none ∧ G p = none := fun p hp => hp.elim (fun z => h3 p ((q2 p).mpr (.inr (hfi p z)))) fun z => h3 p ((q2 p).mpr (.inl z))
  refine ⟨fun p w e => hk p w (fun z => ?_) (fun z => ?_) (g.sub p w e), g.f0, fun p w e => hk p w (fun z => ?_) (fun z => ?_) (g.g0 p w e), g.nf, gs, x1, x3 m1 hnd fun p hp hq => ?_, fun p hp => ?_⟩
  · rw [(hF p (.inl z)).1] at e; cases e
  · rw [(hF p (.inr z)).1] at e; cases e
  · rw [(hF p (.inl z)).2] at e; cases e
  · rw [(hF p (.inr z)).2] at e; cases e
  · rcases hf p hp with z | z
    · exact m3 p z hq
    · exact n3 p z (hfr2 p hq)
  · rcases (x2 p).mp hp with z | z
    · exact hF p (hf p z)
    · exact h3 p ((q2 p).mpr (.inr (hfr2 p z)))
/-- x.append(y), y an own thing that is given away -/
theorem ss_appO [Rp α] (i j : Nat) {u : Ow α} {as : List α} {y0 : α} {x y : Str} {py : Pos} {k : List α → M (Ctl S L ρ)} (hr : ∀ l, SS X (put (put Γ j .un) i (.mk (Ow.l u) l)) sts Γo ΓL o (k l) tr) (hl : look (put Γ j .un) i = .mk (Ow.l u) as := by rfl) (hj : look Γ j = .mk u y0 := by rfl) (hN : X.N[i]? = some x := by rfl) (hv : Vis X.env.scope x := by first | exact Or.inl rfl | exact Or.inr (Or.inl rfl) | exact Or.inr (Or.inr rfl)) (hd : (x == ("__debug__" : Str)) = false := by decide)
    (hcd : (x == ("__classdict__" : Str)) = false := by decide) (hNy : X.N[j]? = some y := by rfl) (hvy : Vis X.env.scope y := by first | exact Or.inl rfl | exact Or.inr (Or.inl rfl) | exact Or.inr (Or.inr rfl)) (hdy : (y == ("__debug__" : Str)) = false := by decide)
    (hcdy : (y == ("__classdict__" : Str)) = false := by decide)
    (hpe : ∀ {to : TE} {tt : TA}, PE X (.Name x p) to → PA X [.Name y py] tt → PE X (.Call (.Attribute (.Name x p) "append" apos) [.Name y py] [] cpos) (tBM X.K "list" rAppend to tt) := by exact fun h h' => pe_bm PySem.F.plainAttrs_list PySem.F.slot_list_append PySem.F.type_list_append mt_append h h')
    (h1 : starEach [.Name y py] X.env = (false, eval (.Name y py) X.env) :: starEach [] X.env := by rfl)
    (hs : swapsWith (.Call (.Attribute (.Name x p) "append" apos) [.Name y py] [] cpos) none pos.line X.env = pure false := by rfl) :
    SS X Γ (.Expr (.Call (.Attribute (.Name x p) "append" apos) [.Name y py] [] cpos) pos :: sts) Γo ΓL o (do let l ← appM as y0; k l) (tSeq (tDrop (tBM X.K "list" rAppend (tVar i) (tCons (tVar j) tNil))) tr) :=
  ⟨pss_cons (ps_expr (hpe (pe_var hN hv hd hcd) (pa_cons (pe_var hNy hvy hdy hcdy) pa_nil h1)) hs) (hr []).pss, fun HF0 G HF H σ g c hc D kk => by
    obtain ⟨l, e2, hc⟩ := bind_ok hc
    obtain ⟨w, e3, e2⟩ := bind_ok e2
    have e4 := pure_ok e2
    subst e4
    obtain ⟨v', fj, hσj, rj, nj, hfj, giv⟩ := g.give (i := i) (u := Ow.l u) (x := as) hj
    obtain ⟨v, fo, hσ, ⟨q, vs, fq, h1, h2, h3, h4⟩, nd, hfo, hdis, back⟩ := giv rfl hl
    subst h1 h2
    refine ⟨.ref q, hσ, .inl ⟨rfl, vs, SqL.of h3⟩, v', hσj, ?_⟩
    refine ⟨q, vs, v', rfl, rfl, h3, by rw [h4.len]; exact of_decide_eq_true (gd_ok e3), ?_⟩
    have hqn : q ∉ fq := (List.nodup_cons.mp nd).1
    have hqp : q ∉ fj := hdis q (List.mem_cons_self ..)
    have gg := back (u' := Ow.l u) (b := as ++ [y0]) (v'' := .ref q) (f' := q :: (fq ++ fj)) (H' := upd H q (.lst (vs ++ [v']))) (fun p w hp _ e => by rw [upd_ne (fun z => hp (by rw [z]; exact List.mem_cons_self ..))]; exact e)
      ⟨q, vs ++ [v'], fq ++ fj, rfl, rfl, upd_same, Rl.append (h4.upd hqn) (Rl.one (u.mono (Same.refl _) (fun p hp w e => by rw [upd_ne (fun z => hqp (by rw [← z]; exact hp))]; exact e) rj))⟩
      (List.nodup_cons.mpr ⟨fun z => (List.mem_append.mp z).elim hqn hqp, List.nodup_append.mpr ⟨(List.nodup_cons.mp nd).2, nj, fun p hp p' hp' e => by
        subst e
        exact hdis p (List.mem_cons_of_mem _ hp) hp'⟩⟩)
      (fun p hp => by
        rcases List.mem_cons.mp hp with z | z
        · exact .inl (by rw [z]; exact List.mem_cons_self ..)
        · rcases List.mem_append.mp z with z | z
          · exact .inl (List.mem_cons_of_mem _ z)
          · exact .inr z)
    rw [set_self hσ] at gg
    exact (hr (as ++ [y0])).sem HF0 G HF _ σ gg c hc D kk⟩
end

/-! ### isinstance by the kind -/
class Kd (α : Type) [Rp α] where
  nm : String
  ok : ∀ {K : PySem.W.Frag} {H : Hp} {v : V} {a : α}, Rp.sh K H v a → TyX K H v (.type nm)
instance : Kd Int := ⟨"int", fun h => by cases h; exact .base (.int _)⟩
instance : Kd Bool := ⟨"bool", fun h => by cases h; exact .base (.bl _)⟩
instance : Kd Str := ⟨"str", fun h => by cases h; exact .base (.str _)⟩
instance : Kd Unit := ⟨"NoneType", fun h => by cases h; exact .base .non⟩
instance kdL {α : Type} [Rp α] : Kd (List α) := ⟨"list", fun ⟨p, vs, e, h, _⟩ => by subst e; exact .base (.lst h)⟩
section
variable {X : Cx} {Γ : Ctx} {S L ρ α β γ A B S' : Type} {a b e : Expr} {es : List Expr} {pos p apos cpos p1 p2 : Pos} {ta tb te : TE} {t : TA}
theorem ex_isi {K : PySem.W.Frag} [Rp α] [Kd α] {m : M α} {T : Str} {n : String} {r : Bool} (hm : X.mg "isinstance" = none) (hmT : X.mg T = none) (hT : bootBuiltins T = some (.type n)) (h : EX X Γ e Ow.v m te) (hk : kitB (Kd.nm α) n = some r) (hg : Gl X "isinstance" := by rfl) (hgT : Gl X T := by rfl) (hn : T ≠ "__name__" := by decide) (hdb : (T == ("__debug__" : Str)) = false := by decide)
    (h1 : starEach [e, .Name T p1] X.env = (false, eval e X.env) :: starEach [.Name T p1] X.env := by rfl) (h2 : starEach [.Name T p1] X.env = (false, eval (.Name T p1) X.env) :: starEach [] X.env := by rfl) (hpl : (backTo pos (starEach [.Name T p1] X.env)).any (·.1) = false := by rfl) (hK : X.K = K := by rfl) :
    EX X Γ (.Call (.Name "isinstance" p) [e, .Name T p1] [] pos) Ow.v (do let _ ← m; pure r) (tCB (rIsi K) (tCons te (tCons (tC (.ty n)) tNil))) := by
  subst hK
  exact ⟨pe_callB call_isi hg hm (by decide +kernel) (pa_cons h.pe (pa_cons (pe_bltn (v := .ty n) hgT hmT hT rfl hn hdb) pa_nil h2) h1) (by decide) (by decide) h1 hpl, fun HF0 G HF H σ g c hc Q k => by
    obtain ⟨x, e1, hc⟩ := bind_ok hc
    cases pure_ok hc
    refine h.sem HF0 G HF H σ g x e1 _ fun v HF1 H1 fp s1 r1 _ _ => ?_
    exact ⟨v, .ty n, .type (Kd.nm α), .type n, r, rfl, .ty n, Kd.ok (Rp.mono s1.sub r1.1), kit_ty hk, (k.back s1).flat s1.sub⟩⟩
end
end Ty

namespace Ty
open PySem PySem.Spec PyProof.Rows L2
section
variable {P : Program} {w : World} {K : PySem.W.Frag} {mg : Str → Option Value} {base : Heap}
theorem fn_okD {A ρ : Type} [Rp ρ] {x qual : Str} {params : Arguments} {bd : List Stmt} {scope : Scope} {dvs : List V} {kws : List (Str × V)} {f : Addr} {fd : FuncData} {N ps : List Str} {k : Nat} {r : As A} {o : Ow ρ} {m : A → M (Ctl Unit Empty ρ)} (F : FunD K x qual params bd scope dvs kws f fd) (S : FnScope N ps scope) (hn : r.n = ps.length) (hN : N.length = r.n + (N.length - r.n))
    (body : ∀ (cdv : Value) (A' : Around) (outer : List Env) (s : Shared) (H : Hp) (E : XK), Room k (A'.deeper (envOfC qual scope s.heap.objs.size f cdv)) → ∀ a : A, ∃ t : TS,
      SS (cxOf CX0 P w K mg base N qual scope f cdv A' outer s H E).nox (r.ctx a ++ List.replicate (N.length - r.n) .un) bd (fun (_ : Unit) => []) (fun (_ : Empty) => []) o (m a) t)
    (ho : ∀ r R v H, R v H → o.out r R v H := by exact fun _ _ _ _ h => h) :
    FnOk P w K mg base CX0 (k + 1) f fd ps (spF K r o fun a => runC (m a)) := by
  refine F.ok S (fun vs H Q E h => ?_) (fun cdv A' outer s H vs Q E hr h => ?_)
  · obtain ⟨HF, a, c, h1, h2, h3, h4⟩ := h
    rw [r.len h2, hn]
  · obtain ⟨HF, a, c, h1, h2, h3, h4⟩ := h
    obtain ⟨t, q⟩ := body cdv A' outer s H E hr a
    refine ⟨t, q.pss.nox, ?_⟩
    obtain ⟨c', e1, h3⟩ := bind_ok h3
    have hl := r.len h2
    have hd := r.held (HF := HF) (H := H) (N.length - r.n) h2
    have es : L2.start N vs = vs.map some ++ List.replicate (N.length - r.n) none := by unfold L2.start; rw [hl]
    refine q.sem HF H HF H (L2.start N vs) ⟨h1, Same.refl _, Same.refl _, (fun p u a b => by rw [a] at b; cases b), [], by rw [es]; exact hd, List.nodup_nil, fun p hp => by cases hp⟩ c' e1 _ ?_
    cases c' with
    | nx s => cases h3
    | bk l => exact nomatch l
    | ct l => exact nomatch l
    | rt r' =>
      cases pure_ok (show (pure r' : M ρ) = .ok c from h3)
      exact fun v HF' H' fp a b c' d rr n ff => ho _ _ _ _ <| h4 v HF' H' fp ⟨b, c', a, d⟩ rr n fun p hp => ⟨(ff p hp).2, (ff p hp).1⟩
/-- a def of the text that keeps its promise -/
def Has (P : Program) (w : World) (K : PySem.W.Frag) (mg : Str → Option Value) (base : Heap) (x : Str) (k : Nat) (ps : List Str) (sp : Sp) : Prop :=
  ∃ f fd, FnOk P w K mg base CX0 k f fd ps sp ∧ mg x = some (.ref f) ∧ PySem.W.keepIn K (.ref f) = true ∧ Binds K fd ps []
end
theorem law_start {K : PySem.W.Frag} {mir : Scr → M Bool} {ns : List Int} {a : Addr} {H : Hp} {E : XK} (e : mir ⟨ns⟩ = .ok true) (hS : SqL K H a (ns.map V.int)) : spF K (As.cons (α := Scr) As.nil) (Ow.v : Ow Bool) (fun a => mir a.1) [.ref a] H (fun v _ => v = .bl true) E :=
  ⟨H, (⟨ns⟩, ()), true, Same.refl _, ⟨.ref a, [], rfl, ⟨a, rfl, hS⟩, rfl⟩, e, fun v HF' H' fp st r n f => r.1⟩
/-! ### comparisons, as a value or a test -/
structure EC (X : Cx) (Γ : Ctx) (op : CmpOp) (a b : Expr) (m : M Bool) (r : R2) (ta tb : TE) : Prop where
  ho : OpR X (compareOp op) r
  pa : PE X a ta
  pb : PE X b tb
  hm : behindInMarks op b = false
  sem : SemE X.K Γ (tOp r ta tb) Ow.v m
section
variable {X : Cx} {Γ : Ctx} {α β : Type} {a b c e : Expr} {es : List Expr} {pos p : Pos} {ta tb tc te : TE} {op : CmpOp} {r : R2} {m : M Bool} {t : TE}
theorem ex_c (h : EC X Γ op a b m r ta tb) : EX X Γ (.Compare a [op] [b] pos) Ow.v m (tOp r ta tb) := ⟨pe_cmpR h.ho h.pa h.pb h.hm, h.sem⟩
theorem et_c (h : EC X Γ op a b m r ta tb) : ET X Γ (.Compare a [op] [b] pos) m (tTest (tOp r ta tb)) :=
  ⟨pt_cmpR h.ho h.pa h.pb h.hm, fun HF0 G HF H σ g c hc Q k => h.sem HF0 G HF H σ g c hc _ fun v HF' H' fp s r _ _ => ⟨c, r.1, k HF' H' s⟩⟩
theorem ec_of [Rp α] [Rp β] {f : α → β → M Bool} {ma : M α} {mb : M β} (ho : OpR X (compareOp op) r) (hr : SemR2 X.K r Ow.v f) (ha : EX X Γ a Ow.v ma ta) (hb : EX X Γ b Ow.v mb tb) (hm : behindInMarks op b = false) : EC X Γ op a b (do let a ← ma; let b ← mb; f a b) r ta tb :=
  ⟨ho, ha.pe, hb.pe, hm, sem_op hr ha.sem hb.sem⟩
theorem ec_lt {ma mb : M Int} (ha : EX X Γ a Ow.v ma ta) (hb : EX X Γ b Ow.v mb tb) : EC X Γ .Lt a b (do let a ← ma; let b ← mb; pure (decide (a < b))) (rI0 fun i j => .bl (decide (i < j))) ta tb := ec_of op_lt (sr_I0 fun _ _ => rfl) ha hb (nomark _)
theorem ec_gt {ma mb : M Int} (ha : EX X Γ a Ow.v ma ta) (hb : EX X Γ b Ow.v mb tb) : EC X Γ .Gt a b (do let a ← ma; let b ← mb; pure (decide (b < a))) (rI0 fun i j => .bl (decide (j < i))) ta tb := ec_of op_gt (sr_I0 fun _ _ => rfl) ha hb (nomark _)
theorem ec_eq [Fl α] [DecidableEq α] [Sc α] {ma mb : M α} (ha : EX X Γ a Ow.v ma ta) (hb : EX X Γ b Ow.v mb tb) : EC X Γ .Eq a b (do let a ← ma; let b ← mb; pure (decide (a = b))) rEq ta tb := ec_of op_eq sr_eq ha hb (nomark _)
theorem ec_ne [Fl α] [DecidableEq α] [Sc α] {ma mb : M α} (ha : EX X Γ a Ow.v ma ta) (hb : EX X Γ b Ow.v mb tb) : EC X Γ .NotEq a b (do let a ← ma; let b ← mb; pure (!decide (a = b))) rNe ta tb := ec_of op_ne sr_ne ha hb (nomark _)
theorem ec_neD {K : PySem.W.Frag} [Rp α] [DecidableEq α] [Eqv α] {ma mb : M α} (hu : X.A.units + 64 < cLine) (ha : EX X Γ a Ow.v ma ta) (hb : EX X Γ b Ow.v mb tb) (hd : Eqv.dep α ≤ 64 := by decide) (hK : X.K = K := by rfl) : EC X Γ .NotEq a b (do let a ← ma; let b ← mb; neM a b) (rNeD K) ta tb := by
  subst hK
  exact ec_of (op_neD hu) (sr_neD hd) ha hb (nomark _)
class OpN (α : Type) [Fl (Option α)] : Prop where
  no : Fl.enc (none : Option α) = V.non
  so : ∀ a : α, Fl.enc (some a) ≠ V.non
instance : OpN Int := ⟨rfl, fun _ h => nomatch h⟩
instance : OpN Str := ⟨rfl, fun _ h => nomatch h⟩
/-- in, not in -/
class Mem (α : Type) [Fl α] [DecidableEq α] : Prop where
  fl : ∀ a : α, flatV (Fl.enc a) = true
  ev : ∀ a b : α, eqV (Fl.enc a) (Fl.enc b) = decide (a = b)
instance : Mem Int := ⟨fun _ => rfl, fun a b => by
  show (a == b) = decide (a = b)
  by_cases h : a = b <;> simp [h]⟩
instance : Mem Str := ⟨fun _ => rfl, fun a b => by
  show (a == b) = decide (a = b)
  by_cases h : a = b <;> simp [h]⟩
theorem mem_flat [Fl α] [DecidableEq α] [Mem α] : ∀ as : List α, (as.map Fl.enc).all flatV = true
  | [] => rfl
  | a :: as => by rw [List.map_cons, List.all_cons, Mem.fl, mem_flat as]; rfl
theorem mem_in [Fl α] [DecidableEq α] [Mem α] (a : α) : ∀ as : List α, inV (Fl.enc a) (as.map Fl.enc) = decide (a ∈ as)
  | [] => by simp [inV]
  | b :: as => by
    have ih := mem_in a as
    unfold inV at ih ⊢
    rw [List.map_cons, List.any_cons, ih, Mem.ev]
    by_cases h1 : b = a <;> by_cases h2 : a ∈ as <;> simp [h1, h2, eq_comm]
    · intro h; exact h1 h.symm
theorem sr_inL [Fl α] [DecidableEq α] [Mem α] {K : PySem.W.Frag} (neg : Bool) : SemR2 K (rIn K neg) Ow.v (fun (a : α) (b : List α) => pure (if neg then !decide (a ∈ b) else decide (a ∈ b))) := fun HF H v w a b c s ra ⟨q, us, e, h1, h2⟩ hc Q k => by
  cases pure_ok hc
  subst e
  have e2 := Fa.flat.mp h2
  subst e2
  rw [Fl.sh_iff.mp ra]
  refine ⟨q, _, rfl, .inl (SqL.of (s _ _ h1)), Mem.fl a, mem_flat b, ?_⟩
  rw [mem_in]; exact k.flat s
theorem ec_ninL {K : PySem.W.Frag} [Fl α] [DecidableEq α] [Mem α] {ma : M α} {mb : M (List α)} (ha : EX X Γ a Ow.v ma ta) (hb : EX X Γ b Ow.v mb tb) (hm : behindInMarks .NotIn b = false := by rfl) (hK : X.K = K := by rfl) : EC X Γ .NotIn a b (do let a ← ma; let b ← mb; pure (!decide (a ∈ b))) (rIn K true) ta tb := by
  subst hK
  exact ec_of op_notIn_seq (sr_inL true) ha hb hm
def inS (a b : Str) : Bool := !(Builtin.Str.occurrences b a 0 b.length 1).isEmpty
def rInSt : R2 := fun x y H Q => ∃ i j, x = .str i ∧ y = .str j ∧ Q (.bl (!(Builtin.Str.occurrences j i 0 j.length 1).isEmpty)) H
def rNinSt : R2 := fun x y H Q => ∃ i j, x = .str i ∧ y = .str j ∧ Q (.bl (!(!(Builtin.Str.occurrences j i 0 j.length 1).isEmpty))) H
theorem ec_inS {ma mb : M Str} (ha : EX X Γ a Ow.v ma ta) (hb : EX X Γ b Ow.v mb tb) (hm : behindInMarks .In b = false := by rfl) : EC X Γ .In a b (do let a ← ma; let b ← mb; pure (inS a b)) rInSt ta tb :=
  ec_of op_in_str (show SemR2 X.K rInSt Ow.v (fun (a b : Str) => pure (inS a b)) from fun HF H v w a b c s ra rb hc Q k => by
    cases pure_ok hc
    exact ⟨a, b, Fl.sh_iff.mp ra, Fl.sh_iff.mp rb, k.flat s⟩) ha hb hm
theorem ec_ninS {ma mb : M Str} (ha : EX X Γ a Ow.v ma ta) (hb : EX X Γ b Ow.v mb tb) (hm : behindInMarks .NotIn b = false := by rfl) : EC X Γ .NotIn a b (do let a ← ma; let b ← mb; pure (!inS a b)) rNinSt ta tb :=
  ec_of op_notIn_str (show SemR2 X.K rNinSt Ow.v (fun (a b : Str) => pure (!inS a b)) from fun HF H v w a b c s ra rb hc Q k => by
    cases pure_ok hc
    exact ⟨a, b, Fl.sh_iff.mp ra, Fl.sh_iff.mp rb, k.flat s⟩) ha hb hm
/-! ### sum, any, all, int -/
theorem ex_all {K : PySem.W.Frag} {m : M (List Bool)} (hc : X.calm = true) (hm : X.mg "all" = none) (h : EX X Γ e Ow.v m te) (hg : Gl X "all" := by rfl) (h1 : starEach [e] X.env = (false, eval e X.env) :: starEach [] X.env := by rfl) (hK : X.K = K := by rfl) : EX X Γ (.Call (.Name "all" p) [e] [] pos) Ow.v (do let a ← m; pure (a.all id)) (tCB (rAll K) (tCons te tNil)) := by
  subst hK
  exact ex_b1 (cr_all hc) (show SemC1 X.K (rAll X.K) Ow.v (fun (a : List Bool) => pure (a.all id)) from fun HF H v a c s ⟨q, us, e, h1, h2⟩ hc Q k => by
    cases pure_ok hc
    subst e
    have e2 := Fa.flat.mp h2
    subst e2
    exact ⟨q, a, rfl, SqL.of (s _ _ h1), k.flat s⟩) boot_all hm h hg (h1 := h1)
def rInt1 : List V → Hp → VK → Prop := fun xs H Q => (∃ i, xs = [.int i] ∧ Q (.int i) H) ∨ ∃ k, xs = [.bl k] ∧ Q (.int (if k then 1 else 0)) H
theorem ex_intB {m : M Bool} (hm : X.mg "int" = none) (h : EX X Γ e Ow.v m te) (hg : Gl X "int" := by rfl) (h1 : starEach [e] X.env = (false, eval e X.env) :: starEach [] X.env := by rfl) : EX X Γ (.Call (.Name "int" p) [e] [] pos) Ow.v (do let a ← m; pure (if a then (1 : Int) else 0)) (tCB rInt1 (tCons te tNil)) :=
  ex_t1 call_int1 (show SemC1 X.K rInt1 Ow.v (fun (a : Bool) => pure (if a then (1 : Int) else 0)) from fun HF H v a c s ra hc Q k => by
    cases pure_ok hc
    cases ra
    exact .inr ⟨a, rfl, k.flat s⟩) boot_int hm h hg (h1 := h1)
/-- a module's text -/
theorem ex_gstr {x z : Str} {pos : Pos} (hm : ∃ t, X.mg x = some (.str z t)) (hg : Gl X x := by rfl) (hd : (x == ("__debug__" : Str)) = false := by decide) : EX X Γ (.Name x pos) Ow.v (pure z) (tC (.str z)) := by
  obtain ⟨t, h⟩ := hm
  exact ⟨pe_glob hg h ⟨t, rfl⟩ hd, fun HF0 G HF H σ g c hc Q k => by cases pure_ok hc; exact k.flat g.sub⟩
theorem Has.at {P : Program} {w : World} {K : PySem.W.Frag} {mg : Str → Option Value} {base : Heap} {x : Str} {k : Nat} {ps : List Str} {sp : Sp} {f : Addr} (h : Has P w K mg base x k ps sp) (hm : mg x = some (.ref f)) : ∃ fd, FnOk P w K mg base CX0 k f fd ps sp := by
  obtain ⟨f', fd, F, m, _, _⟩ := h
  rw [hm] at m
  cases m
  exact ⟨fd, F⟩
end
/-! ### stores -/
def setM {α : Type} (as : List α) (k : Int) (a : α) : M (List α) := do let j ← ofO (ixN as.length k); pure (as.set j a)
theorem Rl.get {α : Type} {R : V → α → List Addr → Prop} : ∀ {vs : List V} {as : List α} {fp : List Addr} {j : Nat} {a : α}, Rl R vs as fp → as[j]? = some a → ∃ v f, vs[j]? = some v ∧ R v a f ∧ (∀ p ∈ f, p ∈ fp) ∧
    ∀ {v' : V} {a' : α} {f' : List Addr}, R v' a' f' → (∀ p ∈ f', p ∈ f ∨ p ∉ fp) → f'.Nodup → fp.Nodup → ∃ fp', Rl R (vs.set j v') (as.set j a') fp' ∧ fp'.Nodup ∧ (∀ p ∈ fp', p ∈ fp ∨ p ∈ f') ∧ ∀ p ∈ fp, p ∈ fp' ∨ p ∈ f
  | [], [], _, j, a, _, e => by simp at e
  | v :: vs, b :: as, fp, 0, a, ⟨f1, f2, e1, h1, h2⟩, e => by
    have e' : b = a := Option.some.inj e
    subst e'
    refine ⟨v, f1, rfl, h1, fun p hp => by rw [e1]; exact List.mem_append_left _ hp, fun {v' a' f'} r hf nd nf => ?_⟩
    rw [e1] at nf
    obtain ⟨n1, n2, n3⟩ := List.nodup_append.mp nf
    refine ⟨f' ++ f2, ⟨f', f2, rfl, r, h2⟩, List.nodup_append.mpr ⟨nd, n2, fun p hp q hq e => ?_⟩, fun p hp => ?_, fun p hp => ?_⟩
    · subst e
      rcases hf p hp with z | z
      · exact n3 p z p hq rfl
      · exact z (by rw [e1]; exact List.mem_append_right _ hq)
    · rcases List.mem_append.mp hp with z | z
      · exact .inr z
      · exact .inl (by rw [e1]; exact List.mem_append_right _ z)
    · rw [e1] at hp
      rcases List.mem_append.mp hp with z | z
      · exact .inr z
      · exact .inl (List.mem_append_right _ z)
  | v :: vs, b :: as, fp, j + 1, a, ⟨f1, f2, e1, h1, h2⟩, e => by
    obtain ⟨w, f, q1, q2, q3, q4⟩ := Rl.get (j := j) h2 e
    refine ⟨w, f, q1, q2, fun p hp => by rw [e1]; exact List.mem_append_right _ (q3 p hp), fun {v' a' f'} r hf nd nf => ?_⟩
    have nf' := nf
    rw [e1] at nf'
    obtain ⟨n1, n2, n3⟩ := List.nodup_append.mp nf'
    obtain ⟨fp', w1, w2, w3, w4⟩ := q4 r (fun p hp => (hf p hp).imp id fun z y => z (by rw [e1]; exact List.mem_append_right _ y)) nd n2
    refine ⟨f1 ++ fp', ⟨f1, fp', rfl, h1, w1⟩, List.nodup_append.mpr ⟨n1, w2, fun p hp q hq e => ?_⟩, fun p hp => ?_, fun p hp => ?_⟩
    · subst e
      rcases w3 p hq with z | z
      · exact n3 p hp p z rfl
      · rcases hf p z with y | y
        · exact n3 p hp p (q3 p y) rfl
        · exact y (by rw [e1]; exact List.mem_append_left _ hp)
    · rcases List.mem_append.mp hp with z | z
      · exact .inl (by rw [e1]; exact List.mem_append_left _ z)
      · exact (w3 p z).imp (fun y => by rw [e1]; exact List.mem_append_right _ y) id
    · rw [e1] at hp
      rcases List.mem_append.mp hp with z | z
      · exact .inl (List.mem_append_left _ z)
      · exact (w4 p z).imp (fun y => List.mem_append_right _ y) id
  | [], _ :: _, _, _, _, x, _ => x.elim
  | _ :: _, [], _, _, _, x, _ => x.elim
end Ty

namespace Ty
open PySem
/-! ### plain lemmas about the mirror's words -/
/-- a proof that the simplifier does not take for a definition's own -/
theorem nd {p : Prop} (h : p) : p := h
@[simp] theorem okB {α β : Type} (a : α) (k : α → M β) : ((Except.ok a : M α) >>= k) = k a := nd rfl
@[simp] theorem pureB {α β : Type} (a : α) (k : α → M β) : ((pure a : M α) >>= k) = k a := nd rfl
theorem bindA {α β γ : Type} (m : M α) (f : α → M β) (g : β → M γ) : ((m >>= f) >>= g) = m >>= fun a => f a >>= g := by cases m <;> rfl
@[simp] theorem gdT : gd true = .ok () := nd rfl
@[simp] theorem ofOs {α : Type} (a : α) : ofO (some a) = .ok a := nd rfl
@[simp] theorem runRt {ρ : Type} (r : ρ) : runC (.ok (.rt r) : M (Ctl Unit Empty ρ)) = .ok r := nd rfl
@[simp] theorem runRt' {ρ : Type} (r : ρ) : runC (pure (.rt r) : M (Ctl Unit Empty ρ)) = .ok r := nd rfl
@[simp] theorem thenLi {S' S L ρ : Type} (s : S') (k : S' → M (Ctl S L ρ)) : thenL (.inl s : S' ⊕ ρ) k = k s := nd rfl
@[simp] theorem thenLr {S' S L ρ : Type} (r : ρ) (k : S' → M (Ctl S L ρ)) : thenL (.inr r : S' ⊕ ρ) k = .ok (.rt r) := nd rfl
@[simp] theorem thenCn {S' S L ρ : Type} (s : S') (k : S' → M (Ctl S L ρ)) : thenC (.nx s : Ctl S' L ρ) k = k s := nd rfl
@[simp] theorem thenCr {S' S L ρ : Type} (r : ρ) (k : S' → M (Ctl S L ρ)) : thenC (.rt r : Ctl S' L ρ) k = .ok (.rt r) := nd rfl
@[simp] theorem thenCb {S' S L ρ : Type} (r : L) (k : S' → M (Ctl S L ρ)) : thenC (.bk r : Ctl S' L ρ) k = .ok (.bk r) := nd rfl
@[simp] theorem thenCc {S' S L ρ : Type} (r : L) (k : S' → M (Ctl S L ρ)) : thenC (.ct r : Ctl S' L ρ) k = .ok (.ct r) := nd rfl
/-- a loop, by what holds behind each turn -/
theorem loop_ind {α S ρ : Type} {f : α → S → M (Ctl S S ρ)} (P : List α → S → Prop) {xs : List α} {s : S} (h0 : P [] s) (h : ∀ pre x post s, xs = pre ++ x :: post → P pre s → ∃ s', f x s = .ok (.nx s') ∧ P (pre ++ [x]) s') : ∃ s', loopM f xs s = .ok (.inl s') ∧ P xs s' := by
  have q : ∀ (post pre : List α) (s : S), xs = pre ++ post → P pre s → ∃ s', loopM f post s = .ok (.inl s') ∧ P xs s' := by
    intro post
    induction post with
    | nil =>
      intro pre s e p
      rw [List.append_nil] at e
      subst e
      exact ⟨s, rfl, p⟩
    | cons x post ih =>
      intro pre s e p
      obtain ⟨s1, e1, p1⟩ := h pre x post s e p
      obtain ⟨s2, e2, p2⟩ := ih (pre ++ [x]) s1 (by rw [e]; simp) p1
      refine ⟨s2, ?_, p2⟩
      show (f x s >>= _) = _
      rw [e1]
      exact e2
  exact q xs [] s rfl h0
/-- comprehensions -/
theorem comp_map {α β : Type} {f : α → M β} (g : α → β) : ∀ {xs : List α}, (∀ x ∈ xs, f x = .ok (g x)) → compL (fun _ => pure true) f xs = .ok (xs.map g)
  | [], _ => rfl
  | x :: xs, h => by
    have ih := comp_map g (xs := xs) fun y hy => h y (List.mem_cons_of_mem _ hy)
    show (f x >>= _) = _
    rw [h x (List.mem_cons_self ..)]
    show (compL (fun _ => pure true) f xs >>= _) = _
    rw [ih]
    rfl
theorem compM_map {α β : Type} {f : α → M β} (g : α → β) {xs : List α} (hl : xs.length ≤ 16777216) (h : ∀ x ∈ xs, f x = .ok (g x)) : compM xs (fun _ => pure true) f = .ok (xs.map g) := by
  unfold compM
  rw [sizeLine_eq, decide_eq_true hl]
  exact comp_map g h
theorem comp_fm {α β : Type} {t : α → M Bool} {f : α → M β} (p : α → Bool) (g : α → β) : ∀ {xs : List α}, (∀ x ∈ xs, t x = .ok (p x)) → (∀ x ∈ xs, p x = true → f x = .ok (g x)) → compL t f xs = .ok ((xs.filter p).map g)
  | [], _, _ => rfl
  | x :: xs, ht, h => by
    have ih := comp_fm p g (xs := xs) (fun y hy => ht y (List.mem_cons_of_mem _ hy)) fun y hy => h y (List.mem_cons_of_mem _ hy)
    show (t x >>= _) = _
    rw [ht x (List.mem_cons_self ..)]
    cases q : p x with
    | false =>
      rw [List.filter_cons_of_neg (by rw [q]; decide)]
      exact ih
    | true =>
      rw [List.filter_cons_of_pos q]
      show (f x >>= _) = _
      rw [h x (List.mem_cons_self ..) q]
      show (compL t f xs >>= _) = _
      rw [ih]
      rfl
theorem compM_fm {α β : Type} {t : α → M Bool} {f : α → M β} (p : α → Bool) (g : α → β) {xs : List α} (hl : xs.length ≤ 16777216) (ht : ∀ x ∈ xs, t x = .ok (p x)) (h : ∀ x ∈ xs, p x = true → f x = .ok (g x)) : compM xs t f = .ok ((xs.filter p).map g) := by
  unfold compM
  rw [sizeLine_eq, decide_eq_true hl]
  exact comp_fm p g ht h
/-- bounds -/
theorem atI_ok {α : Type} {xs : List α} {i : Int} (h0 : 0 ≤ i) (h1 : i < xs.length) : L2.atI xs i = xs[i.toNat]? := by
  unfold L2.atI L2.ixN
  rw [if_pos h0, if_pos h1]
  rfl
theorem atM_ok {α : Type} [Inhabited α] {xs : List α} {i : Int} (h0 : 0 ≤ i) (h1 : i < xs.length) : atM xs i = .ok (xs.getD i.toNat default) := by
  unfold atM
  rw [atI_ok h0 h1, List.getElem?_eq_getElem (by omega), List.getD_eq_getElem?_getD, List.getElem?_eq_getElem (by omega)]
  rfl
theorem modM_ok {a b : Int} (h : 0 < b) : modM a b = .ok (a % b) := by simp [modM, posB, h]; rfl
theorem range1_ok {n : Int} (h0 : 0 ≤ n) (h1 : n < 4611686018427387904) : range1 n = .ok (rangeL 0 n) := by
  have e : rgB n = true := by
    unfold rgB
    rw [Bool.and_eq_true, decide_eq_true_eq, decide_eq_true_eq]
    omega
  unfold range1
  rw [e]; rfl
theorem mem_range1 {n x : Int} (h : x ∈ rangeL 0 n) : 0 ≤ x ∧ x < n := by
  unfold rangeL at h
  simp only [List.mem_map, List.mem_range] at h
  obtain ⟨k, hk, e⟩ := h
  omega
theorem lstM_ok {α : Type} {as : List α} (h : as.length ≤ 1000) : lstM as = .ok as := by
  unfold lstM szB
  rw [sizeLine_eq, decide_eq_true (by omega)]
  rfl
theorem appM_ok {α : Type} {as : List α} {a : α} (h : as.length ≤ 1000000) : appM as a = .ok (as ++ [a]) := by
  unfold appM
  rw [sizeLine_eq, decide_eq_true (by omega)]
  rfl
/-! ### what a mirror yields -/
def Ev {α : Type} (m : M α) (Q : α → Prop) : Prop := ∃ a, m = .ok a ∧ Q a
theorem Ev.ok {α : Type} {a : α} {Q : α → Prop} (h : Q a) : Ev (.ok a) Q := ⟨a, rfl, h⟩
theorem Ev.pure {α : Type} {a : α} {Q : α → Prop} (h : Q a) : Ev (Pure.pure a) Q := ⟨a, rfl, h⟩
theorem Ev.of {α : Type} {m : M α} {a : α} {Q : α → Prop} (e : m = .ok a) (h : Q a) : Ev m Q := ⟨a, e, h⟩
theorem Ev.eq {α : Type} {m : M α} {a : α} (h : Ev m (· = a)) : m = .ok a := by
  obtain ⟨b, e, h⟩ := h
  rw [e, h]
theorem Ev.mono {α : Type} {m : M α} {P Q : α → Prop} (h : Ev m P) (k : ∀ a, P a → Q a) : Ev m Q := by
  obtain ⟨a, e, h⟩ := h
  exact ⟨a, e, k a h⟩
theorem Ev.bind {α β : Type} {m : M α} {k : α → M β} {P : α → Prop} {Q : β → Prop} (h : Ev m P) (hk : ∀ a, P a → Ev (k a) Q) : Ev (m >>= k) Q := by
  obtain ⟨a, e, h⟩ := h
  rw [e]
  exact hk a h
theorem Ev.run {ρ : Type} {m : M (Ctl Unit Empty ρ)} {Q : ρ → Prop} (h : Ev m fun c => ∃ r, c = .rt r ∧ Q r) : Ev (runC m) Q := by
  obtain ⟨c, e, r, e2, h⟩ := h
  subst e e2
  exact ⟨r, rfl, h⟩
theorem Ev.loop {α S ρ : Type} {f : α → S → M (Ctl S S ρ)} {xs : List α} {s : S} (P : List α → S → Prop) (h0 : P [] s) (h : ∀ pre x post s, xs = pre ++ x :: post → P pre s → Ev (f x s) fun c => ∃ s', c = .nx s' ∧ P (pre ++ [x]) s') : Ev (loopM f xs s) fun c => ∃ s', c = .inl s' ∧ P xs s' := by
  obtain ⟨s', e, p⟩ := loop_ind P h0 fun pre x post s e p => by
    obtain ⟨c, e1, s', e2, q⟩ := h pre x post s e p
    subst e2
    exact ⟨s', e1, q⟩
  exact ⟨_, e, s', rfl, p⟩
/-- a loop, then the rest -/
theorem Ev.loopL {α S S' L ρ : Type} {f : α → S → M (Ctl S S ρ)} {xs : List α} {s : S} {k : S → M (Ctl S' L ρ)} {Q : Ctl S' L ρ → Prop} (P : List α → S → Prop) (h0 : P [] s) (h : ∀ pre x post s, xs = pre ++ x :: post → P pre s → Ev (f x s) fun c => ∃ s', c = .nx s' ∧ P (pre ++ [x]) s') (hk : ∀ s', P xs s' → Ev (k s') Q) : Ev (loopM f xs s >>= fun c => thenL c k) Q :=
  Ev.bind (Ev.loop P h0 h) fun c ⟨s', e, p⟩ => by subst e; exact hk s' p
theorem Ev.ite {α : Type} {c : Prop} [Decidable c] {a b : M α} {Q : α → Prop} (h1 : c → Ev a Q) (h2 : ¬ c → Ev b Q) : Ev (if c then a else b) Q := by
  by_cases h : c
  · rw [if_pos h]; exact h1 h
  · rw [if_neg h]; exact h2 h
theorem Ev.bif {α : Type} {c : Bool} {a b : M α} {Q : α → Prop} (h1 : c = true → Ev a Q) (h2 : c = false → Ev b Q) : Ev (if c then a else b) Q := Ev.ite h1 fun h => h2 (by simpa using h)
theorem Ev.comp {α β : Type} {t : α → M Bool} {f : α → M β} (P : α → β → Prop) {xs : List α} (hl : xs.length ≤ 16777216) (ht : ∀ x ∈ xs, t x = .ok true) (h : ∀ x ∈ xs, Ev (f x) (P x)) : Ev (compM xs t f) fun ys => ys.length = xs.length ∧ ∀ i (h1 : i < xs.length) (h2 : i < ys.length), P xs[i] ys[i] := by
  unfold compM
  rw [sizeLine_eq, decide_eq_true hl]
  show Ev (compL t f xs) _
  clear hl
  induction xs with
  | nil => exact ⟨[], rfl, rfl, fun i h1 => absurd h1 (Nat.not_lt_zero i)⟩
  | cons x xs ih =>
    obtain ⟨y, ey, py⟩ := h x (List.mem_cons_self ..)
    obtain ⟨ys, eys, hl, pys⟩ := ih (fun z hz => ht z (List.mem_cons_of_mem _ hz)) fun z hz => h z (List.mem_cons_of_mem _ hz)
    refine ⟨y :: ys, ?_, by simp [hl], ?_⟩
    · show (t x >>= _) = _
      rw [ht x (List.mem_cons_self ..)]
      show (f x >>= _) = _
      rw [ey]
      show (compL t f xs >>= _) = _
      rw [eys]
      rfl
    · intro i h1 h2
      cases i with
      | zero => exact py
      | succ i => exact pys i _ _
theorem pre_lt {α : Type} {xs pre post : List α} {x : α} (e : xs = pre ++ x :: post) : pre.length < xs.length := by
  have := congrArg List.length e
  simp at this; omega
theorem pre_mem {α : Type} {xs pre post : List α} {x : α} (e : xs = pre ++ x :: post) : x ∈ xs := by rw [e]; simp
/-- data without texts can always be compared -/
class EqvT (α : Type) [Rp α] [DecidableEq α] [Eqv α] : Prop where
  all : ∀ a : α, Eqv.ok a = true
instance : EqvT Int := ⟨fun _ => rfl⟩
instance : EqvT Bool := ⟨fun _ => rfl⟩
instance {α : Type} [Rp α] [DecidableEq α] [Eqv α] [EqvT α] : EqvT (List α) := ⟨fun as => List.all_eq_true.mpr fun a _ => EqvT.all a⟩
instance {α : Type} [Rp α] [DecidableEq α] [Eqv α] [EqvT α] : EqvT (Tu α) := ⟨fun as => List.all_eq_true.mpr fun a _ => EqvT.all a⟩
instance {α β : Type} [Rp α] [Rp β] [DecidableEq α] [DecidableEq β] [Eqv α] [Eqv β] [EqvT α] [EqvT β] : EqvT (α × β) := ⟨fun a => by
  show (Eqv.ok a.1 && Eqv.ok a.2) = true
  rw [EqvT.all, EqvT.all]; rfl⟩
theorem neM_ok {α : Type} [Rp α] [DecidableEq α] [Eqv α] [EqvT α] (a b : α) : neM a b = .ok (!decide (a = b)) := by
  unfold neM
  rw [EqvT.all, EqvT.all]; rfl
end Ty

namespace Ty
open PySem PySem.Spec PyProof.Rows L2
section
variable {X : Cx} {Γ : Ctx} {S L ρ α β γ A B S' : Type} [Rp ρ] {o : Ow ρ} {Γo : S → Ctx} {ΓL : L → Ctx} {a b e : Expr} {es : List Expr} {pos p p1 p2 apos cpos : Pos} {ta tb tc te : TE} {t : TA} {sts : List Stmt} {tr tr' : TS}
/-- x[i] = e -/
theorem ss_set [Rp α] (i : Nat) {u : Ow α} {as : List α} {x : Str} {m : M α} {mi : M Int} {k : List α → M (Ctl S L ρ)} (he : EX X Γ e u m te) (hi : EX X Γ b Ow.v mi tb) (hr : ∀ l, SS X (put Γ i (.mk (Ow.l u) l)) sts Γo ΓL o (k l) tr) (hl : look Γ i = .mk (Ow.l u) as := by rfl) (hN : X.N[i]? = some x := by rfl) (hv : Vis X.env.scope x := by first | exact Or.inl rfl | exact Or.inr (Or.inl rfl) | exact Or.inr (Or.inr rfl)) (hd : (x == ("__debug__" : Str)) = false := by decide)
    (hcd : (x == ("__classdict__" : Str)) = false := by decide)
    (hps : PE X e te → PG X (.Subscript (.Name x p) b p1) (gSub (tVar i) tb rSetL) → PS X (.Assign [.Subscript (.Name x p) b p1] e pos) (tAsg te (gSub (tVar i) tb rSetL)) := by exact fun h h' => ps_asg h h')
    (hpg : PE X (.Name x p) (tVar i) → PE X b tb → PG X (.Subscript (.Name x p) b p1) (gSub (tVar i) tb rSetL) := by exact fun h h' => pg_sub h h' set_list) :
    SS X Γ (.Assign [.Subscript (.Name x p) b p1] e pos :: sts) Γo ΓL o (do let a ← m; let b ← mi; let l ← setM as b a; k l) (tSeq (tAsg te (gSub (tVar i) tb rSetL)) tr) :=
  ⟨pss_cons (hps he.pe (hpg (pe_var hN hv hd hcd) hi.pe)) (hr []).pss, fun HF0 G HF H σ g c hc D kk => by
    obtain ⟨y, e1, hc⟩ := bind_ok hc
    obtain ⟨ix, e2, hc⟩ := bind_ok hc
    obtain ⟨l, e3, hc⟩ := bind_ok hc
    obtain ⟨j, e4, e3⟩ := bind_ok e3
    have e5 := pure_ok e3
    subst e5
    have e6 := ofO_ok e4
    obtain ⟨v, fo, hσ, ⟨q, vs, fq, h1, h2, h3, h4⟩, nd, hfo, back⟩ := g.take hl
    subst h1 h2
    refine he.sem HF0 G HF H σ g y e1 _ fun v' HF1 H1 fp st r n f => ?_
    refine ⟨.ref q, hσ, ?_⟩
    refine hi.sem HF0 G HF1 H1 σ (g.step st) ix e2 _ fun w HF2 H2 fp2 st2 r2 _ _ => ?_
    have st12 := st.trans st2
    refine ⟨q, vs, ix, j, rfl, r2.1, st12.exH _ _ h3, by rw [h4.len]; exact e6, ?_⟩
    have hqn : q ∉ fq := (List.nodup_cons.mp nd).1
    have hqp : q ∉ fp := fun z => by
      have := (f q z).1
      rw [h3] at this; cases this
    have hj : j < as.length := (ixN_seq e6).2.1
    obtain ⟨v0, f0, _, _, s1, s2⟩ := Rl.get (j := j) (Rl.step h4 st12) (List.getElem?_eq_getElem hj)
    have r' : u.rep X.K HF2 H2 v' y fp := u.mono st2.exF (fun p _ o e => st2.exH p o e) r
    have dmq := Rl.dom (fun v a f r => u.dom r) h4
    obtain ⟨fp', w1, w2, w3, w4⟩ := s2 r' (fun p hp => .inr fun z => by
      obtain ⟨w', hw⟩ := dmq p z
      rw [(f p hp).1] at hw; cases hw) n (List.nodup_cons.mp nd).2
    have hq' : q ∉ fp' := fun z => (w3 q z).elim hqn hqp
    have gg := back (u' := Ow.l u) (b := as.set j y) (v' := .ref q) (f' := q :: fp') (H' := upd H2 q (.lst (vs.set j v'))) st12 (fun p w hp e => by rw [upd_ne (fun z => hp (by rw [z]; exact List.mem_cons_self ..))]; exact e)
      ⟨q, vs.set j v', fp', rfl, rfl, upd_same, w1.upd hq'⟩ (List.nodup_cons.mpr ⟨hq', w2⟩) (fun p hp => by
        rcases List.mem_cons.mp hp with z | z
        · exact .inl (by rw [z]; exact List.mem_cons_self ..)
        · rcases w3 p z with z | z
          · exact .inl (List.mem_cons_of_mem _ z)
          · exact .inr ⟨(f p z).1, by
              obtain ⟨w', hw⟩ := u.dom r p z
              exact st2.nn (f p z).2 hw⟩)
    rw [set_self hσ] at gg
    exact (hr (as.set j y)).sem HF0 G HF2 _ σ gg c hc D (kk.mono st12.exF)⟩
theorem put_put : ∀ (Γ : Ctx) (r : Nat) (s t : Sl), put (put Γ r s) r t = put Γ r t
  | [], _, _, _ => rfl
  | _ :: _, 0, _, _ => rfl
  | u :: Γ, r + 1, s, t => congrArg (u :: ·) (put_put Γ r s t)
theorem put_un : ∀ (Γ : Ctx) (i r : Nat) (s : Sl), i ≠ r → put (put (put Γ r .un) i s) r .un = put (put Γ r .un) i s
  | [], _, _, _, _ => rfl
  | _ :: _, 0, 0, _, h => absurd rfl h
  | t :: Γ, 0, r + 1, s, _ => congrArg (s :: ·) (put_put Γ r .un .un)
  | _ :: _, _ + 1, 0, _, _ => rfl
  | t :: Γ, i + 1, r + 1, s, h => congrArg (t :: ·) (put_un Γ i r s fun e => h (congrArg (· + 1) e))
theorem look_put : ∀ (Γ : Ctx) (i : Nat) (s : Sl), i < Γ.length → look (put Γ i s) i = s
  | [], _, _, h => absurd h (Nat.not_lt_zero _)
  | _ :: _, 0, _, _ => rfl
  | _ :: Γ, i + 1, s, h => look_put Γ i s (Nat.lt_of_succ_lt_succ h)
/-- a, b = e -/
theorem ss_asgT [Rp α] [Inhabited α] {tg : Expr} {g : TG} {Γt : α → Ctx} {js : List Nat} {m : M α} {k : α → M (Ctl S L ρ)} (he : EX X Γ e Ow.v m te) (hg : ∀ x, EG X Γ tg g x (Γt x) js) (hr : ∀ x, SS X (Γt x) sts Γo ΓL o (k x) tr) (hs : swapsWithSole [tg] e pos.line X.env = pure false := by rfl) (hw : swappedStores [tg] e X.env = pure none := by rfl)
    (h1 : (assignEach [tg] X.env).map (·.2) = [assign tg X.env] := by rfl) : SS X Γ (.Assign [tg] e pos :: sts) Γo ΓL o (do let a ← m; k a) (tSeq (tAsg te g) tr) :=
  ⟨pss_cons (ps_asg he.pe (hg default).pg hs hw h1) (hr default).pss, fun HF0 G HF H σ gd c hc D kk => by
    obtain ⟨y, e1, hc⟩ := bind_ok hc
    refine he.sem HF0 G HF H σ gd y e1 _ fun v HF1 H1 fp st r n f => ?_
    refine (hg y).sem HF0 G HF1 H1 σ v (gd.step st) r.1 _ fun σ' g' _ _ => ?_
    exact (hr y).sem HF0 G HF1 H1 σ' g' c hc D (kk.mono st.exF)⟩
end
end Ty

namespace Ty
open PySem
/-! ### rows, tables, ranges -/
def row {α : Type} (n : Nat) (g : Nat → α) : List α := (List.range n).map g
theorem row_len {α : Type} (n : Nat) (g : Nat → α) : (row n g).length = n := by simp [row]
theorem row_get {α : Type} {n : Nat} {g : Nat → α} {i : Nat} (h : i < n) : (row n g)[i]? = some (g i) := by
  simp [row, h]
theorem row_congr {α : Type} {n : Nat} {g g' : Nat → α} (h : ∀ i, i < n → g i = g' i) : row n g = row n g' := List.map_congr_left fun i hi => h i (List.mem_range.mp hi)
theorem row_ext {α : Type} {n : Nat} {g : Nat → α} {l : List α} (hl : l.length = n) (h : ∀ i, i < n → l[i]? = some (g i)) : l = row n g := by
  apply List.ext_getElem?
  intro i
  by_cases hi : i < n
  · rw [h i hi, row_get hi]
  · rw [List.getElem?_eq_none (by omega), List.getElem?_eq_none (by rw [row_len]; omega)]
theorem row_of {α : Type} [Inhabited α] (l : List α) : l = row l.length fun i => l.getD i default := row_ext rfl fun i hi => by rw [List.getElem?_eq_getElem hi, List.getD_eq_getElem?_getD, List.getElem?_eq_getElem hi]; rfl
theorem atM_row {α : Type} {n : Nat} {g : Nat → α} {i : Int} (h0 : 0 ≤ i) (h1 : i < n) : atM (row n g) i = .ok (g i.toNat) := by
  unfold atM
  rw [atI_ok h0 (by rw [row_len]; exact h1), row_get (by omega)]
  rfl
theorem atM_rowN {α : Type} {n : Nat} {g : Nat → α} {i : Nat} (h1 : i < n) : atM (row n g) (i : Int) = .ok (g i) := by
  rw [atM_row (by omega) (by omega)]; rfl
theorem row_set {α : Type} {n : Nat} {g : Nat → α} {i : Nat} {v : α} (h : i < n) : (row n g).set i v = row n (fun j => if j = i then v else g j) := by
  apply row_ext (by rw [List.length_set, row_len])
  intro j hj
  by_cases e : j = i
  · subst e
    rw [if_pos rfl, List.getElem?_set_self (by rw [row_len]; exact hj)]
  · rw [if_neg e, List.getElem?_set_ne (fun z => e z.symm), row_get hj]
theorem setM_row {α : Type} {n : Nat} {g : Nat → α} {i : Int} {v : α} (h0 : 0 ≤ i) (h1 : i < n) : setM (row n g) i v = .ok (row n fun j => if j = i.toNat then v else g j) := by
  unfold setM
  rw [show L2.ixN (row n g).length i = some i.toNat from by unfold L2.ixN; rw [if_pos h0, if_pos (by rw [row_len]; exact h1)]]
  show (Except.ok _ : M _) = _
  rw [row_set (by omega)]
def tab (n : Nat) (f : Nat → Nat → Int) : List (List Int) := row n fun i => row n (f i)
theorem range_row (m : Int) : rangeL 0 m = row m.toNat (fun k => (k : Int)) := by
  unfold rangeL row
  rw [Int.sub_zero]
  exact List.map_congr_left fun k _ => by omega
theorem comp_rows {α β : Type} {n : Nat} {r : Nat → α} {f : α → M β} (g : Nat → β) (hn : n ≤ 1000000) (h : ∀ k, k < n → f (r k) = .ok (g k)) : compM (row n r) (fun _ => pure true) f = .ok (row n g) := by
  unfold compM
  rw [sizeLine_eq, decide_eq_true (by rw [row_len]; omega)]
  show compL _ _ _ = _
  unfold row
  have q : ∀ l : List Nat, (∀ k ∈ l, f (r k) = .ok (g k)) → compL (fun _ => pure true) f (l.map r) = .ok (l.map g) := by
    intro l
    induction l with
    | nil => intro _; rfl
    | cons k l ih =>
      intro hl
      show (f (r k) >>= _) = _
      rw [hl k (List.mem_cons_self ..)]
      show (compL _ f (l.map r) >>= _) = _
      rw [ih fun z hz => hl z (List.mem_cons_of_mem _ hz)]
      rfl
  exact q _ fun k hk => h k (List.mem_range.mp hk)
/-- a loop over range(m), by the number of turns -/
theorem Ev.loopN {S S' L ρ : Type} {f : Int → S → M (Ctl S S ρ)} {m : Int} {s : S} {k : S → M (Ctl S' L ρ)} {Q : Ctl S' L ρ → Prop} (P : Nat → S → Prop) (h0 : P 0 s) (h : ∀ (i : Nat) s, (i : Int) < m → P i s → Ev (f (i : Int) s) fun c => ∃ s', c = .nx s' ∧ P (i + 1) s') (hk : ∀ s', P m.toNat s' → Ev (k s') Q) : Ev (loopM f (rangeL 0 m) s >>= fun c => thenL c k) Q := by
  rw [range_row]
  refine Ev.loopL (fun pre s => P pre.length s) h0 ?_ fun s' p => hk s' (by rw [row_len] at p; exact p)
  intro pre x post s e p
  have hl := pre_lt e
  rw [row_len] at hl
  have hx : x = (pre.length : Int) := by
    have := congrArg (·[pre.length]?) e
    simp only [row_get hl] at this
    rw [List.getElem?_append_right (Nat.le_refl _), Nat.sub_self] at this
    exact (Option.some.inj this).symm
  subst hx
  refine (h pre.length s (by omega) p).mono ?_
  rintro c ⟨s', e, p'⟩
  exact ⟨s', e, by rw [List.length_append]; exact p'⟩
theorem ixN_ok {n : Nat} {k : Int} (h0 : 0 ≤ k) (h1 : k < n) : L2.ixN n k = some k.toNat := by unfold L2.ixN; rw [if_pos h0, if_pos h1]
end Ty

namespace Ty
open PySem PySem.Spec PyProof.Rows L2
/-! ### dicts with keys that are ints or texts -/
class Ky (κ : Type) extends Fl κ where
  key : κ → Key
  kv : ∀ k, kV (key k) = Fl.enc k
  inj : ∀ a b, key a = key b → a = b
instance : Ky Int := { toFl := inferInstanceAs (Fl Int), key := Sum.inl, kv := fun _ => rfl, inj := fun _ _ h => Sum.inl.inj h }
instance : Ky Str := { toFl := inferInstanceAs (Fl Str), key := Sum.inr, kv := fun _ => rfl, inj := fun _ _ h => Sum.inr.inj h }
structure Dc (κ β : Type) where
  l : List (κ × β)
instance {κ β : Type} : Inhabited (Dc κ β) := ⟨⟨[]⟩⟩
def Fk {κ β : Type} [Ky κ] (R : V → β → Prop) : List (Key × V) → List (κ × β) → Prop
  | [], [] => True
  | p :: ps, q :: qs => (p.1 = Ky.key q.1 ∧ R p.2 q.2) ∧ Fk R ps qs
  | _, _ => False
theorem Fk.mono {κ β : Type} [Ky κ] {R R' : V → β → Prop} (h : ∀ v b, R v b → R' v b) : ∀ {ps : List (Key × V)} {qs : List (κ × β)}, Fk R ps qs → Fk R' ps qs
  | [], [], _ => True.intro
  | _ :: _, _ :: _, ⟨⟨x, y⟩, z⟩ => ⟨⟨x, h _ _ y⟩, Fk.mono h z⟩
  | [], _ :: _, x => x.elim
  | _ :: _, [], x => x.elim
theorem Fk.len {κ β : Type} [Ky κ] {R : V → β → Prop} : ∀ {ps : List (Key × V)} {qs : List (κ × β)}, Fk R ps qs → ps.length = qs.length
  | [], [], _ => rfl
  | _ :: _, _ :: _, ⟨_, z⟩ => congrArg (· + 1) (Fk.len z)
  | [], _ :: _, x => x.elim
  | _ :: _, [], x => x.elim
instance rpDc {κ β : Type} [Ky κ] [Rp β] : Rp (Dc κ β) where
  sh K H v d := ∃ p kvs, v = .ref p ∧ H p = some (.dK kvs) ∧ Fk (Rp.sh K H) kvs d.l
  mono := fun e ⟨p, kvs, h1, h2, h3⟩ => ⟨p, kvs, h1, e _ _ h2, Fk.mono (fun _ _ h => Rp.mono e h) h3⟩
/-- an own dict, its values shared -/
def Ow.d {κ β : Type} [Ky κ] [Rp β] : Ow (Dc κ β) where
  rep K HF H v d fp := ∃ p kvs, v = .ref p ∧ fp = [p] ∧ H p = some (.dK kvs) ∧ Fk (Rp.sh K HF) kvs d.l
  mono := fun e k ⟨p, kvs, h1, h2, h3, h4⟩ => by
    subst h2
    exact ⟨p, kvs, h1, rfl, k p (List.mem_singleton.mpr rfl) _ h3, Fk.mono (fun _ _ h => Rp.mono e h) h4⟩
  dom := fun ⟨p, kvs, h1, h2, h3, h4⟩ q hq => by
    subst h2
    rw [List.mem_singleton.mp hq]
    exact ⟨_, h3⟩
  frz := fun e k ⟨p, kvs, h1, h2, h3, h4⟩ => by
    subst h2
    exact ⟨p, kvs, h1, k p (List.mem_singleton.mpr rfl) _ h3, Fk.mono (fun _ _ h => Rp.mono e h) h4⟩
instance indD {κ β : Type} [Ky κ] [Fl β] : Ind (Ow.d (κ := κ) (β := β)) where
  ind := fun ⟨p, kvs, h1, h2, h3, h4⟩ => ⟨p, kvs, h1, h2, h3, Fk.mono (fun _ _ h => Fl.sh_iff.mpr (Fl.sh_iff.mp h)) h4⟩
/-- the value of a key; a key's value put; a key dropped -/
def dget {κ β : Type} [DecidableEq κ] (l : List (κ × β)) (k : κ) : Option β := (l.find? fun p => decide (p.1 = k)).map (·.2)
def dput {κ β : Type} [DecidableEq κ] (l : List (κ × β)) (k : κ) (v : β) : List (κ × β) := if (l.any fun p => decide (p.1 = k)) = true then l.map fun p => if p.1 = k then (k, v) else p else l ++ [(k, v)]
def ddrop {κ β : Type} [DecidableEq κ] (l : List (κ × β)) (k : κ) : List (κ × β) := l.filter fun p => decide (p.1 ≠ k)
section
variable {κ β : Type} [Ky κ] [DecidableEq κ] {R : V → β → Prop}
theorem key_dec (a b : κ) : decide (Ky.key a = Ky.key b) = decide (a = b) := by
  by_cases h : a = b
  · subst h; simp
  · rw [decide_eq_false h, decide_eq_false fun e => h (Ky.inj a b e)]
theorem Fk.get (k : κ) : ∀ {ps : List (Key × V)} {qs : List (κ × β)}, Fk R ps qs → (∀ b, dget qs k = some b → ∃ v, valV ps (Ky.key k) = some v ∧ R v b) ∧ (dget qs k = none → valV ps (Ky.key k) = none)
  | [], [], _ => ⟨fun b h => by simp [dget] at h, fun _ => rfl⟩
  | p :: ps, q :: qs, ⟨⟨x, y⟩, z⟩ => by
    have ih := Fk.get k z
    by_cases h : q.1 = k
    · have e1 : dget (q :: qs) k = some q.2 := by simp [dget, h]
      have e2 : valV (p :: ps) (Ky.key k) = some p.2 := valV_pos (by rw [x, h])
      rw [e1, e2]
      exact ⟨fun b e => ⟨p.2, rfl, by rw [← Option.some.inj e]; exact y⟩, fun e => by cases e⟩
    · have e1 : dget (q :: qs) k = dget qs k := by simp [dget, h]
      have e2 : valV (p :: ps) (Ky.key k) = valV ps (Ky.key k) := valV_neg fun e => h (Ky.inj _ _ (by rw [← x, e]))
      rw [e1, e2]
      exact ih
  | [], _ :: _, x => x.elim
  | _ :: _, [], x => x.elim
theorem Fk.any (k : κ) : ∀ {ps : List (Key × V)} {qs : List (κ × β)}, Fk R ps qs → (ps.any fun p => decide (p.1 = Ky.key k)) = qs.any fun p => decide (p.1 = k)
  | [], [], _ => rfl
  | p :: ps, q :: qs, ⟨⟨x, y⟩, z⟩ => by rw [List.any_cons, List.any_cons, Fk.any k z, x, key_dec]
  | [], _ :: _, x => x.elim
  | _ :: _, [], x => x.elim
theorem Fk.app : ∀ {ps ps' : List (Key × V)} {qs qs' : List (κ × β)}, Fk R ps qs → Fk R ps' qs' → Fk R (ps ++ ps') (qs ++ qs')
  | [], _, [], _, _, h => h
  | _ :: _, _, _ :: _, _, ⟨x, y⟩, h => ⟨x, Fk.app y h⟩
  | [], _, _ :: _, _, x, _ => x.elim
  | _ :: _, _, [], _, x, _ => x.elim
theorem Fk.upd (k : κ) {v : V} {b : β} (h : R v b) : ∀ {ps : List (Key × V)} {qs : List (κ × β)}, Fk R ps qs → Fk R (ps.map fun p => if p.1 = Ky.key k then (p.1, v) else p) (qs.map fun p => if p.1 = k then (k, b) else p)
  | [], [], _ => True.intro
  | p :: ps, q :: qs, ⟨⟨x, y⟩, z⟩ => by
    refine ⟨?_, Fk.upd k h z⟩
    show (if p.1 = Ky.key k then (p.1, v) else p).1 = Ky.key (if q.1 = k then (k, b) else q).1 ∧ R (if p.1 = Ky.key k then (p.1, v) else p).2 (if q.1 = k then (k, b) else q).2
    by_cases e : q.1 = k
    · rw [if_pos (by rw [x, e]), if_pos e]
      exact ⟨by rw [x, e], h⟩
    · rw [if_neg (fun w => e (Ky.inj _ _ (by rw [← x, w]))), if_neg e]
      exact ⟨x, y⟩
  | [], _ :: _, x => x.elim
  | _ :: _, [], x => x.elim
theorem Fk.drop (k : κ) : ∀ {ps : List (Key × V)} {qs : List (κ × β)}, Fk R ps qs → Fk R (dropK ps (Ky.key k)) (ddrop qs k)
  | [], [], _ => True.intro
  | p :: ps, q :: qs, ⟨⟨x, y⟩, z⟩ => by
    have ih := Fk.drop k z
    unfold dropK ddrop at ih ⊢
    by_cases e : q.1 = k
    · rw [List.filter_cons_of_neg (by simp [x, e]), List.filter_cons_of_neg (by simp [e])]
      exact ih
    · rw [List.filter_cons_of_pos (by simp [x]; exact fun w => e (Ky.inj _ _ w)), List.filter_cons_of_pos (by simp [e])]
      exact ⟨⟨x, y⟩, ih⟩
  | [], _ :: _, x => x.elim
  | _ :: _, [], x => x.elim
end
theorem Fk.put {κ β : Type} [Ky κ] [DecidableEq κ] {R : V → β → Prop} (k : κ) {v : V} {b : β} (h : R v b) {ps : List (Key × V)} {qs : List (κ × β)} (f : Fk R ps qs) : Fk R (putK ps (Ky.key k) v) (dput qs k b) := by
  unfold putK dput
  rw [f.any k]
  by_cases c : (qs.any fun p => decide (p.1 = k)) = true
  · rw [if_pos c, if_pos c]; exact f.upd k h
  · rw [if_neg c, if_neg c]
    exact f.app ⟨⟨rfl, h⟩, True.intro⟩
section
variable {X : Cx} {Γ : Ctx} {S L ρ α β κ γ A B S' : Type} [Rp ρ] {o : Ow ρ} {Γo : S → Ctx} {ΓL : L → Ctx} {a b c e : Expr} {es : List Expr} {pos p p1 p2 apos cpos : Pos} {ta tb tc te : TE} {t : TA} {sts : List Stmt} {tr tr' : TS}
theorem hu1 {A : Around} (h : A.units + 64 < cLine) : A.units + 1 < cLine := by omega
theorem ex_dnew [Ky κ] [Rp β] : EX X Γ (.Dict [] [] pos) (Ow.d (κ := κ) (β := β)) (pure ⟨[]⟩) tDNewK :=
  ⟨pe_dnewK, fun HF0 G HF H σ g c hc Q k => by
    cases pure_ok hc
    intro p hp
    exact k (.ref p) HF _ [p] (Step.own g.sub hp) ⟨p, [], rfl, rfl, upd_same, True.intro⟩ (by simp) (fun q hq => by
      rw [List.mem_singleton.mp hq]; exact ⟨hp, g.sub.free hp⟩)⟩
def dgetM {κ β : Type} [DecidableEq κ] (d : Dc κ β) (k : κ) : M β := ofO (dget d.l k)
theorem ex_dget [Ky κ] [DecidableEq κ] [Rp β] {m : M (Dc κ β)} {n : M κ} (hu : X.A.units + 64 < cLine) (ha : EX X Γ a Ow.v m ta) (hb : EX X Γ b Ow.v n tb) (hs : NoSl b := by intro _ _; rfl) : EX X Γ (.Subscript a b pos) Ow.v (do let a ← m; let b ← n; dgetM a b) (tDGet ta tb) :=
  ⟨pe_dget (hu1 hu) ha.pe hb.pe hs, fun HF0 G HF H σ g c hc Q k => by
    obtain ⟨x, e1, hc⟩ := bind_ok hc
    obtain ⟨y, e2, hc⟩ := bind_ok hc
    refine ha.sem HF0 G HF H σ g x e1 _ fun v HF1 H1 fp s1 r1 _ _ => ?_
    refine hb.sem HF0 G HF1 H1 σ (g.step s1) y e2 _ fun w HF2 H2 fp2 s2 r2 _ _ => ?_
    obtain ⟨⟨q, kvs, rfl, h2, h3⟩, _⟩ := r1
    obtain ⟨v, hv, r⟩ := (h3.get y).1 c (ofO_ok hc)
    refine ⟨q, v, rfl, ?_, (k.back (s1.trans s2)).shv s2.sub (Rp.mono s2.exF r)⟩
    rw [Fl.sh_iff.mp r2.1, ← Ky.kv, ← hv]
    exact DGet.k (s2.sub _ _ (s2.exF _ _ h2))⟩
def dhas {κ β : Type} [DecidableEq κ] (d : Dc κ β) (k : κ) : Bool := (dget d.l k).isSome
theorem dhas_of [Ky κ] [DecidableEq κ] {R : V → β → Prop} {ps : List (Key × V)} {d : Dc κ β} (h : Fk R ps d.l) (k : κ) : (valV ps (Ky.key k)).isSome = dhas d k := by
  unfold dhas
  cases q : dget d.l k with
  | none => rw [(h.get k).2 q]; rfl
  | some b =>
    obtain ⟨v, hv, _⟩ := (h.get k).1 b q
    rw [hv]; rfl
structure EK (X : Cx) (Γ : Ctx) (op : CmpOp) (a b : Expr) (m : M Bool) (t : TE) : Prop where
  pc : PC X op a b t
  hm : behindInMarks op b = false
  sem : SemE X.K Γ t Ow.v m
theorem ex_k {op : CmpOp} {m : M Bool} {t : TE} (h : EK X Γ op a b m t) : EX X Γ (.Compare a [op] [b] pos) Ow.v m t := ⟨pe_cmp h.pc h.hm, h.sem⟩
theorem et_k {op : CmpOp} {m : M Bool} {t : TE} (h : EK X Γ op a b m t) : ET X Γ (.Compare a [op] [b] pos) m (tB t) :=
  ⟨pt_cmp h.pc h.hm, fun HF0 G HF H σ g c hc Q k => h.sem HF0 G HF H σ g c hc _ fun v HF' H' fp s r _ _ => ⟨c, r.1, k HF' H' s⟩⟩
theorem ek_dnin [Ky κ] [DecidableEq κ] [Rp β] {m : M κ} {n : M (Dc κ β)} (hu : X.A.units + 64 < cLine) (ha : EX X Γ a Ow.v m ta) (hb : EX X Γ b Ow.v n tb) (hm : behindInMarks .NotIn b = false := by rfl) : EK X Γ .NotIn a b (do let a ← m; let b ← n; pure (!dhas b a)) (tDNotIn ta tb) :=
  ⟨pc_dnotin (hu1 hu) ha.pe hb.pe, hm, fun HF0 G HF H σ g c hc Q k => by
    obtain ⟨x, e1, hc⟩ := bind_ok hc
    obtain ⟨y, e2, hc⟩ := bind_ok hc
    cases pure_ok hc
    refine ha.sem HF0 G HF H σ g x e1 _ fun v HF1 H1 fp s1 r1 _ _ => ?_
    refine hb.sem HF0 G HF1 H1 σ (g.step s1) y e2 _ fun w HF2 H2 fp2 s2 r2 _ _ => ?_
    obtain ⟨⟨q, kvs, rfl, h2, h3⟩, _⟩ := r2
    refine ⟨q, valV kvs (Ky.key x), rfl, ?_, ?_⟩
    · rw [Fl.sh_iff.mp r1.1, ← Ky.kv]
      exact DGet.k (s2.sub _ _ h2)
    · rw [dhas_of h3]
      exact (k.back (s1.trans s2)).flat s2.sub⟩
def dputM {κ β : Type} [DecidableEq κ] (d : Dc κ β) (k : κ) (v : β) : M (Dc κ β) := do gd (decide (d.l.length < sizeLine)); pure ⟨dput d.l k v⟩
/-- d[k] = e -/
theorem ss_dput [Ky κ] [DecidableEq κ] [Rp β] (i : Nat) {d : Dc κ β} {x : Str} {m : M β} {mk : M κ} {k : Dc κ β → M (Ctl S L ρ)} (hu : X.A.units + 64 < cLine) (he : EX X Γ e Ow.v m te) (hk : EX X Γ b Ow.v mk tb) (hr : ∀ l, SS X (put Γ i (.mk (Ow.d (κ := κ) (β := β)) l)) sts Γo ΓL o (k l) tr) (hl : look Γ i = .mk (Ow.d (κ := κ) (β := β)) d := by rfl) (hN : X.N[i]? = some x := by rfl) (hv : Vis X.env.scope x := by first | exact Or.inl rfl | exact Or.inr (Or.inl rfl) | exact Or.inr (Or.inr rfl)) (hd : (x == ("__debug__" : Str)) = false := by decide)
    (hcd : (x == ("__classdict__" : Str)) = false := by decide) (hs : swapsWith e (some (.Subscript (.Name x p) b p1)) pos.line X.env = pure false := by rfl) :
    SS X Γ (.Assign [.Subscript (.Name x p) b p1] e pos :: sts) Γo ΓL o (do let a ← m; let b ← mk; let l ← dputM d b a; k l) (tSeq (sDPut (tVar i) tb te) tr) :=
  ⟨pss_cons (ps_dput (hu1 hu) (pe_var hN hv hd hcd) hk.pe he.pe hs) (hr default).pss, fun HF0 G HF H σ g c hc D kk => by
    obtain ⟨y, e1, hc⟩ := bind_ok hc
    obtain ⟨ix, e2, hc⟩ := bind_ok hc
    obtain ⟨l, e3, hc⟩ := bind_ok hc
    obtain ⟨w, e4, e3⟩ := bind_ok e3
    have e5 := pure_ok e3
    subst e5
    have e6 := of_decide_eq_true (gd_ok e4)
    obtain ⟨v, fo, hσ, ⟨q, kvs, h1, h2, h3, h4⟩, nd, hfo, back⟩ := g.take hl
    subst h1 h2
    refine he.sem HF0 G HF H σ g y e1 _ fun v' HF1 H1 fp st r n f => ?_
    refine ⟨.ref q, hσ, ?_⟩
    refine hk.sem HF0 G HF1 H1 σ (g.step st) ix e2 _ fun w HF2 H2 fp2 st2 r2 _ _ => ?_
    have st12 := st.trans st2
    have h3' := st12.exH _ _ h3
    refine ⟨q, upd H2 q (.dK (putK kvs (Ky.key ix) v')), rfl, ?_, ?_⟩
    · rw [Fl.sh_iff.mp r2.1, ← Ky.kv]
      exact DPut.k h3' (by rw [h4.len]; exact e6)
    · have gg := back (u' := Ow.d (κ := κ) (β := β)) (b := ⟨dput d.l ix y⟩) (v' := .ref q) (f' := [q]) (H' := upd H2 q (.dK (putK kvs (Ky.key ix) v'))) st12 (fun p w hp e => by rw [upd_ne (fun z => hp (by rw [z]; exact List.mem_singleton.mpr rfl))]; exact e)
        ⟨q, _, rfl, rfl, upd_same, Fk.put ix (Rp.mono st2.exF r.1) (Fk.mono (fun _ _ h => Rp.mono st12.exF h) h4)⟩ (by simp) (fun p hp => .inl hp)
      rw [set_self hσ] at gg
      exact (hr ⟨dput d.l ix y⟩).sem HF0 G HF2 _ σ gg c hc D (kk.mono st12.exF)⟩
end
end Ty

namespace Ty
open PySem
/-! maths lemmas, second part -/
theorem divM_ok {a b : Int} (h : 0 < b) (h2 : b < 2 ^ 8999) : divM a b = .ok (a / b) := by
  have : b.natAbs.log2 < 9000 := by
    have hb : b.natAbs ≠ 0 := by omega
    rw [Nat.log2_lt hb]
    have : (b.natAbs : Int) < 2 ^ 8999 := by omega
    have h3 : b.natAbs < 2 ^ 8999 := by exact_mod_cast this
    exact Nat.lt_trans h3 (Nat.pow_lt_pow_right (by decide) (by decide))
  simp only [divM, divB, decide_eq_true h, decide_eq_true this, Bool.and_self, gdT, okB]
  rfl
theorem divM_s {a b : Int} (h : 0 < b) (h2 : b < 18446744073709551616) : divM a b = .ok (a / b) :=
  divM_ok h (by
    have e : (18446744073709551616 : Int) = 2 ^ 64 := by decide
    have : (2 : Int) ^ 64 ≤ 2 ^ 8999 := by exact_mod_cast Nat.pow_le_pow_right (by decide) (by decide)
    rw [e] at h2
    exact Int.lt_of_lt_of_le h2 this)
/-- a while that keeps P and lessens the measure -/
theorem Ev.whileR {S ρ S' L : Type} {c : S → M Bool} {f : S → M (Ctl S S ρ)} {k : S → M (Ctl S' L ρ)} {Q : Ctl S' L ρ → Prop} (P : S → Prop) (μ : S → Nat)
    (hf : ∀ s, P s → Ev (c s) fun b => if b then Ev (f s) fun y => (∃ s', (y = .nx s' ∨ y = .ct s') ∧ P s' ∧ μ s' < μ s) ∨ (∃ r, y = .rt r ∧ Q (.rt r)) ∨ (∃ s', y = .bk s' ∧ Ev (k s') Q) else Ev (k s) Q) :
    ∀ n s, P s → μ s < n → Ev (whileM c f n s >>= fun c => thenL c k) Q
  | 0, s, _, h => absurd h (by omega)
  | n + 1, s, hp, hm => by
    obtain ⟨b, eb, hb⟩ := hf s hp
    unfold whileM
    rw [bindA, eb, okB]
    cases b with
    | false =>
      simp only [Bool.false_eq_true, if_false, pureB, thenLi] at hb ⊢
      exact hb
    | true =>
      simp only [if_true] at hb ⊢
      obtain ⟨y, ey, hy⟩ := hb
      rw [bindA, ey, okB]
      rcases hy with ⟨s', h | h, hp', hm'⟩ | ⟨r, rfl, hq⟩ | ⟨s', rfl, hk⟩
      · subst h
        exact Ev.whileR P μ hf n s' hp' (by omega)
      · subst h
        exact Ev.whileR P μ hf n s' hp' (by omega)
      · exact ⟨_, rfl, hq⟩
      · simp only [pureB, thenLi]
        exact hk
theorem row_succ {α : Type} (n : Nat) (g : Nat → α) : row (n + 1) g = row n g ++ [g n] := by
  unfold row
  rw [List.range_succ, List.map_append]
  rfl
/-- the element that a loop over a row has reached -/
theorem row_pre {α : Type} {n : Nat} {g : Nat → α} {pre post : List α} {x : α} (e : row n g = pre ++ x :: post) : pre.length < n ∧ x = g pre.length ∧ pre = row pre.length g := by
  have hlt := pre_lt e
  rw [row_len] at hlt
  have h := row_get (g := g) hlt
  rw [e] at h
  refine ⟨hlt, by simpa using h, row_ext rfl fun i hi => ?_⟩
  have h := row_get (g := g) (show i < n by omega)
  rw [e, List.getElem?_append_left hi] at h
  exact h
end Ty

namespace Ty
open PySem PySem.Spec PyProof.Rows L2
/-! ## Ty13: sorted, list(range), pop, insert -/
def isort (a : List Int) : List Int := a.mergeSort (fun x y => decide (x ≤ y))
section
variable {X : Cx} {Γ : Ctx} {S L ρ α β γ A B S' : Type} [Rp ρ] {o : Ow ρ} {Γo : S → Ctx} {ΓL : L → Ctx} {a b e f : Expr} {es : List Expr} {pos p apos cpos pos2 : Pos} {ta tb te tf : TE} {t : TA} {sts : List Stmt} {tr tr' : TS} {tg : Expr}
/-! ### an expression that takes from a list at slot i -/
structure EP [Rp α] [Rp β] (X : Cx) (Γ : Ctx) (i : Nat) (e : Expr) (m : M (β × List α)) (t : TE) : Prop where
  pe : PE X e t
  sem : ∀ HF0 G HF H σ, Good X.K HF0 G Γ HF H σ → ∀ c l, m = .ok (c, l) → ∀ Q : VK, (∀ v HF1 H1, Same HF HF1 → Rp.sh X.K HF1 v c → Good X.K HF0 G (put Γ i (.mk (Ow.l (Ow.v : Ow α)) l)) HF1 H1 σ → Q v H1) → t σ H Q
def popAtM {α : Type} (as : List α) (i : Int) : M (α × List α) := do gd (decide (-(2 ^ 63) ≤ i) && decide (i < 2 ^ 63)); let k ← ofO (seqIndex? i as.length); let y ← ofO as[k]?; pure (y, as.eraseIdx k)
theorem Fa.eraseIdx' {R : V → α → Prop} : ∀ {vs : List V} {as : List α} (i : Nat), Fa R vs as → Fa R (vs.eraseIdx i) (as.eraseIdx i)
  | [], [], _, h => h
  | v :: vs, a :: as, 0, h => h.2
  | v :: vs, a :: as, i + 1, h => ⟨h.1, Fa.eraseIdx' i h.2⟩
  | [], _ :: _, _, h => h.elim
  | _ :: _, [], _, h => h.elim
theorem ep_popAt [Rp α] (i : Nat) {as : List α} {x : Str} {m : M Int} (he : EX X Γ e Ow.v m te) (hl : look Γ i = .mk (Ow.l (Ow.v : Ow α)) as := by rfl) (hN : X.N[i]? = some x := by rfl) (hv : Vis X.env.scope x := by first | exact Or.inl rfl | exact Or.inr (Or.inl rfl) | exact Or.inr (Or.inr rfl)) (hd : (x == ("__debug__" : Str)) = false := by decide)
    (hcd : (x == ("__classdict__" : Str)) = false := by decide)
    (hpe : ∀ {to : TE} {tt : TA}, PE X (.Name x p) to → PA X [e] tt → PE X (.Call (.Attribute (.Name x p) "pop" apos) [e] [] cpos) (tBM X.K "list" rPopAt to tt) := by exact fun h h' => pe_bm PySem.F.plainAttrs_list PySem.F.slot_list_pop PySem.F.type_list_pop mt_popAt h h')
    (h1 : starEach [e] X.env = (false, eval e X.env) :: starEach [] X.env := by rfl) :
    EP X Γ i (.Call (.Attribute (.Name x p) "pop" apos) [e] [] cpos) (do let j ← m; popAtM as j) (tBM X.K "list" rPopAt (tVar i) (tCons te tNil)) :=
  ⟨hpe (pe_var hN hv hd hcd) (pa_cons he.pe pa_nil h1), fun HF0 G HF H σ g c l hc Q k => by
    obtain ⟨j, e0, hc⟩ := bind_ok hc
    obtain ⟨u, e8, hc⟩ := bind_ok hc
    obtain ⟨n, e9, hc⟩ := bind_ok hc
    obtain ⟨y, e1, hc⟩ := bind_ok hc
    cases pure_ok hc
    obtain ⟨v, fo, hσ, ⟨q, vs, fq, h1, h2, h3, h4⟩, nd, hfo, back⟩ := g.take hl
    subst h1 h2
    obtain ⟨fa, e5⟩ := h4.toFa
    subst e5
    obtain ⟨w, e6, e7⟩ := fa.get' (ofO_ok e1)
    refine ⟨.ref q, hσ, .inl ⟨rfl, vs, SqL.of h3⟩, ?_⟩
    refine he.sem HF0 G HF H σ g j e0 _ fun v' HF1 H1 fp st r n' f => ?_
    have e10 := gd_ok e8
    rw [Bool.and_eq_true, decide_eq_true_eq, decide_eq_true_eq] at e10
    refine ⟨q, vs, j, n, w, rfl, by rw [Fl.sh_iff.mp r.1]; rfl, st.exH _ _ h3, e10.1, e10.2, by rw [fa.len]; exact ofO_ok e9, e6, ?_⟩
    have fa1 := fa.mono (fun v a h => Rp.mono st.exF h)
    have gg := back st (H' := upd H1 q (.lst (vs.eraseIdx n))) (u' := Ow.l (Ow.v : Ow α)) (b := as.eraseIdx n) (v' := .ref q) (f' := [q]) (fun p w hp e => by rw [upd_ne (fun z => hp (by rw [z]; exact List.mem_cons_self ..))]; exact e)
      ⟨q, vs.eraseIdx n, [], rfl, rfl, upd_same, Rl.ofFa (Fa.eraseIdx' n fa1)⟩ (by simp) (fun p hp => .inl hp)
    rw [set_self hσ] at gg
    exact k w HF1 _ st.exF (Rp.mono st.exF e7) gg⟩
/-- x.append(..pop..) -/
theorem ss_appP [Rp α] [Rp β] [Inhabited β] (i j : Nat) {bs : List β} {x : Str} {m : M (β × List α)} {k : β × List α → List β → M (Ctl S L ρ)} (he : EP X Γ i e m te) (hr : ∀ (q : β × List α) y, SS X (put (put Γ i (.mk (Ow.l (Ow.v : Ow α)) q.2)) j (.mk (Ow.l (Ow.v : Ow β)) y)) sts Γo ΓL o (k q y) tr) (hl0 : look Γ j = .mk (Ow.l (Ow.v : Ow β)) bs := by rfl) (hl : ∀ l, look (put Γ i (.mk (Ow.l (Ow.v : Ow α)) l)) j = .mk (Ow.l (Ow.v : Ow β)) bs := by intro; rfl) (hN : X.N[j]? = some x := by rfl) (hv : Vis X.env.scope x := by first | exact Or.inl rfl | exact Or.inr (Or.inl rfl) | exact Or.inr (Or.inr rfl)) (hd : (x == ("__debug__" : Str)) = false := by decide)
    (hcd : (x == ("__classdict__" : Str)) = false := by decide)
    (hpe : ∀ {to : TE} {tt : TA}, PE X (.Name x p) to → PA X [e] tt → PE X (.Call (.Attribute (.Name x p) "append" apos) [e] [] cpos) (tBM X.K "list" rAppend to tt) := by exact fun h h' => pe_bm PySem.F.plainAttrs_list PySem.F.slot_list_append PySem.F.type_list_append mt_append h h')
    (h1 : starEach [e] X.env = (false, eval e X.env) :: starEach [] X.env := by rfl)
    (hs : swapsWith (.Call (.Attribute (.Name x p) "append" apos) [e] [] cpos) none pos.line X.env = pure false := by rfl) :
    SS X Γ (.Expr (.Call (.Attribute (.Name x p) "append" apos) [e] [] cpos) pos :: sts) Γo ΓL o (do let a ← m; let y ← appM bs a.1; k a y) (tSeq (tDrop (tBM X.K "list" rAppend (tVar j) (tCons te tNil))) tr) :=
  ⟨pss_cons (ps_expr (hpe (pe_var hN hv hd hcd) (pa_cons he.pe pa_nil h1)) hs) (hr default default).pss, fun HF0 G HF H σ g c hc D kk => by
    obtain ⟨⟨y, l⟩, e1, hc⟩ := bind_ok hc
    obtain ⟨l2, e2, hc⟩ := bind_ok hc
    obtain ⟨w, e3, e2⟩ := bind_ok e2
    have e4 := pure_ok e2
    subst e4
    obtain ⟨v0, fo0, hσ0, ⟨q0, vs0, fq0, h01, h02, h03, h04⟩, _⟩ := g.take hl0
    subst h01
    refine ⟨.ref q0, hσ0, .inl ⟨rfl, vs0, SqL.of h03⟩, ?_⟩
    refine he.sem HF0 G HF H σ g y l e1 _ fun v' HF1 H1 st r gg => ?_
    obtain ⟨v, fo, hσ, ⟨q, vs, fq, h1, h2, h3, h4⟩, nd, hfo, back⟩ := gg.take (hl l)
    rw [hσ0] at hσ
    cases hσ
    cases h1
    subst h2
    obtain ⟨fa, e5⟩ := h4.toFa
    subst e5
    refine ⟨q0, vs, v', rfl, rfl, h3, by rw [fa.len]; exact of_decide_eq_true (gd_ok e3), ?_⟩
    have g2 := back (Step.refl gg.sub) (H' := upd H1 q0 (.lst (vs ++ [v']))) (u' := Ow.l (Ow.v : Ow β)) (b := bs ++ [y]) (v' := .ref q0) (f' := [q0]) (fun p w hp e => by rw [upd_ne (fun z => hp (by rw [z]; exact List.mem_cons_self ..))]; exact e)
      ⟨q0, vs ++ [v'], [], rfl, rfl, upd_same, Rl.ofFa (fa.append ⟨r, True.intro⟩)⟩ (by simp) (fun p hp => .inl hp)
    rw [set_self hσ0] at g2
    exact (hr (y, l) (bs ++ [y])).sem HF0 G HF1 _ σ g2 c hc D (kk.mono st)⟩
end
end Ty

namespace Ty
open PySem PySem.Spec PyProof.Rows L2
/-! ## Ty14: divmod, module tuples, dict.get -/
/-- a tuple of ints -/
def intsB (K : PySem.W.Frag) (v : Value) (ns : List Int) : Bool := match v with
  | .ref b => (match K.lookup b with
    | some ⟨.type c, _, .seq its _, _⟩ => decide (c = "tuple") && (decide (its.size ≤ sizeLine) && He.relAll (ns.map V.int) its.toList)
    | _ => false)
  | _ => false
theorem intsB_ok {K : PySem.W.Frag} {v : Value} {ns : List Int} (h : intsB K v ns = true) : ∃ b, v = .ref b ∧ ∀ H, SqT K H b (ns.map V.int) := by
  cases v with
  | ref b =>
    refine ⟨b, rfl, fun H => ?_⟩
    unfold intsB at h
    simp only at h
    cases q : K.lookup b with
    | none => rw [q] at h; cases h
    | some o =>
      obtain ⟨oc, od, dt, osl⟩ := o
      rw [q] at h
      cases oc with
      | type c =>
        cases dt with
        | seq its n =>
          obtain ⟨h1, h2⟩ := He.ba (show (decide (c = "tuple") && (decide (its.size ≤ sizeLine) && He.relAll (ns.map V.int) its.toList)) = true from h)
          obtain ⟨h3, h4⟩ := He.ba h2
          exact .inr ⟨_, its, n, q, congrArg Value.type (of_decide_eq_true h1), rfl, of_decide_eq_true h3, He.relAll_ok h4⟩
        | _ => cases h
      | _ => cases dt <;> cases h
  | _ => cases h
def allB (K : PySem.W.Frag) : List Value → List (List Int) → Bool
  | [], [] => true
  | v :: vs, n :: ns => intsB K v n && allB K vs ns
  | _, _ => false
theorem allB_ok {K : PySem.W.Frag} : ∀ {vs : List Value} {ns : List (List Int)}, allB K vs ns = true → ∃ ps : List Addr, Vals (ps.map V.ref) vs ∧ ∀ H, Fa (fun v n => ∃ p us, v = V.ref p ∧ SqT K H p us ∧ us = n.map V.int) (ps.map V.ref) ns
  | [], [], _ => ⟨[], .nil, fun _ => True.intro⟩
  | v :: vs, n :: ns, h => by
    obtain ⟨h1, h2⟩ := He.ba (show (intsB K v n && allB K vs ns) = true from h)
    obtain ⟨b, rfl, hb⟩ := intsB_ok h1
    obtain ⟨ps, q1, q2⟩ := allB_ok h2
    exact ⟨b :: ps, .cons rfl q1, fun H => ⟨⟨b, _, rfl, hb H, rfl⟩, q2 H⟩⟩
  | [], _ :: _, h => by cases h
  | _ :: _, [], h => by cases h
/-- the module's name x is a tuple of tuples of ints -/
def tup2B (x : Str) (ns : List (List Int)) (K : PySem.W.Frag) : Bool := match K.lookup (He.ga K x) with
  | some ⟨.type c, _, .seq its _, _⟩ => decide (c = "tuple") && (decide (its.size ≤ sizeLine) && allB K its.toList ns)
  | _ => false
theorem tup2B_ok {K : PySem.W.Frag} {x : Str} {ns : List (List Int)} (h : tup2B x ns K = true) (H : Hp) : Rp.sh K H (V.ref (He.ga K x)) (Tu.mk (ns.map Tu.mk)) := by
  unfold tup2B at h
  cases q : K.lookup (He.ga K x) with
  | none => rw [q] at h; cases h
  | some o =>
    obtain ⟨oc, od, dt, osl⟩ := o
    rw [q] at h
    cases oc with
    | type c =>
      cases dt with
      | seq its n =>
        obtain ⟨h1, h2⟩ := He.ba (show (decide (c = "tuple") && (decide (its.size ≤ sizeLine) && allB K its.toList ns)) = true from h)
        obtain ⟨h3, h4⟩ := He.ba h2
        obtain ⟨ps, h5, h6⟩ := allB_ok h4
        refine ⟨_, ps.map V.ref, rfl, .inr ⟨_, its, n, q, congrArg Value.type (of_decide_eq_true h1), rfl, of_decide_eq_true h3, h5⟩, ?_⟩
        have h7 := h6 H
        clear h5 h6 h4 h2 h h3 q
        generalize ps.map V.ref = vs at h7
        induction vs generalizing ns with
        | nil => cases ns with
          | nil => exact True.intro
          | cons _ _ => exact h7.elim
        | cons v vs ih => cases ns with
          | nil => exact h7.elim
          | cons n ns =>
            obtain ⟨⟨p, us, e1, e2, e3⟩, h8⟩ := h7
            exact ⟨⟨p, us, e1, e2, Fa.flat.mpr e3⟩, ih h8⟩
      | _ => cases h
    | _ => cases dt <;> cases h
section
variable {X : Cx} {Γ : Ctx} {S L ρ α β γ A B S' : Type} [Rp ρ] {o : Ow ρ} {Γo : S → Ctx} {ΓL : L → Ctx} {a b e f : Expr} {es : List Expr} {pos p apos cpos pos2 : Pos} {ta tb te tf : TE} {t : TA} {sts : List Stmt} {tr tr' : TS} {tg : Expr}
theorem ex_gtu {K : PySem.W.Frag} [Rp α] {x : Str} {z : α} (hm : X.mg x = some (.ref (He.ga K x)) ∧ ∀ H, Rp.sh K H (V.ref (He.ga K x)) z) (hg : Gl X x := by rfl) (hd : (x == ("__debug__" : Str)) = false := by decide) (hK : X.K = K := by rfl) : EX X Γ (.Name x pos) Ow.v (pure z) (tC (.ref (He.ga K x))) := by
  subst hK
  exact ⟨pe_glob hg hm.1 rfl hd, fun HF0 G HF H σ g c hc Q k => by cases pure_ok hc; exact k.shv g.sub (hm.2 HF)⟩
def dmM (i j : Int) : M (Int × Int) := do gd (decide (0 < j) && decide (j < 1073741824)); pure (i / j, i % j)
def rDivmod : List V → Hp → VK → Prop := fun xs H Q => ∃ i j, xs = [.int i, .int j] ∧ CDiv i j ∧ ∀ p, H p = none → Q (.ref p) (upd H p (.tup [.int (i / j), .int (i % j)]))
theorem ex_divmod {m n : M Int} (hm : X.mg "divmod" = none) (ha : EX X Γ a Ow.v m ta) (hb : EX X Γ b Ow.v n tb) (hg : Gl X "divmod" := by rfl) (h1 : starEach [a, b] X.env = (false, eval a X.env) :: starEach [b] X.env := by rfl) (h2 : starEach [b] X.env = (false, eval b X.env) :: starEach [] X.env := by rfl) (hpl : (backTo pos (starEach [b] X.env)).any (·.1) = false := by rfl) : EX X Γ (.Call (.Name "divmod" p) [a, b] [] pos) (Ow.p Ow.v Ow.v) (do let a ← m; let b ← n; dmM a b) (tCB rDivmod (tCons ta (tCons tb tNil))) :=
  ex_b2 call_divmod (show SemC2 X.K rDivmod (Ow.p Ow.v Ow.v) dmM from fun HF H v w a b c s ra rb hc Q k => by
    obtain ⟨u, e1, hc⟩ := bind_ok hc
    cases pure_ok hc
    have e2 := gd_ok e1
    rw [Bool.and_eq_true, decide_eq_true_eq, decide_eq_true_eq] at e2
    refine ⟨a, b, by rw [Fl.sh_iff.mp ra, Fl.sh_iff.mp rb]; rfl, ⟨e2.1, e2.2⟩, fun p hp => ?_⟩
    exact k.obj (fp := []) (Step.refl s) hp ⟨p, _, _, [], [], rfl, rfl, upd_same, ⟨Fl.sh_iff.mpr rfl, rfl⟩, ⟨Fl.sh_iff.mpr rfl, rfl⟩⟩ List.nodup_nil (fun q hq => by cases hq) (fun q hq => by cases hq)) (by decide +kernel) hm ha hb hg (h1 := h1) (h2 := h2) (hpl := hpl)
end
end Ty

namespace Ty
open PySem
/-! ## Ty15: maths: walks that come back, nets -/
theorem len_le_of_lt : ∀ (m : Nat) (l : List Nat), l.Nodup → (∀ x ∈ l, x < m) → l.length ≤ m
  | 0, l, _, h => by
    cases l with
    | nil => simp
    | cons a l => exact absurd (h a (List.mem_cons_self ..)) (by omega)
  | m + 1, l, hn, h => by
    by_cases hm : m ∈ l
    · have := len_le_of_lt m (l.erase m) (hn.erase m) (fun x hx => by
        rw [hn.mem_erase_iff] at hx
        have := h x hx.2
        omega)
      rw [List.length_erase_of_mem hm] at this
      omega
    · have := len_le_of_lt m l hn (fun x hx => by
        have := h x hx
        rcases Nat.lt_or_ge x m with h1 | h1
        · exact h1
        · have : x = m := by omega
          subst this; exact absurd hx hm)
      omega
theorem pigeon (m : Nat) (f : Nat → Nat) (h : ∀ i, i ≤ m → f i < m) : ∃ i j, i < j ∧ j ≤ m ∧ f i = f j := by
  refine Classical.byContradiction fun hc => ?_
  have hn : ((List.range (m + 1)).map f).Nodup := by
    rw [List.nodup_iff_pairwise_ne, List.pairwise_map]
    refine List.Pairwise.imp_of_mem ?_ (List.pairwise_lt_range)
    intro a b ha hb hab e
    exact hc ⟨a, b, hab, by have := List.mem_range.mp hb; omega, e⟩
  have := len_le_of_lt m _ hn (fun x hx => by
    obtain ⟨i, hi, rfl⟩ := List.mem_map.mp hx
    exact h i (by have := List.mem_range.mp hi; omega))
  simp at this
  omega
theorem least_of (P : Nat → Prop) [DecidablePred P] : ∀ n, P n → ∃ k, k ≤ n ∧ P k ∧ ∀ j, j < k → ¬ P j
  | 0, h => ⟨0, Nat.le_refl _, h, fun j hj => absurd hj (by omega)⟩
  | n + 1, h => by
    by_cases h0 : P 0
    · exact ⟨0, by omega, h0, fun j hj => absurd hj (by omega)⟩
    · obtain ⟨k, h1, h2, h3⟩ := least_of (fun i => P (i + 1)) n h
      exact ⟨k + 1, by omega, h2, fun j hj => by
        cases j with
        | zero => exact h0
        | succ j => exact h3 j (by omega)⟩
/-- the walk s e, s (s e), .. -/
def orb (s : Int → Int) (e : Int) : Nat → Int
  | 0 => e
  | k + 1 => s (orb s e k)
theorem orb_in {s : Int → Int} {e : Int} {m : Nat} (h : ∀ x : Int, 0 ≤ x → x < m → 0 ≤ s x ∧ s x < m) (h0 : 0 ≤ e) (h1 : e < m) : ∀ k, 0 ≤ orb s e k ∧ orb s e k < m
  | 0 => ⟨h0, h1⟩
  | k + 1 => h _ (orb_in h h0 h1 k).1 (orb_in h h0 h1 k).2
/-- an injective step comes back -/
theorem orb_back {s : Int → Int} {e : Int} {m : Nat} (h : ∀ x : Int, 0 ≤ x → x < m → 0 ≤ s x ∧ s x < m) (inj : ∀ x y : Int, 0 ≤ x → x < m → 0 ≤ y → y < m → s x = s y → x = y) (h0 : 0 ≤ e) (h1 : e < m) :
    ∃ k, 1 ≤ k ∧ k ≤ m ∧ orb s e k = e ∧ ∀ j, 1 ≤ j → j < k → orb s e j ≠ e := by
  have hin := orb_in h h0 h1
  obtain ⟨i, j, hij, hj, e1⟩ := pigeon m (fun k => (orb s e k).toNat) (fun i _ => by have := hin i; omega)
  have e1 : orb s e i = orb s e j := by
    have a := hin i; have b := hin j
    have e1 : (orb s e i).toNat = (orb s e j).toNat := e1
    omega
  have back : ∀ i d, orb s e i = orb s e (i + d) → orb s e d = e := by
    intro i
    induction i with
    | zero => intro d q; rw [Nat.zero_add] at q; exact q.symm
    | succ i ih =>
      intro d q
      refine ih d ?_
      rw [show i + 1 + d = (i + d) + 1 by omega] at q
      exact inj _ _ (hin i).1 (hin i).2 (hin (i + d)).1 (hin (i + d)).2 q
  have e2 := back i (j - i) (by rw [show i + (j - i) = j by omega]; exact e1)
  obtain ⟨k, hk, hk2, hk3⟩ := least_of (fun k => orb s e (k + 1) = e) (j - i - 1) (by rw [show j - i - 1 + 1 = j - i by omega]; exact e2)
  refine ⟨k + 1, by omega, by omega, hk2, fun j' h1 h2 => ?_⟩
  have := hk3 (j' - 1) (by omega)
  rw [show j' - 1 + 1 = j' by omega] at this
  exact this
theorem popAtM_ok {α : Type} [Inhabited α] {as : List α} {i : Int} (h0 : 0 ≤ i) (h1 : i < as.length) (h2 : i < 9223372036854775808) : popAtM as i = .ok (as.getD i.toNat default, as.eraseIdx i.toNat) := by
  unfold popAtM
  have e1 : (decide (-(2 ^ 63) ≤ i) && decide (i < 2 ^ 63)) = true := by simp; omega
  have e2 : seqIndex? i as.length = some i.toNat := (L2.ixN_seq (ixN_ok h0 h1)).1
  rw [e1, e2]
  simp only [gdT, okB, ofOs]
  rw [List.getD_eq_getElem?_getD, List.getElem?_eq_getElem (by omega)]
  rfl
theorem dmM_ok {i j : Int} (h0 : 0 < j) (h1 : j < 1073741824) : dmM i j = .ok (i / j, i % j) := by
  unfold dmM
  rw [decide_eq_true h0, decide_eq_true h1]; rfl
theorem dputM_ok {κ β : Type} [DecidableEq κ] {d : Dc κ β} {k : κ} {v : β} (h : d.l.length < 1000000) : dputM d k v = .ok ⟨dput d.l k v⟩ := by
  unfold dputM
  rw [decide_eq_true (by rw [sizeLine_eq]; omega)]; rfl
theorem dput_len {κ β : Type} [DecidableEq κ] (l : List (κ × β)) (k : κ) (v : β) : (dput l k v).length ≤ l.length + 1 := by
  unfold dput
  split <;> simp
/-- joining by a way -/
def jn (w s : Int) : Int := if w = 0 then (if s = 0 then 1 else if s = 1 then 0 else if s = 2 then 3 else 2) else if w = 1 then (if s = 0 then 2 else if s = 1 then 3 else if s = 2 then 0 else 1) else 3 - s
theorem jn_in {w s : Int} (h0 : 0 ≤ s) (h1 : s < 4) : 0 ≤ jn w s ∧ jn w s < 4 := by
  unfold jn
  repeat' split
  all_goals omega
theorem jn_jn {w s : Int} (h0 : 0 ≤ s) (h1 : s < 4) : jn w (jn w s) = s := by
  have hs : s = 0 ∨ s = 1 ∨ s = 2 ∨ s = 3 := by omega
  unfold jn
  by_cases h : w = 0
  · rcases hs with rfl | rfl | rfl | rfl <;> simp [h]
  · by_cases h2 : w = 1
    · rcases hs with rfl | rfl | rfl | rfl <;> simp [h2]
    · simp [h, h2]; omega
/-- the end joined with an end -/
def par (c : Nat → Int) (e : Int) : Int := 4 * (e / 4) + jn (c (e / 4).toNat) (e % 4)
theorem par_in {c : Nat → Int} {e : Int} {n : Nat} (h0 : 0 ≤ e) (h1 : e < ((4 * n : Nat) : Int)) : 0 ≤ par c e ∧ par c e < ((4 * n : Nat) : Int) := by
  have := jn_in (w := c (e / 4).toNat) (s := e % 4) (by omega) (by omega)
  unfold par
  omega
theorem par_par {c : Nat → Int} {e : Int} (h0 : 0 ≤ e) : par c (par c e) = e := by
  have h := jn_in (w := c (e / 4).toNat) (s := e % 4) (by omega) (by omega)
  have h2 := jn_jn (w := c (e / 4).toNat) (s := e % 4) (by omega) (by omega)
  have e1 : par c e / 4 = e / 4 := by unfold par; omega
  have e2 : par c e % 4 = jn (c (e / 4).toNat) (e % 4) := by unfold par; omega
  have : par c (par c e) = 4 * (par c e / 4) + jn (c (par c e / 4).toNat) (par c e % 4) := rfl
  rw [this, e1, e2, h2]
  omega
/-- a net of m ends -/
def Net (m : Nat) (f : Nat → Int) : Prop := ∀ i, i < m → 0 ≤ f i ∧ f i < m ∧ f (f i).toNat = i
/-- a round's list after k steps -/
def wl (s p : Int → Int) (e : Int) : Nat → List Int
  | 0 => []
  | k + 1 => wl s p e k ++ [orb s e k, p (orb s e k)]
theorem wl_len (s p : Int → Int) (e : Int) : ∀ k, (wl s p e k).length = 2 * k
  | 0 => rfl
  | k + 1 => by
    show (wl s p e k ++ [_, _]).length = _
    rw [List.length_append, wl_len s p e k]; simp; omega
theorem atM_last {α : Type} [Inhabited α] {as : List α} {a : α} : atM (as ++ [a]) (-1) = .ok a := by
  have e : L2.atI (as ++ [a]) (-1) = some a := by
    unfold L2.atI L2.ixN
    rw [if_neg (by omega), if_pos (by simp; omega)]
    show (as ++ [a])[(-1 + ((as ++ [a]).length : Int)).toNat]? = _
    rw [show (-1 + ((as ++ [a]).length : Int)).toNat = as.length by simp; omega]
    simp
  unfold atM
  rw [e]
  rfl
end Ty

namespace Ty
open PySem PySem.Spec PyProof.Rows L2
/-! ## Ty16: lists of two or three unlike things -/
structure H3 (α β γ : Type) where
  a : α
  b : β
  c : γ
deriving DecidableEq
instance {α β γ : Type} [Inhabited α] [Inhabited β] [Inhabited γ] : Inhabited (H3 α β γ) := ⟨⟨default, default, default⟩⟩
instance rpH3 {α β γ : Type} [Rp α] [Rp β] [Rp γ] : Rp (H3 α β γ) where
  sh K H v x := ∃ p va vb vc, v = .ref p ∧ H p = some (.lst [va, vb, vc]) ∧ Rp.sh K H va x.a ∧ Rp.sh K H vb x.b ∧ Rp.sh K H vc x.c
  mono := fun e ⟨p, va, vb, vc, h1, h2, h3, h4, h5⟩ => ⟨p, va, vb, vc, h1, e _ _ h2, Rp.mono e h3, Rp.mono e h4, Rp.mono e h5⟩
/-- an own list of three, its items shared -/
def Ow.h3 {α β γ : Type} [Rp α] [Rp β] [Rp γ] : Ow (H3 α β γ) where
  rep K HF H v x fp := ∃ p va vb vc, v = .ref p ∧ fp = [p] ∧ H p = some (.lst [va, vb, vc]) ∧ Rp.sh K HF va x.a ∧ Rp.sh K HF vb x.b ∧ Rp.sh K HF vc x.c
  mono := fun e k ⟨p, va, vb, vc, h1, h2, h3, h4, h5, h6⟩ => by
    subst h2
    exact ⟨p, va, vb, vc, h1, rfl, k p (List.mem_singleton.mpr rfl) _ h3, Rp.mono e h4, Rp.mono e h5, Rp.mono e h6⟩
  dom := fun ⟨p, va, vb, vc, h1, h2, h3, h4, h5, h6⟩ q hq => by
    subst h2
    rw [List.mem_singleton.mp hq]
    exact ⟨_, h3⟩
  frz := fun e k ⟨p, va, vb, vc, h1, h2, h3, h4, h5, h6⟩ => by
    subst h2
    exact ⟨p, va, vb, vc, h1, k p (List.mem_singleton.mpr rfl) _ h3, Rp.mono e h4, Rp.mono e h5, Rp.mono e h6⟩
instance eqvH3 {α β γ : Type} [Rp α] [Rp β] [Rp γ] [DecidableEq α] [DecidableEq β] [DecidableEq γ] [Eqv α] [Eqv β] [Eqv γ] : Eqv (H3 α β γ) where
  py x := .list [Eqv.py x.a, Eqv.py x.b, Eqv.py x.c]
  ok x := Eqv.ok x.a && (Eqv.ok x.b && Eqv.ok x.c)
  dep := max (Eqv.dep α) (max (Eqv.dep β) (Eqv.dep γ)) + 1
  dp := fun ⟨p, va, vb, vc, h1, h2, h3, h4, h5⟩ => by subst h1; exact .lst (SqL.of h2) (.cons (Eqv.dp h3) (.cons (Eqv.dp h4) (.cons (Eqv.dp h5) .nil)))
  lay := fun x h => by
    rw [Bool.and_eq_true, Bool.and_eq_true] at h
    simp [PyData.canLay0, PyData.canLayAll0, Eqv.lay x.a h.1, Eqv.lay x.b h.2.1, Eqv.lay x.c h.2.2]
  deep := fun x => by
    have h1 := Eqv.deep x.a
    have h2 := Eqv.deep x.b
    have h3 := Eqv.deep x.c
    simp only [PyData.depth, PyData.depthAll]
    omega
  eqv := fun ⟨a, b, c⟩ ⟨d, e, f⟩ => by
    simp only [PyData.eqv, PyData.eqvAll, Eqv.eqv]
    by_cases h1 : a = d <;> by_cases h2 : b = e <;> by_cases h3 : c = f <;> simp [h1, h2, h3]
instance {α β γ : Type} [Rp α] [Rp β] [Rp γ] [DecidableEq α] [DecidableEq β] [DecidableEq γ] [Eqv α] [Eqv β] [Eqv γ] [EqvT α] [EqvT β] [EqvT γ] : EqvT (H3 α β γ) := ⟨fun x => by
  show (Eqv.ok x.a && (Eqv.ok x.b && Eqv.ok x.c)) = true
  rw [EqvT.all, EqvT.all, EqvT.all]; rfl⟩
section
variable {X : Cx} {Γ : Ctx} {α β γ : Type} {a b c e : Expr} {pos p : Pos} {ta tb tc : TE}
end
section
variable {X : Cx} {Γ : Ctx} {S L ρ α β γ A B S' : Type} [Rp ρ] {o : Ow ρ} {Γo : S → Ctx} {ΓL : L → Ctx} {a b e f : Expr} {es : List Expr} {pos p apos cpos pos2 : Pos} {ta tb te tf : TE} {t : TA} {sts : List Stmt} {tr tr' : TS}
end
end Ty

namespace Ty
open PySem
/-! ## Ty17: maths: ends tied two and two -/
/-- the ends of l are left; all others are tied by f -/
structure Prt (m : Nat) (l : List Int) (f : Nat → Int) : Prop where
  nd : l.Nodup
  rg : ∀ x ∈ l, 0 ≤ x ∧ x < (m : Int)
  tied : ∀ i : Nat, i < m → (i : Int) ∉ l → 0 ≤ f i ∧ f i < (m : Int) ∧ f i ∉ l ∧ f (f i).toNat = i ∧ f i ≠ i
theorem prt_start (m : Nat) (f : Nat → Int) : Prt m (rangeL 0 m) f := by
  refine ⟨?_, fun x hx => mem_range1 hx, fun i hi hx => ?_⟩
  · unfold rangeL
    rw [List.nodup_iff_pairwise_ne, List.pairwise_map]
    exact List.pairwise_lt_range.imp fun h e => by omega
  · exfalso
    apply hx
    unfold rangeL
    rw [List.mem_map]
    exact ⟨i, List.mem_range.mpr (by omega), by omega⟩
end Ty

namespace Ty
open PySem PySem.Spec PyProof.Rows L2
/-! ## Ty18: len(set(..)), len of a dict, dict.get -/
section
variable {X : Cx} {Γ : Ctx} {α β κ : Type} {a b e f : Expr} {pos p p2 q apos cpos : Pos} {ta tb te tf : TE}
/-- d.get(k, x) -/
theorem ex_dget2 [Ky κ] [DecidableEq κ] [Rp β] {m : M (Dc κ β)} {n : M κ} {q : M β} (hu : X.A.units + 64 < cLine) (ha : EX X Γ a Ow.v m ta) (he : EX X Γ e Ow.v n te) (hf : EX X Γ f Ow.v q tf) (m2 : M2 X a "get" apos e f cpos := by exact ⟨rfl, rfl, rfl, rfl⟩) : EX X Γ (.Call (.Attribute a "get" apos) [e, f] [] cpos) Ow.v (do let a ← m; let b ← n; let c ← q; pure ((dget a.l b).getD c)) (tDGet2 ta te tf) :=
  ⟨pe_dget2 (hu1 hu) ha.pe he.pe hf.pe m2, fun HF0 G HF H σ g c hc Q k => by
    obtain ⟨x, e1, hc⟩ := bind_ok hc
    obtain ⟨y, e2, hc⟩ := bind_ok hc
    obtain ⟨z, e3, hc⟩ := bind_ok hc
    cases pure_ok hc
    refine ha.sem HF0 G HF H σ g x e1 _ fun v HF1 H1 fp s1 r1 _ _ => ?_
    obtain ⟨⟨r, kvs, rfl, h2, h3⟩, _⟩ := r1
    refine ⟨r, rfl, .inl ⟨kvs, .inl (s1.sub _ _ h2)⟩, ?_⟩
    refine he.sem HF0 G HF1 H1 σ (g.step s1) y e2 _ fun w HF2 H2 fp2 s2 r2 _ _ => ?_
    refine hf.sem HF0 G HF2 H2 σ ((g.step s1).step s2) z e3 _ fun u HF3 H3 fp3 s3 r3 _ _ => ?_
    have h2' := s3.sub _ _ (s3.exF _ _ (s2.exF _ _ h2))
    refine ⟨valV kvs (Ky.key y), ?_, ?_⟩
    · rw [Fl.sh_iff.mp r2.1, ← Ky.kv]
      exact DGet.k h2'
    · have kk := k.back ((s1.trans s2).trans s3)
      cases qd : dget x.l y with
      | none =>
        rw [(h3.get y).2 qd]
        rw [qd] at kk
        exact kk.shv s3.sub r3.1
      | some b =>
        obtain ⟨v, hv, rr⟩ := (h3.get y).1 b qd
        rw [hv]
        rw [qd] at kk
        exact kk.shv s3.sub (Rp.mono (s2.exF.trans s3.exF) rr)⟩
end
end Ty

namespace Ty
open PySem
/-! ## Ty19: maths: rounds have each end once; dicts -/
theorem dget_dput {κ β : Type} [DecidableEq κ] (k x : κ) (v : β) : ∀ l : List (κ × β), dget (dput l k v) x = if x = k then some v else dget l x := by
  have any : ∀ l : List (κ × β), (l.any fun p => decide (p.1 = k)) = (dget l k).isSome := by
    intro l
    induction l with
    | nil => rfl
    | cons a l ih =>
      unfold dget at ih ⊢
      rw [List.any_cons, List.find?_cons]
      cases h : decide (a.1 = k) with
      | true => rfl
      | false => rw [Bool.false_or]; exact ih
  have map : ∀ l : List (κ × β), dget (l.map fun p => if p.1 = k then (k, v) else p) x = if x = k then (dget l k).map (fun _ => v) else dget l x := by
    intro l
    induction l with
    | nil => split <;> rfl
    | cons a l ih =>
      unfold dget at ih ⊢
      rw [List.map_cons, List.find?_cons, List.find?_cons, List.find?_cons]
      by_cases h : a.1 = k
      · by_cases h2 : x = k
        · simp [h, h2]
        · have h3 : ¬ k = x := fun z => h2 z.symm
          simp only [h, if_true, decide_eq_false h3, h2, if_false] at ih ⊢
          exact ih
      · by_cases h2 : x = k
        · subst h2
          simp only [h, if_false, decide_false, if_true] at ih ⊢
          exact ih
        · by_cases h3 : a.1 = x
          · subst h3
            simp [h]
          · simp only [h, h2, h3, if_false, decide_false] at ih ⊢
            exact ih
  intro l
  unfold dput
  rw [any l]
  cases h : dget l k with
  | some b =>
    simp only [Option.isSome_some, if_true]
    rw [map l, h]
    rfl
  | none =>
    simp only [Option.isSome_none, Bool.false_eq_true, if_false]
    unfold dget at h ⊢
    rw [List.find?_append]
    by_cases h2 : x = k
    · subst h2
      rw [if_pos rfl]
      have : l.find? (fun p => decide (p.1 = x)) = none := by simpa using h
      rw [this]
      simp
    · rw [if_neg h2]
      have h3 : ¬ k = x := fun z => h2 z.symm
      cases q : l.find? (fun p => decide (p.1 = x)) with
      | some b => rfl
      | none => simp [h3]
theorem jn_ne {w s : Int} (h0 : 0 ≤ s) (h1 : s < 4) : jn w s ≠ s := by
  have hs : s = 0 ∨ s = 1 ∨ s = 2 ∨ s = 3 := by omega
  unfold jn
  rcases hs with rfl | rfl | rfl | rfl <;> repeat' split
  all_goals omega
theorem par_ne {c : Nat → Int} {e : Int} (h0 : 0 ≤ e) : par c e ≠ e := by
  have h := jn_ne (w := c (e / 4).toNat) (s := e % 4) (by omega) (by omega)
  unfold par
  omega
section
variable {s p f : Int → Int} {e : Int} {m : Nat} (hs : ∀ x, s x = f (p x)) (hpi : ∀ x : Int, 0 ≤ x → x < m → 0 ≤ p x ∧ p x < m ∧ p (p x) = x ∧ p x ≠ x) (hfi : ∀ x : Int, 0 ≤ x → x < m → 0 ≤ f x ∧ f x < m ∧ f (f x) = x ∧ f x ≠ x) (h0 : 0 ≤ e) (h1 : e < m)
include hs hpi hfi h0 h1
theorem orb_rng (k : Nat) : 0 ≤ orb s e k ∧ orb s e k < m := orb_in (fun x a b => by
  rw [hs]
  have := hpi x a b
  have := hfi (p x) this.1 this.2.1
  exact ⟨this.1, this.2.1⟩) h0 h1 k
theorem s_inj {x y : Int} (a : 0 ≤ x) (b : x < m) (c : 0 ≤ y) (d : y < m) (h : s x = s y) : x = y := by
  rw [hs, hs] at h
  have a1 := hpi x a b
  have a2 := hpi y c d
  have b1 := hfi (p x) a1.1 a1.2.1
  have b2 := hfi (p y) a2.1 a2.2.1
  have : p x = p y := by rw [← b1.2.2.1, h, b2.2.2.1]
  rw [← a1.2.2.1, this, a2.2.2.1]
theorem orb_sub (i d : Nat) (h : orb s e i = orb s e (i + d)) : orb s e d = e := by
  induction i generalizing d with
  | zero => rw [Nat.zero_add] at h; exact h.symm
  | succ i ih =>
    refine ih d ?_
    rw [show i + 1 + d = (i + d) + 1 by omega] at h
    have a := orb_rng hs hpi hfi h0 h1 i
    have b := orb_rng hs hpi hfi h0 h1 (i + d)
    exact s_inj hs hpi hfi h0 h1 a.1 a.2 b.1 b.2 h
/-- no end of a round is the partner of one at which it comes in -/
theorem orb_par (i d : Nat) : p (orb s e i) ≠ orb s e (i + d) := by
  induction d using Nat.strongRecOn generalizing i with
  | _ d ih =>
    intro h
    have a := orb_rng hs hpi hfi h0 h1 i
    have a1 := hpi _ a.1 a.2
    match d with
    | 0 => exact a1.2.2.2 h
    | 1 =>
      have e1 : orb s e (i + 1) = f (p (orb s e i)) := hs _
      have := (hfi _ a1.1 a1.2.1).2.2.2
      rw [← e1, ← h] at this
      exact this rfl
    | d + 2 =>
      refine ih d (by omega) (i + 1) ?_
      have b := orb_rng hs hpi hfi h0 h1 (i + d + 1)
      have b1 := hpi _ b.1 b.2
      have e1 : orb s e (i + (d + 2)) = f (p (orb s e (i + d + 1))) := hs _
      have e2 : orb s e (i + 1) = f (p (orb s e i)) := hs _
      have e3 : f (orb s e (i + (d + 2))) = p (orb s e (i + d + 1)) := by
        rw [e1]
        exact (hfi _ b1.1 b1.2.1).2.2.1
      rw [h, e3] at e2
      rw [e2, b1.2.2.1, show i + 1 + d = i + d + 1 by omega]
theorem orb_par' (i j : Nat) : p (orb s e i) ≠ orb s e j := by
  rcases Nat.le_total i j with h | h
  · have := orb_par hs hpi hfi h0 h1 i (j - i)
    rwa [show i + (j - i) = j by omega] at this
  · intro z
    have a := orb_rng hs hpi hfi h0 h1 i
    have a1 := hpi _ a.1 a.2
    have := orb_par hs hpi hfi h0 h1 j (i - j)
    rw [show j + (i - j) = i by omega] at this
    apply this
    rw [← z, a1.2.2.1]
omit hs hpi hfi h0 h1 in
theorem mem_wl {x : Int} : ∀ k, x ∈ wl s p e k ↔ ∃ i, i < k ∧ (x = orb s e i ∨ x = p (orb s e i))
  | 0 => by simp [wl]
  | k + 1 => by
    show x ∈ wl s p e k ++ [_, _] ↔ _
    rw [List.mem_append, mem_wl k]
    constructor
    · rintro (⟨i, h, h2⟩ | h)
      · exact ⟨i, by omega, h2⟩
      · simp at h
        exact ⟨k, by omega, h⟩
    · rintro ⟨i, h, h2⟩
      by_cases hk : i < k
      · exact .inl ⟨i, hk, h2⟩
      · have : i = k := by omega
        subst this
        exact .inr (by simpa using h2)
theorem wl_nodup (k : Nat) (hk : ∀ j, 1 ≤ j → j < k → orb s e j ≠ e) : (wl s p e k).Nodup := by
  induction k with
  | zero => exact List.nodup_nil
  | succ k ih =>
    have ih := ih fun j a b => hk j a (by omega)
    have hd : ∀ i, i < k → orb s e k ≠ orb s e i := fun i hi z => by
      have := orb_sub hs hpi hfi h0 h1 i (k - i) (by rw [show i + (k - i) = k by omega]; exact z.symm)
      exact hk (k - i) (by omega) (by omega) this
    have hp := fun i => hpi _ (orb_rng hs hpi hfi h0 h1 i).1 (orb_rng hs hpi hfi h0 h1 i).2
    show (wl s p e k ++ [_, _]).Nodup
    refine List.nodup_append.mpr ⟨ih, by simpa using fun z => orb_par' hs hpi hfi h0 h1 k k z.symm, ?_⟩
    intro x hx y hy z
    subst z
    obtain ⟨i, hi, hx⟩ := (mem_wl k).mp hx
    simp at hy
    rcases hy with rfl | rfl <;> rcases hx with hx | hx
    · exact hd i hi hx
    · exact orb_par' hs hpi hfi h0 h1 i k hx.symm
    · exact orb_par' hs hpi hfi h0 h1 k i hx
    · refine hd i hi ?_
      rw [← (hp k).2.2.1, hx, (hp i).2.2.1]
end
theorem wl_get {s p : Int → Int} {e : Int} : ∀ {k i : Nat}, i < k → (wl s p e k)[2 * i]? = some (orb s e i) ∧ (wl s p e k)[2 * i + 1]? = some (p (orb s e i))
  | 0, _, h => absurd h (by omega)
  | k + 1, i, h => by
    have hl := wl_len s p e k
    show (wl s p e k ++ [_, _])[2 * i]? = _ ∧ (wl s p e k ++ [_, _])[2 * i + 1]? = _
    by_cases hk : i < k
    · rw [List.getElem?_append_left (by omega), List.getElem?_append_left (by omega)]
      exact wl_get hk
    · have : i = k := by omega
      subst this
      rw [List.getElem?_append_right (by omega), List.getElem?_append_right (by omega), hl]
      simp
theorem perm_erase {α : Type} : ∀ {l : List α} {k : Nat} (h : k < l.length), (l[k] :: l.eraseIdx k).Perm l
  | [], _, h => absurd h (by simp)
  | a :: l, 0, _ => List.Perm.refl _
  | a :: l, k + 1, h => by
    have hk : k < l.length := by simpa using h
    exact (List.Perm.swap a l[k] (l.eraseIdx k)).trans ((perm_erase hk).cons a)
theorem erase_map {α β : Type} (g : α → β) : ∀ (l : List α) (k : Nat), (l.map g).eraseIdx k = (l.eraseIdx k).map g
  | [], _ => rfl
  | a :: l, 0 => rfl
  | a :: l, k + 1 => by
    show g a :: (l.map g).eraseIdx k = g a :: (l.eraseIdx k).map g
    rw [erase_map g l k]
end Ty

set_option maxHeartbeats 1000000
/-! ## Ty20: list(reversed(x)) -/
namespace RT
open PySem PySem.Spec PyProof.Rows L2
section
variable {prog : Program} {w : World} {A : Around} {E : Value → Shared → Prop} {s : Shared}
end
section
variable {X : Cx}
end
end RT
namespace Ty
open PySem PySem.Spec PyProof.Rows L2
section
variable {X : Cx} {Γ : Ctx} {S L ρ α β γ A B S' : Type} [Rp ρ] {o : Ow ρ} {Γo : S → Ctx} {ΓL : L → Ctx} {a b e f : Expr} {es : List Expr} {pos p apos cpos pos2 : Pos} {ta tb te tf : TE} {t : TA} {sts : List Stmt} {tr tr' : TS} {tg : Expr}
end
end Ty

/-! ## Ty21: for r in x: r[i] = e -/
namespace Ty
open PySem PySem.Spec PyProof.Rows L2
section
variable {X : Cx} {Γ : Ctx} {S L ρ α β γ A B S' : Type} [Rp ρ] {o : Ow ρ} {Γo : S → Ctx} {ΓL : L → Ctx} {a b e f : Expr} {es : List Expr} {pos p p1 p5 apos cpos pos2 : Pos} {ta tb te tf : TE} {t : TA} {sts : List Stmt} {tr tr' : TS} {tg : Expr}
end
end Ty

/-! ## Ty22: more for the mathematics -/
namespace Ty
open PySem L2
theorem enum_row {α : Type} (n : Nat) (g : Nat → α) : enumL (row n g) = row n fun k => ((k : Int), g k) := by
  unfold enumL row
  apply List.ext_getElem?
  intro i
  simp [List.getElem?_zipIdx]
  by_cases h : i < n
  · simp [h]
  · simp [h]
end Ty

/-! ## Ty23: a thing or None; x.insert(i, x.pop(j)) -/
namespace Ty
open PySem PySem.Spec PyProof.Rows L2
structure Op (α : Type) where
  o : Option α
  deriving DecidableEq
instance {α : Type} : Inhabited (Op α) := ⟨⟨none⟩⟩
instance rpOp {α : Type} [Rp α] : Rp (Op α) where
  sh K H v x := match x.o with
    | none => v = .non
    | some a => Rp.sh K H v a
  mono := fun {K H H' v a} e h => by
    obtain ⟨o⟩ := a
    cases o with
    | none => exact h
    | some a => exact Rp.mono e h
def Ow.op {α : Type} [Rp α] (o : Ow α) : Ow (Op α) where
  rep K HF H v x fp := match x.o with
    | none => v = .non ∧ fp = []
    | some a => o.rep K HF H v a fp
  mono := fun {K HF HF' H H' v a fp} e k h => by
    obtain ⟨x⟩ := a
    cases x with
    | none => exact h
    | some a => exact o.mono e k h
  dom := fun {K HF H v a fp} h => by
    obtain ⟨x⟩ := a
    cases x with
    | none =>
      intro p hp
      have e : fp = [] := h.2
      subst e; cases hp
    | some a => exact o.dom h
  frz := fun {K HF HF' H v a fp} e k h => by
    obtain ⟨x⟩ := a
    cases x with
    | none => exact h.1
    | some a => exact o.frz e k h
instance indOp {α : Type} [Rp α] {o : Ow α} [Ind o] : Ind o.op where
  ind := fun {K HF HF' H v a fp} h => by
    obtain ⟨x⟩ := a
    cases x with
    | none => exact h
    | some a => exact Ind.ind (o := o) h
/-- things that stand in the heap -/
class Ob (α : Type) [Rp α] : Prop where
  ref : ∀ {K : PySem.W.Frag} {H : Hp} {v : V} {a : α}, Rp.sh K H v a → ∃ p, v = .ref p
instance {α : Type} [Rp α] : Ob (List α) := ⟨fun ⟨p, _, e, _⟩ => ⟨p, e⟩⟩
instance {α : Type} [Rp α] : Ob (Tu α) := ⟨fun ⟨p, _, e, _⟩ => ⟨p, e⟩⟩
instance {α β : Type} [Rp α] [Rp β] : Ob (α × β) := ⟨fun ⟨p, _, _, e, _⟩ => ⟨p, e⟩⟩
section
variable {X : Cx} {Γ : Ctx} {S L ρ α β γ A B S' : Type} [Rp ρ] {o : Ow ρ} {Γo : S → Ctx} {ΓL : L → Ctx} {a b e f : Expr} {es : List Expr} {pos p p1 p5 apos cpos pos2 : Pos} {ta tb te tf : TE} {t : TA} {sts : List Stmt} {tr tr' : TS} {tg : Expr}
end
end Ty

/-! ## Ty24: {k: v}; max, min of a list; for x in l: d[x] = e -/
namespace Ty
open PySem PySem.Spec PyProof.Rows L2
def putAllM {κ β : Type} [DecidableEq κ] (d : Dc κ β) : List κ → β → M (Dc κ β)
  | [], _ => pure d
  | x :: xs, a => do let d' ← dputM d x a; putAllM d' xs a
section
variable {X : Cx} {Γ : Ctx} {S L ρ α β κ γ A B S' : Type} [Rp ρ] {o : Ow ρ} {Γo : S → Ctx} {ΓL : L → Ctx} {a b e f : Expr} {es : List Expr} {pos p p1 p5 apos cpos pos2 : Pos} {ta tb te tf : TE} {t : TA} {sts : List Stmt} {tr tr' : TS} {tg : Expr}
theorem ss_forPut {K : PySem.W.Frag} [Ky κ] [DecidableEq κ] [Rp β] (i j r : Nat) {as : List κ} {d : Dc κ β} {x y z : Str} {m : M β} {k : Dc κ β → M (Ctl S L ρ)} {py pz p4 : Pos} (hN : X.N.Nodup) (hc : X.calm = true) (hxe : PassesOwn (model X.prog X.w) X.A X.env X.xe) (hu : X.A.units + 64 < cLine)
    (he : ∀ d, EX X (put (put Γ r .un) j (.mk (Ow.d (κ := κ) (β := β)) d)) e Ow.v m te)
    (hr : ∀ d, SS X (put (put Γ r .un) j (.mk (Ow.d (κ := κ) (β := β)) d)) sts Γo ΓL o (k d) tr)
    (hl : look (put Γ r .un) j = .mk (Ow.d (κ := κ) (β := β)) d := by rfl) (hli : look (put Γ r .un) i = .mk (Ow.l (Ow.v : Ow κ)) as := by rfl) (hjr : j ≠ r := by decide) (hrl : Nat.blt r Γ.length = true := by rfl)
    (hN1 : X.N[i]? = some x := by rfl) (hv : Vis X.env.scope x := by first | exact Or.inl rfl | exact Or.inr (Or.inl rfl) | exact Or.inr (Or.inr rfl)) (hd : (x == ("__debug__" : Str)) = false := by decide) (hcd : (x == ("__classdict__" : Str)) = false := by decide)
    (hN2 : X.N[r]? = some y := by rfl) (hv2 : Vis X.env.scope y := by first | exact Or.inl rfl | exact Or.inr (Or.inl rfl) | exact Or.inr (Or.inr rfl)) (hd2 : (y == ("__debug__" : Str)) = false := by decide) (hcd2 : (y == ("__classdict__" : Str)) = false := by decide)
    (hN3 : X.N[j]? = some z := by rfl) (hv3 : Vis X.env.scope z := by first | exact Or.inl rfl | exact Or.inr (Or.inl rfl) | exact Or.inr (Or.inr rfl)) (hd3 : (z == ("__debug__" : Str)) = false := by decide) (hcd3 : (z == ("__classdict__" : Str)) = false := by decide)
    (hx : Loc X.env.scope y := by first | exact .inl rfl | exact .inr rfl) (hf : X.fn y = true ∨ X.env.scope.names.lookup y = some .local := by first | exact .inl rfl | exact .inr rfl) (hK : X.K = K := by rfl)
    (hs : swapsWith e (some (.Subscript (.Name z pz) (.Name y py) p5)) p4.line X.env = pure false := by rfl)
    (hs2 : ∀ z, foldedSetIterable (.Name x p) X.env z = pure z := by intro _; rfl) :
    SS X Γ (.For (.Name y p1) (.Name x p) [.Assign [.Subscript (.Name z pz) (.Name y py) p5] e p4] [] pos :: sts) Γo ΓL o (do let a ← m; let d' ← putAllM d as a; k d') (tSeq (tFor (iList K (tVar i)) (gName r) (sDPut (tVar j) (tVar r) te)) tr) := by
  subst hK
  exact ⟨pss_cons (ps_for hxe hc (pi_list (pe_var hN1 hv hd hcd)) (pg_name hN hN2 hx hf) (pss_one (ps_dput (hu1 hu) (pe_var hN3 hv3 hd3 hcd3) (pe_var hN2 hv2 hd2 hcd2) (he default).pe hs)) hs2) (hr default).pss, fun HF0 G HF H σ g cc hcc D kk => by
    obtain ⟨y1, e1, hcc⟩ := bind_ok hcc
    obtain ⟨dfin, e2, hcc⟩ := bind_ok hcc
    have hlen := g.len
    have g0 : Good X.K HF0 G (put Γ r .un) HF H σ := by
      have q := g.un r (σ.getD r none) (of_blt hrl)
      have eσ : σ.set r (σ.getD r none) = σ := by
        apply List.ext_getElem?
        intro j
        by_cases hj : r = j
        · subst hj
          have := of_blt hrl
          rw [List.getElem?_set_self (by omega), List.getD_eq_getElem?_getD, List.getElem?_eq_getElem (by omega)]
          rfl
        · rw [List.getElem?_set_ne hj]
      rw [eσ] at q
      exact q
    obtain ⟨v, fo, hσ, ⟨p, vs, fp, h1, h2, h3, h4⟩, nd, hfo, _⟩ := g0.take hli
    subst h1
    obtain ⟨hfa, _⟩ := h4.toFa
    have hvs : vs = as.map Fl.enc := Fa.flat.mp hfa
    have vl := h4.len
    have gput : Good X.K HF0 G (put (put Γ r .un) j (.mk (Ow.d (κ := κ) (β := β)) d)) HF H σ := by
      obtain ⟨v', fo', hσ', r', nd', _, back⟩ := g0.take hl
      have := back (u' := Ow.d (κ := κ) (β := β)) (b := d) (v' := v') (f' := fo') (H' := H) (Step.refl g.sub) (fun _ _ _ e => e) r' nd' (fun p hp => .inl hp)
      rw [set_self hσ'] at this
      exact this
    refine ⟨.ref p, hσ, p, rfl, ⟨vs, SqL.of h3⟩, ?_⟩
    refine ⟨fun n c σ2 H2 => c = as.length - n ∧ n ≤ as.length ∧ ∃ HF2 dn, Same HF HF2 ∧ H2 p = some (.lst vs) ∧ Good X.K HF0 G (put (put Γ r .un) j (.mk (Ow.d (κ := κ) (β := β)) dn)) HF2 H2 σ2 ∧ putAllM dn (as.drop n) y1 = .ok dfin, ⟨as.length, rfl, Nat.zero_le _, HF, d, Same.refl _, h3, gput, e2⟩, ?_⟩
    rintro n c σ2 H2 ⟨rfl, hn, HF2, dn, a, hp2, g2, hrun⟩
    by_cases hlt : n < as.length
    · rw [List.drop_eq_getElem_cons hlt] at hrun
      obtain ⟨d2, e3, hrun⟩ := bind_ok (show (dputM dn as[n] y1 >>= fun d' => putAllM d' (as.drop (n + 1)) y1) = .ok dfin from hrun)
      obtain ⟨w, e4, e3⟩ := bind_ok e3
      have e5 := pure_ok e3
      subst e5
      have e6 := of_decide_eq_true (gd_ok e4)
      refine .inr ⟨⟨vs, vs[n]'(by omega), SqL.of hp2, List.getElem?_eq_getElem (by omega)⟩, fun σ' H' => ∃ HF' dn, Same HF HF' ∧ H' p = some (.lst vs) ∧ Good X.K HF0 G (put (put Γ r .un) j (.mk (Ow.d (κ := κ) (β := β)) dn)) HF' H' σ' ∧ putAllM dn (as.drop (n + 1)) y1 = .ok dfin, fun σ' H' h' => ⟨as.length - (n + 1), by omega, rfl, hlt, h'⟩, fun zv H3 hz => ?_⟩
      obtain ⟨rfl, hz⟩ := hz
      have hz := hz vs (SqL.of hp2)
      have hzv : zv = Fl.enc as[n] := by
        rw [hvs, List.getElem?_map, List.getElem?_eq_getElem hlt] at hz
        exact (Option.some.inj hz).symm
      have hgu : Good X.K HF0 G (put (put Γ r .un) j (.mk (Ow.d (κ := κ) (β := β)) dn)) HF2 H3 (σ2.set r (some zv)) := by
        have q := g2.un r (some zv) (by rw [put_len, put_len]; exact of_blt hrl)
        rw [put_un Γ j r _ hjr] at q
        exact q
      have hlen2 := hgu.len
      rw [put_len, put_len, List.length_set] at hlen2
      have hrs : (σ2.set r (some zv))[r]? = some (some zv) := List.getElem?_set_self (by have := of_blt hrl; omega)
      have hjl : j < (put Γ r .un).length := look_lt' hl
      obtain ⟨v0, fo0, hσ0, ⟨q, kvs, h01, h02, h03, h04⟩, nd0, hfo0, back⟩ := hgu.take (look_put _ _ _ hjl)
      subst h01 h02
      have hqp : q ≠ p := fun e => by rw [e, hp2] at h03; cases h03
      refine (he _).sem HF0 G HF2 H3 _ hgu y1 e1 _ fun v' HF3 H4 fp3 st r1 _ _ => ?_
      refine ⟨.ref q, hσ0, zv, hrs, q, upd H4 q (.dK (putK kvs (Ky.key as[n]) v')), rfl, ?_, ?_⟩
      · rw [hzv, ← Ky.kv]
        exact DPut.k (st.exH _ _ h03) (by rw [h04.len]; exact e6)
      · have gg := back (u' := Ow.d (κ := κ) (β := β)) (b := ⟨dput dn.l as[n] y1⟩) (v' := .ref q) (f' := [q]) (H' := upd H4 q (.dK (putK kvs (Ky.key as[n]) v'))) st (fun p w hp e => by rw [upd_ne (fun z => hp (by rw [z]; exact List.mem_singleton.mpr rfl))]; exact e)
          ⟨q, _, rfl, rfl, upd_same, Fk.put as[n] r1.1 (Fk.mono (fun _ _ h => Rp.mono st.exF h) h04)⟩ (by simp) (fun p hp => .inl hp)
        rw [set_self hσ0, put_put] at gg
        exact ⟨HF3, _, a.trans st.exF, by rw [upd_ne (fun e => hqp e.symm)]; exact st.exH _ _ hp2, gg, hrun⟩
    · have en : n = as.length := by omega
      subst en
      rw [List.drop_length] at hrun
      have e7 := pure_ok (show (pure dn : M (Dc κ β)) = .ok dfin from hrun)
      subst e7
      exact .inl ⟨⟨vs, SqL.of hp2, by omega⟩, (hr _).sem HF0 G HF2 H2 σ2 g2 cc hcc D (kk.mono a)⟩⟩
end
end Ty

/-! ## Ty25: abs -/
namespace Ty
open PySem PySem.Spec PyProof.Rows L2
section
variable {X : Cx} {Γ : Ctx} {e : Expr} {pos p : Pos} {te : TE}
end
end Ty

/-! ## Ty26: a loop that looks at own things, which stay own -/
namespace Ty
open PySem PySem.Spec PyProof.Rows L2
/-- a thing, and the value that stands for it -/
structure Pn (α : Type) where
  v : V
  a : α
instance rpPn {α : Type} [Rp α] : Rp (Pn α) where
  sh K H w x := w = x.v ∧ Rp.sh K H w x.a
  mono := fun e ⟨h1, h2⟩ => ⟨h1, Rp.mono e h2⟩
/-- those told by true lean on nothing shared -/
inductive IndC : List Bool → Ctx → Prop where
  | n : IndC [] []
  | p {fl : List Bool} {s : Sl} {Γ : Ctx} : IndC fl Γ → IndC (false :: fl) (s :: Γ)
  | u {fl : List Bool} {Γ : Ctx} : IndC fl Γ → IndC (true :: fl) (.un :: Γ)
  | i {α : Type} [Rp α] {o : Ow α} [Ind o] {a : α} {fl : List Bool} {Γ : Ctx} : IndC fl Γ → IndC (true :: fl) (.mk o a :: Γ)
/-- behind the loop -/
inductive Pe (vs : Nat → V) : Nat → List Bool → Ctx → Ctx → Ctx → Prop where
  | n {i : Nat} : Pe vs i [] [] [] []
  | p {α : Type} [Rp α] {o : Ow α} {a : α} {i : Nat} {fl : List Bool} {Γ Δ Θ : Ctx} : Pe vs (i + 1) fl Γ Δ Θ → Pe vs i (false :: fl) (.mk o a :: Γ) (.mk (α := Pn α) Ow.v ⟨vs i, a⟩ :: Δ) (.mk o a :: Θ)
  | u {f : Bool} {s t : Sl} {i : Nat} {fl : List Bool} {Γ Δ Θ : Ctx} : Pe vs (i + 1) fl Γ Δ Θ → Pe vs i (f :: fl) (s :: Γ) (t :: Δ) (.un :: Θ)
  | i {f : Bool} {α : Type} [Rp α] {o : Ow α} [Ind o] {a : α} {s : Sl} {i : Nat} {fl : List Bool} {Γ Δ Θ : Ctx} : Pe vs (i + 1) fl Γ Δ Θ → Pe vs i (f :: fl) (s :: Γ) (.mk o a :: Δ) (.mk o a :: Θ)
/-- the names told by true own fc, the others fn -/
def SplitH (K : PySem.W.Frag) (HF H : Hp) : List Bool → Ctx → L2.St → List Addr → List Addr → Prop
  | [], [], [], fc, fn => fc = [] ∧ fn = []
  | true :: fl, s :: Γ, x :: σ, fc, fn => ∃ f1 c2, HoldS K HF H s x f1 ∧ SplitH K HF H fl Γ σ c2 fn ∧ fc = f1 ++ c2
  | false :: fl, s :: Γ, x :: σ, fc, fn => ∃ f1 n2, HoldS K HF H s x f1 ∧ SplitH K HF H fl Γ σ fc n2 ∧ fn = f1 ++ n2
  | _, _, _, _, _ => False
theorem IndC.split {K : PySem.W.Frag} {HF H : Hp} : ∀ {fl : List Bool} {Γ : Ctx}, IndC fl Γ → ∀ {σ : L2.St} {fs : List Addr}, Holds K HF H Γ σ fs → fs.Nodup → ∃ fc fn : List Addr, SplitH K HF H fl Γ σ fc fn ∧ (∀ p, p ∈ fs ↔ p ∈ fc ∨ p ∈ fn) ∧ fc.Nodup ∧ fn.Nodup ∧ ∀ p ∈ fc, p ∉ fn := by
  intro fl Γ h
  have cT : ∀ {fl : List Bool} {s : Sl} {Γ : Ctx}, (∀ {σ : L2.St} {fs : List Addr}, Holds K HF H Γ σ fs → fs.Nodup → ∃ fc fn : List Addr, SplitH K HF H fl Γ σ fc fn ∧ (∀ p, p ∈ fs ↔ p ∈ fc ∨ p ∈ fn) ∧ fc.Nodup ∧ fn.Nodup ∧ ∀ p ∈ fc, p ∉ fn) →
      ∀ {σ : L2.St} {fs : List Addr}, Holds K HF H (s :: Γ) σ fs → fs.Nodup → ∃ fc fn : List Addr, SplitH K HF H (true :: fl) (s :: Γ) σ fc fn ∧ (∀ p, p ∈ fs ↔ p ∈ fc ∨ p ∈ fn) ∧ fc.Nodup ∧ fn.Nodup ∧ ∀ p ∈ fc, p ∉ fn := by
    intro fl s Γ ih σ fs h nd
    cases σ with
    | nil => exact h.elim
    | cons x σ =>
      obtain ⟨f1, f2, e, h1, h2⟩ := h
      rw [e] at nd
      obtain ⟨n1, n2, n3⟩ := List.nodup_append.mp nd
      obtain ⟨fc, fn, q0, q1, q2, q3, q4⟩ := ih h2 n2
      refine ⟨f1 ++ fc, fn, ⟨f1, fc, h1, q0, rfl⟩, fun p => ?_, List.nodup_append.mpr ⟨n1, q2, fun p hp q hq => n3 p hp q ((q1 q).mpr (.inl hq))⟩, q3, fun p hp hq => ?_⟩
      · rw [e, List.mem_append, List.mem_append, q1]
        constructor
        · rintro (a | a | a)
          · exact .inl (.inl a)
          · exact .inl (.inr a)
          · exact .inr a
        · rintro ((a | a) | a)
          · exact .inl a
          · exact .inr (.inl a)
          · exact .inr (.inr a)
      · rcases List.mem_append.mp hp with z | z
        · exact n3 p z p ((q1 p).mpr (.inr hq)) rfl
        · exact q4 p z hq
  induction h with
  | n =>
    intro σ fs h nd
    cases σ with
    | nil =>
      have e : fs = [] := h
      subst e
      exact ⟨[], [], ⟨rfl, rfl⟩, fun p => by simp, List.nodup_nil, List.nodup_nil, by simp⟩
    | cons x σ => exact h.elim
  | @p fl s Γ _ ih =>
    intro σ fs h nd
    cases σ with
    | nil => exact h.elim
    | cons x σ =>
      obtain ⟨f1, f2, e, h1, h2⟩ := h
      rw [e] at nd
      obtain ⟨n1, n2, n3⟩ := List.nodup_append.mp nd
      obtain ⟨fc, fn, q0, q1, q2, q3, q4⟩ := ih h2 n2
      refine ⟨fc, f1 ++ fn, ⟨f1, fn, h1, q0, rfl⟩, fun p => ?_, q2, List.nodup_append.mpr ⟨n1, q3, fun p hp q hq => n3 p hp q ((q1 q).mpr (.inr hq))⟩, fun p hp hq => ?_⟩
      · rw [e, List.mem_append, List.mem_append, q1]
        constructor
        · rintro (a | a | a)
          · exact .inr (.inl a)
          · exact .inl a
          · exact .inr (.inr a)
        · rintro (a | a | a)
          · exact .inr (.inl a)
          · exact .inl a
          · exact .inr (.inr a)
      · rcases List.mem_append.mp hq with z | z
        · exact n3 p z p ((q1 p).mpr (.inl hp)) rfl
        · exact q4 p hp z
  | u _ ih => exact fun h nd => cT (fun h nd => ih h nd) h nd
  | i _ ih => exact fun h nd => cT (fun h nd => ih h nd) h nd
theorem Pe.join {K : PySem.W.Frag} {vs : Nat → V} {HF H L' H' : Hp} : ∀ {i : Nat} {fl : List Bool} {Γ Δ Θ : Ctx}, Pe vs i fl Γ Δ Θ → ∀ {σ σ' : L2.St} {fc fn fe : List Addr}, SplitH K HF H fl Γ σ fc fn → Holds K L' H' Δ σ' fe → (∀ j v, σ[j]? = some (some v) → vs (i + j) = v) → (∀ p ∈ fn, ∀ o, H p = some o → H' p = some o) → fn.Nodup → fe.Nodup → (∀ p ∈ fe, p ∉ fn) →
    ∃ fs', Holds K HF H' Θ σ' fs' ∧ fs'.Nodup ∧ ∀ p ∈ fs', p ∈ fe ∨ p ∈ fn := by
  intro i fl Γ Δ Θ h
  -- what of the split stays for the rest
  have rest : ∀ {f : Bool} {fl : List Bool} {s : Sl} {Γ : Ctx} {x : Option V} {σ : L2.St} {fc fn : List Addr}, SplitH K HF H (f :: fl) (s :: Γ) (x :: σ) fc fn → ∃ c2 n2, SplitH K HF H fl Γ σ c2 n2 ∧ (∀ p ∈ n2, p ∈ fn) ∧ (fn.Nodup → n2.Nodup) := by
    intro f fl s Γ x σ fc fn h
    cases f with
    | true =>
      obtain ⟨f1, c2, _, h2, _⟩ := h
      exact ⟨c2, fn, h2, fun p hp => hp, fun h => h⟩
    | false =>
      obtain ⟨f1, n2, _, h2, e⟩ := h
      subst e
      exact ⟨fc, n2, h2, fun p hp => List.mem_append_right _ hp, fun nd => (List.nodup_append.mp nd).2.1⟩
  induction h with
  | n =>
    intro σ σ' fc fn fe h1 h2 hv hk nn ne hd
    cases σ' with
    | nil => exact ⟨[], rfl, List.nodup_nil, by simp⟩
    | cons x σ' => exact h2.elim
  | @p α ir o a i fl Γ Δ Θ _ ih =>
    intro σ σ' fc fn fe h1 h2 hv hk nn ne hd
    cases σ with
    | nil => exact h1.elim
    | cons x σ =>
      cases σ' with
      | nil => exact h2.elim
      | cons x' σ' =>
        obtain ⟨f1, n2, ⟨v, hx, r⟩, h12, e⟩ := h1
        subst e hx
        obtain ⟨g1, g2, e', ⟨v', hx', ⟨e1, _⟩, e2⟩, h22⟩ := h2
        have e2 : g1 = [] := e2
        subst e2
        rw [List.nil_append] at e'
        subst e'
        obtain ⟨m1, m2, m3⟩ := List.nodup_append.mp nn
        obtain ⟨fs', w1, w2, w3⟩ := ih h12 h22 (fun j v hj => by rw [show i + 1 + j = i + (j + 1) by omega]; exact hv (j + 1) v hj) (fun p hp => hk p (List.mem_append_right _ hp)) m2 ne fun p hp hq => hd p hp (List.mem_append_right _ hq)
        have ev : v' = v := e1.trans (hv 0 v rfl)
        refine ⟨f1 ++ fs', ⟨f1, fs', rfl, ⟨v, by rw [hx', ev], @Ow.mono α ir o _ _ _ _ _ _ _ _ (Same.refl _) (fun p hp => hk p (List.mem_append_left _ hp)) r⟩, w1⟩, List.nodup_append.mpr ⟨m1, w2, fun p hp q hq e => ?_⟩, fun p hp => ?_⟩
        · subst e
          rcases w3 p hq with z | z
          · exact hd p z (List.mem_append_left _ hp)
          · exact m3 p hp p z rfl
        · rcases List.mem_append.mp hp with z | z
          · exact .inr (List.mem_append_left _ z)
          · exact (w3 p z).imp id (List.mem_append_right _)
  | @u f s t i fl Γ Δ Θ _ ih =>
    intro σ σ' fc fn fe h1 h2 hv hk nn ne hd
    cases σ with
    | nil => cases f <;> exact h1.elim
    | cons x σ =>
      cases σ' with
      | nil => exact h2.elim
      | cons x' σ' =>
        obtain ⟨c2, n2, h12, hn2, hnn⟩ := rest h1
        obtain ⟨g1, g2, e', _, h22⟩ := h2
        subst e'
        obtain ⟨m1, m2, m3⟩ := List.nodup_append.mp ne
        obtain ⟨fs', w1, w2, w3⟩ := ih h12 h22 (fun j v hj => by rw [show i + 1 + j = i + (j + 1) by omega]; exact hv (j + 1) v hj) (fun p hp => hk p (hn2 p hp)) (hnn nn) m2 fun p hp hq => hd p (List.mem_append_right _ hp) (hn2 p hq)
        exact ⟨fs', ⟨[], fs', rfl, rfl, w1⟩, w2, fun p hp => (w3 p hp).imp (List.mem_append_right _) (hn2 p)⟩
  | @i f α ir o io a s i fl Γ Δ Θ _ ih =>
    intro σ σ' fc fn fe h1 h2 hv hk nn ne hd
    cases σ with
    | nil => cases f <;> exact h1.elim
    | cons x σ =>
      cases σ' with
      | nil => exact h2.elim
      | cons x' σ' =>
        obtain ⟨c2, n2, h12, hn2, hnn⟩ := rest h1
        obtain ⟨g1, g2, e', ⟨v, hx, r⟩, h22⟩ := h2
        subst e'
        obtain ⟨m1, m2, m3⟩ := List.nodup_append.mp ne
        obtain ⟨fs', w1, w2, w3⟩ := ih h12 h22 (fun j v hj => by rw [show i + 1 + j = i + (j + 1) by omega]; exact hv (j + 1) v hj) (fun p hp => hk p (hn2 p hp)) (hnn nn) m2 fun p hp hq => hd p (List.mem_append_right _ hp) (hn2 p hq)
        refine ⟨g1 ++ fs', ⟨g1, fs', rfl, ⟨v, hx, Ind.ind r⟩, w1⟩, List.nodup_append.mpr ⟨m1, w2, fun p hp q hq e => ?_⟩, fun p hp => ?_⟩
        · subst e
          rcases w3 p hq with z | z
          · exact m3 p hp p z rfl
          · exact hd p (List.mem_append_left _ hp) (hn2 p z)
        · rcases List.mem_append.mp hp with z | z
          · exact .inl (List.mem_append_left _ z)
          · exact (w3 p z).imp (List.mem_append_right _) (hn2 p)
section
variable {X : Cx} {Γ : Ctx} {S L ρ α β κ γ A B S' : Type} [Rp ρ] {o : Ow ρ} {Γo : S → Ctx} {ΓL : L → Ctx} {a b e f : Expr} {es : List Expr} {pos p p1 p5 apos cpos pos2 : Pos} {ta tb te tf : TE} {t : TA} {sts : List Stmt} {tr tr' : TS} {tg : Expr}
end
end Ty

/-! ## Ty27: x.pop() of own things -/
namespace Ty
open PySem PySem.Spec PyProof.Rows L2
section
variable {X : Cx} {Γ : Ctx} {S L ρ α β κ γ A B S' : Type} [Rp ρ] {o : Ow ρ} {Γo : S → Ctx} {ΓL : L → Ctx} {a b e f : Expr} {es : List Expr} {pos p p1 p5 apos cpos pos2 : Pos} {ta tb te tf : TE} {t : TA} {sts : List Stmt} {tr tr' : TS} {tg : Expr}
end
end Ty

/-! ## Ty28: own exceptions without own __init__: raised, let through, caught -/
namespace Ty
open PySem PySem.Spec PyProof.Rows L2
/-- the class of a name -/
abbrev clv (K : PySem.W.Frag) (c : Str) : Value := .ref (He.ga K c)
def vOf (K : PySem.W.Frag) (D : Str) : Value := if D = ("ValueError" : Str) then .type "ValueError" else clv K D
/-- what is told of the classes: c under D or not -/
abbrev CTab := List (Str × Str × Bool)
def exc1B (K : PySem.W.Frag) (c : Str) : Bool :=
  (PySem.W.excIn K (He.ga K c) He.veBase "ValueError.__new__" && (PySem.W.keepIn K (clv K c) && (decide (PySem.W.subIn K (clv K c) (.type "BaseException") = some true) && (decide (PySem.W.typeIn K (clv K c) = some (.type "type")) &&
  (decide (PySem.W.nsIn K mainGlobals c = some (some (clv K c))) && (decide (PySem.W.findIn K (clv K c) "__getattribute__" = some (some (.builtin "BaseException.__getattribute__"))) && (decide (PySem.W.findIn K (clv K c) "__getattr__" = some none) && (PySem.W.hasDictIn K (He.ga K c) &&
  (decide (PySem.W.findIn K (clv K c) "__class__" = some (some (.builtin "object.__class__"))) && (decide (PySem.W.specialIn K (.builtin "object.__class__") "__get__" = some (some (.builtin "getset_descriptor.__get__"))) && (decide (PySem.W.takesIn K (.builtin "object.__class__") = some true) &&
  decide (PySem.W.mroIn K (He.ga K c) (.type "object") = some true))))))))))))
def exfB (names : List Str) (tb : CTab) (K : PySem.W.Frag) : Bool := names.all (exc1B K) && tb.all fun p => decide (PySem.W.kitOne K (clv K p.1) (vOf K p.2.1) = some p.2.2) && decide (PySem.W.exmOne K (clv K p.1) (vOf K p.2.1) = some p.2.2)
structure ExF (K : PySem.W.Frag) (names : List Str) (tb : CTab) : Prop where
  ok : ∀ c ∈ names, PySem.W.excIn K (He.ga K c) He.veBase "ValueError.__new__" = true ∧ PySem.W.keepIn K (clv K c) = true ∧ PySem.W.subIn K (clv K c) (.type "BaseException") = some true ∧ PySem.W.typeIn K (clv K c) = some (.type "type") ∧ PySem.W.nsIn K mainGlobals c = some (some (clv K c))
  cls : ∀ c ∈ names, ExcC K (He.ga K c)
  kit : ∀ {c D b}, (c, D, b) ∈ tb → PySem.W.kitOne K (clv K c) (vOf K D) = some b
  exm : ∀ {c D b}, (c, D, b) ∈ tb → PySem.W.exmOne K (clv K c) (vOf K D) = some b
theorem exf_of {names : List Str} {tb : CTab} {K : PySem.W.Frag} (h : exfB names tb K = true) : ExF K names tb := by
  unfold exfB at h
  obtain ⟨h1, h2⟩ := Bool.and_eq_true_iff.mp h
  have q : ∀ c ∈ names, exc1B K c = true := fun c hc => List.all_eq_true.mp h1 c hc
  have q2 := fun p hp => List.all_eq_true.mp h2 p hp
  refine ⟨fun c hc => ?_, fun c hc => ?_, fun {c D b} hp => ?_, fun {c D b} hp => ?_⟩
  · have := q c hc
    unfold exc1B at this
    simp only [Bool.and_eq_true, decide_eq_true_eq] at this
    obtain ⟨a1, a2, a3, a4, a5, _⟩ := this
    exact ⟨a1, a2, a3, a4, a5⟩
  · have := q c hc
    unfold exc1B at this
    simp only [Bool.and_eq_true, decide_eq_true_eq] at this
    obtain ⟨a1, a2, a3, a4, a5, b1, b2, b3, b4, b5, b6, b7⟩ := this
    exact ⟨b1, b2, a3, b3, b4, b5, b6, b7⟩
  · have := q2 _ hp
    simp only [Bool.and_eq_true, decide_eq_true_eq] at this
    exact this.1
  · have := q2 _ hp
    simp only [Bool.and_eq_true, decide_eq_true_eq] at this
    exact this.2
theorem ExF.raises {X : Cx} {names : List Str} {tb : CTab} (T : ExF X.K names tb) {c : Str} (hc : c ∈ names) : Raises X (clv X.K c) := raises_own (T.ok c hc).2.2.1 (T.ok c hc).2.2.2.1
/-- a value, or the name of the class of what is raised -/
instance rpRs {ρ : Type} [Rp ρ] : Rp (ρ ⊕ Str) where
  sh K H v x := match x with
    | .inl r => Rp.sh K H v r
    | .inr _ => True
  mono := fun {K H H' v a} e h => by
    cases a with
    | inl r => exact Rp.mono e h
    | inr _ => trivial
def Ow.x {ρ : Type} [Rp ρ] (o : Ow ρ) (cl : Str → Value) (E : XK) : Ow (ρ ⊕ Str) where
  rep K HF H v x fp := match x with
    | .inl r => o.rep K HF H v r fp
    | .inr _ => fp = []
  mono := fun {K HF HF' H H' v a fp} e k h => by
    cases a with
    | inl r => exact o.mono e k h
    | inr _ => exact h
  dom := fun {K HF H v a fp} h p hp => by
    cases a with
    | inl r => exact o.dom h p hp
    | inr _ =>
      have h : fp = [] := h
      subst h; cases hp
  frz := fun {K HF HF' H v a fp} e k h => by
    cases a with
    | inl r => exact o.frz e k h
    | inr _ => trivial
  out x R v H := match x with
    | .inl r => o.out r R v H
    | .inr c => E (cl c) none H
def RetX {ρ : Type} [Rp ρ] (K : PySem.W.Frag) (HF H : Hp) (o : Ow ρ) (c : ρ ⊕ Str) (Q : VK) (E : XK) : Prop := match c with
  | .inl r => RetK K HF H o r Q
  | .inr x => ∀ HF' H', Step HF H HF' H' → E (clv K x) none H'
def spX {A ρ : Type} [Rp ρ] (K : PySem.W.Frag) (r : As A) (o : Ow ρ) (f : A → M (ρ ⊕ Str)) : Sp := fun vs H Q E =>
  ∃ HF a c, Same HF H ∧ r.rep K HF vs a ∧ f a = .ok c ∧ RetX K HF H o c Q E
section
variable {P : Program} {w : World} {K : PySem.W.Frag} {mg : Str → Option Value} {base : Heap}
theorem fn_okX {A ρ : Type} [Rp ρ] {x qual : Str} {params : Arguments} {bd : List Stmt} {scope : Scope} {dvs : List V} {kws : List (Str × V)} {f : Addr} {fd : FuncData} {N ps : List Str} {k : Nat} {r : As A} {o : Ow ρ} {m : A → M (Ctl Unit Empty (ρ ⊕ Str))} (F : FunD K x qual params bd scope dvs kws f fd) (S : FnScope N ps scope) (hn : r.n = ps.length) (hN : N.length = r.n + (N.length - r.n))
    (body : ∀ (cdv : Value) (A' : Around) (outer : List Env) (s : Shared) (H : Hp) (E : XK), Room k (A'.deeper (envOfC qual scope s.heap.objs.size f cdv)) → ∀ a : A, ∃ t : TS,
      SS (cxOf (L2.CX P w) P w K mg base N qual scope f cdv A' outer s H E) (r.ctx a ++ List.replicate (N.length - r.n) .un) bd (fun (_ : Unit) => []) (fun (_ : Empty) => []) (Ow.x o (clv K) E) (m a) t)
    (ho : ∀ r R v H, R v H → o.out r R v H := by exact fun _ _ _ _ h => h) :
    FnOk P w K mg base (L2.CX P w) (k + 1) f fd ps (spX K r o fun a => runC (m a)) := by
  refine F.ok S (fun vs H Q E h => ?_) (fun cdv A' outer s H vs Q E hr h => ?_)
  · obtain ⟨HF, a, c, h1, h2, h3, h4⟩ := h
    rw [r.len h2, hn]
  · obtain ⟨HF, a, c, h1, h2, h3, h4⟩ := h
    obtain ⟨t, q⟩ := body cdv A' outer s H E hr a
    refine ⟨t, q.pss, ?_⟩
    obtain ⟨c', e1, h3⟩ := bind_ok h3
    have hl := r.len h2
    have hd := r.held (HF := HF) (H := H) (N.length - r.n) h2
    have es : L2.start N vs = vs.map some ++ List.replicate (N.length - r.n) none := by unfold L2.start; rw [hl]
    refine q.sem HF H HF H (L2.start N vs) ⟨h1, Same.refl _, Same.refl _, (fun p u a b => by rw [a] at b; cases b), [], by rw [es]; exact hd, List.nodup_nil, fun p hp => by cases hp⟩ c' e1 _ ?_
    cases c' with
    | nx s => cases h3
    | bk l => exact nomatch l
    | ct l => exact nomatch l
    | rt r' =>
      cases pure_ok (show (pure r' : M (ρ ⊕ Str)) = .ok c from h3)
      cases c with
      | inl r0 => exact fun v HF' H' fp a b c' d rr n ff => ho _ _ _ _ <| h4 v HF' H' fp ⟨b, c', a, d⟩ rr n fun p hp => ⟨(ff p hp).2, (ff p hp).1⟩
      | inr x0 => exact fun v HF' H' fp a b c' d rr n ff => h4 HF' H' ⟨b, c', a, d⟩
/-- a def of the text that keeps its promise, or raises -/
def HasX (P : Program) (w : World) (K : PySem.W.Frag) (mg : Str → Option Value) (base : Heap) (x : Str) (k : Nat) (ps : List Str) (sp : Sp) : Prop :=
  ∃ f fd, FnOk P w K mg base (L2.CX P w) k f fd ps sp ∧ mg x = some (.ref f) ∧ PySem.W.keepIn K (.ref f) = true ∧ Binds K fd ps []
end
section
variable {X : Cx} {Γ : Ctx} {S L ρ α β A S' : Type} [Rp ρ] {o : Ow ρ} {Γo : S → Ctx} {ΓL : L → Ctx} {a b e f : Expr} {es : List Expr} {pos p p1 p2 pos2 : Pos} {ta tb te tf : TE} {t : TA} {sts : List Stmt} {tr tr' : TS}
def upC (c : Ctl S L ρ) : Ctl S L (ρ ⊕ Str) := match c with
  | .nx s => .nx s
  | .bk l => .bk l
  | .ct l => .ct l
  | .rt r => .rt (.inl r)
theorem ss_upX {K : PySem.W.Frag} {E : XK} {m : M (Ctl S L ρ)} {tr : TS} (h : SS X Γ sts Γo ΓL o m tr) : SS X Γ sts Γo ΓL (Ow.x o (clv K) E) (do let c ← m; pure (upC c)) tr :=
  ⟨h.pss, fun HF0 G HF H σ g c hc D k => by
    obtain ⟨c1, e1, hc⟩ := bind_ok hc
    cases pure_ok hc
    refine h.sem HF0 G HF H σ g c1 e1 D ?_
    cases c1 <;> exact k⟩
theorem ss_retOX {K : PySem.W.Frag} {E : XK} (i : Nat) {r : ρ} {x : Str} {pos' : Pos} (hl : look Γ i = .mk o r := by rfl) (hN : X.N[i]? = some x := by rfl) (hv : Vis X.env.scope x := by first | exact Or.inl rfl | exact Or.inr (Or.inl rfl) | exact Or.inr (Or.inr rfl)) (hd : (x == ("__debug__" : Str)) = false := by decide)
    (hcd : (x == ("__classdict__" : Str)) = false := by decide) (ho : ∀ r R v H, o.out r R v H → R v H := by exact fun _ _ _ _ h => h) : SS X Γ [.Return (some (.Name x pos')) pos] Γo ΓL (Ow.x o (clv K) E) (pure (.rt (.inl r))) (tRet (tVar i)) :=
  ss_upX (K := K) (E := E) (ss_retO (S := S) (L := L) (Γo := Γo) (ΓL := ΓL) (pos := pos) (pos' := pos') i hl hN hv hd hcd ho)
/-- raise C('..') -/
theorem ss_raise {K : PySem.W.Frag} {names : List Str} {tab : CTab} {c m : Str} {j : Nat} {E : XK} (T : ExF K names tab) (hcn : names.contains c = true) (gC : X.mg c = some (clv K c)) (tk : Takes X (fun cls d _ H => E cls d H)) (hc : X.calm = true := by rfl) (hg : Gl X c := by rfl) (hdb : (c == ("__debug__" : Str)) = false := by decide) (hK : X.K = K := by rfl) :
    SS X Γ [.Raise (some (.Call (.Name c p) [.Constant (.str m) j p2] [] pos)) none pos2] Γo ΓL (Ow.x o (clv K) E) (pure (.rt (.inr c))) (fun _ _ H => E (clv K c) none H) := by
  subst hK
  have hcn := List.contains_iff_mem.mp hcn
  exact ⟨pss_one (ps_raise hc tk (pmk_own PySem.F.excBase_ValueError (T.ok c hcn).1 gC (T.ok c hcn).2.1 (T.raises hcn) hg hdb)), fun HF0 G HF H σ g cc hcc D k => by
    cases pure_ok hcc
    exact k .non HF H [] g.sub g.f0 g.g0 g.nf rfl List.nodup_nil fun p hp => by cases hp⟩
/-- an expression that may raise -/
structure EXr [Rp ρ] (X : Cx) (W : WX) (Γ : Ctx) (e : Expr) (o : Ow ρ) (m : M (ρ ⊕ Str)) (t : TE) : Prop where
  pe : PE X e t
  sem : ∀ HF0 G HF H σ, Good X.K HF0 G Γ HF H σ → ∀ c, m = .ok c → ∀ Q : VK, (match c with
    | .inl r => RetK X.K HF H o r Q
    | .inr x => ∀ HF' H', Step HF H HF' H' → W (clv X.K x) none σ H') → t σ H Q
section
variable {K : PySem.W.Frag} {E : XK}
end
/-! ### try -/
structure BX (X : Cx) (W : WX) (Γ : Ctx) (sts : List Stmt) (Γb : α → Ctx) (m : M (α ⊕ Str)) (t : TS) : Prop where
  pss : PSs X sts t
  sem : ∀ HF0 G HF H σ, Good X.K HF0 G Γ HF H σ → ∀ c, m = .ok c → ∀ D : Ends, (match c with
    | .inl a => ∀ HF' H' σ', Same HF HF' → Good X.K HF0 G (Γb a) HF' H' σ' → D.nx σ' H'
    | .inr x => ∀ HF' H', Step HF H HF' H' → W (clv X.K x) none σ H') → t D σ H
/-- the exception that a suite holds -/
structure ExO where
  a : Addr
instance : Rp ExO where
  sh _ _ v x := v = .ref x.a
  mono := fun _ h => h
end
end Ty

/-! ## Ty29: sorted(set(..)) of a list of whole numbers -/
namespace Ty
open PySem PySem.Spec PyProof.Rows L2
section
variable {P : Program} {w : World} {A : Around} {E : Value → Shared → Prop} {s : Shared}
end
/-- each once -/
def once (l : List Int) : List Int := l.foldr (fun x r => if x ∈ r then r else x :: r) []
theorem once_cons (x : Int) (l : List Int) : once (x :: l) = if x ∈ once l then once l else x :: once l := rfl
theorem mem_once {x : Int} : ∀ {l : List Int}, x ∈ once l ↔ x ∈ l
  | [] => Iff.rfl
  | y :: l => by
    rw [once_cons]
    have ih := mem_once (x := x) (l := l)
    split
    · rename_i h
      rw [ih, List.mem_cons]
      constructor
      · exact .inr
      · rintro (z | z)
        · rw [z]; exact mem_once.mp h
        · exact z
    · rw [List.mem_cons, List.mem_cons, ih]
theorem nodup_once : ∀ {l : List Int}, (once l).Nodup
  | [] => List.nodup_nil
  | y :: l => by
    rw [once_cons]
    split
    · exact nodup_once
    · exact List.nodup_cons.mpr ⟨‹_›, nodup_once⟩
/-- rising, each once -/
def sset (l : List Int) : List Int := isort (once l)
theorem isort_perm (l : List Int) : (isort l).Perm l := List.mergeSort_perm _ _
theorem isort_up (l : List Int) : (isort l).Pairwise (· ≤ ·) := by
  have h1 : List.Pairwise (fun a b : Int => decide (a ≤ b) = true) (isort l) := List.pairwise_mergeSort (fun a b c h1 h2 => by simp at *; omega) (fun a b => by simp; omega) l
  exact h1.imp fun h => by simpa using h
theorem mem_sset {x : Int} {l : List Int} : x ∈ sset l ↔ x ∈ l := (isort_perm _).mem_iff.trans mem_once
theorem sset_up (l : List Int) : (sset l).Pairwise (· < ·) := by
  have h1 := isort_up (once l)
  have h2 : (sset l).Nodup := (isort_perm _).nodup_iff.mpr nodup_once
  rw [List.nodup_iff_pairwise_ne] at h2
  exact (List.pairwise_and_iff.mpr ⟨h1, h2⟩).imp fun ⟨a, b⟩ => by omega
section
variable {X : Cx} {Γ : Ctx} {a : Expr} {p p2 q : Pos} {ta : TE}
end
end Ty

/-! ## Ty30: defs without a return; lists that may be another's -/
namespace Ty
open PySem PySem.Spec PyProof.Rows L2
section
variable {P : Program} {w : World} {K : PySem.W.Frag} {mg : Str → Option Value} {base : Heap}
end
/-- a thing that is own, or another's -/
structure Al (α : Type) where
  sh : Bool
  a : α
instance {α : Type} [Inhabited α] : Inhabited (Al α) := ⟨⟨true, default⟩⟩
instance rpAl {α : Type} [Rp α] : Rp (Al α) where
  sh K H v x := Rp.sh K H v x.a
  mono := fun e h => Rp.mono e h
def Ow.al {α : Type} [Rp α] (u : Ow α) : Ow (Al α) where
  rep K HF H v x fp := if x.sh then (Rp.sh K HF v x.a ∧ fp = []) else u.rep K HF H v x.a fp
  mono := fun {K HF HF' H H' v x fp} e k h => by
    cases q : x.sh with
    | true =>
      rw [q, if_pos rfl] at h
      rw [if_pos rfl]
      exact ⟨Rp.mono e h.1, h.2⟩
    | false =>
      rw [q, if_neg (by simp)] at h
      rw [if_neg (by simp)]
      exact u.mono e k h
  dom := fun {K HF H v x fp} h p hp => by
    cases q : x.sh with
    | true =>
      rw [q, if_pos rfl] at h
      rw [h.2] at hp; cases hp
    | false =>
      rw [q, if_neg (by simp)] at h
      exact u.dom h p hp
  frz := fun {K HF HF' H v x fp} e k h => by
    cases q : x.sh with
    | true =>
      rw [q, if_pos rfl] at h
      exact Rp.mono e h.1
    | false =>
      rw [q, if_neg (by simp)] at h
      exact u.frz e k h
section
variable {X : Cx} {Γ : Ctx} {S L ρ α β A S' : Type} [Rp ρ] {o : Ow ρ} {Γo : S → Ctx} {ΓL : L → Ctx} {a b e f : Expr} {es : List Expr} {pos p p1 p2 pos2 : Pos} {ta tb te tf : TE} {t : TA} {sts : List Stmt} {tr tr' : TS}
end
end Ty

/-! ## Ty31: things in lists of data; x.clear(); calls that could raise but don't -/
namespace Ty
open PySem PySem.Spec PyProof.Rows L2
section
variable {X : Cx} {Γ : Ctx} {S L ρ α β γ A B S' : Type} {o : Expr} {a b e : Expr} {es : List Expr} {pos p apos cpos p1 p2 : Pos} {ta tb te : TE} {t : TA} {sts : List Stmt} {tr : TS}
def noX {ρ : Type} (r : ρ ⊕ Str) : M ρ := match r with
  | .inl a => pure a
  | .inr _ => no
/-- a call that could raise, where it doesn't -/
theorem ex_callN {ρ : Type} [Rp ρ] {K : PySem.W.Frag} {k : Nat} {f : Addr} {fd : FuncData} {ps : List Str} {x : Str} {r : As A} {o : Ow ρ} {fm : A → M (ρ ⊕ Str)} {m : M A} (F : FnOk X.prog X.w X.K X.mg X.base (L2.CX X.prog X.w) k f fd ps (spX K r o fm)) (hr : Room k X.A) (hm : X.mg x = some (.ref f)) (hk : PySem.W.keepIn X.K (.ref f) = true) (hb : Binds X.K fd ps [])
    (ha : EA X Γ (e :: es) r m t) (hg : Gl X x := by rfl) (hdb : (x == ("__debug__" : Str)) = false := by decide) (he : starEach (e :: es) X.env = (false, eval e X.env) :: starEach es X.env := by rfl) (hpl : (backTo pos (starEach es X.env)).any (·.1) = false := by rfl) (hK : X.K = K := by rfl) :
    EX X Γ (.Call (.Name x p) (e :: es) [] pos) o (do let a ← m; let r ← fm a; noX r) (tCall (spX K r o fm) [] E0 t) := by
  subst hK
  exact ⟨pe_call F hr hg hm hk hb .nil passL ha.pa hdb he hpl, fun HF0 G HF H σ g c hc Q kk => by
    obtain ⟨x, e1, hc⟩ := bind_ok hc
    obtain ⟨y, e2, hc⟩ := bind_ok hc
    refine ha.sem HF0 G HF H σ g x e1 _ fun vs HF1 H1 s1 r1 => ?_
    show spX X.K r o fm (vs ++ []) H1 Q E0
    rw [List.append_nil]
    refine ⟨HF1, x, y, s1.sub, r1, e2, ?_⟩
    cases y with
    | inl y =>
      cases pure_ok (show (pure y : M ρ) = .ok c from hc)
      exact RetK.back kk s1
    | inr y => cases hc⟩
end
/-! ### x.clear() -/
section
variable {X : Cx} {Γ : Ctx} {S L ρ α : Type} [Rp ρ] {o : Ow ρ} {Γo : S → Ctx} {ΓL : L → Ctx} {pos p apos cpos : Pos} {sts : List Stmt} {tr : TS}
end
end Ty

/-! ## Ty32: a def that is handed the exception which an except suite holds -/
namespace Ty
open PySem PySem.Spec PyProof.Rows L2
/-- what is known of the exception at hand: its class is c -/
structure ExP (K : PySem.W.Frag) (c : Str) (p : Addr × Obj) : Prop where
  C : ExcC K (He.ga K c)
  hz : Zc (clv K c) none p.2
  hf : ∃ vs, p.2.data = .fields vs
def spE {ρ : Type} [Rp ρ] (K : PySem.W.Frag) (o : Ow ρ) (fm : Str → M ρ) (c : Str) (H : Hp) (Q : VK) : Prop := ∃ HF r, Same HF H ∧ fm c = .ok r ∧ RetK K HF H o r Q
structure FnE (P : Program) (w : World) (K : PySem.W.Frag) (mg : Str → Option Value) (base : Heap) (k : Nat) (f : Addr) (fd : FuncData) (y : Str) {ρ : Type} [Rp ρ] (o : Ow ρ) (fm : Str → M ρ) : Prop where
  run : ∀ (A : Around) (outer : List Env) (s : Shared) (H : Hp) (args : Args) (Q : VK) (E : XK) (p : Addr × Obj) (c : Str), L2H.RoomH k A → ExP K c p → L2H.PinOk outer H s p → Env0 P w K mg base A outer s H → BindsTo s fd args [(y, .ref p.1)] → spE K o fm c H Q →
    codeAny (model P w) A (.call (.ref f) args) (CR CX0 outer P w H s Q E) s
section
variable {P : Program} {w : World} {K : PySem.W.Frag} {mg : Str → Option Value} {base : Heap}
end
section
variable {X : Cx} {Γ : Ctx} {ρ : Type} [Rp ρ] {o : Ow ρ} {a b e f : Expr} {es : List Expr} {pos p p1 p2 pos2 : Pos} {ta tb te tf : TE} {t : TA}
end
/-! ### x.pop(i) of own things -/
theorem Rl.eraseIdx {α : Type} {R : V → α → List Addr → Prop} : ∀ {vs : List V} {as : List α} {fp : List Addr} (i : Nat), Rl R vs as fp → ∃ fp', Rl R (vs.eraseIdx i) (as.eraseIdx i) fp' ∧ (∀ p ∈ fp', p ∈ fp) ∧ (fp.Nodup → fp'.Nodup)
  | [], [], fp, _, h => ⟨fp, h, fun _ h => h, fun h => h⟩
  | v :: vs, a :: as, fp, 0, ⟨f1, f2, e, h1, h2⟩ => ⟨f2, h2, fun p hp => by rw [e]; exact List.mem_append_right _ hp, fun nd => by rw [e] at nd; exact (List.nodup_append.mp nd).2.1⟩
  | v :: vs, a :: as, fp, i + 1, ⟨f1, f2, e, h1, h2⟩ => by
    obtain ⟨f', q1, q2, q3⟩ := Rl.eraseIdx i h2
    refine ⟨f1 ++ f', ⟨f1, f', rfl, h1, q1⟩, fun p hp => ?_, fun nd => ?_⟩
    · rw [e]
      rcases List.mem_append.mp hp with z | z
      · exact List.mem_append_left _ z
      · exact List.mem_append_right _ (q2 p z)
    · rw [e] at nd
      obtain ⟨a1, a2, a3⟩ := List.nodup_append.mp nd
      exact List.nodup_append.mpr ⟨a1, q3 a2, fun p hp q hq e => a3 p hp q (q2 q hq) e⟩
  | [], _ :: _, _, _, h => h.elim
  | _ :: _, [], _, _, h => h.elim
section
variable {X : Cx} {Γ : Ctx} {S L ρ α β κ γ A B S' : Type} [Rp ρ] {o : Ow ρ} {Γo : S → Ctx} {ΓL : L → Ctx} {a b e f : Expr} {es : List Expr} {pos p p1 p5 apos cpos pos2 : Pos} {ta tb te tf : TE} {t : TA} {sts : List Stmt} {tr tr' : TS} {tg : Expr}
end
end Ty

/-! ## Ty33: methods of texts; join; extend; enumerate of a text -/
namespace Ty
open PySem PySem.Spec PyProof.Rows L2
def rFind : V → List V → Hp → VK → Prop := fun x xs H Q => ∃ a b, x = .str a ∧ xs = [.str b] ∧ Q (.int (Txt.find a b)) H
def rJoin (K : PySem.W.Frag) : V → List V → Hp → VK → Prop := fun x xs H Q => ∃ a p, ∃ ys : List Str, x = .str a ∧ xs = [.ref p] ∧ (SqL K H p (ys.map V.str) ∨ SqT K H p (ys.map V.str)) ∧ (ys.map (·.length)).sum + ys.length * a.length ≤ 16777216 ∧ Q (.str (Txt.join a ys)) H
section
variable {X : Cx} {Γ : Ctx} {S L ρ α β γ A B S' : Type} {a b e o : Expr} {es : List Expr} {pos p p1 p2 apos cpos : Pos} {ta tb te to : TE} {t : TA} {sts : List Stmt} {tr : TS}
/-- text.name(args) -/
theorem ex_tm {A γ : Type} [Rp γ] {w : Ow γ} {name : Str} {id : String} {K : PySem.W.Frag} {r : V → List V → Hp → VK → Prop} {r0 : As A} {f : Str → A → M γ} {mo : M Str} {ma : M A}
    (slot : Slot "str" name id) (hty : typeOf (.builtin id) = pure (.type "method_descriptor")) (hm : MtR X id r)
    (hr : ∀ HF H (x : Str) vs (y : A) (c : γ), Same HF H → r0.rep K HF vs y → f x y = .ok c → ∀ Q : VK, RetK K HF H w c Q → r (.str x) vs H Q)
    (ho : EX X Γ o Ow.v mo to) (ha : EA X Γ (e :: es) r0 ma t)
    (hbase : attributeBase o name X.env (eval o X.env) = eval o X.env := by rfl)
    (hfew : ((backTo cpos (starEach (e :: es) X.env)).all (fun x => !x.1) && (backToKw cpos (keywordEach [] X.env)).all (fun x => x.1.isSome)
      && decide ((e :: es).length + ([] : List Keyword).length + (if ([] : List Keyword).isEmpty then 0 else 1) < 30)) = true := by rfl)
    (hline : (apos.endLine == cpos.line) = true := by rfl) (hs : starEach (e :: es) X.env = (false, eval e X.env) :: starEach es X.env := by rfl) (hplain : (backTo cpos (starEach es X.env)).any (·.1) = false := by rfl) (hK : X.K = K := by rfl) :
    EX X Γ (.Call (.Attribute o name apos) (e :: es) [] cpos) w (do let x ← mo; let y ← ma; f x y) (tBM K "str" r to t) := by
  subst hK
  exact ⟨pe_bm PySem.F.plainAttrs_str slot hty hm ho.pe ha.pa hbase hfew hline hs hplain, fun HF0 G HF H σ g c hc Q k => by
    obtain ⟨x, e1, hc⟩ := bind_ok hc
    obtain ⟨y, e2, hc⟩ := bind_ok hc
    refine ho.sem HF0 G HF H σ g x e1 _ fun v HF1 H1 fp s1 r1 _ _ => ?_
    have r1 := Fl.sh_iff.mp r1.1
    subst r1
    refine ⟨rfl, ?_⟩
    refine ha.sem HF0 G HF1 H1 σ (g.step s1) y e2 _ fun vs HF2 H2 s2 r2 => ?_
    exact hr HF2 H2 x vs y c s2.sub r2 hc Q (k.back (s1.trans s2))⟩
theorem as1 {α : Type} [Rp α] {K : PySem.W.Frag} {HF : Hp} {vs : List V} {y : α × Unit} (h : (As.cons (α := α) As.nil).rep K HF vs y) : ∃ v, vs = [v] ∧ Rp.sh K HF v y.1 := by
  obtain ⟨v, ws, h1, h2, h3⟩ := h
  have h3 : ws = [] := h3
  subst h3
  exact ⟨v, h1, h2⟩
theorem ex_find {K : PySem.W.Frag} {mo : M Str} {ma : M (Str × Unit)} (ho : EX X Γ o Ow.v mo to) (ha : EA X Γ [e] (As.cons (α := Str) As.nil) ma t) (hbase : attributeBase o "find" X.env (eval o X.env) = eval o X.env := by rfl)
    (hfew : ((backTo cpos (starEach [e] X.env)).all (fun x => !x.1) && (backToKw cpos (keywordEach [] X.env)).all (fun x => x.1.isSome)
      && decide ([e].length + ([] : List Keyword).length + (if ([] : List Keyword).isEmpty then 0 else 1) < 30)) = true := by rfl)
    (hline : (apos.endLine == cpos.line) = true := by rfl) (hs : starEach [e] X.env = (false, eval e X.env) :: starEach [] X.env := by rfl) (hplain : (backTo cpos (starEach [] X.env)).any (·.1) = false := by rfl) (hK : X.K = K := by rfl) :
    EX X Γ (.Call (.Attribute o "find" apos) [e] [] cpos) Ow.v (do let x ← mo; let y ← ma; pure (Txt.find x y.1)) (tBM K "str" rFind to t) :=
  ex_tm (r := rFind) (A := Str × Unit) (γ := Int) (w := Ow.v) (f := fun (x : Str) (y : Str × Unit) => (pure (Txt.find x y.1) : M Int)) PySem.F.slot_str_find PySem.F.type_str_find mt_find (fun HF H x vs y c s h hc Q k => by
    obtain ⟨v, rfl, z⟩ := as1 h
    cases pure_ok hc
    exact ⟨x, y.1, rfl, by rw [Fl.sh_iff.mp z]; rfl, k.flat s⟩) ho ha hbase hfew hline hs hplain hK
def indexM (x y : Str) : M Int := do let k ← ofO (Txt.index0 x y); pure (k : Int)
def joinM (x : Str) (ys : List Str) : M Str := do gd (decide ((ys.map (·.length)).sum + ys.length * x.length ≤ 16777216)); pure (Txt.join x ys)
theorem ex_join {K : PySem.W.Frag} {mo : M Str} {ma : M (List Str × Unit)} (ho : EX X Γ o Ow.v mo to) (ha : EA X Γ [e] (As.cons (α := List Str) As.nil) ma t) (hbase : attributeBase o "join" X.env (eval o X.env) = eval o X.env := by rfl)
    (hfew : ((backTo cpos (starEach [e] X.env)).all (fun x => !x.1) && (backToKw cpos (keywordEach [] X.env)).all (fun x => x.1.isSome)
      && decide ([e].length + ([] : List Keyword).length + (if ([] : List Keyword).isEmpty then 0 else 1) < 30)) = true := by rfl)
    (hline : (apos.endLine == cpos.line) = true := by rfl) (hs : starEach [e] X.env = (false, eval e X.env) :: starEach [] X.env := by rfl) (hplain : (backTo cpos (starEach [] X.env)).any (·.1) = false := by rfl) (hK : X.K = K := by rfl) :
    EX X Γ (.Call (.Attribute o "join" apos) [e] [] cpos) Ow.v (do let x ← mo; let y ← ma; joinM x y.1) (tBM K "str" (rJoin K) to t) := by
  subst hK
  exact ex_tm (r := rJoin X.K) (A := List Str × Unit) (γ := Str) (w := Ow.v) (f := fun (x : Str) (y : List Str × Unit) => joinM x y.1) PySem.F.slot_str_join PySem.F.type_str_join mt_join (fun HF H x vs y c s h hc Q k => by
    obtain ⟨v, rfl, z⟩ := as1 h
    obtain ⟨u, e1, hc⟩ := bind_ok hc
    cases pure_ok hc
    obtain ⟨q, us, e2, h1, h2⟩ := z
    have e3 := Fa.flat.mp h2
    subst e2 e3
    exact ⟨x, q, y.1, rfl, rfl, .inl (SqL.of (s _ _ h1)), of_decide_eq_true (gd_ok e1), k.flat s⟩) ho ha hbase hfew hline hs hplain rfl
end
end Ty

/-! ## Ty34: sorted(set(text)) -/
namespace Ty
open PySem PySem.Spec PyProof.Rows L2
def keyS (e : Int × Value) : Str := match e.2 with | .str k _ => k | _ => ⟨#[]⟩
def GoodS (w : World) (e : Int × Value) : Prop := ∃ k tk, e.2 = Value.str k tk ∧ e.1 = hashStr w k
/-- the set of texts at a -/
def SetX (w : World) (h : Heap) (a : Addr) (S : Str → Bool) (n : Nat) : Prop :=
  ∃ o es ep t, h.get? a = some o ∧ o.ExactSet ∧ o.data = .set es ep t ∧ (∀ e ∈ es.toList, GoodS w e) ∧ (es.toList.map keyS).Nodup ∧ (∀ k, S k = true ↔ k ∈ es.toList.map keyS) ∧
    es.size < scanBound ∧ t.fits es.size = true ∧ es.size = n ∧ Ris t.place.toList ∧ (w.params.followText "set-order" = true ∨ t.led = true)
section
variable {P : Program} {w : World} {h h' : Heap} {a : Addr} {S : Str → Bool} {n : Nat}
theorem SetX.at (R : SetX w h a S n) (k : ∀ o, h.get? a = some o → h'.get? a = some o) : SetX w h' a S n := by
  obtain ⟨o, es, ep, t, ho, r⟩ := R
  exact ⟨o, es, ep, t, k o ho, r⟩
theorem SetX.congr {S' : Str → Bool} (R : SetX w h a S n) (e : ∀ k, S' k = S k) : SetX w h a S' n := by
  have q : S' = S := funext e
  rw [q]; exact R
end
section
variable {P : Program} {w : World} {A : Around} {E : Value → Shared → Prop} {s : Shared} {a : Addr} {S : Str → Bool} {n : Nat}
end
/-! ### the law of what is told -/
theorem sg_inj {a b : Nat} (h : sgS a = sgS b) : a = b := by
  have q : [a] = [b] := congrArg (fun y : Str => y.cps.toList) h
  exact (List.cons.inj q).1
/-- the signs of a text, rising, each once -/
def csort (x : Str) : List Nat := (sset (x.cps.toList.map Int.ofNat)).map Int.toNat
theorem mem_csort {x : Str} {c : Nat} : c ∈ csort x ↔ c ∈ x.cps.toList := by
  unfold csort
  rw [List.mem_map]
  constructor
  · rintro ⟨i, h, rfl⟩
    obtain ⟨n, h2, rfl⟩ := List.mem_map.mp (mem_sset.mp h)
    exact h2
  · intro h
    exact ⟨Int.ofNat c, mem_sset.mpr (List.mem_map.mpr ⟨c, h, rfl⟩), rfl⟩
theorem csort_up (x : Str) : (csort x).Pairwise (· < ·) := by
  unfold csort
  rw [List.pairwise_map]
  refine (sset_up _).imp_of_mem ?_
  intro a b ha hb h
  obtain ⟨n, _, rfl⟩ := List.mem_map.mp (mem_sset.mp ha)
  obtain ⟨m, _, rfl⟩ := List.mem_map.mp (mem_sset.mp hb)
  have h : (n : Int) < (m : Int) := h
  show n < m
  omega
theorem nup_uniq {a b : List Nat} (ha : a.Pairwise (· < ·)) (hb : b.Pairwise (· < ·)) (h : ∀ x, x ∈ a ↔ x ∈ b) : a = b := by
  have na : a.Nodup := by rw [List.nodup_iff_pairwise_ne]; exact ha.imp fun h => by omega
  have nb : b.Nodup := by rw [List.nodup_iff_pairwise_ne]; exact hb.imp fun h => by omega
  exact List.Perm.eq_of_pairwise (le := fun (x y : Nat) => x ≤ y) (fun a b _ _ h1 h2 => by omega) (ha.imp fun h => by omega) (hb.imp fun h => by omega) ((List.perm_ext_iff_of_nodup na nb).mpr h)
section
variable {X : Cx} {Γ : Ctx} {a : Expr} {p p2 q : Pos} {ta : TE}
end
end Ty

/-! ## Ty35: x.extend(a new list) -/
namespace Ty
open PySem PySem.Spec PyProof.Rows L2
section
variable {X : Cx} {Γ : Ctx} {S L ρ α β γ A B S' : Type} [Rp ρ] {o : Ow ρ} {Γo : S → Ctx} {ΓL : L → Ctx} {a b e : Expr} {es : List Expr} {pos p apos cpos : Pos} {ta tb te : TE} {t : TA} {sts : List Stmt} {tr tr' : TS}
end
end Ty

/-! ## Ty36: enumerate of a text; count and index in lists -/
namespace Ty
open PySem PySem.Spec PyProof.Rows L2
section
variable {X : Cx} {Γ : Ctx} {S L ρ α β γ A B S' : Type} {a b e o : Expr} {es : List Expr} {pos p p1 p2 apos cpos : Pos} {ta tb te to : TE} {t : TA} {sts : List Stmt} {tr : TS}
end
end Ty

/-! ## Ty37: own exceptions with an own __init__ that keeps one field: made, raised, caught, kept behind the suite -/
namespace PySem.W
open PySem PySem.Spec PySem.Calls PyProof.Rows
end PySem.W
namespace Ty
open PySem PySem.Spec PyProof.Rows L2
structure OexF (K : PySem.W.Frag) (c f : Str) (fI : Addr) : Prop where
  T : OexC K (He.ga K c)
  no : PySem.W.findIn K (clv K c) f = some none
  init : PySem.W.findIn K (clv K c) "__init__" = some (some (.ref fI))
  ty : PySem.W.typeIn K (.ref fI) = some (.type "function")
section
variable {X : Cx} {o e : Expr} {es : List Expr} {to te : TE} {ta : TA} {f c : Str} {p p' p1 p2 pos : Pos}
end
section
variable {P : Program} {w : World} {K : PySem.W.Frag} {mg : Str → Option Value} {base : Heap}
end
/-! ### values that exceptions bear -/
inductive PV where
  | i (n : Int)
  | s (x : Str)
  deriving DecidableEq
def PV.enc : PV → V
  | .i n => .int n
  | .s x => .str x
/-- what is raised: the class's name, the field -/
structure Exn where
  c : Str
  p : Option (Str × PV)
def vD : Option Addr → V
  | some dd => .ref dd
  | none => .non
def XD (HF : Hp) (d : Option Addr) (x : Exn) : Prop := match x.p with
  | none => d = none
  | some (f, v) => ∃ dd, d = some dd ∧ HF dd = some (.xd [(f, v.enc)])
theorem XD.mono {HF HF' : Hp} {d : Option Addr} {x : Exn} (s : Same HF HF') (h : XD HF d x) : XD HF' d x := by
  unfold XD at *
  split at h
  · exact h
  · obtain ⟨dd, h1, h2⟩ := h
    exact ⟨dd, h1, s _ _ h2⟩
instance rpRy {ρ : Type} [Rp ρ] : Rp (ρ ⊕ Exn) where
  sh K H v x := match x with
    | .inl r => Rp.sh K H v r
    | .inr _ => True
  mono := fun {K H H' v a} e h => by
    cases a with
    | inl r => exact Rp.mono e h
    | inr _ => trivial
def Ow.y {ρ : Type} [Rp ρ] (o : Ow ρ) (cl : Str → Value) (E : XK) : Ow (ρ ⊕ Exn) where
  rep K HF H v x fp := match x with
    | .inl r => o.rep K HF H v r fp
    | .inr x => fp = [] ∧ ∃ d, v = vD d ∧ XD HF d x
  mono := fun {K HF HF' H H' v a fp} e k h => by
    cases a with
    | inl r => exact o.mono e k h
    | inr x =>
      obtain ⟨h1, d, h2, h3⟩ := h
      exact ⟨h1, d, h2, h3.mono e⟩
  dom := fun {K HF H v a fp} h p hp => by
    cases a with
    | inl r => exact o.dom h p hp
    | inr _ =>
      have h : fp = [] := h.1
      subst h; cases hp
  frz := fun {K HF HF' H v a fp} e k h => by
    cases a with
    | inl r => exact o.frz e k h
    | inr _ => trivial
  out x R v H := match x with
    | .inl r => o.out r R v H
    | .inr x => ∃ d, v = vD d ∧ E (cl x.c) d H

section
variable {P : Program} {w : World} {K : PySem.W.Frag} {mg : Str → Option Value} {base : Heap}
end
section
variable {X : Cx} {Γ : Ctx} {S L ρ α β A S' : Type} [Rp ρ] {o : Ow ρ} {Γo : S → Ctx} {ΓL : L → Ctx} {a b e f : Expr} {es : List Expr} {pos p p1 p2 pos2 : Pos} {ta tb te tf : TE} {t : TA} {sts : List Stmt} {tr tr' : TS}
/-- an expression that may raise -/
structure EXs [Rp ρ] (X : Cx) (W : WX) (Γ : Ctx) (e : Expr) (o : Ow ρ) (m : M (ρ ⊕ Exn)) (t : TE) : Prop where
  pe : PE X e t
  sem : ∀ HF0 G HF H σ, Good X.K HF0 G Γ HF H σ → ∀ c, m = .ok c → ∀ Q : VK, (match c with
    | .inl r => RetK X.K HF H o r Q
    | .inr x => ∀ HF' H' d, Step HF H HF' H' → XD HF' d x → W (clv X.K x.c) d σ H') → t σ H Q
section
variable {K : PySem.W.Frag} {E : XK}
end
end
end Ty

/-! ## Ty38: try: f(..) / except C as e: kept = e; what follows knows the exception -/
namespace L2
open PySem PySem.Spec PyProof.Rows
abbrev Cx.kp (X : Cx) (q : Addr × Obj) : Cx := { X with pn := q :: X.pn }
section
variable {X : Cx} {x n kx : Str} {c : Value} {i ik : Nat} {body rest : List Stmt} {np pos pos' p1 p2 p3 : Pos} {tb : WX → TS} {t0 : TS} {t1 : Addr → Value → Option Addr → TS} {Wout : WX}
theorem Cx.Ok.kp (ok : X.Ok) (q : Addr × Obj) : (X.kp q).Ok := { ok with }
end
end L2

/-! ## Ty39: the kept exception: its class, its field -/
namespace Ty
open PySem PySem.Spec PyProof.Rows L2
/-- an exception at hand -/
structure ExY where
  a : Addr
  d : Option Addr
  x : Exn
instance : Rp ExY where
  sh _ HF v e := v = .ref e.a ∧ XD HF e.d e.x
  mono := fun s h => ⟨h.1, h.2.mono s⟩
/-- what is known of the pinned exception -/
structure PinY (X : Cx) (c : Str) (d : Option Addr) (p : Addr × Obj) : Prop where
  C : ExcC X.K (He.ga X.K c)
  hz : Zc (clv X.K c) d p.2
  hf : ∃ vs, p.2.data = .fields vs
  hp : p ∈ X.pn
section
variable {X : Cx} {Γ : Ctx} {S L ρ α β A S' : Type} [Rp ρ] {o : Ow ρ} {Γo : S → Ctx} {ΓL : L → Ctx} {a b e f : Expr} {es : List Expr} {pos p p1 p2 pos2 : Pos} {ta tb te tf : TE} {t : TA} {sts : List Stmt} {tr tr' : TS}
/-- names of classes, one behind another -/
structure CN (X : Cx) (es : List Expr) (Ds : List Str) (t : TA) : Prop where
  pa : PA X es t
  sem : ∀ σ H (Q : List V → Hp → Prop), Q (Ds.map fun D => V.ref (He.ga X.K D)) H → t σ H Q
  nv : ∀ D ∈ Ds, D ≠ ("ValueError" : Str)
/-! ### try -/
structure BXs (X : Cx) (W : WX) (Γ : Ctx) (sts : List Stmt) (Γb : α → Ctx) (m : M (α ⊕ Exn)) (t : TS) : Prop where
  pss : PSs X sts t
  sem : ∀ HF0 G HF H σ, Good X.K HF0 G Γ HF H σ → ∀ c, m = .ok c → ∀ D : Ends, (match c with
    | .inl a => ∀ HF' H' σ', Same HF HF' → Good X.K HF0 G (Γb a) HF' H' σ' → D.nx σ' H'
    | .inr x => ∀ HF' H' d, Step HF H HF' H' → XD HF' d x → W (clv X.K x.c) d σ H') → t D σ H
end

/-! ### for the printer -/
end Ty

namespace Ty
open PySem PySem.W PySem.Calls PyProof.Rows He
/-! ### a hook that holds the statics' list, too -/
structure SaysZ (fa : List He.Fa) (fn : List He.DefD) (ex : PySem.W.Frag → Bool) (K : PySem.W.Frag) : Prop where
  d : He.SaysD fa fn K
  more : ex K = true
end Ty
namespace Ty
open PySem PySem.Spec PyProof.Rows L2
/-! ### great factors, of together less than 100 million bits -/
def CMulX (i j : Int) : Prop := i.natAbs.log2 + j.natAbs.log2 < 100000000
theorem CMulX.ok {i j : Int} (h : CMulX i j) : IntMulOk i j := by
  have b : ∀ x : Int, Builtin.Int.intBits x ≤ x.natAbs.log2 + 1 := fun x => by
    unfold Builtin.Int.intBits
    split <;> omega
  have h1 := b i
  have h2 := b j
  have h3 : i.natAbs.log2 + j.natAbs.log2 < 100000000 := h
  have e : bitsLine = 134217728 := by decide
  unfold IntMulOk
  intro z
  rw [Bool.and_eq_true] at z
  have z2 := z.2
  unfold Builtin.Int.intTooBig at z2
  have z3 := of_decide_eq_true z2
  rw [e] at z3
  omega
section
variable {X : Cx} {Γ : Ctx} {a b : Expr} {pos : Pos} {ta tb : TE}
end
end Ty
namespace L2
open PySem PySem.Spec PyProof.Rows
end L2

/-! ## Ty41: list(text) -/
namespace L2
open PySem PySem.Spec PyProof.Rows
end L2
namespace Ty
open PySem PySem.Spec PyProof.Rows L2
section
variable {X : Cx} {Γ : Ctx} {a : Expr} {ta : TE} {p pos : Pos}
end
end Ty

/-! ## Ty42: text.upper(), text[::-1], list[::k] -/
namespace L2
open PySem PySem.Spec PyProof.Rows
section
variable {X : Cx} {e : Expr} {te : TE}
/-! ### list[::k] -/
end
end L2
namespace Ty
open PySem PySem.Spec PyProof.Rows L2
section
variable {X : Cx} {Γ : Ctx} {a e o : Expr} {ta te to : TE} {p p1 p2 p3 pos apos cpos : Pos}
instance kdTu {α : Type} [Rp α] : Kd (Tu α) := ⟨"tuple", fun ⟨p, vs, e, h, _⟩ => by
  subst e
  rcases h with (h | ⟨o, h⟩) | ⟨o, its, n, e, c, _⟩
  · exact .base (.tup h)
  · exact .fTuple h
  · exact .kTuple e c⟩
end
end Ty

/-! ## Ty43: an except suite that hands its exception, field and all, to a def; calls in that def -/
namespace Ty
open PySem PySem.Spec PyProof.Rows L2
/-- a def called while an exception is handled -/
structure FnHt (P : Program) (w : World) (K : PySem.W.Frag) (mg : Str → Option Value) (base : Heap) (k : Nat) (f : Addr) (fd : FuncData) (ps : List Str) (sp : Sp) : Prop where
  len : ∀ vs H Q E, sp vs H Q E → vs.length = ps.length
  run : ∀ (A : Around) (outer : List Env) (s : Shared) (H : Hp) (args : Args) (us : List Value) (vs : List V) (Q : VK) (E : XK) (p : Addr × Obj), L2H.RoomH k A → L2H.PinOk outer H s p → Env0 P w K mg base A outer s H → BindsTo s fd args (ps.zip us) → Vals vs us → sp vs H Q E →
    codeAny (model P w) A (.call (.ref f) args) (CR CX0 outer P w H s Q E) s
/-- a def that is handed the exception -/
structure PinZ (K : PySem.W.Frag) (c : Str) (d : Option Addr) (p : Addr × Obj) : Prop where
  C : ExcC K (He.ga K c)
  hz : Zc (clv K c) d p.2
  hf : ∃ vs, p.2.data = .fields vs
def spZ {ρ : Type} [Rp ρ] (K : PySem.W.Frag) (o : Ow ρ) (fm : Exn → M ρ) (d : Option Addr) (x : Exn) (H : Hp) (Q : VK) : Prop := ∃ HF r, Same HF H ∧ XD HF d x ∧ fm x = .ok r ∧ RetK K HF H o r Q
structure FnZ (P : Program) (w : World) (K : PySem.W.Frag) (mg : Str → Option Value) (base : Heap) (k : Nat) (f : Addr) (fd : FuncData) (y : Str) {ρ : Type} [Rp ρ] (o : Ow ρ) (fm : Exn → M ρ) : Prop where
  run : ∀ (A : Around) (outer : List Env) (s : Shared) (H : Hp) (args : Args) (Q : VK) (E : XK) (p : Addr × Obj) (d : Option Addr) (x : Exn), L2H.RoomH k A → PinZ K x.c d p → L2H.PinOk outer H s p → Env0 P w K mg base A outer s H → BindsTo s fd args [(y, .ref p.1)] → spZ K o fm d x H Q →
    codeAny (model P w) A (.call (.ref f) args) (CR CX0 outer P w H s Q E) s
section
variable {P : Program} {w : World} {K : PySem.W.Frag} {mg : Str → Option Value} {base : Heap}
end
section
variable {X : Cx} {Γ : Ctx} {ρ α : Type} [Rp ρ] {o : Ow ρ} {a b e f : Expr} {es : List Expr} {pos p p1 p2 pos2 : Pos} {ta tb te tf : TE} {t : TA}
end
section
variable {X : Cx} {Γ : Ctx} {S L ρ α : Type} [Rp ρ] {o : Ow ρ} {Γo : S → Ctx} {ΓL : L → Ctx} {pos : Pos} {sts : List Stmt} {tr : TS}
end
end Ty

/-! ## Ty44: sorted(list of texts), min(list of texts), x = d.setdefault(k, e) -/
namespace L2
open PySem PySem.Spec PyProof.Rows
end L2
namespace Ty
open PySem PySem.Spec PyProof.Rows L2
def leS (a b : Str) : Bool := decide (a.cps.toList ≤ b.cps.toList)
theorem leS_trans (a b c : Str) (h : leS a b = true) (h' : leS b c = true) : leS a c = true := decide_eq_true (List.le_trans (of_decide_eq_true h) (of_decide_eq_true h'))
theorem leS_total (a b : Str) : (leS a b || leS b a) = true := by
  rw [Bool.or_eq_true]
  rcases List.le_total a.cps.toList b.cps.toList with h | h
  · exact .inl (decide_eq_true h)
  · exact .inr (decide_eq_true h)
theorem leS_antisymm (a b : Str) (h : leS a b = true) (h' : leS b a = true) : a = b := by
  have e := List.le_antisymm (of_decide_eq_true h) (of_decide_eq_true h')
  obtain ⟨⟨x⟩⟩ := a
  obtain ⟨⟨y⟩⟩ := b
  have e : x = y := e
  rw [e]
/-- texts, sorted -/
def tsort (xs : List Str) : List Str := xs.mergeSort leS
theorem tsort_perm (xs : List Str) : (tsort xs).Perm xs := List.mergeSort_perm _ _
theorem tsort_up (xs : List Str) : (tsort xs).Pairwise (fun a b => leS a b = true) := List.pairwise_mergeSort leS_trans leS_total xs
theorem rising_up : ∀ (l : List Str) (p : Str), risingS p l = true → (p :: l).Pairwise (fun a b => leS a b = true)
  | [], p, _ => List.pairwise_singleton _ _
  | x :: l, p, h => by
    unfold risingS at h
    rw [Bool.and_eq_true, Bool.not_eq_true', ltCps_eq, decide_eq_false_iff_not] at h
    have ih := rising_up l x h.2
    have hp : leS p x = true := decide_eq_true h.1
    refine List.pairwise_cons.mpr ⟨fun y hy => ?_, ih⟩
    rcases List.mem_cons.mp hy with rfl | hy
    · exact hp
    · exact leS_trans _ _ _ hp ((List.pairwise_cons.mp ih).1 y hy)
theorem sortedS_up {l : List Str} (h : sortedS l = true) : l.Pairwise (fun a b => leS a b = true) := by
  cases l with
  | nil => exact .nil
  | cons p l => exact rising_up l p h
theorem tsort_eq {a b : List Str} (hp : b.Perm a) (hs : sortedS b = true) : b = tsort a :=
  List.Perm.eq_of_pairwise (le := fun a b => leS a b = true) (fun a b _ _ h1 h2 => leS_antisymm a b h1 h2) (sortedS_up hs) (tsort_up a) (hp.trans (tsort_perm a).symm)
section
variable {X : Cx} {Γ : Ctx} {S L ρ α β : Type} [Rp ρ] {o : Ow ρ} {Γo : S → Ctx} {ΓL : L → Ctx} {a b e : Expr} {pos p p1 apos cpos : Pos} {ta tb te : TE} {sts : List Stmt} {tr : TS}
/-! ### x = d.setdefault(k, e) -/
end
end Ty

set_option maxHeartbeats 1000000
/-! ## Ty45: reversed(text), at the library's level -/
namespace RS
open PySem PySem.Spec PyProof.Rows RT
def IsRs (h : Heap) (a : Addr) (x : Str) (t : Tok) (i : Int) : Prop := ∃ o, h.get? a = some o ∧ o.cls = .type "reversed" ∧ o.data = .fields #[.str x t, rawInt i]
theorem IsRs.at {h h' : Heap} {a : Addr} {x : Str} {t : Tok} {i : Int} (q : IsRs h a x t i) (e : ∀ o, h.get? a = some o → h'.get? a = some o) : IsRs h' a x t i := let ⟨o, ho, r⟩ := q; ⟨o, e _ ho, r⟩
section
variable {prog : Program} {w : World} {A : Around} {E : Value → Shared → Prop} {s : Shared} {x : Str} {t : Tok}
theorem IsRs.typeIs {a : Addr} {i : Int} (q : IsRs s.heap a x t i) : s.TypeIs (.ref a) "reversed" := let ⟨o, ho, hc, _⟩ := q; ⟨o, ho, hc⟩
end
section
variable {prog : Program} {w : World} {A : Around} {E : Value → Shared → Prop} {s : Shared} {x : Str} {t : Tok}
end
section
variable {prog : Program} {w : World} {A : Around} {s : Shared} {R : Result → Shared → Prop} {x : Str} {t : Tok}
end
end RS

set_option maxHeartbeats 1000000
/-! ## Ty46: sep.join(reversed(text)), list(reversed(text)) -/
namespace RS
open PySem PySem.Spec PyProof.Rows RT Builtin Builtin.Str
section
variable {prog : Program} {w : World} {A : Around} {E : Value → Shared → Prop} {s : Shared} {x sep : Str} {t u : Tok}
end
end RS
namespace RS
open PySem PySem.Spec PyProof.Rows L2
section
variable {X : Cx}
end
end RS
namespace Ty
open PySem PySem.Spec PyProof.Rows L2
section
variable {X : Cx} {Γ : Ctx} {e o : Expr} {te to : TE} {p p2 pos pos2 apos cpos : Pos}
end
end Ty

set_option maxHeartbeats 1000000
/-! ## Ty47: instances of own classes, fields set by __init__, methods told by the class -/
namespace L2
open PySem PySem.Spec PyProof.Rows
theorem PE.or {X : Cx} {e : Expr} {t1 t2 : TE} (h1 : PE X e t1) (h2 : PE X e t2) : PE X e (fun σ H Q => t1 σ H Q ∨ t2 σ H Q) := ⟨fun pins s σ H Q I h => h.elim (h1.run pins s σ H Q I) (h2.run pins s σ H Q I)⟩
end L2
namespace Ty
open PySem PySem.Spec PyProof.Rows L2
/-- an instance: its class's name, its fields -/
structure Ins where
  c : Str
  fs : List (Str × PV)
def fenc (fs : List (Str × PV)) : List (Str × V) := fs.map fun p => (p.1, p.2.enc)
instance : Rp Ins where
  sh K HF v x := ∃ a dx, v = .ref a ∧ HF a = some (.ins (He.ga K x.c) dx (fenc x.fs))
  mono := fun s ⟨a, dx, h1, h2⟩ => ⟨a, dx, h1, s _ _ h2⟩
instance : Inhabited Ins := ⟨⟨"", []⟩⟩
/-- what is known of a class -/
structure OCls (K : PySem.W.Frag) (c : Str) : Prop where
  cl : Cls K (He.ga K c)
  ha : PySem.W.findIn K (clv K c) "__class__" = some (some (.builtin "object.__class__"))
  hn : PySem.W.specialIn K (.builtin "object.__class__") "__get__" = some (some (.builtin "getset_descriptor.__get__"))
  ht : PySem.W.takesIn K (.builtin "object.__class__") = some true
  hm : PySem.W.mroIn K (He.ga K c) (.type "object") = some true
class Pvl (α : Type) [Rp α] where
  pv : α → PV
  ok : ∀ {K : PySem.W.Frag} {HF : Hp} {v : V} {a : α}, Rp.sh K HF v a → v = (pv a).enc
instance : Pvl Int := ⟨.i, fun h => Fl.sh_iff.mp h⟩
instance : Pvl Str := ⟨.s, fun h => Fl.sh_iff.mp h⟩
section
variable {P : Program} {w : World} {K : PySem.W.Frag} {mg : Str → Option Value} {base : Heap}
/-- a class that has no __init__ -/
structure MkN (K : PySem.W.Frag) (c : Str) : Prop where
  makes : PySem.W.makesIn K (He.ga K c) = true
  init : PySem.W.findIn K (clv K c) "__init__" = some (some (.builtin "object.__init__"))
  kp : PySem.W.keepIn K (clv K c) = true
end
section
variable {X : Cx} {Γ : Ctx} {α β γ A : Type} [Rp γ] {w : Ow γ} {a b e o : Expr} {es : List Expr} {pos p p1 apos cpos : Pos} {ta tb te to : TE} {t : TA}
/-! ### C(..) -/
end
end Ty

set_option maxHeartbeats 1000000
/-! ## Ty48: methods of own classes that may raise -/
namespace L2
open PySem PySem.Spec PyProof.Rows
/-! ### list.count of a text -/
end L2
namespace Ty
open PySem PySem.Spec PyProof.Rows L2
section
variable {X : Cx} {Γ : Ctx} {α ρ A : Type} [Rp ρ] {o : Ow ρ} {a b e e0 : Expr} {es : List Expr} {pos p p1 apos cpos : Pos} {ta tb te to : TE} {t : TA}
end
section
variable {X : Cx} {Γ : Ctx} {S L ρ α β : Type} [Rp ρ] {o : Ow ρ} {Γo : S → Ctx} {ΓL : L → Ctx} {e f : Expr} {pos : Pos} {te tf : TE} {sts : List Stmt} {tr : TS}
end
end Ty

/-! ## Ty49: rfind -/
namespace Ty
open PySem PySem.Spec PyProof.Rows L2
section
variable {X : Cx} {Γ : Ctx} {o e : Expr} {apos cpos : Pos} {to : TE} {t : TA}
def rRfind : V → List V → Hp → VK → Prop := fun x xs H Q => ∃ a b, x = .str a ∧ xs = [.str b] ∧ Q (.int (Txt.rfind a b)) H
theorem ex_rfind {K : PySem.W.Frag} {mo : M Str} {ma : M (Str × Unit)} (ho : EX X Γ o Ow.v mo to) (ha : EA X Γ [e] (As.cons (α := Str) As.nil) ma t) (hbase : attributeBase o "rfind" X.env (eval o X.env) = eval o X.env := by rfl)
    (hfew : ((backTo cpos (starEach [e] X.env)).all (fun x => !x.1) && (backToKw cpos (keywordEach [] X.env)).all (fun x => x.1.isSome)
      && decide ([e].length + ([] : List Keyword).length + (if ([] : List Keyword).isEmpty then 0 else 1) < 30)) = true := by rfl)
    (hline : (apos.endLine == cpos.line) = true := by rfl) (hs : starEach [e] X.env = (false, eval e X.env) :: starEach [] X.env := by rfl) (hplain : (backTo cpos (starEach [] X.env)).any (·.1) = false := by rfl) (hK : X.K = K := by rfl) :
    EX X Γ (.Call (.Attribute o "rfind" apos) [e] [] cpos) Ow.v (do let x ← mo; let y ← ma; pure (Txt.rfind x y.1)) (tBM K "str" rRfind to t) :=
  ex_tm (r := rRfind) (A := Str × Unit) (γ := Int) (w := Ow.v) (f := fun (x : Str) (y : Str × Unit) => (pure (Txt.rfind x y.1) : M Int)) PySem.F.slot_str_rfind PySem.F.type_str_rfind mt_rfind (fun HF H x vs y c s h hc Q k => by
    obtain ⟨v, rfl, z⟩ := as1 h
    cases pure_ok hc
    exact ⟨x, y.1, rfl, by rw [Fl.sh_iff.mp z]; rfl, k.flat s⟩) ho ha hbase hfew hline hs hplain hK
end
end Ty

/-! ## Ty50: values of one of several flat kinds -/
namespace Ty
open PySem PySem.Spec PyProof.Rows L2
/-- a number, a text or a truth value -/
inductive Uv where
  | i (n : Int)
  | s (x : Str)
  | b (x : Bool)
  deriving DecidableEq
def Uv.enc : Uv → V
  | .i n => .int n
  | .s x => .str x
  | .b x => .bl x
instance : Inhabited Uv := ⟨.i 0⟩
instance : Fl Uv := flOf Uv.enc
instance : Inhabited PV := ⟨.i 0⟩
instance : Fl PV := flOf PV.enc
def PV.py : PV → PyData
  | .i n => .int n
  | .s x => .str x
instance : Eqv PV := ⟨PV.py, fun u => match u with
    | .i _ => true
    | .s x => PySem.PyData.strOk x, 0, fun {K H v a} h => by
    cases a with
    | i n => cases h; exact .int _
    | s x => cases h; exact .str _, fun a h => by
    cases a with
    | i n => rfl
    | s x => simpa [PV.py, PyData.canLay0] using h, fun a => by cases a <;> simp [PV.py, PyData.depth], fun a b => by
    cases a <;> cases b <;> simp only [PV.py, PyData.eqv]
    · rename_i x y; by_cases h : x = y <;> simp [h]
    · simp
    · simp
    · rename_i x y; by_cases h : x = y <;> simp [h]⟩
section
variable {X : Cx} {Γ : Ctx} {e : Expr} {te : TE}
end
end Ty

/-! ## Ty51: sorted(text) -/
namespace L2
open PySem PySem.Spec PyProof.Rows
section
variable {X : Cx}
def rSortTx : List V → Hp → VK → Prop := fun xs H Q => ∃ b : Str, xs = [.str b] ∧ b.cps.size < 64 ∧
  ∀ p, H p = none → Q (.ref p) (upd H p (.lst ((Ty.tsort (b.cps.toList.map Ty.sgS)).map V.str)))
theorem cr_sortTx (hcalm : X.calm = true) : CallR X (.builtin "sorted") rSortTx := by
  intro pins s σ H xs us Q I r q
  obtain ⟨b, ex, h64, q⟩ := q
  subst ex
  obtain ⟨u, eu, rx⟩ := vals1 r
  subst eu
  obtain ⟨t, rfl⟩ := rx
  refine Calls.call_function_entry PyProof.Rows.kind_sorted PyProof.Rows.plain_sorted PyProof.Rows.entry_sorted (PyProof.Rows.args_sorted1 _) ?_
  unfold Builtin.«sorted»
  refine wpAny_bind (m := checkCount "sorted" 1 1 _) (wpAny_pure ?_)
  refine wpAny_bind (wpAny_collect_str (A := X.A.in1) (I.ok.hd hcalm) b t (fun s' acc hk g1 d1 o1 hacc => ?_) (by rw [sizeLine_eq]; omega))
  have hal : acc.toList.length = b.cps.size := by rw [Array.length_toList, hacc.1]
  have hS : StrsAre acc.toList (b.cps.toList.map Ty.sgS) := strs_at (by rw [hal, List.length_map, Array.length_toList]) fun j v e => by
    obtain ⟨c, t', hc, e2⟩ := hacc.2 j v (by rw [← Array.getElem?_toList]; exact e)
    exact ⟨Ty.sgS c, t', by simp [hc], e2⟩
  obtain ⟨h', g2, d', tk, os'⟩ := s'
  obtain rfl : g2 = s.gens := g1
  obtain rfl : d' = s.drawn := d1
  obtain rfl : os' = s.os := o1
  have I1 : Inv X pins σ H { s with heap := h', toks := tk } := I.kept hk
  refine wpAny_bind (wpAny_newList ?_ (by rw [hal, sizeLine_eq]; omega))
  have hoL : (h'.push (seqObj "list" acc.toList.toArray 0)).get? h'.objs.size = some (seqObj "list" acc.toList.toArray 0) := Heap.get?_push_size _ rfl
  show wpAny _ _ _ _ _ { s with heap := h'.push (seqObj "list" acc.toList.toArray 0), toks := tk }
  refine wpAny_bind (wpAny_holding (wpAny_call_entry PyProof.Rows.slot_list_sort ⟨_, hoL, rfl⟩ PyProof.Rows.entry_list_sort
    (list_sort_treeK strKind_oneLt (s := { s with heap := h'.push (seqObj "list" acc.toList.toArray 0), toks := tk }) hoL hS.keysOf (fun v₁ v₂ rest e => keyKind_strs (by rw [← e]; exact hS)) (by rw [hal]; exact h64) fun st' hp hs => ⟨_, rfl, ?_⟩)
    (PyProof.Rows.args_list_sort _)))
  obtain ⟨ys, g1, g2, g3⟩ := sorted_out_str hS hp hs
  obtain ⟨e', he'⟩ := PyProof.Rows.sortedHeap_at (vs := acc.toList) (out := (arrOf st').map (·.2)) hoL
  have hlen : (ys.map V.str).length ≤ sizeLine := by
    rw [List.length_map, g2.length_eq, List.length_map, Array.length_toList, sizeLine_eq]
    omega
  have ey := Ty.tsort_eq g2 g3
  refine wpAny_pure ⟨_, rfl, .ref h'.objs.size, upd H h'.objs.size (.lst (ys.map V.str)), I1.laid (t' := tk) (fun b u e => ?_) (Nat.le_refl _)
    (show ObjOk X.prog X.w _ _ _ (.lst (ys.map V.str)) from ⟨hlen, ((arrOf st').map (·.2)).toList, e', vals_of_strs g1, by rw [Array.toArray_toList]; exact he'⟩), rfl, by rw [ey]; exact q _ (I1.hok.fresh (Nat.le_refl _))⟩
  have hb : b < h'.objs.size := Heap.lt_size e
  rw [PyProof.Rows.sortedHeap_old (Nat.ne_of_lt hb) (by rw [size_push']; exact Nat.lt_succ_of_lt hb)]
  exact Heap.get?_push_of_some _ e
end
end L2
namespace Ty
open PySem PySem.Spec PyProof.Rows L2
section
variable {X : Cx} {Γ : Ctx} {e : Expr} {te : TE} {p pos : Pos}
def sortXM (x : Str) : M (List Str) := do gd (decide (x.cps.size < 64)); pure (tsort (x.cps.toList.map sgS))
theorem ex_sortTx {m : M Str} (hc : X.calm = true) (hm : X.mg "sorted" = none) (h : EX X Γ e Ow.v m te) (hg : Gl X "sorted" := by rfl) (h1 : starEach [e] X.env = (false, eval e X.env) :: starEach [] X.env := by rfl) : EX X Γ (.Call (.Name "sorted" p) [e] [] pos) (Ow.l (Ow.v : Ow Str)) (do let a ← m; sortXM a) (tCB rSortTx (tCons te tNil)) := by
  exact ex_b1 (cr_sortTx hc) (show SemC1 X.K rSortTx (Ow.l Ow.v) (fun (a : Str) => sortXM a) from fun HF H v a c s hv hc Q k => by
    obtain ⟨u, e1, hc⟩ := bind_ok hc
    cases pure_ok hc
    subst hv
    exact ⟨a, rfl, of_decide_eq_true (gd_ok e1), fun p hn => k.lst s (Fa.flat.mpr rfl) hn⟩) (by decide +kernel) hm h hg (h1 := h1)
end
end Ty
/-! ### range with a step -/
namespace Ty
open PySem PySem.Spec PyProof.Rows L2
section
variable {X : Cx} {Γ : Ctx} {a b c tg : Expr} {ta tb tc : TE} {p pos : Pos}
end
end Ty
/-! ### a name that a loop may have bound -/
namespace Ty
open PySem PySem.Spec PyProof.Rows L2
section
variable {X : Cx} {Γ : Ctx} {S L ρ α : Type} [Rp ρ] {o : Ow ρ} {Γo : S → Ctx} {ΓL : L → Ctx} {sts : List Stmt} {tr : TS}
end
end Ty

/-! ## Ty52: dict(enumerate(list)), dict(d), x = d.pop(k), d.pop(k), defs that call themselves, a default None -/
namespace L2
open PySem PySem.Spec PyProof.Rows
section
variable {X : Cx} {a : Expr} {p p2 q pos : Pos} {ta : TE}
end
end L2
namespace Ty
open PySem PySem.Spec PyProof.Rows L2
section
variable {X : Cx} {Γ : Ctx} {S L ρ α β κ : Type} [Rp ρ] {o : Ow ρ} {Γo : S → Ctx} {ΓL : L → Ctx} {a b e : Expr} {pos p p1 p2 q apos cpos : Pos} {ta tb te : TE} {sts : List Stmt} {tr : TS}
end
/-! ### a def that calls itself, its turns told -/
section
variable {P : Program} {w : World} {K : PySem.W.Frag} {mg : Str → Option Value} {base : Heap}
end
/-! ### a default None -/
section
variable {X : Cx} {Γ : Ctx} {A A' ρ : Type} {e : Expr} {es : List Expr} {p pos : Pos} {t : TA}
end
end Ty
namespace Ty
open PySem PySem.Spec PyProof.Rows L2
end Ty

set_option maxHeartbeats 1000000
/-! ## Ty53: list(reversed(range(..))) -/
namespace RT
open PySem PySem.Spec PyProof.Rows L2
section
variable {prog : Program} {w : World} {A : Around} {E : Value → Shared → Prop} {s : Shared}
end
section
variable {X : Cx}
end
end RT
namespace Ty
open PySem PySem.Spec PyProof.Rows L2
section
variable {X : Cx} {Γ : Ctx} {e : Expr} {p p2 pos pos2 apos cpos : Pos} {te : TE}
end
end Ty

/-! ## Ty54: a loop that takes the own things of a list no one else has -/
namespace Ty
open PySem PySem.Spec PyProof.Rows L2
theorem Good.less {K : PySem.W.Frag} {HF0 G G' HF H : Hp} {Γ : Ctx} {σ : L2.St} (g : Good K HF0 G Γ HF H σ) (h : Same G' G) : Good K HF0 G' Γ HF H σ := by
  have hn : ∀ p, G p = none → G' p = none := fun p e => by
    cases q : G' p with
    | none => rfl
    | some u => rw [h p u q] at e; cases e
  obtain ⟨fs, h1, h2, h3⟩ := g.held
  exact ⟨g.sub, g.f0, h.trans g.g0, fun p o a b => hn p (g.nf p o a b), fs, h1, h2, fun p hp => ⟨(h3 p hp).1, hn p (h3 p hp).2⟩⟩
section
variable {X : Cx} {Γ : Ctx} {S L ρ α S' : Type} [Rp ρ] {o : Ow ρ} {Γo : S → Ctx} {ΓL : L → Ctx} {e : Expr} {pos p1 : Pos} {te : TE} {sts : List Stmt} {tr : TS}
end
end Ty

/-! ## Ty55: sorted(d.values()), texts; d[k] = ..pop.. -/
namespace L2
open PySem PySem.Spec PyProof.Rows
section
variable {X : Cx}
variable {o : Expr} {p pos apos mpos : Pos} {td : TE}
end
end L2
namespace Ty
open PySem PySem.Spec PyProof.Rows L2
section
variable {X : Cx} {Γ : Ctx} {S L ρ α β γ κ : Type} [Rp ρ] {o : Ow ρ} {Γo : S → Ctx} {ΓL : L → Ctx} {a b e f : Expr} {pos p p1 apos cpos mpos : Pos} {ta tb te tf : TE} {t : TA} {sts : List Stmt} {tr : TS}
end
end Ty

/-! ## Ty56: text.split(sep), max(d), int(text) -/
namespace L2
open PySem PySem.Spec PyProof.Rows
section
variable {X : Cx}
end
end L2
namespace Ty
open PySem PySem.Spec PyProof.Rows L2
section
variable {X : Cx} {Γ : Ctx} {S L ρ α β γ κ : Type} [Rp ρ] {o : Expr} {a b e f : Expr} {pos p p1 apos cpos mpos : Pos} {ta tb te tf to : TE} {t : TA} {sts : List Stmt} {tr : TS}
end
end Ty

/-! ## Ty57: sorted(d), int keys -/
namespace Ty
open PySem PySem.Spec PyProof.Rows L2
section
variable {X : Cx} {Γ : Ctx} {α β : Type} {e : Expr} {pos p : Pos} {te : TE}
end
end Ty

/-! ## Ty58: statements that are not come to -/
namespace Ty
open PySem PySem.Spec PyProof.Rows L2
end Ty

/-! ## Ty59: sorted(tuple), min of two tuples, tuple + tuple, list[a:b:c] -/
namespace PySem.W
open PySem PySem.Calls PyProof.Rows PyProof.V PySem.Spec
section
variable {prog : Program} {w : World} {A : Around} {E : Value → Shared → Prop} {s : Shared}
end
end PySem.W
namespace L2
open PySem PySem.Spec PyProof.Rows
section
variable {X : Cx}
end
end L2
namespace L2
open PySem PySem.Spec PyProof.Rows
section
variable {X : Cx}
end
end L2
namespace Ty
open PySem PySem.Spec PyProof.Rows L2
section
variable {X : Cx} {Γ : Ctx} {S L ρ α β γ : Type} [Rp ρ] {o : Ow ρ} {Γo : S → Ctx} {ΓL : L → Ctx} {a b e f : Expr} {pos p p1 p2 p3 apos cpos mpos pos2 : Pos} {ta tb te tf to : TE} {t : TA} {sts : List Stmt} {tr : TS}
end
end Ty
namespace L2
open PySem PySem.Spec PyProof.Rows
section
variable {X : Cx} {e : Expr} {te : TE}
end
end L2
namespace Ty
open PySem PySem.Spec PyProof.Rows L2
section
variable {X : Cx} {Γ : Ctx} {S L ρ α β γ : Type} [Rp ρ] {o : Ow ρ} {Γo : S → Ctx} {ΓL : L → Ctx} {a b e f : Expr} {pos p p1 p2 p3 p4 apos cpos mpos pos2 : Pos} {ta tb te tf to : TE} {t : TA} {sts : List Stmt} {tr : TS}
end
end Ty

/-! ## Ty60: a value that is None, a text or a list of truth values -/
namespace Ty
open PySem PySem.Spec PyProof.Rows L2
inductive Jv where
  | n
  | s (x : Str)
  | l (xs : List Bool)
instance : Inhabited Jv := ⟨.n⟩
instance : Rp Jv where
  sh K H v j := match j with
    | .n => v = .non
    | .s x => v = .str x
    | .l xs => Rp.sh K H v xs
  mono {K H H' v a} e h := by
    cases a with
    | n => exact h
    | s x => exact h
    | l xs => exact Rp.mono (α := List Bool) e h
section
variable {X : Cx} {Γ : Ctx} {e : Expr} {te : TE}
end
end Ty

/-! ## Ty61: lists whose items are the same objects -/
namespace L2
open PySem PySem.Spec PyProof.Rows
end L2
namespace Ty
open PySem PySem.Spec PyProof.Rows L2
/-- a list of instances whose items are known as they lie -/
structure Zr (vs : List V) where
  xs : List Ins
instance {vs : List V} : Rp (Zr vs) where
  sh K H v z := ∃ p, v = .ref p ∧ H p = some (.lst vs) ∧ Fa (Rp.sh K H) vs z.xs
  mono := fun {K H H' v a} e ⟨p, h1, h2, h3⟩ => ⟨p, h1, e _ _ h2, Fa.mono (fun _ _ h => Rp.mono e h) h3⟩
instance {vs : List V} : Inhabited (Zr vs) := ⟨⟨[]⟩⟩
section
variable {X : Cx} {Γ : Ctx} {e a b : Expr} {te ta tb : TE} {vs : List V}
end
section
variable {X : Cx} {Γ : Ctx} {S L ρ : Type} [Rp ρ] {o : Ow ρ} {Γo : S → Ctx} {ΓL : L → Ctx} {sts : List Stmt} {tr : TS}
end
section
variable {X : Cx} {Γ : Ctx} {γ : Type} [Rp γ] {w : Ow γ} {o : Expr} {pos apos : Pos} {to : TE}
end
end Ty

/-! ## Ty62: a def that changes its first argument, an own thing of the caller -/
namespace Ty
open PySem PySem.Spec PyProof.Rows L2
/-- the very thing at a place -/
def Ow.at {α : Type} [Rp α] (a0 : V) (o : Ow α) : Ow α where
  rep K HF H v a fp := v = a0 ∧ o.rep K HF H v a fp
  mono := fun e k ⟨h0, h⟩ => ⟨h0, o.mono e k h⟩
  dom := fun ⟨_, h⟩ => o.dom h
  frz := fun e k ⟨_, h⟩ => o.frz e k h
section
variable {X : Cx} {Γ : Ctx} {S L ρ α β : Type} [Rp ρ] {o : Ow ρ} {Γo : S → Ctx} {ΓL : L → Ctx} {a b e : Expr} {pos p p1 p2 : Pos} {ta tb te : TE} {sts : List Stmt} {tr : TS}
end
section
variable {P : Program} {w : World} {K : PySem.W.Frag} {mg : Str → Option Value} {base : Heap}
end
section
variable {X : Cx} {Γ : Ctx} {S L ρ α A : Type} [Rp ρ] {o : Ow ρ} {Γo : S → Ctx} {ΓL : L → Ctx} {e : Expr} {es : List Expr} {pos p p1 p2 : Pos} {t : TA} {sts : List Stmt} {tr : TS}
end
end Ty

/-! ## Ty63: a def of the program handed to another one; a test at a suite's only place; a default in a call that may raise -/
namespace Ty
open PySem PySem.Spec PyProof.Rows L2
inductive Fv where
  | mk
instance : Inhabited Fv := ⟨.mk⟩
instance : Rp Fv where
  sh K H v a := ∃ f, v = .ref f
  mono := fun _ h => h
section
variable {X : Cx} {Γ : Ctx} {S L ρ α β A A' B : Type} [Rp ρ] {o : Ow ρ} {Γo : S → Ctx} {ΓL : L → Ctx} {a b e : Expr} {es : List Expr} {pos p p1 p2 : Pos} {ta tb te : TE} {t : TA} {sts : List Stmt} {tr : TS}
end
end Ty

/-! ## Ty64: lists of two unlike things -/
namespace Ty
open PySem PySem.Spec PyProof.Rows L2
structure H2 (α β : Type) where
  a : α
  b : β
deriving DecidableEq
instance {α β : Type} [Inhabited α] [Inhabited β] : Inhabited (H2 α β) := ⟨⟨default, default⟩⟩
instance rpH2 {α β : Type} [Rp α] [Rp β] : Rp (H2 α β) where
  sh K H v x := ∃ p va vb, v = .ref p ∧ H p = some (.lst [va, vb]) ∧ Rp.sh K H va x.a ∧ Rp.sh K H vb x.b
  mono := fun e ⟨p, va, vb, h1, h2, h3, h4⟩ => ⟨p, va, vb, h1, e _ _ h2, Rp.mono e h3, Rp.mono e h4⟩
/-- an own list of two, its items shared -/
def Ow.h2 {α β : Type} [Rp α] [Rp β] : Ow (H2 α β) where
  rep K HF H v x fp := ∃ p va vb, v = .ref p ∧ fp = [p] ∧ H p = some (.lst [va, vb]) ∧ Rp.sh K HF va x.a ∧ Rp.sh K HF vb x.b
  mono := fun e k ⟨p, va, vb, h1, h2, h3, h4, h5⟩ => by
    subst h2
    exact ⟨p, va, vb, h1, rfl, k p (List.mem_singleton.mpr rfl) _ h3, Rp.mono e h4, Rp.mono e h5⟩
  dom := fun ⟨p, va, vb, h1, h2, h3, h4, h5⟩ q hq => by
    subst h2
    rw [List.mem_singleton.mp hq]
    exact ⟨_, h3⟩
  frz := fun e k ⟨p, va, vb, h1, h2, h3, h4, h5⟩ => by
    subst h2
    exact ⟨p, va, vb, h1, k p (List.mem_singleton.mpr rfl) _ h3, Rp.mono e h4, Rp.mono e h5⟩
instance eqvH2 {α β : Type} [Rp α] [Rp β] [DecidableEq α] [DecidableEq β] [Eqv α] [Eqv β] : Eqv (H2 α β) where
  py x := .list [Eqv.py x.a, Eqv.py x.b]
  ok x := Eqv.ok x.a && Eqv.ok x.b
  dep := max (Eqv.dep α) (Eqv.dep β) + 1
  dp := fun ⟨p, va, vb, h1, h2, h3, h4⟩ => by subst h1; exact .lst (SqL.of h2) (.cons (Eqv.dp h3) (.cons (Eqv.dp h4) .nil))
  lay := fun x h => by
    rw [Bool.and_eq_true] at h
    simp [PyData.canLay0, PyData.canLayAll0, Eqv.lay x.a h.1, Eqv.lay x.b h.2]
  deep := fun x => by
    have h1 := Eqv.deep x.a
    have h2 := Eqv.deep x.b
    simp only [PyData.depth, PyData.depthAll]
    omega
  eqv := fun ⟨a, b⟩ ⟨d, e⟩ => by
    simp only [PyData.eqv, PyData.eqvAll, Eqv.eqv]
    by_cases h1 : a = d <;> by_cases h2 : b = e <;> simp [h1, h2]
instance {α β : Type} [Rp α] [Rp β] [DecidableEq α] [DecidableEq β] [Eqv α] [Eqv β] [EqvT α] [EqvT β] : EqvT (H2 α β) := ⟨fun x => by
  show (Eqv.ok x.a && Eqv.ok x.b) = true
  rw [EqvT.all, EqvT.all]; rfl⟩
end Ty
namespace Ty
open PySem PySem.Spec PyProof.Rows L2
/-! ### a call one of whose arguments may raise -/
structure EAs {A : Type} (X : Cx) (W : WX) (Γ : Ctx) (es : List Expr) (r : As A) (m : M (A ⊕ Exn)) (t : TA) : Prop where
  pa : PA X es t
  sem : ∀ HF0 G HF H σ, Good X.K HF0 G Γ HF H σ → ∀ c, m = .ok c → ∀ Q : List V → Hp → Prop, (match c with
    | .inl a => ∀ vs HF' H', Step HF H HF' H' → r.rep X.K HF' vs a → Q vs H'
    | .inr x => ∀ HF' H' d, Step HF H HF' H' → XD HF' d x → W (clv X.K x.c) d σ H') → t σ H Q
section
variable {X : Cx} {Γ : Ctx} {α A B ρ : Type} [Rp ρ] {e : Expr} {es : List Expr} {p pos : Pos} {te : TE} {t : TA}
end
end Ty

namespace Ty
open PySem PySem.Spec PyProof.Rows L2
/-! ### tuples of ints and texts as keys of dicts -/
class Kt (κ : Type) where
  keys : κ → List Key
  inj : ∀ a b, keys a = keys b → a = b
theorem inl_inj : ∀ a b : List Int, a.map (Sum.inl : Int → Key) = b.map Sum.inl → a = b
  | [], [], _ => rfl
  | [], _ :: _, h => by simp at h
  | _ :: _, [], h => by simp at h
  | x :: a, y :: b, h => by
    rw [List.map_cons, List.map_cons] at h
    obtain ⟨h1, h2⟩ := List.cons.inj h
    rw [Sum.inl.inj h1, inl_inj a b h2]
instance ktL : Kt (List Int) := ⟨fun l => l.map Sum.inl, inl_inj⟩
instance ktP {α β : Type} [Ky α] [Ky β] : Kt (α × β) := ⟨fun p => [Ky.key p.1, Ky.key p.2], fun a b h => by
  obtain ⟨h1, h2⟩ := List.cons.inj h
  obtain ⟨h3, -⟩ := List.cons.inj h2
  exact Prod.ext (Ky.inj _ _ h1) (Ky.inj _ _ h3)⟩
structure Tq (κ : Type) where
  a : κ
  deriving DecidableEq
instance {κ : Type} [Inhabited κ] : Inhabited (Tq κ) := ⟨⟨default⟩⟩
instance rpTq {κ : Type} [Kt κ] : Rp (Tq κ) where
  sh K H v x := ∃ b, v = .ref b ∧ H b = some (.tup ((Kt.keys x.a).map kV))
  mono := fun e ⟨b, h1, h2⟩ => ⟨b, h1, e _ _ h2⟩
structure Dt (κ β : Type) where
  l : List (κ × β)
instance {κ β : Type} : Inhabited (Dt κ β) := ⟨⟨[]⟩⟩
def Ft {κ β : Type} [Kt κ] (R : V → β → Prop) : List (List Key × V) → List (κ × β) → Prop
  | [], [] => True
  | p :: ps, q :: qs => (p.1 = Kt.keys q.1 ∧ R p.2 q.2) ∧ Ft R ps qs
  | _, _ => False
theorem Ft.mono {κ β : Type} [Kt κ] {R R' : V → β → Prop} (h : ∀ v b, R v b → R' v b) : ∀ {ps : List (List Key × V)} {qs : List (κ × β)}, Ft R ps qs → Ft R' ps qs
  | [], [], _ => True.intro
  | _ :: _, _ :: _, ⟨⟨x, y⟩, z⟩ => ⟨⟨x, h _ _ y⟩, Ft.mono h z⟩
  | [], _ :: _, x => x.elim
  | _ :: _, [], x => x.elim
theorem Ft.len {κ β : Type} [Kt κ] {R : V → β → Prop} : ∀ {ps : List (List Key × V)} {qs : List (κ × β)}, Ft R ps qs → ps.length = qs.length
  | [], [], _ => rfl
  | _ :: _, _ :: _, ⟨_, z⟩ => congrArg (· + 1) (Ft.len z)
  | [], _ :: _, x => x.elim
  | _ :: _, [], x => x.elim
instance rpDt {κ β : Type} [Kt κ] [Rp β] : Rp (Dt κ β) where
  sh K H v d := ∃ p kvs, v = .ref p ∧ H p = some (.dT kvs) ∧ Ft (Rp.sh K H) kvs d.l
  mono := fun e ⟨p, kvs, h1, h2, h3⟩ => ⟨p, kvs, h1, e _ _ h2, Ft.mono (fun _ _ h => Rp.mono e h) h3⟩
def Rt {κ β : Type} [Kt κ] (R : V → β → List Addr → Prop) : List (List Key × V) → List (κ × β) → List Addr → Prop
  | [], [], fp => fp = []
  | p :: ps, q :: qs, fp => p.1 = Kt.keys q.1 ∧ ∃ f1 f2, fp = f1 ++ f2 ∧ R p.2 q.2 f1 ∧ Rt R ps qs f2
  | _, _, _ => False
theorem Rt.mono {κ β : Type} [Kt κ] {R R' : V → β → List Addr → Prop} : ∀ {ps : List (List Key × V)} {qs : List (κ × β)} {fp : List Addr}, (∀ v b f, (∀ p ∈ f, p ∈ fp) → R v b f → R' v b f) → Rt R ps qs fp → Rt R' ps qs fp
  | [], [], _, _, e => e
  | p :: ps, q :: qs, fp, h, ⟨x, f1, f2, e, y, z⟩ => ⟨x, f1, f2, e, h _ _ _ (fun p hp => by rw [e]; exact List.mem_append_left _ hp) y,
      Rt.mono (fun v a f hf => h v a f fun p hp => by rw [e]; exact List.mem_append_right _ (hf p hp)) z⟩
  | [], _ :: _, _, _, x => x.elim
  | _ :: _, [], _, _, x => x.elim
theorem Rt.ft {κ β : Type} [Kt κ] {R : V → β → List Addr → Prop} {R' : V → β → Prop} : ∀ {ps : List (List Key × V)} {qs : List (κ × β)} {fp : List Addr}, (∀ v b f, (∀ p ∈ f, p ∈ fp) → R v b f → R' v b) → Rt R ps qs fp → Ft R' ps qs
  | [], [], _, _, _ => True.intro
  | p :: ps, q :: qs, fp, h, ⟨x, f1, f2, e, y, z⟩ => ⟨⟨x, h _ _ _ (fun p hp => by rw [e]; exact List.mem_append_left _ hp) y⟩,
      Rt.ft (fun v a f hf => h v a f fun p hp => by rw [e]; exact List.mem_append_right _ (hf p hp)) z⟩
  | [], _ :: _, _, _, x => x.elim
  | _ :: _, [], _, _, x => x.elim
theorem Rt.dom {κ β : Type} [Kt κ] {R : V → β → List Addr → Prop} {D : Addr → Prop} (h : ∀ v b f, R v b f → ∀ p ∈ f, D p) : ∀ {ps : List (List Key × V)} {qs : List (κ × β)} {fp : List Addr}, Rt R ps qs fp → ∀ p ∈ fp, D p
  | [], [], fp, e, p, hp => by
    have e' : fp = [] := e
    subst e'; cases hp
  | _ :: ps, q :: qs, fp, ⟨x, f1, f2, e, y, z⟩, p, hp => by
    rw [e] at hp
    rcases List.mem_append.mp hp with hp | hp
    · exact h _ _ _ y p hp
    · exact Rt.dom h z p hp
  | [], _ :: _, _, x, _, _ => x.elim
  | _ :: _, [], _, x, _, _ => x.elim
theorem Rt.snoc {κ β : Type} [Kt κ] {R : V → β → List Addr → Prop} {k : κ} {v : V} {b : β} {g : List Addr} (h : R v b g) : ∀ {ps : List (List Key × V)} {qs : List (κ × β)} {fp : List Addr}, Rt R ps qs fp → Rt R (ps ++ [(Kt.keys k, v)]) (qs ++ [(k, b)]) (fp ++ g)
  | [], [], fp, e => by
    have e' : fp = [] := e
    subst e'
    exact ⟨rfl, g, [], by simp, h, rfl⟩
  | p :: ps, q :: qs, fp, ⟨x, f1, f2, e, y, z⟩ => ⟨x, f1, f2 ++ g, by rw [e, List.append_assoc], y, Rt.snoc h z⟩
  | [], _ :: _, _, x => x.elim
  | _ :: _, [], _, x => x.elim
theorem Rt.len {κ β : Type} [Kt κ] {R : V → β → List Addr → Prop} : ∀ {ps : List (List Key × V)} {qs : List (κ × β)} {fp : List Addr}, Rt R ps qs fp → ps.length = qs.length
  | [], [], _, _ => rfl
  | _ :: _, _ :: _, _, ⟨_, _, _, _, _, z⟩ => congrArg (· + 1) (Rt.len z)
  | [], _ :: _, _, x => x.elim
  | _ :: _, [], _, x => x.elim
theorem Rt.toFt {κ β : Type} [Kt κ] [Rp β] {K : PySem.W.Frag} {HF H : Hp} : ∀ {ps : List (List Key × V)} {qs : List (κ × β)} {fp : List Addr}, Rt (Ow.v.rep K HF H) ps qs fp → Ft (Rp.sh K HF) ps qs ∧ fp = []
  | [], [], _, e => ⟨True.intro, e⟩
  | p :: ps, q :: qs, fp, ⟨x, f1, f2, e, ⟨y, e1⟩, z⟩ => by
    obtain ⟨z1, e2⟩ := Rt.toFt z
    exact ⟨⟨⟨x, y⟩, z1⟩, by rw [e, e1, e2]; rfl⟩
  | [], _ :: _, _, x => x.elim
  | _ :: _, [], _, x => x.elim
/-- an own dict whose keys are tuples -/
def Ow.dt {κ β : Type} [Kt κ] [Rp β] (o : Ow β) : Ow (Dt κ β) where
  rep K HF H v d fp := ∃ p kvs fq, v = .ref p ∧ fp = p :: fq ∧ H p = some (.dT kvs) ∧ Rt (o.rep K HF H) kvs d.l fq
  mono := fun e k ⟨p, kvs, fq, h1, h2, h3, h4⟩ => by
    subst h2
    exact ⟨p, kvs, fq, h1, rfl, k p (List.mem_cons_self ..) _ h3, Rt.mono (fun v a f hf h => o.mono e (fun q hq => k q (List.mem_cons_of_mem _ (hf q hq))) h) h4⟩
  dom := fun ⟨p, kvs, fq, h1, h2, h3, h4⟩ q hq => by
    subst h2
    rcases List.mem_cons.mp hq with e | hq
    · exact ⟨_, e ▸ h3⟩
    · exact Rt.dom (fun v a f h => o.dom h) h4 q hq
  frz := fun e k ⟨p, kvs, fq, h1, h2, h3, h4⟩ => by
    subst h2
    exact ⟨p, kvs, h1, k p (List.mem_cons_self ..) _ h3, Rt.ft (fun v a f hf h => o.frz e (fun q hq => k q (List.mem_cons_of_mem _ (hf q hq))) h) h4⟩
instance indDt {κ β : Type} [Kt κ] [Rp β] {o : Ow β} [Ind o] : Ind (Ow.dt (κ := κ) o) where
  ind := fun ⟨p, kvs, fq, h1, h2, h3, h4⟩ => ⟨p, kvs, fq, h1, h2, h3, Rt.mono (fun v a f _ h => Ind.ind h) h4⟩
section
variable {κ β : Type} [Kt κ] [DecidableEq κ] {R : V → β → Prop}
theorem keys_dec (a b : κ) : decide (Kt.keys a = Kt.keys b) = decide (a = b) := by
  by_cases h : a = b
  · subst h; simp
  · rw [decide_eq_false h, decide_eq_false fun e => h (Kt.inj a b e)]
theorem Ft.get (k : κ) : ∀ {ps : List (List Key × V)} {qs : List (κ × β)}, Ft R ps qs → (∀ b, dget qs k = some b → ∃ v, valV ps (Kt.keys k) = some v ∧ R v b) ∧ (dget qs k = none → valV ps (Kt.keys k) = none)
  | [], [], _ => ⟨fun b h => by simp [dget] at h, fun _ => rfl⟩
  | p :: ps, q :: qs, ⟨⟨x, y⟩, z⟩ => by
    have ih := Ft.get k z
    by_cases h : q.1 = k
    · have e1 : dget (q :: qs) k = some q.2 := by simp [dget, h]
      have e2 : valV (p :: ps) (Kt.keys k) = some p.2 := valV_pos (by rw [x, h])
      rw [e1, e2]
      exact ⟨fun b e => ⟨p.2, rfl, by rw [← Option.some.inj e]; exact y⟩, fun e => by cases e⟩
    · have e1 : dget (q :: qs) k = dget qs k := by simp [dget, h]
      have e2 : valV (p :: ps) (Kt.keys k) = valV ps (Kt.keys k) := valV_neg fun e => h (Kt.inj _ _ (by rw [← x, e]))
      rw [e1, e2]
      exact ih
  | [], _ :: _, x => x.elim
  | _ :: _, [], x => x.elim
/-- the own value of a key -/
theorem Rt.get {R : V → β → List Addr → Prop} (k : κ) {b : β} : ∀ {ps : List (List Key × V)} {qs : List (κ × β)} {fp : List Addr}, Rt R ps qs fp → dget qs k = some b → ∃ v f, valV ps (Kt.keys k) = some v ∧ R v b f ∧ (∀ p ∈ f, p ∈ fp) ∧ (fp.Nodup → f.Nodup)
  | [], [], _, _, h => by simp [dget] at h
  | p :: ps, q :: qs, fp, ⟨x, f1, f2, e, y, z⟩, hb => by
    by_cases h : q.1 = k
    · have e1 : dget (q :: qs) k = some q.2 := by simp [dget, h]
      have e2 : valV (p :: ps) (Kt.keys k) = some p.2 := valV_pos (by rw [x, h])
      rw [e1] at hb
      rw [← Option.some.inj hb]
      exact ⟨p.2, f1, e2, y, fun p hp => by rw [e]; exact List.mem_append_left _ hp, fun n => by rw [e] at n; exact (List.nodup_append.mp n).1⟩
    · have e1 : dget (q :: qs) k = dget qs k := by simp [dget, h]
      have e2 : valV (p :: ps) (Kt.keys k) = valV ps (Kt.keys k) := valV_neg fun e => h (Kt.inj _ _ (by rw [← x, e]))
      rw [e1] at hb
      obtain ⟨v, f, a1, a2, a3, a4⟩ := Rt.get k z hb
      exact ⟨v, f, by rw [e2]; exact a1, a2, fun p hp => by rw [e]; exact List.mem_append_right _ (a3 p hp), fun n => by rw [e] at n; exact a4 (List.nodup_append.mp n).2.1⟩
  | [], _ :: _, _, x, _ => x.elim
  | _ :: _, [], _, x, _ => x.elim
theorem Rt.put {R : V → β → List Addr → Prop} (k : κ) {v : V} {b : β} {g fp : List Addr} (h : R v b g) {ps : List (List Key × V)} {qs : List (κ × β)} (f : Rt R ps qs fp) (hn : dget qs k = none) : Rt R (putK ps (Kt.keys k) v) (qs ++ [(k, b)]) (fp ++ g) := by
  have : (ps.any fun p => decide (p.1 = Kt.keys k)) = false := by
    induction ps generalizing qs fp with
    | nil => rfl
    | cons p ps ih =>
      cases qs with
      | nil => exact f.elim
      | cons q qs =>
        obtain ⟨x, f1, f2, e, y, z⟩ := f
        have hq : q.1 ≠ k := fun e => by simp [dget, e] at hn
        have e1 : dget (q :: qs) k = dget qs k := by simp [dget, hq]
        rw [List.any_cons, ih z (by rw [← e1]; exact hn), x, keys_dec, decide_eq_false hq]; rfl
  unfold putK
  rw [this, if_neg (by decide)]
  exact Rt.snoc h f
theorem Ft.any (k : κ) : ∀ {ps : List (List Key × V)} {qs : List (κ × β)}, Ft R ps qs → (ps.any fun p => decide (p.1 = Kt.keys k)) = qs.any fun p => decide (p.1 = k)
  | [], [], _ => rfl
  | p :: ps, q :: qs, ⟨⟨x, y⟩, z⟩ => by rw [List.any_cons, List.any_cons, Ft.any k z, x, keys_dec]
  | [], _ :: _, x => x.elim
  | _ :: _, [], x => x.elim
theorem Ft.app : ∀ {ps ps' : List (List Key × V)} {qs qs' : List (κ × β)}, Ft R ps qs → Ft R ps' qs' → Ft R (ps ++ ps') (qs ++ qs')
  | [], _, [], _, _, h => h
  | _ :: _, _, _ :: _, _, ⟨x, y⟩, h => ⟨x, Ft.app y h⟩
  | [], _, _ :: _, _, x, _ => x.elim
  | _ :: _, _, [], _, x, _ => x.elim
theorem Ft.upd (k : κ) {v : V} {b : β} (h : R v b) : ∀ {ps : List (List Key × V)} {qs : List (κ × β)}, Ft R ps qs → Ft R (ps.map fun p => if p.1 = Kt.keys k then (p.1, v) else p) (qs.map fun p => if p.1 = k then (k, b) else p)
  | [], [], _ => True.intro
  | p :: ps, q :: qs, ⟨⟨x, y⟩, z⟩ => by
    refine ⟨?_, Ft.upd k h z⟩
    show (if p.1 = Kt.keys k then (p.1, v) else p).1 = Kt.keys (if q.1 = k then (k, b) else q).1 ∧ R (if p.1 = Kt.keys k then (p.1, v) else p).2 (if q.1 = k then (k, b) else q).2
    by_cases e : q.1 = k
    · rw [if_pos (by rw [x, e]), if_pos e]
      exact ⟨by rw [x, e], h⟩
    · rw [if_neg (fun w => e (Kt.inj _ _ (by rw [← x, w]))), if_neg e]
      exact ⟨x, y⟩
  | [], _ :: _, x => x.elim
  | _ :: _, [], x => x.elim
theorem Ft.put (k : κ) {v : V} {b : β} (h : R v b) {ps : List (List Key × V)} {qs : List (κ × β)} (f : Ft R ps qs) : Ft R (putK ps (Kt.keys k) v) (dput qs k b) := by
  unfold putK dput
  rw [f.any k]
  by_cases c : (qs.any fun p => decide (p.1 = k)) = true
  · rw [if_pos c, if_pos c]; exact f.upd k h
  · rw [if_neg c, if_neg c]
    exact f.app ⟨⟨rfl, h⟩, True.intro⟩
end
/-! ### {tuple: value} -/
section
variable {X : Cx} {Γ : Ctx} {S L ρ α β κ γ A B S' : Type} [Rp ρ] {o : Ow ρ} {Γo : S → Ctx} {ΓL : L → Ctx} {a b c e f : Expr} {es : List Expr} {pos p p1 p2 apos cpos : Pos} {ta tb tc te tf : TE} {t : TA} {sts : List Stmt} {tr tr' : TS}
end
end Ty

namespace Ty
open PySem PySem.Spec PyProof.Rows L2
section
variable {X : Cx} {Γ : Ctx} {S L ρ α β κ γ A B S' : Type} [Rp ρ] {o : Ow ρ} {Γo : S → Ctx} {ΓL : L → Ctx} {a b c e f : Expr} {es : List Expr} {pos p p1 p2 apos cpos : Pos} {ta tb tc te tf : TE} {t : TA} {sts : List Stmt} {tr tr' : TS}
end
end Ty

/-! ## Ty67: some statements that look at own things, which stay own -/
namespace Ty
open PySem PySem.Spec PyProof.Rows L2
section
variable {X : Cx} {Γ : Ctx} {S L ρ α β κ γ A B S' : Type} [Rp ρ] {o : Ow ρ} {Γo : S → Ctx} {ΓL : L → Ctx} {a b c e f : Expr} {es : List Expr} {pos p p1 p2 apos cpos : Pos} {ta tb tc te tf : TE} {t : TA} {sts : List Stmt} {tr tr' : TS}
end
end Ty

/-! ## Ty68: None, a list of whatever things, or a text and a number -/
namespace Ty
open PySem PySem.Spec PyProof.Rows L2
inductive Opq where
  | o
  deriving DecidableEq
instance : Inhabited Opq := ⟨.o⟩
instance : Rp Opq where
  sh _ _ _ _ := True
  mono _ h := h
inductive Xv where
  | n
  | l (as : List Opq)
  | p (x : Str × Int)
instance : Inhabited Xv := ⟨.n⟩
instance : Rp Xv where
  sh K H v j := match j with
    | .n => v = .non
    | .l xs => Rp.sh K H v xs
    | .p x => Rp.sh K H v x
  mono {K H H' v a} e h := by
    cases a with
    | n => exact h
    | l xs => exact Rp.mono (α := List Opq) e h
    | p x => exact Rp.mono (α := Str × Int) e h
section
variable {X : Cx} {Γ : Ctx} {α A B ρ : Type} [Rp ρ] {e : Expr} {es : List Expr} {p pos : Pos} {te : TE} {t : TA}
end
end Ty

/-! ## Ty69: a def that may raise and tells nothing -/
namespace Ty
open PySem PySem.Spec PyProof.Rows L2
section
variable {P : Program} {w : World} {K : PySem.W.Frag} {mg : Str → Option Value} {base : Heap}
end
end Ty

/-! ## Ty70: the keys of a dict of tuples as a list; tuples of ints sorted -/
namespace Ty
open PySem PySem.Spec PyProof.Rows L2
/-! ### the order of lists of ints -/
/-! ### sorted -/
section
variable {X : Cx} {pins : List (Addr × Obj)} {σ : L2.St} {H : Hp} {s : Shared}
end
section
variable {X : Cx} {Γ : Ctx} {α β κ : Type} {e : Expr} {p pos : Pos} {te : TE}
end
end Ty

/-! ## Ty71: three things told as one; list[::-1] -/
namespace L2
open PySem PySem.Spec PyProof.Rows
section
variable {X : Cx} {e : Expr} {te : TE}
end
end L2
namespace Ty
open PySem PySem.Spec PyProof.Rows L2
/-- a list of whatever -/
inductive Lsv where
  | l
  deriving DecidableEq
instance : Inhabited Lsv := ⟨.l⟩
instance : Rp Lsv where
  sh K H v _ := ∃ p vs, v = .ref p ∧ H p = some (.lst vs)
  mono := fun {K H H' v a} e ⟨p, vs, h1, h2⟩ => ⟨p, vs, h1, e _ _ h2⟩
instance : Kd Lsv := ⟨"list", fun ⟨p, vs, e, h⟩ => by subst e; exact .base (.lst h)⟩
instance kdT3 {α β γ : Type} [Rp α] [Rp β] [Rp γ] : Kd (T3 α β γ) := ⟨"tuple", fun ⟨p, va, vb, vc, e, h, _⟩ => by
  subst e
  rcases h with (h | ⟨o, h⟩) | ⟨o, its, n, e, c, _⟩
  · exact .base (.tup h)
  · exact .fTuple h
  · exact .kTuple e c⟩
instance eqvT3 {α β γ : Type} [Rp α] [Rp β] [Rp γ] [DecidableEq α] [DecidableEq β] [DecidableEq γ] [Eqv α] [Eqv β] [Eqv γ] : Eqv (T3 α β γ) where
  py x := .tuple [Eqv.py x.a, Eqv.py x.b, Eqv.py x.c]
  ok x := Eqv.ok x.a && (Eqv.ok x.b && Eqv.ok x.c)
  dep := max (Eqv.dep α) (max (Eqv.dep β) (Eqv.dep γ)) + 1
  dp := fun ⟨p, va, vb, vc, h1, h2, h3, h4, h5⟩ => by subst h1; exact .tup h2 (.cons (Eqv.dp h3) (.cons (Eqv.dp h4) (.cons (Eqv.dp h5) .nil)))
  lay := fun x h => by
    rw [Bool.and_eq_true, Bool.and_eq_true] at h
    simp [PyData.canLay0, PyData.canLayAll0, Eqv.lay x.a h.1, Eqv.lay x.b h.2.1, Eqv.lay x.c h.2.2]
  deep := fun x => by
    have h1 := Eqv.deep x.a
    have h2 := Eqv.deep x.b
    have h3 := Eqv.deep x.c
    simp only [PyData.depth, PyData.depthAll]
    omega
  eqv := fun ⟨a, b, c⟩ ⟨d, e, f⟩ => by
    simp only [PyData.eqv, PyData.eqvAll, Eqv.eqv, T3.mk.injEq]
    by_cases h1 : a = d <;> by_cases h2 : b = e <;> by_cases h3 : c = f <;> simp [h1, h2, h3]
instance {α β γ : Type} [Rp α] [Rp β] [Rp γ] [DecidableEq α] [DecidableEq β] [DecidableEq γ] [Eqv α] [Eqv β] [Eqv γ] [EqvT α] [EqvT β] [EqvT γ] : EqvT (T3 α β γ) := ⟨fun a => by
  show (Eqv.ok a.a && (Eqv.ok a.b && Eqv.ok a.c)) = true
  rw [EqvT.all, EqvT.all, EqvT.all]; rfl⟩
instance eqvOpL {α : Type} [Rp α] [DecidableEq α] [Eqv α] : Eqv (Op (List α)) where
  py x := match x.o with | none => .none | some a => Eqv.py a
  ok x := match x.o with | none => true | some a => Eqv.ok a
  dep := Eqv.dep (List α)
  dp := fun {K H v a} h => by
    obtain ⟨o⟩ := a
    cases o with
    | none => have h : v = .non := h; subst h; exact .non
    | some a => exact Eqv.dp (α := List α) h
  lay := fun x h => by
    obtain ⟨o⟩ := x
    cases o with
    | none => simp [PyData.canLay0]
    | some a => exact Eqv.lay (α := List α) a h
  deep := fun x => by
    obtain ⟨o⟩ := x
    cases o with
    | none => simp [PyData.depth]
    | some a => exact Eqv.deep (α := List α) a
  eqv := fun ⟨a⟩ ⟨b⟩ => by
    cases a with
    | none =>
      cases b with
      | none => simp [PyData.eqv]
      | some b =>
        show PyData.eqv .none (.list (b.map Eqv.py)) = _
        simp [PyData.eqv]
    | some a =>
      cases b with
      | none =>
        show PyData.eqv (.list (a.map Eqv.py)) .none = _
        simp [PyData.eqv]
      | some b =>
        show PyData.eqv (Eqv.py a) (Eqv.py b) = _
        rw [Eqv.eqv]
        by_cases h : a = b <;> simp [h]
instance {α : Type} [Rp α] [DecidableEq α] [Eqv α] [EqvT α] : EqvT (Op (List α)) := ⟨fun ⟨a⟩ => by
  cases a with
  | none => rfl
  | some a => exact EqvT.all a⟩
section
variable {X : Cx} {Γ : Ctx} {S L ρ α β γ A B S' : Type} {a b c e : Expr} {es : List Expr} {pos p apos cpos p1 p2 : Pos} {ta tb te : TE} {t : TA} [Rp ρ] {o : Ow ρ} {Γo : S → Ctx} {ΓL : L → Ctx} {sts : List Stmt} {tr tr' : TS}
end
end Ty

/-! ## Ty72: three own things handed back as one; own parts of a tuple changed -/
namespace Ty
open PySem PySem.Spec PyProof.Rows L2
theorem Holds.pull {K : PySem.W.Frag} {HF H : Hp} {Γ : Ctx} {σ : L2.St} {fs : List Addr} {i : Nat} {α : Type} [Rp α] {u : Ow α} {x : α} (h1 : Holds K HF H Γ σ fs) (nd : fs.Nodup) (hl : look Γ i = .mk u x) :
    ∃ v fo fr, σ[i]? = some (some v) ∧ u.rep K HF H v x fo ∧ fo.Nodup ∧ Holds K HF H (Ty.put Γ i .un) σ fr ∧ fr.Nodup ∧ (∀ p ∈ fo, p ∈ fs) ∧ (∀ p ∈ fr, p ∈ fs) ∧ ∀ p ∈ fo, p ∉ fr := by
  have hjl := look_lt' hl
  obtain ⟨fo, fr', q1, q2, q3, q4⟩ := h1.put hjl
  obtain ⟨n1, n2, n3⟩ := q3 nd
  rw [hl] at q1
  obtain ⟨v, e1, r1⟩ := q1
  have hlen := h1.len
  have hσ : σ[i]? = some (some v) := by
    rw [List.getElem?_eq_getElem (by omega)]
    rw [List.getD_eq_getElem?_getD, List.getElem?_eq_getElem (by omega)] at e1
    exact congrArg some e1
  obtain ⟨fs', w1, w2, w3⟩ := q4 (HF' := HF) (H' := H) (s := .un) (x := some v) (f := []) (fun _ h => h) (fun _ h => h) rfl
  rw [set_self hσ] at w1
  have inr : ∀ p, p ∈ fs' → p ∈ fr' := fun p hp => ((w2 p).mp hp).elim (fun z => by cases z) id
  exact ⟨v, fo, fs', hσ, r1, n2, w1, w3 n1 List.nodup_nil (fun p hp => by cases hp), fun p hp => (q2 p).mpr (.inl hp), fun p hp => (q2 p).mpr (.inr (inr p hp)), fun p hp z => n3 p hp (inr p z)⟩
section
variable {X : Cx} {Γ : Ctx} {S L ρ α β γ A B S' : Type} {a b c e : Expr} {es : List Expr} {pos p apos cpos p1 p2 : Pos} {ta tb te : TE} {t : TA} {sts : List Stmt} {tr tr' : TS}
end
end Ty

/-! ## Ty73: sorted of lists of whole numbers -/
namespace Ty
open PySem PySem.Spec PyProof.Rows L2
section
variable {X : Cx} {pins : List (Addr × Obj)} {σ : L2.St} {H : Hp} {s : Shared}
end
/-- a thing and its own value -/
structure Idr (α : Type) where
  v : V
  a : α
instance {α : Type} [Inhabited α] : Inhabited (Idr α) := ⟨⟨.non, default⟩⟩
instance {α : Type} [Rp α] : Rp (Idr α) where
  sh K H v x := v = x.v ∧ Rp.sh K H v x.a
  mono := fun e h => ⟨h.1, Rp.mono e h.2⟩
section
variable {X : Cx} {Γ : Ctx} {S L ρ α β γ A S' : Type} {a b e f : Expr} {es : List Expr} {pos p p1 p2 q1 : Pos} {ta tb te tf : TE} {t : TA} {sts : List Stmt} {tr tr' : TS}
end
end Ty

/-! ## Ty74: len(set(text)), len(set(list of texts)) -/
namespace Ty
open PySem PySem.Spec PyProof.Rows L2
/-- each once -/
def dd : List Str → List Str
  | [] => []
  | x :: l => if x ∈ dd l then dd l else x :: dd l
section
variable {P : Program} {w : World} {A : Around} {E : Value → Shared → Prop} {s : Shared} {a : Addr} {S : Str → Bool} {n : Nat}
end
section
variable {X : Cx} {Γ : Ctx} {a : Expr} {pos p p2 q : Pos} {ta : TE}
end
end Ty

/-! ## Ty75: zip of two texts -/
namespace RZ
open PySem
open PySem.Sem (wp)
set_option maxHeartbeats 1000000
section
variable {prog : Program} {w : World} {A : Around} {E : Value → Shared → Prop} {s : Shared}
theorem nextOf_ascii_end {it : Addr} {x : Str} {t : Tok} {i : Nat} {Q : Value → Shared → Prop} (hh : A.handled = none)
    (hit : s.heap.IsStrIter it "str_ascii_iterator" x t i) (hx : x.cps[i]? = none)
    (hE : ∀ h' e, Heap.ExtBut it s.heap h' → (∃ o, h'.get? e = some o ∧ o.cls = .type "StopIteration") → E (.ref e) { s with heap := h' }) :
    wpAny (model prog w) A (Builtin.SmallTypes.nextOf (.ref it)) Q E s := by
  obtain ⟨o, ho, hc, hd⟩ := id hit
  unfold Builtin.SmallTypes.nextOf
  refine wpAny_bind (wpAny_callSpecial?_slot (name := Str.ofString "__next__") hit.typeIs F.slot_str_ascii_iterator_next
    (wpAny_call_entry F.slot_str_ascii_iterator_next hit.typeIs F.entry_str_ascii_iterator_next ?_ (F.args_str_ascii_iterator_next_1 _)))
  show wpAny _ _ (field (.ref it) 0 >>= _) _ _ s
  refine wpAny_bind (wpAny_field ho hd (x := .str x t) rfl ?_)
  show wpAny _ _ (field (.ref it) 1 >>= _) _ _ s
  refine wpAny_bind (wpAny_field ho hd (x := .int i 0) rfl ?_)
  simp only [Int.toNat_natCast, hx]
  refine wpAny_bind (wpAny_rule (wpAny_bind (wpAny_setField ho hd (by simp) (wpAny_bind (wpAny_letGo ?_)))))
  show wpAny _ _ (newExc (.type "StopIteration") [] >>= _) _ _ _
  refine wpAny_bind ?_
  simp only [newExc, newTuple]
  refine wpAny_bind (wpAny_newObj_type ?_ (by size_fits))
  refine wpAny_bind (m := firstArgMember _ _) (wpAny_of_eq (a := Value.none) (by first | rfl | (simp only [firstArgMember]; rfl)) ?_)
  refine wpAny_newObj_type ?_ (by size_fits)
  simp only [raiseNew]
  refine wpAny_bind (wpAny_handled ?_)
  first | rw [show A.in1.handled = none from hh] | rw [hh]
  refine wpAny_bind (wpAny_pure (wpAny_throw ?_))
  exact hE _ _ (((Heap.SameBut.update ..).extBut.push _).push _) ⟨_, Heap.get?_push_size _ rfl, rfl⟩
theorem nextOf_wide_end {it : Addr} {x : Str} {t : Tok} {i : Nat} {Q : Value → Shared → Prop} (hh : A.handled = none)
    (hit : s.heap.IsStrIter it "str_iterator" x t i) (hx : x.cps[i]? = none)
    (hE : ∀ h' e, Heap.ExtBut it s.heap h' → (∃ o, h'.get? e = some o ∧ o.cls = .type "StopIteration") → E (.ref e) { s with heap := h' }) :
    wpAny (model prog w) A (Builtin.SmallTypes.nextOf (.ref it)) Q E s := by
  obtain ⟨o, ho, hc, hd⟩ := id hit
  unfold Builtin.SmallTypes.nextOf
  refine wpAny_bind (wpAny_callSpecial?_slot (name := Str.ofString "__next__") hit.typeIs F.slot_str_iterator_next
    (wpAny_call_entry F.slot_str_iterator_next hit.typeIs F.entry_str_iterator_next ?_ (F.args_str_iterator_next_1 _)))
  show wpAny _ _ (field (.ref it) 0 >>= _) _ _ s
  refine wpAny_bind (wpAny_field ho hd (x := .str x t) rfl ?_)
  show wpAny _ _ (field (.ref it) 1 >>= _) _ _ s
  refine wpAny_bind (wpAny_field ho hd (x := .int i 0) rfl ?_)
  simp only [Int.toNat_natCast, hx]
  refine wpAny_bind (wpAny_rule (wpAny_bind (wpAny_setField ho hd (by simp) (wpAny_bind (wpAny_letGo ?_)))))
  show wpAny _ _ (newExc (.type "StopIteration") [] >>= _) _ _ _
  refine wpAny_bind ?_
  simp only [newExc, newTuple]
  refine wpAny_bind (wpAny_newObj_type ?_ (by size_fits))
  refine wpAny_bind (m := firstArgMember _ _) (wpAny_of_eq (a := Value.none) (by first | rfl | (simp only [firstArgMember]; rfl)) ?_)
  refine wpAny_newObj_type ?_ (by size_fits)
  simp only [raiseNew]
  refine wpAny_bind (wpAny_handled ?_)
  first | rw [show A.in1.handled = none from hh] | rw [hh]
  refine wpAny_bind (wpAny_pure (wpAny_throw ?_))
  exact hE _ _ (((Heap.SameBut.update ..).extBut.push _).push _) ⟨_, Heap.get?_push_size _ rfl, rfl⟩

def TyS (ty : String) : Prop := ty = "str_ascii_iterator" ∨ ty = "str_iterator"
theorem nextOf_str_end {it : Addr} {ty : String} {x : Str} {t : Tok} {i : Nat} {Q : Value → Shared → Prop} (hh : A.handled = none) (hty : TyS ty)
    (hit : s.heap.IsStrIter it ty x t i) (hx : x.cps[i]? = none)
    (hE : ∀ h' e, Heap.ExtBut it s.heap h' → (∃ o, h'.get? e = some o ∧ o.cls = .type "StopIteration") → E (.ref e) { s with heap := h' }) :
    wpAny (model prog w) A (Builtin.SmallTypes.nextOf (.ref it)) Q E s := by
  rcases hty with e | e
  · subst e; exact nextOf_ascii_end hh hit hx hE
  · subst e; exact nextOf_wide_end hh hit hx hE
end
section
variable {prog : Program} {w : World} {A : Around} {E : Value → Shared → Prop} {s : Shared}
end
end RZ
namespace RZ
open PySem PySem.Spec PyProof.Rows L2
end RZ
namespace Ty
open PySem PySem.Spec PyProof.Rows L2
section
variable {X : Cx} {Γ : Ctx} {a b : Expr} {pos p : Pos} {ta tb : TE}
end
end Ty

/-! ## Vdesk (under way): an own instance with a text and an own list of texts, whose fields change -/
namespace Ty
open PySem PySem.Spec PyProof.Rows L2
/-- a desk: its class's name, its word, the words ahead -/
structure Dsk where
  c : Str
  word : Str
  ahead : List Str
instance : Inhabited Dsk := ⟨⟨"", "", []⟩⟩
instance : Rp Dsk where
  sh K H v d := ∃ a dx al, v = .ref a ∧ H a = some (.ins (He.ga K d.c) dx [("word", .str d.word), ("ahead", .ref al)]) ∧ H al = some (.lst (d.ahead.map V.str))
  mono := fun s ⟨a, dx, al, h1, h2, h3⟩ => ⟨a, dx, al, h1, s _ _ h2, s _ _ h3⟩
def Ow.dsk : Ow Dsk where
  rep K HF H v d fp := ∃ a dx al, v = .ref a ∧ fp = [a, dx, al] ∧ H a = some (.ins (He.ga K d.c) dx [("word", .str d.word), ("ahead", .ref al)]) ∧ H dx = some (.own a) ∧ H al = some (.lst (d.ahead.map V.str))
  mono := fun e k ⟨a, dx, al, h1, h2, h3, h4, h5⟩ => by
    subst h2
    exact ⟨a, dx, al, h1, rfl, k a (by simp) _ h3, k dx (by simp) _ h4, k al (by simp) _ h5⟩
  dom := fun ⟨a, dx, al, h1, h2, h3, h4, h5⟩ q hq => by
    subst h2
    rcases List.mem_cons.mp hq with e | hq
    · exact ⟨_, e ▸ h3⟩
    · rcases List.mem_cons.mp hq with e | hq
      · exact ⟨_, e ▸ h4⟩
      · rw [List.mem_singleton.mp hq]; exact ⟨_, h5⟩
  frz := fun e k ⟨a, dx, al, h1, h2, h3, h4, h5⟩ => by
    subst h2
    exact ⟨a, dx, al, h1, k a (by simp) _ h3, k al (by simp) _ h5⟩
instance : Ind Ow.dsk where
  ind := fun h => h
/-- what is known of the class -/
structure DskC (K : PySem.W.Frag) (c : Str) : Prop where
  cl : Cls K (He.ga K c)
  nw : NoAttr K (He.ga K c) "word"
  na : NoAttr K (He.ga K c) "ahead"
section
variable {X : Cx} {Γ : Ctx} {S L ρ α : Type} [Rp ρ] {o : Ow ρ} {Γo : S → Ctx} {ΓL : L → Ctx} {e : Expr} {pos p apos cpos p2 : Pos} {te : TE} {sts : List Stmt} {tr : TS}
end
section
variable {P : Program} {w : World} {K : PySem.W.Frag} {mg : Str → Option Value} {base : Heap}
end
section
variable {X : Cx} {Γ : Ctx} {pos p : Pos}
end
/-! ### methods that change the desk and tell a text -/
structure Rs where
  d : Dsk
  s : Str
instance : Inhabited Rs := ⟨⟨default, ""⟩⟩
instance : Rp Rs where
  sh _ _ v x := v = .str x.s
  mono := fun _ h => h
/-- a text told, and the desk at a0 as it is now -/
def Ow.rs (a0 : V) : Ow Rs where
  rep K HF H v x fp := v = .str x.s ∧ Ow.dsk.rep K HF H a0 x.d fp
  mono := fun e k ⟨h0, h⟩ => ⟨h0, Ow.dsk.mono e k h⟩
  dom := fun ⟨_, h⟩ => Ow.dsk.dom h
  frz := fun _ _ ⟨h0, _⟩ => h0
section
variable {X : Cx} {Γ : Ctx} {S L : Type} {Γo : S → Ctx} {ΓL : L → Ctx} {e : Expr} {pos : Pos} {te : TE}
end
section
variable {P : Program} {w : World} {K : PySem.W.Frag} {mg : Str → Option Value} {base : Heap}
end
section
variable {X : Cx} {Γ : Ctx} {S L ρ A : Type} [Rp ρ] {o : Ow ρ} {Γo : S → Ctx} {ΓL : L → Ctx} {e : Expr} {es : List Expr} {pos cpos apos px py : Pos} {t : TA} {sts : List Stmt} {tr : TS}
end
end Ty
/-! ## Vdesk2 (under way): a method that changes the desk and tells a text, or raises -/
namespace Ty
open PySem PySem.Spec PyProof.Rows L2
/-- a text told, with the desk as it is now; or the class of what is raised, with the desk -/
inductive Rx where
  | told (r : Rs)
  | bad (d : Dsk) (x : Exn)
instance : Inhabited Rx := ⟨.told default⟩
def Rx.d : Rx → Dsk
  | .told r => r.d
  | .bad d _ => d
def Rx.fin (K : PySem.W.Frag) (Q : VK) (E : XK) (HF H : Hp) : Rx → Prop
  | .told r => Q (.str r.s) H
  | .bad _ x => ∀ dd, XD HF dd x → E (clv K x.c) dd H
instance : Rp Rx where
  sh _ _ v x := match x with
    | .told r => v = .str r.s
    | .bad _ _ => True
  mono := fun {K H H' v a} e h => by
    cases a with
    | told r => exact h
    | bad d c => trivial
def Ow.rx (a0 : V) (cl : Str → Value) (E : XK) : Ow Rx where
  rep K HF H v x fp := match x with
    | .told r => (Ow.rs a0).rep K HF H v r fp
    | .bad d x => Ow.dsk.rep K HF H a0 d fp ∧ ∃ dd, v = vD dd ∧ XD HF dd x
  mono := fun {K HF HF' H H' v a fp} e k h => by
    cases a with
    | told r => exact (Ow.rs a0).mono e k h
    | bad d c =>
      obtain ⟨h1, dd, h2, h3⟩ := h
      exact ⟨Ow.dsk.mono e k h1, dd, h2, h3.mono e⟩
  dom := fun {K HF H v a fp} h p hp => by
    cases a with
    | told r => exact (Ow.rs a0).dom h p hp
    | bad d c => exact Ow.dsk.dom h.1 p hp
  frz := fun {K HF HF' H v a fp} e k h => by
    cases a with
    | told r => exact (Ow.rs a0).frz e k h
    | bad d c => trivial
  out x R v H := match x with
    | .told _ => R v H
    | .bad _ x => ∃ dd, v = vD dd ∧ E (cl x.c) dd H
section
variable {X : Cx} {Γ : Ctx} {S L : Type} {Γo : S → Ctx} {ΓL : L → Ctx} {e : Expr} {pos p p2 pos2 : Pos} {te : TE} {E : XK}
end
section
variable {P : Program} {w : World} {K : PySem.W.Frag} {mg : Str → Option Value} {base : Heap}
end
end Ty

/-! ## Vdesk3 (under way): the call of a method that changes the desk and tells a text, or raises -/
namespace Ty
open PySem PySem.Spec PyProof.Rows L2
def Rx.finW (K : PySem.W.Frag) (W : WX) (Q : VK) (σ : L2.St) (HF H : Hp) : Rx → Prop
  | .told r => Q (.str r.s) H
  | .bad _ x => ∀ dd, XD HF dd x → W (clv K x.c) dd σ H
/-- an expression that changes the desk in slot i, and tells a text or raises -/
structure EXd (X : Cx) (W : WX) (Γ : Ctx) (e : Expr) (i : Nat) (m : M Rx) (t : TE) : Prop where
  pe : PE X e t
  sem : ∀ HF0 G HF H σ, Good X.K HF0 G Γ HF H σ → ∀ c, m = .ok c → ∀ Q : VK, (∀ HF' H', Good X.K HF0 G (put Γ i (.mk Ow.dsk c.d)) HF' H' σ → Same HF HF' → c.finW X.K W Q σ HF' H') → t σ H Q
section
variable {X : Cx} {Γ : Ctx} {S L ρ A : Type} [Rp ρ] {o : Ow ρ} {Γo : S → Ctx} {ΓL : L → Ctx} {e : Expr} {es : List Expr} {pos cpos apos px py : Pos} {t : TA} {sts : List Stmt} {tr : TS}
end
end Ty
/-! ## return x.m(e) in a method of the desk, where e may raise and m changes the desk -/
namespace Ty
open PySem PySem.Spec PyProof.Rows L2
section
variable {X : Cx} {Γ : Ctx} {S L A : Type} {Γo : S → Ctx} {ΓL : L → Ctx} {e : Expr} {pos cpos apos px : Pos} {te : TE} {E : XK}
end
end Ty
/-! ## Vdesk5 (under way): expressions that may raise, in a method of the desk: `return e`, `x = e` -/
namespace Ty
open PySem PySem.Spec PyProof.Rows L2
section
variable {X : Cx} {Γ : Ctx} {S L α : Type} {Γo : S → Ctx} {ΓL : L → Ctx} {e : Expr} {pos : Pos} {te : TE} {tr : TS} {sts : List Stmt} {E : XK}
end
end Ty
/-! ## Vdesk6 (under way): return x.m(e, ..) in a method of the desk, where m may change the desk, tell or raise -/
namespace Ty
open PySem PySem.Spec PyProof.Rows L2
section
variable {X : Cx} {Γ : Ctx} {S L A : Type} {Γo : S → Ctx} {ΓL : L → Ctx} {e : Expr} {es : List Expr} {pos cpos apos px : Pos} {t : TA} {E : XK}
end
end Ty

/-! ## Ty78: expressions and tests that may change own desks; defs that are handed a desk and hand back a flat value -/
namespace Ty
open PySem PySem.Spec PyProof.Rows L2
/-- a flat value told, with the desk as it is now -/
structure Rg (ρ : Type) where
  d : Dsk
  s : ρ
instance {ρ : Type} [Inhabited ρ] : Inhabited (Rg ρ) := ⟨⟨default, default⟩⟩
instance {ρ : Type} [Fl ρ] : Rp (Rg ρ) where
  sh _ _ v x := v = Fl.enc x.s
  mono := fun _ h => h
def Ow.rg {ρ : Type} [Fl ρ] (a0 : V) : Ow (Rg ρ) where
  rep K HF H v x fp := v = Fl.enc x.s ∧ Ow.dsk.rep K HF H a0 x.d fp
  mono := fun e k ⟨h0, h⟩ => ⟨h0, Ow.dsk.mono e k h⟩
  dom := fun ⟨_, h⟩ => Ow.dsk.dom h
  frz := fun _ _ ⟨h0, _⟩ => h0
section
variable {X : Cx} {Γ : Ctx} {S L ρ : Type} [Fl ρ] {Γo : S → Ctx} {ΓL : L → Ctx} {e : Expr} {pos : Pos} {te : TE}
end
section
variable {P : Program} {w : World} {K : PySem.W.Frag} {mg : Str → Option Value} {base : Heap}
/-- what the callee did to the desk, told in the caller -/
theorem Good.called {Γ : Ctx} {HF0 G HF1 H1 : Hp} {σ : L2.St} {i : Nat} {xv : Dsk} {v : V} (g1 : Good K HF0 G Γ HF1 H1 σ) (hl : look Γ i = .mk Ow.dsk xv) (hlt : i < Γ.length) (hσ : σ[i]? = some (some v)) :
    ∃ fo, Ow.dsk.rep K HF1 H1 v xv fo ∧ fo.Nodup ∧ (∀ p ∈ fo, HF1 p = none) ∧ ∀ (d' : Dsk) HF' H' fp', Same HF1 HF' → Same HF' H' → (∀ p u, H1 p = some u → p ∉ fo → H' p = some u) → (∀ p u, HF' p = some u → HF1 p = none → H1 p = none ∨ p ∈ fo) → Ow.dsk.rep K HF' H' v d' fp' → fp'.Nodup → (∀ p ∈ fp', HF' p = none ∧ (H1 p = none ∨ p ∈ fo)) →
      Good K HF0 G (put Γ i (.mk Ow.dsk d')) HF' H' σ := by
  obtain ⟨fs, h1, h2, h3⟩ := g1.held
  obtain ⟨fo, fr, q1, q2, q3, q4⟩ := h1.put hlt
  obtain ⟨n1, n2, n3⟩ := q3 h2
  rw [hl] at q1
  obtain ⟨v', e3, rr⟩ := q1
  have hv' : v' = v := by
    rw [List.getD_eq_getElem?_getD, hσ] at e3
    injection e3 with e3
    exact e3.symm
  subst hv'
  have hfo : ∀ p ∈ fo, HF1 p = none ∧ G p = none := fun p hp => h3 p ((q2 p).mpr (.inl hp))
  have hfr : ∀ p ∈ fr, HF1 p = none ∧ G p = none := fun p hp => h3 p ((q2 p).mpr (.inr hp))
  have dfr : ∀ p ∈ fr, ∃ o, H1 p = some o := fun p hp => h1.dom p ((q2 p).mpr (.inr hp))
  refine ⟨fo, rr, n2, fun p hp => (hfo p hp).1, fun d' HF' H' fp' k1 k2 k3 k4 k5 k6 k7 => ?_⟩
  have nfr : ∀ p ∈ fr, p ∉ fo := fun p hp hq => n3 p hq hp
  have keep : ∀ p ∈ fr, ∀ o, H1 p = some o → H' p = some o := fun p hp o e => k3 p o e (nfr p hp)
  obtain ⟨fs', w1, w2, w3⟩ := q4 (HF' := HF') (H' := H') (s := .mk Ow.dsk d') (x := some v') (f := fp') (fun hp h => h.mono k1 fun p z => keep p (hp p z)) (fun hp h => h.mono k1 fun p z => keep p (hp p z)) ⟨v', rfl, k5⟩
  have eσ : σ.set i (some v') = σ := by
    apply List.ext_getElem?
    intro j
    by_cases hj : i = j
    · subst hj
      rw [List.getElem?_set_self (by have := h1.len; omega), hσ]
    · rw [List.getElem?_set_ne hj]
  rw [eσ] at w1
  have gG : ∀ p, (H1 p = none ∨ p ∈ fo) → G p = none := fun p h => by
    rcases h with h | h
    · exact g1.g0.free h
    · exact (hfo p h).2
  refine ⟨k2, g1.f0.trans k1, fun p o e => k3 p o (g1.g0 p o e) (fun z => by rw [(hfo p z).2] at e; cases e), fun p o e en => ?_, fs', w1, w3 n1 k6 fun p hp hq => ?_, fun p hp => ?_⟩
  · cases q : HF1 p with
    | some u' => exact g1.nf p u' q en
    | none => exact gG p (k4 p o e q)
  · rcases (k7 p hp).2 with z | z
    · obtain ⟨o, e⟩ := dfr p hq
      rw [z] at e; cases e
    · exact n3 p z hq
  · rcases (w2 p).mp hp with z | z
    · exact ⟨(k7 p z).1, gG p (k7 p z).2⟩
    · refine ⟨?_, (hfr p z).2⟩
      cases q : HF' p with
      | none => rfl
      | some u' =>
        rcases k4 p u' q (hfr p z).1 with y | y
        · obtain ⟨o, e⟩ := dfr p z
          rw [y] at e; cases e
        · exact absurd z (fun z => nfr p z y)
end
/-! ### expressions, tests that may change the desks told by s -/
structure EZ {S α : Type} [Fl α] (X : Cx) (Γs : S → Ctx) (s : S) (e : Expr) (m : M (S × α)) (t : TE) : Prop where
  pe : PE X e t
  sem : ∀ HF0 G HF H σ, Good X.K HF0 G (Γs s) HF H σ → ∀ c, m = .ok c → ∀ Q : VK, (∀ HF' H', Good X.K HF0 G (Γs c.1) HF' H' σ → Same HF HF' → Q (Fl.enc c.2) H') → t σ H Q
structure TZ {S : Type} (X : Cx) (Γs : S → Ctx) (s : S) (e : Expr) (m : M (S × Bool)) (t : TT) : Prop where
  pt : PT X e t
  sem : ∀ HF0 G HF H σ, Good X.K HF0 G (Γs s) HF H σ → ∀ c, m = .ok c → ∀ Q : Bool → Hp → Prop, (∀ HF' H', Good X.K HF0 G (Γs c.1) HF' H' σ → Same HF HF' → Q c.2 H') → t σ H Q
structure WZ {S : Type} (X : Cx) (Γs : S → Ctx) (s : S) (e : Expr) (m : M (S × Bool)) (t : TT) : Prop where
  pw : PW X e t
  sem : ∀ HF0 G HF H σ, Good X.K HF0 G (Γs s) HF H σ → ∀ c, m = .ok c → ∀ Q : Bool → Hp → Prop, (∀ HF' H', Good X.K HF0 G (Γs c.1) HF' H' σ → Same HF HF' → Q c.2 H') → t σ H Q
section
variable {X : Cx} {S α A : Type} [Fl α] {Γs : S → Ctx} {s : S} {a b e : Expr} {es rest : List Expr} {pos p p1 : Pos} {t ta tb te : TE} {tt tu : TT} {tas : TA}
end
section
variable {X : Cx} {S S1 L ρ α : Type} [Fl α] [Rp ρ] {o : Ow ρ} {Γs : S → Ctx} {Γo : S1 → Ctx} {ΓL : L → Ctx} {s : S} {c e : Expr} {pos py : Pos} {te : TE} {tc : TT} {t1 tr : TS} {sa sts : List Stmt}
end
/-! ### try: d.told(e) / except C as e: kept = e -/
structure BXd (X : Cx) (W : WX) (Γ : Ctx) (sts : List Stmt) (i : Nat) (u : Ow Dsk) (m : M Rx) (t : TS) : Prop where
  pss : PSs X sts t
  sem : ∀ HF0 G HF H σ, Good X.K HF0 G Γ HF H σ → ∀ c, m = .ok c → ∀ D : Ends, (match c with
    | .told l => ∀ HF' H' σ', Same HF HF' → Good X.K HF0 G (put Γ i (.mk u l.d)) HF' H' σ' → D.nx σ' H'
    | .bad d x => ∀ HF' H' dd, Same HF HF' → Good X.K HF0 G (put Γ i (.mk u d)) HF' H' σ → XD HF' dd x → W (clv X.K x.c) dd σ H') → t D σ H
section
variable {X : Cx} {Γ : Ctx} {S L ρ : Type} [Rp ρ] {o : Ow ρ} {Γo : S → Ctx} {ΓL : L → Ctx} {e : Expr} {pos p1 p2 : Pos} {te : TE} {sts : List Stmt}
end
end Ty

/-! ## Ty79: zip of two things, each a list, a tuple or a text -/
namespace RZ
open PySem
open PySem.Sem (wp)
set_option maxHeartbeats 1000000
inductive Zc where
  | l (a : Addr) (its : Array Value)
  | t (a : Addr) (its : Array Value)
  | s (x : Str) (tk : Tok)
def Zc.it : Zc → Heap → Addr → Nat → Prop
  | .l a _, h, it, i => h.IsListIter it a i
  | .t a _, h, it, i => h.IsTupleIter it a i
  | .s x tk, h, it, i => h.IsStrIter it (strIterType x) x tk i
def Zc.on : Zc → Heap → Prop
  | .l a its, h => h.IsList a its
  | .t a its, h => h.IsTuple a its
  | .s _ _, _ => True
def Zc.ad : Zc → List Addr
  | .l a _ => [a]
  | .t a _ => [a]
  | .s _ _ => []
def Zc.at (c : Zc) (i : Nat) (v : Value) : Prop := match c with
  | .l _ its => its[i]? = some v
  | .t _ its => its[i]? = some v
  | .s x _ => ∃ d tk, x.cps[i]? = some d ∧ v = .str ⟨#[d]⟩ tk
def Zc.len : Zc → Nat
  | .l _ its => its.size
  | .t _ its => its.size
  | .s x _ => x.cps.size
def Zc.val : Zc → Value
  | .l a _ => .ref a
  | .t a _ => .ref a
  | .s x tk => .str x tk
def Zc.obj : Zc → Obj
  | .l a _ => { cls := .type "list_iterator", data := .fields #[.ref a, .int 0 0] }
  | .t a _ => { cls := .type "tuple_iterator", data := .fields #[.ref a, .int 0 0] }
  | .s x tk => { cls := .type (strIterType x), data := .fields #[.str x tk, .int 0 0] }
theorem strT (x : Str) : TyS (strIterType x) := by
  unfold strIterType TyS
  split
  · first | exact .inl rfl | exact .inr rfl
  · first | exact .inr rfl | exact .inl rfl
section
variable {prog : Program} {w : World} {A : Around} {E : Value → Shared → Prop} {s : Shared}
theorem Zc.fin (c : Zc) {it : Addr} {i : Nat} {Q : Value → Shared → Prop} (hh : A.handled = none) (hi : c.len ≤ i) (hit : c.it s.heap it i) (on : c.on s.heap)
    (hE : ∀ h' e, Heap.ExtBut it s.heap h' → (∃ o, h'.get? e = some o ∧ o.cls = .type "StopIteration") → E (.ref e) { s with heap := h' }) : wpAny (model prog w) A (Builtin.SmallTypes.nextOf (.ref it)) Q E s := by
  cases c with
  | l a its => exact wpAny_nextOf_list_end hh hit on (Array.getElem?_eq_none hi) hE
  | t a its => exact nextOf_tuple_end hh hit on (Array.getElem?_eq_none hi) hE
  | s x tk => exact nextOf_str_end hh (strT x) hit (Array.getElem?_eq_none hi) hE
/-- the source stands apart from what zip makes -/
def Zc.off (c : Zc) (z TI TO i1 i2 : Addr) : Prop := ∀ b ∈ c.ad, b ≠ z ∧ b ≠ TO ∧ b ≠ i1 ∧ b ≠ i2
end
end RZ
namespace RZ
open PySem PySem.Spec PyProof.Rows L2
/-- a source: a list, a tuple, a text -/
inductive Zk where
  | l (a : Addr)
  | t (a : Addr)
  | s (x : Str)
def Zk.v : Zk → V
  | .l a => .ref a
  | .t a => .ref a
  | .s x => .str x
def Zk.has (K : PySem.W.Frag) (H : Hp) (k : Zk) (xs : List V) : Prop := match k with
  | .l a => SqL K H a xs
  | .t a => SqT K H a xs
  | .s x => xs = x.cps.toList.map fun c => V.str ⟨#[c]⟩
def Zk.it : Zk → Heap → Addr → Nat → Prop
  | .l a, h, it, i => h.IsListIter it a i
  | .t a, h, it, i => h.IsTupleIter it a i
  | .s x, h, it, i => ∃ tk, h.IsStrIter it (strIterType x) x tk i
def Zk.ad : Zk → List Addr
  | .l a => [a]
  | .t a => [a]
  | .s _ => []
def Zk.off (c : Zk) (z TI TO i1 i2 : Addr) : Prop := ∀ b ∈ c.ad, b ≠ z ∧ b ≠ TO ∧ b ≠ i1 ∧ b ≠ i2
theorem Zk.inj {X : Cx} {pins : List (Addr × Obj)} {σ : L2.St} {H : Hp} {s : Shared} (I : Inv X pins σ H s) {k : Zk} {xs ys : List V} (h : k.has X.K H xs) (h' : k.has X.K H ys) : xs = ys := by
  cases k with
  | l a => exact I.list_inj h h'
  | t a => exact I.tuple_inj h h'
  | s x => exact Eq.trans h (Eq.symm h')
/-- the source as it stands now -/
theorem Zk.now {X : Cx} {pins : List (Addr × Obj)} {σ : L2.St} {H : Hp} {s : Shared} (I : Inv X pins σ H s) {k : Zk} {xs : List V} (hs : k.has X.K H xs) {it : Addr} {i : Nat} (hi : k.it s.heap it i) :
    ∃ c : Zc, c.it s.heap it i ∧ c.on s.heap ∧ c.len = xs.length ∧ c.ad = k.ad ∧ (∀ j v, c.at j v → ∃ x, xs[j]? = some x ∧ RelV x v) ∧ ∀ h a j, c.it h a j → k.it h a j := by
  cases k with
  | l a =>
    obtain ⟨its, rv, p, _⟩ := I.list hs
    refine ⟨.l a its.toArray, hi, p.isList, by show its.toArray.size = _; rw [List.size_toArray, rv.length], rfl, fun j v h => ?_, fun h a j x => x⟩
    have h' : its[j]? = some v := by simpa [Zc.at] using h
    have hlen := rv.length
    have hj : j < its.length := (List.getElem?_eq_some_iff.mp h').1
    have hx : xs[j]? = some (xs[j]'(by omega)) := List.getElem?_eq_getElem (by omega)
    obtain ⟨u, hu, ru⟩ := rv.get hx
    rw [h'] at hu
    cases hu
    exact ⟨_, hx, ru⟩
  | t a =>
    obtain ⟨its, rv, p, _⟩ := I.tuple hs
    refine ⟨.t a its.toArray, hi, p, by show its.toArray.size = _; rw [List.size_toArray, rv.length], rfl, fun j v h => ?_, fun h a j x => x⟩
    have h' : its[j]? = some v := by simpa [Zc.at] using h
    have hlen := rv.length
    have hj : j < its.length := (List.getElem?_eq_some_iff.mp h').1
    have hx : xs[j]? = some (xs[j]'(by omega)) := List.getElem?_eq_getElem (by omega)
    obtain ⟨u, hu, ru⟩ := rv.get hx
    rw [h'] at hu
    cases hu
    exact ⟨_, hx, ru⟩
  | s x =>
    obtain ⟨tk, hi⟩ := hi
    have hs : xs = x.cps.toList.map fun c => V.str ⟨#[c]⟩ := hs
    refine ⟨.s x tk, hi, True.intro, by show x.cps.size = _; rw [hs, List.length_map, Array.length_toList], rfl, fun j v h => ?_, fun h a j y => ⟨tk, y⟩⟩
    obtain ⟨d, tk', h1, h2⟩ := h
    subst h2
    refine ⟨.str ⟨#[d]⟩, ?_, tk', rfl⟩
    rw [hs, List.getElem?_map]
    have : x.cps.toList[j]? = some d := by simpa using h1
    rw [this]
    rfl
theorem Zk.start {X : Cx} {pins : List (Addr × Obj)} {σ : L2.St} {H : Hp} {s : Shared} (I : Inv X pins σ H s) {k : Zk} {xs : List V} (hs : k.has X.K H xs) {u : Value} (ru : RelV k.v u) :
    ∃ c : Zc, c.val = u ∧ c.on s.heap ∧ c.ad = k.ad ∧ (∀ b ∈ k.ad, b < s.heap.objs.size) ∧ ∀ h a, c.it h a 0 → k.it h a 0 := by
  cases k with
  | l a =>
    obtain ⟨its, rv, p, _⟩ := I.list hs
    obtain rfl : u = Value.ref a := ru
    exact ⟨.l a its.toArray, rfl, p.isList, rfl, fun b hb => by
      have : b = a := by simpa [Zk.ad] using hb
      rw [this]; exact p.lt, fun h a x => x⟩
  | t a =>
    obtain ⟨its, rv, p, _⟩ := I.tuple hs
    obtain rfl : u = Value.ref a := ru
    obtain ⟨o1, ho1, _⟩ := id p
    exact ⟨.t a its.toArray, rfl, p, rfl, fun b hb => by
      have : b = a := by simpa [Zk.ad] using hb
      rw [this]; exact Heap.lt_size ho1, fun h a x => x⟩
  | s x =>
    obtain ⟨tk, rfl⟩ := ru
    exact ⟨.s x tk, rfl, True.intro, rfl, (fun b hb => by cases hb), fun h a y => ⟨tk, y⟩⟩
end RZ
namespace Ty
open PySem PySem.Spec PyProof.Rows L2
/-- what zip goes through -/
class Zs (α : Type) (β : outParam Type) [Rp α] [Rp β] where
  its : α → List β
  ok : ∀ {K : PySem.W.Frag} {HF H : Hp} {v : V} {a : α}, Same HF H → Rp.sh K HF v a → ∃ (k : RZ.Zk) (vs : List V), k.v = v ∧ (∀ H', Same HF H' → k.has K H' vs) ∧ Fa (Rp.sh K HF) vs (its a)
instance zsL {α : Type} [Rp α] : Zs (List α) α where
  its a := a
  ok := fun s ⟨q, us, e, h1, h2⟩ => ⟨.l q, us, e.symm, fun H' s' => SqL.of (s' _ _ h1), h2⟩
instance zsT {α : Type} [Rp α] : Zs (Tu α) α where
  its a := a.l
  ok := fun s ⟨q, us, e, h1, h2⟩ => ⟨.t q, us, e.symm, fun H' s' => sqT_mono s' h1, h2⟩
theorem fa_signs {K : PySem.W.Frag} {H : Hp} : ∀ l : List Nat, Fa (Rp.sh K H) (l.map fun c => V.str ⟨#[c]⟩) (l.map sgS)
  | [] => True.intro
  | _ :: l => ⟨rfl, fa_signs l⟩
instance zsS : Zs Str Str where
  its x := x.cps.toList.map sgS
  ok := fun {K HF H v a} s h => ⟨.s a, _, (Fl.sh_iff.mp h).symm, fun _ _ => rfl, fa_signs _⟩
section
variable {X : Cx} {Γ : Ctx} {α β γ δ : Type} {a b : Expr} {pos p : Pos} {ta tb : TE}
end
end Ty

/-! ## Ty80: a module's table (texts -> tuples of texts), its hook; str of whole numbers -/
namespace Ty
open PySem PySem.Spec PyProof.Rows L2
/-- the module's name x is a table of tuples of texts, by texts -/
structure KdT (K : PySem.W.Frag) (w : World) (x : Str) (kvs : List (Str × List Str)) : Prop where
  D : ∃ es n, KDict K w (He.ga K x) es n
  at_ : ∀ z, ∃ r, PySem.W.nsIn K (He.ga K x) z = some r ∧ r.isSome = (kvs.lookup z).isSome ∧ ∀ l, kvs.lookup z = some l → ∃ b, r = some (.ref b) ∧ ∀ H, SqT K H b (l.map V.str)
/-! ### a hook that holds tables, too -/
structure SaysW (fa : List He.Fa) (fn : List He.DefD) (ts : List (Str × List Str)) (ex : PySem.W.Frag → Bool) (w : World) (K : PySem.W.Frag) : Prop where
  d : He.SaysD fa fn K
  more : ex K = true
  tab : (ts.map fun t => He.dicW K (He.ga K t.1)) = ts.map fun t => some (He.keysIn w.params t.2)
theorem SaysW.at {fa : List He.Fa} {fn : List He.DefD} {ts : List (Str × List Str)} {ex : PySem.W.Frag → Bool} {w : World} {K : PySem.W.Frag} (c : SaysW fa fn ts ex w K) (i : Nat) {x : Str} {ks : List Str} (h : ts[i]? = some (x, ks) := by rfl) : He.dicW K (He.ga K x) = some (He.keysIn w.params ks) := by
  have e : (ts.map fun t => He.dicW K (He.ga K t.1))[i]? = (ts.map fun t => some (He.keysIn w.params t.2))[i]? := by rw [c.tab]
  rw [List.getElem?_map, List.getElem?_map, h] at e
  exact Option.some.inj e
section
variable {X : Cx} {Γ : Ctx} {a b e : Expr} {pos p pb : Pos} {ta tb te : TE}
/-! ### str of a whole number -/
end
end Ty
namespace Ty
open PySem PySem.Spec PyProof.Rows L2
end Ty
namespace Ty
open PySem PySem.Spec PyProof.Rows L2
instance : Ob Ins := ⟨fun ⟨p, _, e, _⟩ => ⟨p, e⟩⟩
section
variable {X : Cx} {Γ : Ctx} {S L ρ : Type} [Rp ρ] {o : Ow ρ} {Γo : S → Ctx} {ΓL : L → Ctx} {e : Expr} {pos p apos cpos p2 : Pos} {te : TE} {sts : List Stmt} {tr : TS}
end
end Ty

/-! ## a dict with tuple keys walked (locked until its def tells) -/
namespace L2
open PySem PySem.Spec PyProof.Rows
/-- the address of the i-th key -/
def keyA (od : Obj) (i : Nat) : Option Addr := match od.data with
  | .dict es _ => (es[i]?).bind fun en => match en.key with
    | .ref q => some q
    | _ => none
  | _ => none
section
variable {P : Program} {w : World} {K : PySem.W.Frag} {tg : Expr} {d : Addr} {o : Obj} {es : Array DictEntry} {ep : Nat}
end
end L2
namespace Ty
open PySem PySem.Spec PyProof.Rows L2
/-- a locked dict with tuple keys -/
structure Ld (κ β : Type) where
  l : List (κ × β)
instance {κ β : Type} : Inhabited (Ld κ β) := ⟨⟨[]⟩⟩
instance rpLd {κ β : Type} [Kt κ] [Rp β] : Rp (Ld κ β) where
  sh K H v x := ∃ p od kvs, v = .ref p ∧ H p = some (.frz od (.dT kvs)) ∧ Ft (Rp.sh K H) kvs x.l ∧ ∀ i k w, kvs[i]? = some (k, w) → ∃ q, keyA od i = some q ∧ H q = some (.tup (k.map kV))
  mono := fun e ⟨p, od, kvs, h1, h2, h3, h4⟩ => ⟨p, od, kvs, h1, e _ _ h2, Ft.mono (fun _ _ h => Rp.mono e h) h3, fun i k w hk => by
    obtain ⟨q, a, b⟩ := h4 i k w hk
    exact ⟨q, a, e _ _ b⟩⟩
theorem Ft.at {κ β : Type} [Kt κ] {R : V → β → Prop} : ∀ {ps : List (List Key × V)} {qs : List (κ × β)} {i : Nat} {q : κ × β}, Ft R ps qs → qs[i]? = some q → ∃ v, ps[i]? = some (Kt.keys q.1, v)
  | p :: ps, q :: qs, 0, r, ⟨⟨x, _⟩, _⟩, e => by
    cases Option.some.inj e
    exact ⟨p.2, by rw [← x]; rfl⟩
  | p :: ps, q :: qs, i + 1, r, ⟨_, z⟩, e => by
    obtain ⟨v, hv⟩ := Ft.at (i := i) z e
    exact ⟨v, hv⟩
  | [], [], i, r, _, e => by cases i <;> cases e
  | [], _ :: _, _, _, x, _ => x.elim
  | _ :: _, [], _, _, x, _ => x.elim
/-- own things that are no tuples -/
class NoTup {α : Type} [Rp α] (o : Ow α) : Prop where
  nt : ∀ {K : PySem.W.Frag} {HF H : Hp} {v : V} {a : α} {fp : List Addr}, o.rep K HF H v a fp → ∀ p ∈ fp, ∀ xs, H p ≠ some (.tup xs)
instance {α : Type} [Rp α] : NoTup (Ow.v : Ow α) := ⟨fun ⟨_, e⟩ p hp => by subst e; cases hp⟩
instance {κ β : Type} [Kt κ] [Rp β] : NoTup (Ow.dt (κ := κ) (Ow.v : Ow β)) := ⟨fun ⟨p, kvs, fq, h1, h2, h3, h4⟩ q hq xs e => by
  obtain ⟨_, e2⟩ := Rt.toFt h4
  subst h2 e2
  rw [List.mem_singleton.mp hq, h3] at e
  cases e⟩
instance {κ β : Type} [Ky κ] [Rp β] : NoTup (Ow.d (κ := κ) (β := β)) := ⟨fun ⟨p, kvs, h1, h2, h3, h4⟩ q hq xs e => by
  subst h2
  rw [List.mem_singleton.mp hq, h3] at e
  cases e⟩
instance {α : Type} [Rp α] : NoTup (Ow.l (Ow.v : Ow α)) := ⟨fun ⟨p, vs, fq, h1, h2, h3, h4⟩ q hq xs e => by
  obtain ⟨_, e2⟩ := Rl.toFa h4
  subst h2 e2
  rw [List.mem_singleton.mp hq, h3] at e
  cases e⟩
inductive NTs : Ctx → Prop where
  | n : NTs []
  | u {Γ : Ctx} : NTs Γ → NTs (.un :: Γ)
  | o {Γ : Ctx} {α : Type} [Rp α] {o : Ow α} [NoTup o] {a : α} : NTs Γ → NTs (.mk o a :: Γ)
theorem NTs.no {Γ : Ctx} (h : NTs Γ) {K : PySem.W.Frag} {HF H : Hp} : ∀ {σ : L2.St} {fs : List Addr}, Holds K HF H Γ σ fs → ∀ p ∈ fs, ∀ xs, H p ≠ some (.tup xs) := by
  induction h with
  | n =>
    intro σ fs hh p hp
    cases σ with
    | nil => rw [show fs = [] from hh] at hp; cases hp
    | cons _ _ => exact hh.elim
  | u _ ih =>
    intro σ fs hh p hp
    cases σ with
    | nil => exact hh.elim
    | cons x σ =>
      obtain ⟨f1, f2, h1, h2, h3⟩ := hh
      rw [h1] at hp
      rcases List.mem_append.mp hp with hp | hp
      · rw [show f1 = [] from h2] at hp; cases hp
      · exact ih h3 p hp
  | o _ ih =>
    intro σ fs hh p hp
    cases σ with
    | nil => exact hh.elim
    | cons x σ =>
      obtain ⟨f1, f2, h1, ⟨v, _, h2⟩, h3⟩ := hh
      rw [h1] at hp
      rcases List.mem_append.mp hp with hp | hp
      · exact NoTup.nt h2 p hp
      · exact ih h3 p hp
section
variable {X : Cx} {Γ : Ctx} {S L ρ α β κ : Type} {Γo : S → Ctx} {ΓL : L → Ctx} {e a b tg : Expr} {sts : List Stmt} {pos : Pos} {te ta tb : TE} {t : TS}
end
end Ty

/-! ## for a, b in lists of two -/
namespace Ty
open PySem PySem.Spec PyProof.Rows L2
/-- a list of two things -/
structure Lw (α : Type) where
  a : α
  b : α
instance {α : Type} [Inhabited α] : Inhabited (Lw α) := ⟨⟨default, default⟩⟩
instance rpLw {α : Type} [Rp α] : Rp (Lw α) where
  sh K H v x := Rp.sh K H v [x.a, x.b]
  mono := fun e h => Rp.mono e h
section
variable {X : Cx} {Γ : Ctx} {α : Type} {e x y : Expr} {wi : TI} {tg : Expr} {pos2 : Pos}
end
end Ty

/-! ## Ty83: a pair as a tuple of whatever (its length) -/
namespace Ty
open PySem PySem.Spec PyProof.Rows L2
instance kdPair {α β : Type} [Rp α] [Rp β] : Kd (α × β) := ⟨"tuple", fun ⟨p, va, vb, e, h, _⟩ => by
  subst e
  rcases h with (h | ⟨o, h⟩) | ⟨o, its, n, e, c, _⟩
  · exact .base (.tup h)
  · exact .fTuple h
  · exact .kTuple e c⟩
section
variable {X : Cx} {Γ : Ctx} {α β : Type} {e : Expr} {te : TE}
end
end Ty

/-! ## Ty84: ranges as values; ("word", w) or ("none", turns, order); x.remove(e); [a, x.pop(b)]; x[2].reverse() -/
namespace L2
open PySem PySem.Spec PyProof.Rows
section
variable {X : Cx}
end
end L2
namespace Ty
open PySem PySem.Spec PyProof.Rows L2
structure Rgv where
  lo : Int
  hi : Int
instance : Inhabited Rgv := ⟨⟨0, 0⟩⟩
instance : Rp Rgv where
  sh _ H v x := ∃ p, v = .ref p ∧ H p = some (.rng x.lo x.hi)
  mono e h := by
    obtain ⟨p, h1, h2⟩ := h
    exact ⟨p, h1, e _ _ h2⟩
/-- what told_web tells -/
inductive Tw where
  | w (s : Str)
  | n (t o : List Int)
instance : Inhabited Tw := ⟨.w default⟩
instance : Rp Tw where
  sh K H v x := match x with
    | .w s => Rp.sh K H v (("word" : Str), s)
    | .n t o => Rp.sh K H v (⟨("none" : Str), t, o⟩ : T3 Str (List Int) (List Int))
  mono {K H H' v a} e h := by
    cases a with
    | w s => exact Rp.mono (α := Str × Str) e h
    | n t o => exact Rp.mono (α := T3 Str (List Int) (List Int)) e h
instance : Kd Tw := ⟨"tuple", fun {K H v a} h => by
  cases a with
  | w s => exact (kdPair (α := Str) (β := Str)).ok h
  | n t o => exact (kdT3 (α := Str) (β := List Int) (γ := List Int)).ok h⟩
section
variable {X : Cx} {Γ : Ctx} {S L ρ α β γ : Type} {a b e : Expr} {p p1 p2 pos apos cpos : Pos} {ta tb te : TE} {sts : List Stmt} {tr : TS}
end
end Ty

/-! ## Ty85: own things given away: return (x, ..), (x[e], y); unpacked own tuples -/
namespace Ty
open PySem PySem.Spec PyProof.Rows L2
/-- Good, and what is held stands apart from A -/
structure GA (K : PySem.W.Frag) (HF0 G : Hp) (Γ : Ctx) (HF H : Hp) (σ : L2.St) (A : Addr → Prop) : Prop where
  sub : Same HF H
  f0 : Same HF0 HF
  g0 : Same G H
  nf : ∀ p o, HF p = some o → HF0 p = none → G p = none
  held : ∃ fs, Holds K HF H Γ σ fs ∧ fs.Nodup ∧ (∀ p ∈ fs, HF p = none ∧ G p = none) ∧ ∀ p ∈ fs, ¬ A p
section
variable {K : PySem.W.Frag} {HF0 G HF H HF' H' : Hp} {Γ : Ctx} {σ : L2.St} {A B : Addr → Prop}
theorem GA.good (g : GA K HF0 G Γ HF H σ A) : Good K HF0 G Γ HF H σ := ⟨g.sub, g.f0, g.g0, g.nf, let ⟨fs, a, b, c, _⟩ := g.held; ⟨fs, a, b, c⟩⟩
theorem GA.of (g : Good K HF0 G Γ HF H σ) : GA K HF0 G Γ HF H σ fun _ => False := ⟨g.sub, g.f0, g.g0, g.nf, let ⟨fs, a, b, c⟩ := g.held; ⟨fs, a, b, c, fun _ _ h => h⟩⟩
theorem GA.step (g : GA K HF0 G Γ HF H σ A) (s : Step HF H HF' H') : GA K HF0 G Γ HF' H' σ A := by
  obtain ⟨fs, h1, h2, h3, h4⟩ := g.held
  have gg := g.good.step s
  refine ⟨gg.sub, gg.f0, gg.g0, gg.nf, fs, h1.mono s.exF fun p _ o e => s.exH p o e, h2, fun p hp => ⟨?_, (h3 p hp).2⟩, h4⟩
  cases q : HF' p with
  | none => rfl
  | some u =>
    have := s.new p u q (h3 p hp).1
    obtain ⟨o, ho⟩ := h1.dom p hp
    rw [ho] at this; cases this
/-- what wasn't there ahead stands apart -/
theorem GA.fresh {fp : List Addr} (g : GA K HF0 G Γ HF H σ A) (s : Step HF H HF' H') (f : ∀ p ∈ fp, H p = none) : GA K HF0 G Γ HF' H' σ fun p => A p ∨ p ∈ fp := by
  obtain ⟨fs, h1, h2, h3, h4⟩ := g.held
  have gg := g.step s
  refine ⟨gg.sub, gg.f0, gg.g0, gg.nf, ?_⟩
  refine ⟨fs, h1.mono s.exF fun p _ o e => s.exH p o e, h2, fun p hp => ⟨?_, (h3 p hp).2⟩, fun p hp z => ?_⟩
  · cases q : HF' p with
    | none => rfl
    | some u =>
      have := s.new p u q (h3 p hp).1
      obtain ⟨o, ho⟩ := h1.dom p hp
      rw [ho] at this; cases this
  · rcases z with z | z
    · exact h4 p hp z
    · obtain ⟨o, ho⟩ := h1.dom p hp
      rw [f p z] at ho; cases ho
/-- an own thing is taken out -/
theorem GA.take {i : Nat} {α : Type} [Rp α] {u : Ow α} {x : α} (g : GA K HF0 G Γ HF H σ A) (hl : look Γ i = .mk u x) :
    ∃ v fo, σ[i]? = some (some v) ∧ u.rep K HF H v x fo ∧ fo.Nodup ∧ (∀ p ∈ fo, HF p = none ∧ G p = none) ∧ (∀ p ∈ fo, ¬ A p) ∧ GA K HF0 G (put Γ i .un) HF H σ fun p => A p ∨ p ∈ fo := by
  obtain ⟨fs, h1, h2, h3, h4⟩ := g.held
  obtain ⟨v, fo, fr, q1, q2, q3, q4, q5, q6, q7, q8⟩ := h1.pull h2 hl
  exact ⟨v, fo, q1, q2, q3, fun p hp => h3 p (q6 p hp), fun p hp => h4 p (q6 p hp), g.sub, g.f0, g.g0, g.nf, fr, q4, q5, fun p hp => h3 p (q7 p hp), fun p hp z => z.elim (h4 p (q7 p hp)) fun z => q8 p z hp⟩
/-- a part of what stands apart is held -/
theorem GA.put {i : Nat} {v : V} {α : Type} [Rp α] {u : Ow α} {a : α} {fp : List Addr} (g : GA K HF0 G Γ HF H σ A) (hi : i < Γ.length) (r : u.rep K HF H v a fp) (nd : fp.Nodup) (fr : ∀ p ∈ fp, HF p = none ∧ G p = none) (hA : ∀ p ∈ fp, A p) (hB : ∀ p, B p → A p ∧ p ∉ fp) :
    GA K HF0 G (put Γ i (.mk u a)) HF H (σ.set i (some v)) B := by
  obtain ⟨fs, h1, h2, h3, h4⟩ := g.held
  obtain ⟨fo, fr', q1, q2, q3, q4⟩ := h1.put hi
  obtain ⟨n1, n2, n3⟩ := q3 h2
  obtain ⟨fs', w1, w2, w3⟩ := q4 (HF' := HF) (H' := H) (s := .mk u a) (x := some v) (f := fp) (fun _ h => h) (fun _ h => h) ⟨v, rfl, r⟩
  refine ⟨g.sub, g.f0, g.g0, g.nf, fs', w1, w3 n1 nd fun p hp hq => h4 p ((q2 p).mpr (.inr hq)) (hA p hp), fun p hp => ?_, fun p hp z => ?_⟩
  · rcases (w2 p).mp hp with z | z
    · exact fr p z
    · exact h3 p ((q2 p).mpr (.inr z))
  · have hb := hB p z
    rcases (w2 p).mp hp with y | y
    · exact hb.2 y
    · exact h4 p ((q2 p).mpr (.inr y)) hb.1
end
theorem Step.apart {HF H HF' H' G : Hp} {fs : List Addr} (s : Step HF H HF' H') (hd : ∀ p ∈ fs, ∃ o, H p = some o) (hf : ∀ p ∈ fs, HF p = none ∧ G p = none) : ∀ p ∈ fs, HF' p = none ∧ G p = none := fun p hp => by
  refine ⟨?_, (hf p hp).2⟩
  cases z : HF' p with
  | none => rfl
  | some o =>
    have := s.new p o z (hf p hp).1
    obtain ⟨w', hw⟩ := hd p hp
    rw [this] at hw
    cases hw
/-- an expression that gives an own thing away: behind it Γ' -/
structure EV {α : Type} [Rp α] (X : Cx) (Γ : Ctx) (e : Expr) (u : Ow α) (m : M α) (t : TE) (Γ' : Ctx) : Prop where
  pe : PE X e t
  sem : ∀ HF0 G HF H σ A, GA X.K HF0 G Γ HF H σ A → (∀ p, A p → ∃ w, H p = some w) → ∀ c, m = .ok c → ∀ Q : VK, (∀ v HF1 H1 fp, Step HF H HF1 H1 → u.rep X.K HF1 H1 v c fp → fp.Nodup → (∀ p ∈ fp, HF1 p = none ∧ G p = none) → (∀ p ∈ fp, ¬ A p) → GA X.K HF0 G Γ' HF1 H1 σ (fun p => A p ∨ p ∈ fp) → Q v H1) → t σ H Q
section
variable {X : Cx} {Γ Γ1 Γ2 Γ3 : Ctx} {S L ρ α β γ : Type} {Γo : S → Ctx} {ΓL : L → Ctx} {a b c e : Expr} {p p1 p2 pos apos cpos : Pos} {ta tb tc te : TE} {sts : List Stmt} {tr : TS}
end
end Ty

/-! ## Ty86: text * number; None, a number or a text; a def that is handed a desk and hands back shared things -/
namespace L2
open PySem PySem.Spec PyProof.Rows
section
variable {X : Cx}
end
end L2
namespace Ty
open PySem PySem.Spec PyProof.Rows L2
/-- None, a number or a text -/
inductive Nv where
  | n
  | i (x : Int)
  | s (x : Str)
  deriving DecidableEq
def Nv.enc : Nv → V
  | .n => .non
  | .i k => .int k
  | .s x => .str x
instance : Inhabited Nv := ⟨.n⟩
instance : Fl Nv := flOf Nv.enc
def Nv.py : Nv → PyData
  | .n => .none
  | .i k => .int k
  | .s x => .str x
instance : Eqv Nv := ⟨Nv.py, fun u => match u with
    | .n => true
    | .i _ => true
    | .s x => PySem.PyData.strOk x, 0, fun {K H v a} h => by
    cases a with
    | n => cases h; exact .non
    | i n => cases h; exact .int _
    | s x => cases h; exact .str _, fun a h => by
    cases a with
    | n => rfl
    | i n => rfl
    | s x => simpa [Nv.py, PyData.canLay0] using h, fun a => by cases a <;> simp [Nv.py, PyData.depth], fun a b => by
    cases a <;> cases b <;> simp only [Nv.py, PyData.eqv]
    · simp
    · simp
    · simp
    · simp
    · rename_i x y; by_cases h : x = y <;> simp [h]
    · simp
    · simp
    · simp
    · rename_i x y; by_cases h : x = y <;> simp [h]⟩
instance : Ob ExY := ⟨fun ⟨e, _⟩ => ⟨_, e⟩⟩
section
variable {X : Cx} {Γ : Ctx} {a b e : Expr} {p p1 pos : Pos} {ta tb te : TE}
end
/-! ### a def that is handed a desk and hands back shared things -/
structure Rgp (ρ : Type) where
  d : Dsk
  s : ρ
instance {ρ : Type} [Inhabited ρ] : Inhabited (Rgp ρ) := ⟨⟨default, default⟩⟩
instance {ρ : Type} [Rp ρ] : Rp (Rgp ρ) where
  sh K H v x := Rp.sh K H v x.s
  mono := fun e h => Rp.mono e h
section
variable {X : Cx} {Γ : Ctx} {S L ρ : Type} [Rp ρ] {Γo : S → Ctx} {ΓL : L → Ctx} {e : Expr} {pos : Pos} {te : TE}
end
section
variable {P : Program} {w : World} {K : PySem.W.Frag} {mg : Str → Option Value} {base : Heap}
end
/-- an expression that may change the desks told by s and is a shared thing -/
structure EZp {S α : Type} [Rp α] (X : Cx) (Γs : S → Ctx) (s : S) (e : Expr) (m : M (S × α)) (t : TE) : Prop where
  pe : PE X e t
  sem : ∀ HF0 G HF H σ, Good X.K HF0 G (Γs s) HF H σ → ∀ c, m = .ok c → ∀ Q : VK, (∀ v HF' H', Good X.K HF0 G (Γs c.1) HF' H' σ → Same HF HF' → Rp.sh X.K HF' v c.2 → Q v H') → t σ H Q
section
variable {X : Cx} {S α A : Type} [Rp α] {Γs : S → Ctx} {s : S} {a b e : Expr} {es rest : List Expr} {pos p p1 : Pos} {t ta tb te : TE} {tt tu : TT} {tas : TA}
end
section
variable {X : Cx} {S S1 L ρ α : Type} [Rp α] [Rp ρ] {o : Ow ρ} {Γs : S → Ctx} {Γo : S1 → Ctx} {ΓL : L → Ctx} {s : S} {c e : Expr} {pos py : Pos} {te : TE} {tc : TT} {t1 tr : TS} {sa sts : List Stmt}
end
end Ty

/-! ## Ty87: expressions that always raise -/
namespace Ty
open PySem PySem.Spec PyProof.Rows L2
/-- an expression that raises -/
structure EQ (X : Cx) (W : WX) (Γ : Ctx) (e : Expr) (m : M Exn) (t : TE) : Prop where
  pe : PE X e t
  sem : ∀ HF0 G HF H σ, Good X.K HF0 G Γ HF H σ → ∀ x, m = .ok x → ∀ Q : VK, (∀ HF' H' d, Step HF H HF' H' → XD HF' d x → W (clv X.K x.c) d σ H') → t σ H Q
/-- arguments of which one raises -/
structure EAQ (X : Cx) (W : WX) (Γ : Ctx) (es : List Expr) (m : M Exn) (t : TA) : Prop where
  pa : PA X es t
  sem : ∀ HF0 G HF H σ, Good X.K HF0 G Γ HF H σ → ∀ x, m = .ok x → ∀ Q : List V → Hp → Prop, (∀ HF' H' d, Step HF H HF' H' → XD HF' d x → W (clv X.K x.c) d σ H') → t σ H Q
structure TQ (X : Cx) (W : WX) (Γ : Ctx) (e : Expr) (m : M Exn) (t : TT) : Prop where
  pt : PT X e t
  sem : ∀ HF0 G HF H σ, Good X.K HF0 G Γ HF H σ → ∀ x, m = .ok x → ∀ Q : Bool → Hp → Prop, (∀ HF' H' d, Step HF H HF' H' → XD HF' d x → W (clv X.K x.c) d σ H') → t σ H Q
structure IQ (X : Cx) (W : WX) (Γ : Ctx) (tg e : Expr) (m : M Exn) (t : TI) : Prop where
  pi : PI X tg e t
  sem : ∀ HF0 G HF H σ, Good X.K HF0 G Γ HF H σ → ∀ x, m = .ok x → ∀ R, (∀ HF' H' d, Step HF H HF' H' → XD HF' d x → W (clv X.K x.c) d σ H') → t σ H R
section
variable {X : Cx} {W : WX} {Γ : Ctx} {S L α β ρ A : Type} {a b e o : Expr} {es : List Expr} {p p1 p2 pos cpos apos : Pos} {ta tb te to : TE} {t tas : TA} {sts sa sb : List Stmt} {tr : TS} {tg : Expr}
end
section
variable {X : Cx} {Γ : Ctx} {S L : Type} {Γo : S → Ctx} {ΓL : L → Ctx} {c e : Expr} {pos : Pos} {te : TE} {tc : TT} {sts sa sb : List Stmt} {E : XK}
end
end Ty

/-! ## Ty88: a def that is handed a kept exception, called where none is handled -/
namespace Ty
open PySem PySem.Spec PyProof.Rows L2
structure FnZc (P : Program) (w : World) (K : PySem.W.Frag) (mg : Str → Option Value) (base : Heap) (k : Nat) (f : Addr) (fd : FuncData) (y : Str) {ρ : Type} [Rp ρ] (o : Ow ρ) (fm : Exn → M ρ) : Prop where
  run : ∀ (A : Around) (outer : List Env) (s : Shared) (H : Hp) (args : Args) (Q : VK) (E : XK) (p : Addr × Obj) (d : Option Addr) (x : Exn), Room k A → PinZ K x.c d p → L2H.PinOk outer H s p → Env0 P w K mg base A outer s H → BindsTo s fd args [(y, .ref p.1)] → spZ K o fm d x H Q →
    codeAny (model P w) A (.call (.ref f) args) (CR CX0 outer P w H s Q E) s
section
variable {P : Program} {w : World} {K : PySem.W.Frag} {mg : Str → Option Value} {base : Heap}
end
section
variable {X : Cx} {Γ : Ctx} {ρ α : Type} [Rp ρ] {o : Ow ρ} {a b e f : Expr} {es : List Expr} {pos p p1 p2 pos2 : Pos} {ta tb te tf : TE} {t : TA}
end
end Ty

/-! ## Ty89: exceptions made by hand and kept as values -/
namespace Ty
open PySem PySem.Spec PyProof.Rows L2
/-- an exception object: its class, what it keeps -/
structure Xo where
  x : Exn
instance : Inhabited Xo := ⟨⟨⟨"", none⟩⟩⟩
def ExoH (H : Hp) (a C : Addr) (x : Exn) : Prop := match x.p with
  | none => H a = some (L2.ExO (.ref C) a)
  | some (f, y) => ∃ dx, H a = some (exo a C (some dx)) ∧ H dx = some (exd dx [(f, y.enc)])
theorem ExoH.mono {H H' : Hp} {a C : Addr} {x : Exn} (s : Same H H') (h : ExoH H a C x) : ExoH H' a C x := by
  unfold ExoH at *
  split at h
  · exact s _ _ h
  · obtain ⟨dx, h1, h2⟩ := h
    exact ⟨dx, s _ _ h1, s _ _ h2⟩
instance : Rp Xo where
  sh K H v e := ∃ a, v = .ref a ∧ ExoH H a (He.ga K e.x.c) e.x
  mono := fun s h => by
    obtain ⟨a, h1, h2⟩ := h
    exact ⟨a, h1, h2.mono s⟩
/-! ### isinstance -/
section
variable {X : Cx} {Γ : Ctx} {S L ρ α β A S' : Type} [Rp ρ] {o : Ow ρ} {Γo : S → Ctx} {ΓL : L → Ctx} {a b e f : Expr} {es : List Expr} {pos p p1 p2 pos2 : Pos} {ta tb te tf : TE} {t : TA} {sts : List Stmt} {tr tr' : TS}
/-! ### a field -/
/-! ### made by hand -/
end
end Ty

/-! ## Ty90: an own dict whose keys are (whole number, truth value), each told True -/
namespace Ty
open PySem PySem.Spec PyProof.Rows L2
def kB (p : Int × Bool) : NestedKey := .tup [.num p.1, .num (if p.2 = true then 1 else 0)]
theorem kB_inj {a b : Int × Bool} (h : kB a = kB b) : a = b := by
  obtain ⟨a1, a2⟩ := a
  obtain ⟨b1, b2⟩ := b
  unfold kB at h
  injection h with h
  injection h with h1 h2
  injection h1 with h1
  injection h2 with h2 _
  injection h2 with h2
  have h1 : a1 = b1 := h1
  subst h1
  cases a2 <;> cases b2 <;> first | rfl | (exact absurd h2 (by simp))
def entB (x : (Int × Bool) × Addr) : DictEntry := ⟨reduceHash (Builtin.Tuple.tupleHashOf [hashInt x.1.1, hashInt (if x.1.2 = true then 1 else 0)]), .ref x.2, .bool true⟩
theorem entB_eq {P : Program} {w : World} (x : (Int × Bool) × Addr) : entryOfKey (nestedKind P w) (kB x.1, x.2, Value.bool true) = entB x := by
  unfold entryOfKey entB nestedKind kB
  simp only [NestedKey.hash, NestedKey.hashes]
/-- such a dict at d -/
def bdO (d : Addr) (xs : List ((Int × Bool) × Addr)) : HO := .ext fun h => (d == sysModules) = false ∧ ∃ o es ep, h.get? d = some o ∧ o.ExactDict ∧ o.data = .dict es ep ∧ es.toList = xs.map entB
def tB (k : Int × Bool) : HO := .tup [.int k.1, .bl k.2]
def rawB (xs : List ((Int × Bool) × Addr)) : List (NestedKey × Addr × Value) := xs.map fun q => (kB q.1, q.2, Value.bool true)
theorem rawB_ent {P : Program} {w : World} (xs : List ((Int × Bool) × Addr)) : (rawB xs).map (entryOfKey (nestedKind P w)) = xs.map entB := by
  unfold rawB
  rw [List.map_map]
  exact List.map_congr_left fun x _ => entB_eq x
section
variable {P : Program} {w : World} {H : Hp} {h : Heap} {d b : Addr} {k : Int × Bool} {xs : List ((Int × Bool) × Addr)}
theorem bd_ok {o : Obj} {es : Array DictEntry} {ep : Nat} (hd : (d == sysModules) = false) (e : h.get? d = some o) (x : o.ExactDict) (hdt : o.data = .dict es ep) (he : es.toList = xs.map entB) : ObjOk P w H h d (bdO d xs) :=
  ⟨⟨hd, o, es, ep, e, x, hdt, he⟩, ⟨o, e⟩, fun _ _ ⟨hd, o, es, ep, e, r⟩ k => ⟨hd, o, es, ep, k o e, r⟩⟩
theorem kB_is (ok : HOk P w H h) (e : H b = some (tB k)) : (nestedKind P w).is h (kB k) b := by
  obtain ⟨_, its, r, o, h1, h2, n, h3⟩ := (show ObjOk P w H h b (.tup [.int k.1, .bl k.2]) from ok b _ e)
  cases r with
  | cons r1 r =>
    cases r with
    | cons r2 r =>
      cases r
      obtain ⟨t, r1⟩ := (show ∃ t, _ = Value.int k.1 t from r1)
      have r2 := (show _ = Value.bool k.2 from r2)
      subst r1 r2
      exact ⟨NestedIs.tup h1 h2 h3 (.cons (.int _ _) (.cons (.bool rfl) .nil)), by show (max 0 (max 0 0) + 1) ≤ 8; decide⟩
theorem bd_of (ok : HOk P w H h) (e : H d = some (bdO d xs)) (hk : ∀ q ∈ xs, H q.2 = some (tB q.1)) (nd : (xs.map (·.1)).Nodup) : (d == sysModules) = false ∧ h.DictOfH (nestedKind P w) d (rawB xs) := by
  obtain ⟨⟨hd, o, es, ep, e1, e2, e3, e4⟩, _, _⟩ := ok d _ e
  refine ⟨hd, o, es, ep, e1, e2, e3, by rw [rawB_ent]; exact e4, fun x hx => ?_, ?_⟩
  · obtain ⟨q, hq, rfl⟩ := List.mem_map.mp hx
    exact kB_is ok (hk q hq)
  · unfold rawB
    rw [List.map_map]
    show (xs.map fun q => kB q.1).Nodup
    have : (xs.map fun q => kB q.1) = (xs.map (·.1)).map kB := by rw [List.map_map]; rfl
    rw [this]
    exact List.Pairwise.map kB (fun a b hne e => hne (kB_inj e)) nd
theorem raw_key (k : Int × Bool) : ∀ xs : List ((Int × Bool) × Addr), (atKey (rawB xs) (kB k)).isSome = decide (k ∈ xs.map (·.1))
  | [] => rfl
  | x :: xs => by
    have ih := raw_key k xs
    by_cases h : x.1 = k
    · rw [decide_eq_true (by simp [h])]
      simp [rawB, atKey, h]
    · have h2 : kB x.1 ≠ kB k := fun e => h (kB_inj e)
      rw [show decide (k ∈ (x :: xs).map (·.1)) = decide (k ∈ xs.map (·.1)) from decide_eq_decide.mpr (by
        rw [List.map_cons, List.mem_cons]
        exact ⟨fun z => z.resolve_left fun e => h e.symm, .inr⟩), ← ih]
      simp [rawB, atKey, h2]
end
/-! ### types -/
structure Kb where
  k : Int × Bool
  deriving DecidableEq
instance : Inhabited Kb := ⟨⟨default⟩⟩
instance : Rp Kb where
  sh _ H v x := ∃ b, v = .ref b ∧ H b = some (tB x.k)
  mono := fun e ⟨b, h1, h2⟩ => ⟨b, h1, e _ _ h2⟩
structure Sb where
  l : List (Int × Bool)
instance : Inhabited Sb := ⟨⟨[]⟩⟩
instance : Rp Sb where
  sh _ H v x := ∃ d xs, v = .ref d ∧ H d = some (bdO d xs) ∧ xs.map (·.1) = x.l ∧ x.l.Nodup ∧ ∀ q ∈ xs, H q.2 = some (tB q.1)
  mono := fun e ⟨d, xs, h1, h2, h3, h4, h5⟩ => ⟨d, xs, h1, e _ _ h2, h3, h4, fun q hq => e _ _ (h5 q hq)⟩
def Ow.sb : Ow Sb where
  rep K HF H v x fp := ∃ d xs, v = .ref d ∧ fp = [d] ∧ H d = some (bdO d xs) ∧ xs.map (·.1) = x.l ∧ x.l.Nodup ∧ ∀ q ∈ xs, HF q.2 = some (tB q.1)
  mono := fun e k ⟨d, xs, h1, h2, h3, h4, h5, h6⟩ => by
    subst h2
    exact ⟨d, xs, h1, rfl, k d (List.mem_cons_self ..) _ h3, h4, h5, fun q hq => e _ _ (h6 q hq)⟩
  dom := fun ⟨d, xs, h1, h2, h3, h4⟩ q hq => by
    subst h2
    rw [List.mem_singleton.mp hq]
    exact ⟨_, h3⟩
  frz := fun e k ⟨d, xs, h1, h2, h3, h4, h5, h6⟩ => by
    subst h2
    exact ⟨d, xs, h1, k d (List.mem_cons_self ..) _ h3, h4, h5, fun q hq => e _ _ (h6 q hq)⟩
/-! ### rules -/
def tBNew : TE := fun _ H Q => ∀ p, H p = none → Q (.ref p) (upd H p (bdO p []))
def tBNin (ty td : TE) : TE := fun σ H Q => ty σ H fun y H1 => td σ H1 fun x H2 => ∃ (d b : Addr) (k : Int × Bool) (xs : List ((Int × Bool) × Addr)), x = .ref d ∧ y = .ref b ∧ H2 b = some (tB k) ∧ H2 d = some (bdO d xs) ∧ (xs.map (·.1)).Nodup ∧ (∀ q ∈ xs, H2 q.2 = some (tB q.1)) ∧ Q (.bl (!decide (k ∈ xs.map (·.1)))) H2
def sBPut (td ty tv : TE) : TS := fun D σ H => tv σ H fun v H1 => td σ H1 fun x H2 => ty σ H2 fun y H3 => ∃ (d b : Addr) (k : Int × Bool) (xs : List ((Int × Bool) × Addr)), v = .bl true ∧ x = .ref d ∧ y = .ref b ∧ H3 b = some (tB k) ∧ H3 d = some (bdO d xs) ∧ (xs.map (·.1)).Nodup ∧ (∀ q ∈ xs, H3 q.2 = some (tB q.1)) ∧ xs.length ≤ sizeLine ∧ k ∉ xs.map (·.1) ∧ D.nx σ (upd H3 d (bdO d (xs ++ [(k, b)])))
section
variable {X : Cx} {o i value : Expr} {pos pos' : Pos} {td ty tv : TE}
theorem pe_bnew : PE X (.Dict [] [] pos) tBNew := ⟨fun pins s σ H Q I h =>
  wpAny_Dict_empty ⟨.ref s.heap.objs.size, _, I.laid (a := s.heap.objs.size) (o := bdO s.heap.objs.size []) (t' := s.toks) (fun _ _ q => Heap.get?_push_of_some _ q) (Nat.le_refl _)
    (bd_ok (beq_eq_false_iff_ne.mpr (Ne.symm (Nat.ne_of_lt I.big))) (Heap.get?_push_size _ rfl) ⟨rfl, rfl, rfl⟩ rfl rfl), rfl, h _ (I.hok.fresh (Nat.le_refl _))⟩⟩
theorem pc_bnin (hu : X.A.units + 64 < cLine) (hi : PE X i ty) (ho : PE X o td) : PC X .NotIn i o (tBNin ty td) := by
  refine ⟨fun pins s σ H Q I h => ?_⟩
  refine thn (hi.run pins s σ H _ I h) fun iv s1 ⟨y, H1, I1, ry, q1⟩ => thn (ho.run pins s1 σ H1 _ I1 q1) fun u s2 ⟨x, H2, I2, rx, d, b, k, xs, ex, ey, eb, ed, nd, hk, q2⟩ => ?_
  subst ex ey
  obtain rfl : u = Value.ref d := rx
  obtain rfl : iv = Value.ref b := ry
  obtain ⟨hd, dd⟩ := bd_of (P := X.prog) (w := X.w) I2.hok ed hk nd
  refine wpAny_notIn_heap (knd := nestedKind X.prog X.w) (show X.A.in1.units + 8 < cLine from by show X.A.units + 1 + 8 < cLine; omega) (kB_is I2.hok eb) hd dd ?_
  rw [raw_key]
  exact ⟨.bl _, H2, I2.tok _, rfl, q2⟩
theorem ps_bput (hu : X.A.units + 64 < cLine) (ho : PE X o td) (hi : PE X i ty) (hv : PE X value tv) (hs : swapsWith value (some (.Subscript o i pos')) pos.line X.env = pure false) :
    PS X (.Assign [.Subscript o i pos'] value pos) (sBPut td ty tv) := by
  refine ⟨fun pins s σ H D I h => ?_⟩
  refine wpAny_Assign_Subscript (thn (hv.run pins s σ H _ I h) fun r s1 ⟨v, H1, I1, rv, q1⟩ => thn (ho.run pins s1 σ H1 _ I1 q1) fun u s2 ⟨x, H2, I2, rx, q2⟩ => thn (hi.run pins s2 σ H2 _ I2 q2) fun iv s3 ⟨y, H3, I3, ry, d, b, k, xs, ev, ex, ey, eb, ed, nd, hk, hl, hn, q3⟩ => ?_) hs
  subst ev ex ey
  obtain rfl : u = Value.ref d := rx
  obtain rfl : iv = Value.ref b := ry
  obtain rfl : r = Value.bool true := rv
  obtain ⟨hd, dd⟩ := bd_of (P := X.prog) (w := X.w) I3.hok ed hk nd
  refine wpAny_setItem_heap (knd := nestedKind X.prog X.w) (hsz := by unfold rawB; rw [List.length_map]; exact hl) (show X.A.in1.units + 8 < cLine from by show X.A.units + 1 + 8 < cLine; omega) (kB_is I3.hok eb) dd fun h' dd' hs => ?_
  obtain ⟨q, es, ep, hq, h2, h3, h4, _, h5⟩ := dd'
  have e : storedH (rawB xs) (kB k) b (Value.bool true) = rawB (xs ++ [(k, b)]) := by
    unfold storedH
    rw [raw_key, decide_eq_false hn]
    unfold rawB
    simp
  rw [e, rawB_ent] at h4
  exact ⟨σ, _, d_write I3 (by rw [ed]; exact True.intro) hs ⟨q, hq⟩ (bd_ok hd hq h2 h3 h4), q3⟩
end
section
variable {X : Cx} {Γ : Ctx} {S L ρ α β A S' : Type} [Rp ρ] {o : Ow ρ} {Γo : S → Ctx} {ΓL : L → Ctx} {a b e f : Expr} {es : List Expr} {pos p p1 p2 pos2 : Pos} {ta tb te tf : TE} {t : TA} {sts : List Stmt} {tr tr' : TS}
theorem ex_kB {m : M Int} {n : M Bool} {k} (ha : EX X Γ a Ow.v m ta) (hb : EX X Γ b Ow.v n tb) (h1 : starEach [a, b] X.env = (false, eval a X.env) :: starEach [b] X.env := by rfl) (h2 : starEach [b] X.env = (false, eval b X.env) :: starEach [] X.env := by rfl) :
    EX X Γ (.Tuple [a, b] k pos) Ow.v (do let a ← m; let b ← n; pure (⟨(a, b)⟩ : Kb)) (tTup (tCons ta (tCons tb tNil))) :=
  ⟨pe_tup (pa_cons ha.pe (pa_cons hb.pe pa_nil h2) h1), fun HF0 G HF H σ g c hc Q kk => by
    obtain ⟨x, e1, hc⟩ := bind_ok hc
    obtain ⟨y, e2, hc⟩ := bind_ok hc
    cases pure_ok hc
    refine ha.sem HF0 G HF H σ g x e1 _ fun v HF1 H1 fp s1 r1 n1 f1 => ?_
    refine hb.sem HF0 G HF1 H1 σ (g.step s1) y e2 _ fun w HF2 H2 fq s2 r2 n2 f2 => ⟨by show 2 ≤ sizeLine; decide, fun p hp => ?_⟩
    have st := Step.shr (o := .tup [v, w]) s2.sub hp
    refine (kk.back (s1.trans s2)) (.ref p) (upd HF2 p (.tup [v, w])) _ [] st ⟨⟨p, rfl, ?_⟩, rfl⟩ List.nodup_nil (fun p hp => by cases hp)
    rw [upd_same, Fl.sh_iff.mp r1.1, Fl.sh_iff.mp r2.1]
    rfl⟩
theorem ex_bnew : EX X Γ (.Dict [] [] pos) Ow.sb (pure ⟨[]⟩) tBNew :=
  ⟨pe_bnew, fun HF0 G HF H σ g c hc Q k => by
    cases pure_ok hc
    intro p hp
    exact k (.ref p) HF _ [p] (Step.own g.sub hp) ⟨p, [], rfl, rfl, upd_same, rfl, List.nodup_nil, fun q hq => by cases hq⟩ (by simp) (fun q hq => by
      rw [List.mem_singleton.mp hq]; exact ⟨hp, g.sub.free hp⟩)⟩
theorem ek_bnin {m : M Kb} {n : M Sb} (hu : X.A.units + 64 < cLine) (ha : EX X Γ a Ow.v m ta) (hb : EX X Γ b Ow.v n tb) (hm : behindInMarks .NotIn b = false := by rfl) : EK X Γ .NotIn a b (do let a ← m; let b ← n; pure (!decide (a.k ∈ b.l))) (tBNin ta tb) :=
  ⟨pc_bnin hu ha.pe hb.pe, hm, fun HF0 G HF H σ g c hc Q k => by
    obtain ⟨x, e1, hc⟩ := bind_ok hc
    obtain ⟨y, e2, hc⟩ := bind_ok hc
    cases pure_ok hc
    refine ha.sem HF0 G HF H σ g x e1 _ fun v HF1 H1 fp s1 r1 _ _ => ?_
    refine hb.sem HF0 G HF1 H1 σ (g.step s1) y e2 _ fun w HF2 H2 fp2 s2 r2 _ _ => ?_
    obtain ⟨⟨d, xs, rfl, h2, h3, h4, h5⟩, _⟩ := r2
    obtain ⟨⟨b, rfl, hb⟩, _⟩ := r1
    refine ⟨d, b, x.k, xs, rfl, rfl, s2.sub _ _ (s2.exF _ _ hb), s2.sub _ _ h2, by rw [h3]; exact h4, fun q hq => s2.sub _ _ (h5 q hq), ?_⟩
    rw [h3]
    exact (k.back (s1.trans s2)).flat s2.sub⟩
def bputM (d : Sb) (k : Kb) (v : Bool) : M Sb := do gd (v && (decide (d.l.length ≤ sizeLine) && !decide (k.k ∈ d.l))); pure ⟨d.l ++ [k.k]⟩
/-- d[(i, b)] = True -/
theorem ss_bput (i : Nat) {d : Sb} {x : Str} {m : M Bool} {mk : M Kb} {k : Sb → M (Ctl S L ρ)} (hu : X.A.units + 64 < cLine) (he : EX X Γ e Ow.v m te) (hk : EX X Γ b Ow.v mk tb) (hr : ∀ l, SS X (put Γ i (.mk Ow.sb l)) sts Γo ΓL o (k l) tr) (hl : look Γ i = .mk Ow.sb d := by rfl) (hN : X.N[i]? = some x := by rfl) (hv : Vis X.env.scope x := by first | exact Or.inl rfl | exact Or.inr (Or.inl rfl) | exact Or.inr (Or.inr rfl)) (hd : (x == ("__debug__" : Str)) = false := by decide)
    (hcd : (x == ("__classdict__" : Str)) = false := by decide) (hs : swapsWith e (some (.Subscript (.Name x p) b p1)) pos.line X.env = pure false := by rfl) :
    SS X Γ (.Assign [.Subscript (.Name x p) b p1] e pos :: sts) Γo ΓL o (do let a ← m; let b ← mk; let l ← bputM d b a; k l) (tSeq (sBPut (tVar i) tb te) tr) :=
  ⟨pss_cons (ps_bput hu (pe_var hN hv hd hcd) hk.pe he.pe hs) (hr default).pss, fun HF0 G HF H σ g c hc D kk => by
    obtain ⟨y, e1, hc1⟩ := bind_ok hc
    obtain ⟨ix, e2, hc2⟩ := bind_ok hc1
    obtain ⟨l, e3, hc3⟩ := bind_ok hc2
    obtain ⟨w, e4, e3⟩ := bind_ok e3
    have e5 := pure_ok e3
    subst e5
    have e6 := gd_ok e4
    simp only [Bool.and_eq_true, decide_eq_true_eq, Bool.not_eq_true', decide_eq_false_iff_not] at e6
    obtain ⟨e6a, e6b, e6c⟩ := e6
    subst e6a
    obtain ⟨v, fo, hσ, ⟨q, xs, h1, h2, h3, h4, h5, h6⟩, nd, hfo, back⟩ := g.take hl
    subst h1 h2
    refine he.sem HF0 G HF H σ g true e1 _ fun v' HF1 H1 fp st r n f => ?_
    refine ⟨.ref q, hσ, ?_⟩
    refine hk.sem HF0 G HF1 H1 σ (g.step st) ix e2 _ fun w HF2 H2 fp2 st2 r2 _ _ => ?_
    obtain ⟨⟨b, rfl, hb⟩, _⟩ := r2
    have st12 := st.trans st2
    have h3' := st12.exH _ _ h3
    refine ⟨q, b, ix.k, xs, Fl.sh_iff.mp r.1, rfl, rfl, st2.sub _ _ hb, h3', by rw [h4]; exact h5, fun p hp => st12.sub _ _ (st12.exF _ _ (h6 p hp)), by have := congrArg List.length h4; rw [List.length_map] at this; omega, by rw [h4]; exact e6c, ?_⟩
    have gg := back (u' := Ow.sb) (b := ⟨d.l ++ [ix.k]⟩) (v' := .ref q) (f' := [q]) (H' := upd H2 q (bdO q (xs ++ [(ix.k, b)]))) st12 (fun p w hp e => by rw [upd_ne (fun z => hp (by rw [z]; exact List.mem_singleton.mpr rfl))]; exact e)
      ⟨q, _, rfl, rfl, upd_same, by rw [List.map_append, h4]; rfl, List.nodup_append.mpr ⟨h5, by simp, fun a ha b hb e => by rw [List.mem_singleton.mp hb] at e; exact e6c (e ▸ ha)⟩, fun p hp => by
        rcases List.mem_append.mp hp with hp | hp
        · exact st12.exF _ _ (h6 p hp)
        · rw [List.mem_singleton.mp hp]; exact hb⟩ (by simp) (fun p hp => .inl hp)
    rw [set_self hσ] at gg
    exact (hr ⟨d.l ++ [ix.k]⟩).sem HF0 G HF2 _ σ gg c hc3 D (kk.mono st12.exF)⟩
end
end Ty


namespace Law
open PySem PySem.Spec PyProof.Rows L2 Ty
/-! ### the mirror -/
def cst_JOINS : (Tu (Tu Int)) := ⟨([[1, 0, 3, 2], [2, 3, 0, 1], [3, 2, 1, 0]] : List (List Int)).map Tu.mk⟩
def exN : List Str := ["RoundError", "TooMany"]
def exT : CTab := ([("RoundError", "RoundError", true), ("RoundError", "TooMany", false), ("RoundError", "ValueError", true), ("TooMany", "RoundError", true), ("TooMany", "TooMany", true), ("TooMany", "ValueError", true)] : CTab)
def mir_joined (p0 : Int) (p1 : Int) : M Int := runC ((fun (ar : Int × Int × Unit) => (((((pure cst_JOINS) >>= fun a => (pure ar.1) >>= fun b => atM a.l b) >>= fun a => (pure ar.2.1) >>= fun b => atM a.l b) >>= fun r => pure (.rt r)) : M (Ctl Unit Empty Int))) (p0, p1, ()))
def mir_partner (p0 : (List Int)) (p1 : Int) : M Int := runC ((fun (ar : (List Int) × Int × Unit) => ((((pure ar.2.1) >>= fun a => (pure (4 : Int)) >>= fun b => dmM a b) >>= fun (u1 : (Int × Int)) => ((((pure u1.1) >>= fun b => pure ((4 : Int) * b)) >>= fun a => ((((pure ar.1) >>= fun a => (pure u1.1) >>= fun b => atM a b) >>= fun a => ((pure u1.2) >>= fun a => (pure ()) >>= fun b => pure (a, b)) >>= fun b => pure (a, b)) >>= fun a => mir_joined a.1 a.2.1) >>= fun b => pure (a + b)) >>= fun r => pure (.rt r))) : M (Ctl Unit Empty Int))) (p0, p1, ()))
def mir_round_of (p0 : (List Int)) (p1 : (List Int)) (p2 : Int) : M (List Int) := runC ((fun (ar : (List Int) × (List Int) × Int × Unit) => (((((pure ar.2.2.1) >>= fun a => ((((pure ar.2.1) >>= fun a => ((pure ar.2.2.1) >>= fun a => (pure ()) >>= fun b => pure (a, b)) >>= fun b => pure (a, b)) >>= fun a => mir_partner a.1 a.2.1) >>= fun a => (pure ([] : List Int)) >>= fun b => pure (a :: b)) >>= fun b => pure (a :: b)) >>= fun a => lstM a) >>= fun (ends1 : (List Int)) => (((pure ar.1) >>= fun a => ((pure ends1) >>= fun a => ((pure (1 : Int)) >>= fun a => pure (-a)) >>= fun b => atM a b) >>= fun b => atM a b) >>= fun (here2 : Int) => (whileM (S := ((List Int) × Int)) (ρ := (List Int)) (fun (s3 : ((List Int) × Int)) => ((pure s3.2) >>= fun a => (pure ar.2.2.1) >>= fun b => pure (!decide (a = b)))) (fun (s3 : ((List Int) × Int)) => ((pure s3.2) >>= fun a => appM s3.1 a >>= fun (ends4 : (List Int)) => ((((pure ar.2.1) >>= fun a => ((pure s3.2) >>= fun a => (pure ()) >>= fun b => pure (a, b)) >>= fun b => pure (a, b)) >>= fun a => mir_partner a.1 a.2.1) >>= fun a => appM ends4 a >>= fun (ends5 : (List Int)) => (((pure ar.1) >>= fun a => ((pure ends5) >>= fun a => ((pure (1 : Int)) >>= fun a => pure (-a)) >>= fun b => atM a b) >>= fun b => atM a b) >>= fun (here6 : Int) => (pure (.nx (ends5, here6))))))) 1000 (ends1, here2) >>= fun c => thenL c (fun (s3 : ((List Int) × Int)) => (pure (.rt s3.1)))))) : M (Ctl Unit Empty (List Int)))) (p0, p1, p2, ()))
def mir_rounds_of (p0 : (List Int)) (p1 : (List Int)) : M (List (List Int)) := runC ((fun (ar : (List Int) × (List Int) × Unit) => (((pure (⟨[]⟩ : (Dc Int Bool))) >>= fun (met1 : (Dc Int Bool)) => (((pure ([] : List (List Int))) >>= fun a => lstM a) >>= fun (found2 : (List (List Int))) => ((((pure ar.1) >>= fun a => pure (a.length : Int)) >>= fun a => range1 a) >>= fun xs => loopM (S := ((Dc Int Bool) × (List (List Int)))) (ρ := (List (List Int))) (fun (end3 : Int) (s4 : ((Dc Int Bool) × (List (List Int)))) => (((pure end3) >>= fun a => (pure s4.1) >>= fun b => pure (!dhas b a)) >>= fun x => if x then ((((pure ar.1) >>= fun a => ((pure ar.2.1) >>= fun a => ((pure end3) >>= fun a => (pure ()) >>= fun b => pure (a, b)) >>= fun b => pure (a, b)) >>= fun b => pure (a, b)) >>= fun a => mir_round_of a.1 a.2.1 a.2.2.1) >>= fun (ends5 : (List Int)) => ((pure true) >>= fun a => putAllM s4.1 ends5 a >>= fun (met6 : (Dc Int Bool)) => (appM s4.2 ends5 >>= fun (found7 : (List (List Int))) => (pure (.nx (met6, found7)))))) else (pure (.nx (s4.1, s4.2))))) xs (met1, found2) >>= fun c => thenL c (fun (s4 : ((Dc Int Bool) × (List (List Int)))) => (pure (.rt s4.2)))))) : M (Ctl Unit Empty (List (List Int))))) (p0, p1, ()))
def mir_many_rounds (p0 : (List Int)) (p1 : (List Int)) : M Int := runC ((fun (ar : (List Int) × (List Int) × Unit) => ((((((pure ar.1) >>= fun a => ((pure ar.2.1) >>= fun a => (pure ()) >>= fun b => pure (a, b)) >>= fun b => pure (a, b)) >>= fun a => mir_rounds_of a.1 a.2.1) >>= fun a => pure (a.length : Int)) >>= fun r => pure (.rt r)) : M (Ctl Unit Empty Int))) (p0, p1, ()))
def mir_letters_of (p0 : Str) : M Str := runC ((fun (ar : Str × Unit) => ((((pure ("" : Str)) >>= fun x => ((((pure ("abcdefghijklmnopqrstuvwxyz" : Str)) >>= fun a => pure (a.cps.toList.map sgS)) >>= fun xs => compM xs (fun (letter1 : Str) => ((pure letter1) >>= fun a => (pure ar.1) >>= fun b => pure (inS a b))) (fun (letter1 : Str) => (pure letter1))) >>= fun a => (pure ()) >>= fun b => pure (a, b)) >>= fun y => joinM x y.1) >>= fun r => pure (.rt r)) : M (Ctl Unit Empty Str))) (p0, ()))
def mir_place_order (p0 : Str) : M Str := runC ((fun (ar : Str × Unit) => (((pure ("" : Str)) >>= fun (found1 : Str) => (((pure ar.1) >>= fun a => pure (a.cps.toList.map sgS)) >>= fun xs => loopM (S := (Str)) (ρ := Str) (fun (letter2 : Str) (s3 : (Str)) => (((pure letter2) >>= fun a => (pure s3) >>= fun b => pure (!inS a b)) >>= fun x => if x then (((pure s3) >>= fun a => (pure letter2) >>= fun b => addSM a b) >>= fun (found4 : Str) => (pure (.nx (found4)))) else (pure (.nx (s3))))) xs (found1) >>= fun c => thenL c (fun (s3 : (Str)) => ((pure s3) >>= fun r => pure (.rt r))))) : M (Ctl Unit Empty Str))) (p0, ()))
def mir_net_by (p0 : Str) : M ((List Int) ⊕ Str) := runC ((fun (ar : Str × Unit) => (((((pure ar.1) >>= fun a => (pure ()) >>= fun b => pure (a, b)) >>= fun a => mir_place_order a.1) >>= fun (order1 : Str) => ((((pure order1) >>= fun a => lenS a) >>= fun a => ((pure ("abcdefgh" : Str)) >>= fun a => lenS a) >>= fun b => pure (decide (b < a))) >>= fun x => if x then (((pure (.rt (.inr "TooMany"))) : M (Ctl Empty Empty ((List Int) ⊕ Str))) >>= fun y => thenC y nofun) else (((pure ([] : List Int)) >>= fun a => lstM a) >>= fun (ins2 : (List Int)) => ((pure (⟨[]⟩ : (Dc Str Int))) >>= fun (stood3 : (Dc Str Int)) => (((pure ar.1) >>= fun a => pure (a.cps.toList.map sgS)) >>= fun xs => loopM (S := ((List Int) × (Dc Str Int))) (ρ := ((List Int) ⊕ Str)) (fun (letter4 : Str) (s5 : ((List Int) × (Dc Str Int))) => (((((pure order1) >>= fun x => ((pure letter4) >>= fun a => (pure ()) >>= fun b => pure (a, b)) >>= fun y => pure (Txt.find x y.1)) >>= fun b => pure ((4 : Int) * b)) >>= fun a => (((pure s5.2) >>= fun a => (pure letter4) >>= fun b => (pure (0 : Int)) >>= fun c => pure ((dget a.l b).getD c)) >>= fun b => pure ((2 : Int) * b)) >>= fun b => pure (a + b)) >>= fun a => appM s5.1 a >>= fun (ins6 : (List Int)) => ((pure (1 : Int)) >>= fun a => (pure letter4) >>= fun b => dputM s5.2 b a >>= fun (stood7 : (Dc Str Int)) => (pure (.nx (ins6, stood7)))))) xs (ins2, stood3) >>= fun c => thenL c (fun (s5 : ((List Int) × (Dc Str Int))) => ((((((pure ar.1) >>= fun a => lenS a) >>= fun b => pure ((2 : Int) * b)) >>= fun a => range1 a) >>= fun xs => compM xs (fun (end8 : Int) => (pure true)) (fun (end8 : Int) => (pure (0 : Int)))) >>= fun (net9 : (List Int)) => (((pure s5.1) >>= fun a => pure (enumL a)) >>= fun xs => loopM (S := ((List Int))) (ρ := ((List Int) ⊕ Str)) (fun (at10 : (Int × Int)) (s11 : ((List Int))) => ((((pure s5.1) >>= fun a => ((pure at10.1) >>= fun a => (pure (1 : Int)) >>= fun b => pure (a - b)) >>= fun b => atM a b) >>= fun a => (pure (1 : Int)) >>= fun b => pure (a + b)) >>= fun (out12 : Int) => ((pure at10.2) >>= fun a => (pure out12) >>= fun b => setM s11 b a >>= fun (net13 : (List Int)) => ((pure out12) >>= fun a => (pure at10.2) >>= fun b => setM net13 b a >>= fun (net14 : (List Int)) => (pure (.nx (net14))))))) xs (net9) >>= fun c => thenL c (fun (s11 : ((List Int))) => (pure (.rt (.inl s11)))))))))))) : M (Ctl Unit Empty ((List Int) ⊕ Str)))) (p0, ()))
def mir_choice_by (p0 : Str) (p1 : (List Int)) : M (List Int) := runC ((fun (ar : Str × (List Int) × Unit) => (((((pure ar.1) >>= fun a => (pure ()) >>= fun b => pure (a, b)) >>= fun a => mir_letters_of a.1) >>= fun (letters1 : Str) => ((((((pure ar.1) >>= fun a => (pure ()) >>= fun b => pure (a, b)) >>= fun a => mir_place_order a.1) >>= fun a => pure (a.cps.toList.map sgS)) >>= fun xs => compM xs (fun (letter2 : Str) => (pure true)) (fun (letter2 : Str) => ((pure ar.2.1) >>= fun a => ((pure letters1) >>= fun x => ((pure letter2) >>= fun a => (pure ()) >>= fun b => pure (a, b)) >>= fun y => pure (Txt.find x y.1)) >>= fun b => atM a b))) >>= fun r => pure (.rt r))) : M (Ctl Unit Empty (List Int)))) (p0, p1, ()))
def mir__law_cell (p0 : Scr) (p1 : Int) : M Int := runC ((fun (ar : Scr × Int × Unit) => (((((pure ar.2.1) >>= fun a => (pure (1 : Int)) >>= fun b => pure (a + b)) >>= fun b => pure ((7919 : Int) * b)) >>= fun (cell_here1 : Int) => (((pure ar.2.1) >>= fun a => ((pure ar.1) >>= fun a => pure (a.l.length : Int)) >>= fun b => pure (decide (a < b))) >>= fun x => ((if x then (((pure cell_here1) >>= fun a => ((pure ar.1) >>= fun a => (pure ar.2.1) >>= fun b => atM a.l b) >>= fun b => pure (a + b)) >>= fun (cell_here3 : Int) => (pure (.nx (cell_here3)))) else (pure (.nx (cell_here1)))) : M (Ctl (Int) Empty Int)) >>= fun y => thenC y (fun (s2 : (Int)) => (((((((pure s2) >>= fun a => pure (a % (1000000000039 : Int))) >>= fun a => pure (a * (48271 : Int))) >>= fun a => pure (a % (2147483647 : Int))) >>= fun a => pure (a * (69621 : Int))) >>= fun a => pure (a % (2147483629 : Int))) >>= fun r => pure (.rt r))))) : M (Ctl Unit Empty Int))) (p0, p1, ()))
def mir__law_ends (p0 : (List Int)) (p1 : Int) : M Bool := runC ((fun (ar : (List Int) × Int × Unit) => (((bOr (bNot ((pure ar.1) >>= fun _ => pure true)) (((pure ar.1) >>= fun a => pure (a.length : Int)) >>= fun a => (pure ar.2.1) >>= fun b => pure (!decide (a = b)))) >>= fun x => if x then ((((pure false) >>= fun r => pure (.rt r)) : M (Ctl Empty Empty Bool)) >>= fun y => thenC y nofun) else ((((pure ar.1) >>= fun xs => compM xs (fun (end1 : Int) => (pure true)) (fun (end1 : Int) => (bAnd ((pure end1) >>= fun _ => pure true) (bNot ((pure end1) >>= fun _ => pure false))))) >>= fun a => pure (a.all id)) >>= fun r => pure (.rt r))) : M (Ctl Unit Empty Bool))) (p0, p1, ()))
def mir__law_row (p0 : Scr) (p1 : Int) (p2 : Int) : M (List Int) := runC ((fun (ar : Scr × Int × Int × Unit) => ((((((pure ar.2.2.1) >>= fun b => pure ((2 : Int) * b)) >>= fun a => range1 a) >>= fun xs => compM xs (fun (k1 : Int) => (pure true)) (fun (k1 : Int) => ((pure k1) >>= fun a => pure (a / (2 : Int))))) >>= fun (left2 : (List Int)) => (((((pure ar.1) >>= fun a => ((pure ar.2.1) >>= fun a => (pure ()) >>= fun b => pure (a, b)) >>= fun b => pure (a, b)) >>= fun a => mir__law_cell a.1 a.2.1) >>= fun a => pure (a % (1000003 : Int))) >>= fun (number3 : Int) => (((pure ([] : List Int)) >>= fun a => lstM a) >>= fun (row_here4 : (List Int)) => ((((pure ar.2.2.1) >>= fun b => pure ((2 : Int) * b)) >>= fun a => range1 a) >>= fun xs => loopM (S := (Int × (List Int) × (List Int))) (ρ := (List Int)) (fun (k5 : Int) (s6 : (Int × (List Int) × (List Int))) => (((((pure s6.1) >>= fun a => pure (a * (48271 : Int))) >>= fun a => (((pure ar.1) >>= fun a => ((((pure ar.2.1) >>= fun a => (pure (1 : Int)) >>= fun b => pure (a + b)) >>= fun a => (pure k5) >>= fun b => pure (a + b)) >>= fun a => (pure ()) >>= fun b => pure (a, b)) >>= fun b => pure (a, b)) >>= fun a => mir__law_cell a.1 a.2.1) >>= fun b => pure (a + b)) >>= fun a => pure (a % (2147483647 : Int))) >>= fun (number7 : Int) => (((((pure number7) >>= fun a => pure (a / (16 : Int))) >>= fun a => ((pure s6.2.2) >>= fun a => pure (a.length : Int)) >>= fun b => modM a b) >>= fun j => popAtM s6.2.2 j) >>= fun (q9 : Int × (List Int)) => appM s6.2.1 q9.1 >>= fun (row_here8 : (List Int)) => (pure (.nx (number7, row_here8, q9.2)))))) xs (number3, row_here4, left2) >>= fun c => thenL c (fun (s6 : (Int × (List Int) × (List Int))) => (pure (.rt s6.2.1))))))) : M (Ctl Unit Empty (List Int)))) (p0, p1, p2, ()))
def mir__law_letters (p0 : Int) (p1 : Int) : M Str := runC ((fun (ar : Int × Int × Unit) => (((pure ("abcdefghijklmnopqrstuvwxyz" : Str)) >>= fun (left1 : Str) => ((pure ("" : Str)) >>= fun (found2 : Str) => (((pure ar.2.1) >>= fun a => range1 a) >>= fun xs => loopM (S := (Int × Str × Str)) (ρ := Str) (fun (k3 : Int) (s4 : (Int × Str × Str)) => (((pure s4.1) >>= fun a => ((pure s4.2.2) >>= fun a => lenS a) >>= fun b => modM a b) >>= fun (at5 : Int) => ((((pure s4.1) >>= fun a => ((pure s4.2.2) >>= fun a => lenS a) >>= fun b => divM a b) >>= fun a => ((pure k3) >>= fun b => pure ((7 : Int) * b)) >>= fun b => pure (a + b)) >>= fun (cell_here6 : Int) => (((pure s4.2.1) >>= fun a => ((pure s4.2.2) >>= fun a => (pure at5) >>= fun b => atS a b) >>= fun b => addSM a b) >>= fun (found7 : Str) => ((((pure s4.2.2) >>= fun a => (pure none) >>= fun l => ((pure at5) >>= fun i => pure (some i)) >>= fun u => cutSM a l u) >>= fun a => ((pure s4.2.2) >>= fun a => (((pure at5) >>= fun a => (pure (1 : Int)) >>= fun b => pure (a + b)) >>= fun i => pure (some i)) >>= fun l => (pure none) >>= fun u => cutSM a l u) >>= fun b => addSM a b) >>= fun (left8 : Str) => (pure (.nx (cell_here6, found7, left8)))))))) xs (ar.1, found2, left1) >>= fun c => thenL c (fun (s4 : (Int × Str × Str)) => ((pure s4.2.1) >>= fun r => pure (.rt r)))))) : M (Ctl Unit Empty Str))) (p0, p1, ()))
def mir__law_other_place (p0 : Str) (p1 : Int) : M Int := runC ((fun (ar : Str × Int × Unit) => ((((pure ar.1) >>= fun x => (((pure ar.1) >>= fun a => (pure ar.2.1) >>= fun b => atS a b) >>= fun a => (pure ()) >>= fun b => pure (a, b)) >>= fun y => pure (Txt.find x y.1)) >>= fun (there1 : Int) => (((pure there1) >>= fun a => (pure ar.2.1) >>= fun b => pure (!decide (a = b))) >>= fun x => if x then ((((pure there1) >>= fun r => pure (.rt r)) : M (Ctl Empty Empty Int)) >>= fun y => thenC y nofun) else (((pure ar.1) >>= fun x => (((pure ar.1) >>= fun a => (pure ar.2.1) >>= fun b => atS a b) >>= fun a => (pure ()) >>= fun b => pure (a, b)) >>= fun y => pure (Txt.rfind x y.1)) >>= fun r => pure (.rt r)))) : M (Ctl Unit Empty Int))) (p0, p1, ()))
def mir__law_next (p0 : Str) (p1 : (Dc Str Int)) (p2 : Int) (p3 : Bool) : M (Int × Bool) := runC ((fun (ar : Str × (Dc Str Int) × Int × Bool × Unit) => ((((pure ar.2.1) >>= fun a => ((pure ar.1) >>= fun a => (pure ar.2.2.1) >>= fun b => atS a b) >>= fun b => dgetM a b) >>= fun (way1 : Int) => (((pure way1) >>= fun a => (pure (0 : Int)) >>= fun b => pure (decide (a = b))) >>= fun x => if x then (((((pure ar.2.2.1) >>= fun a => (pure ar.2.2.2.1) >>= fun b => pure (a, b)) >>= fun r => pure (.rt r)) : M (Ctl Empty Empty (Int × Bool))) >>= fun y => thenC y nofun) else (((pure way1) >>= fun a => (pure (1 : Int)) >>= fun b => pure (decide (a = b))) >>= fun x => if x then (((((((pure ar.1) >>= fun a => ((pure ar.2.2.1) >>= fun a => (pure ()) >>= fun b => pure (a, b)) >>= fun b => pure (a, b)) >>= fun a => mir__law_other_place a.1 a.2.1) >>= fun a => (bNot (pure ar.2.2.2.1)) >>= fun b => pure (a, b)) >>= fun r => pure (.rt r)) : M (Ctl Empty Empty (Int × Bool))) >>= fun y => thenC y nofun) else (((((pure ar.1) >>= fun a => ((pure ar.2.2.1) >>= fun a => (pure ()) >>= fun b => pure (a, b)) >>= fun b => pure (a, b)) >>= fun a => mir__law_other_place a.1 a.2.1) >>= fun a => (pure ar.2.2.2.1) >>= fun b => pure (a, b)) >>= fun r => pure (.rt r))))) : M (Ctl Unit Empty (Int × Bool)))) (p0, p1, p2, p3, ()))
def mir__law_many (p0 : Str) (p1 : (Dc Str Int)) : M Int := runC ((fun (ar : Str × (Dc Str Int) × Unit) => (((pure (⟨[]⟩ : Sb)) >>= fun (gone1 : Sb) => ((pure (0 : Int)) >>= fun (many_here2 : Int) => ((((pure ar.1) >>= fun a => lenS a) >>= fun a => range1 a) >>= fun xs => loopM (S := (Int × Sb)) (ρ := Int) (fun (at3 : Int) (s4 : (Int × Sb)) => (((((pure true) >>= fun a => ((pure false) >>= fun a => (pure ([] : List Bool)) >>= fun b => pure (a :: b)) >>= fun b => pure (a :: b)) >>= fun a => lstM a >>= fun b => pure (Tu.mk b)) >>= fun a => pure a.l) >>= fun xs => loopM (S := (Int × Sb)) (ρ := Int) (fun (onward5 : Bool) (s6 : (Int × Sb)) => ((pure at3) >>= fun (here7 : Int) => ((pure onward5) >>= fun (going8 : Bool) => (((pure s6.1) >>= fun a => ((((pure at3) >>= fun a => (pure onward5) >>= fun b => pure (⟨(a, b)⟩ : Kb)) >>= fun a => (pure s6.2) >>= fun b => pure (!decide (a.k ∈ b.l))) >>= fun a => pure (if a then (1 : Int) else 0)) >>= fun b => pure (a + b)) >>= fun (many_here9 : Int) => (whileM (S := (Sb × Bool × Int)) (ρ := Int) (fun (s10 : (Sb × Bool × Int)) => (((pure s10.2.2) >>= fun a => (pure s10.2.1) >>= fun b => pure (⟨(a, b)⟩ : Kb)) >>= fun a => (pure s10.1) >>= fun b => pure (!decide (a.k ∈ b.l)))) (fun (s10 : (Sb × Bool × Int)) => ((pure true) >>= fun a => ((pure s10.2.2) >>= fun a => (pure s10.2.1) >>= fun b => pure (⟨(a, b)⟩ : Kb)) >>= fun b => bputM s10.1 b a >>= fun (gone11 : Sb) => ((((pure ar.1) >>= fun a => ((pure ar.2.1) >>= fun a => ((pure s10.2.2) >>= fun a => ((pure s10.2.1) >>= fun a => (pure ()) >>= fun b => pure (a, b)) >>= fun b => pure (a, b)) >>= fun b => pure (a, b)) >>= fun b => pure (a, b)) >>= fun a => mir__law_next a.1 a.2.1 a.2.2.1 a.2.2.2.1) >>= fun (u12 : (Int × Bool)) => ((((pure u12.1) >>= fun a => (pure (1 : Int)) >>= fun b => pure (a + b)) >>= fun a => ((pure ar.1) >>= fun a => lenS a) >>= fun b => modM a b) >>= fun (back13 : Int) => ((bNot (pure u12.2)) >>= fun x => ((if x then ((((pure u12.1) >>= fun a => (pure (1 : Int)) >>= fun b => pure (a - b)) >>= fun a => ((pure ar.1) >>= fun a => lenS a) >>= fun b => modM a b) >>= fun (back15 : Int) => (pure (.nx (back15)))) else (pure (.nx (back13)))) : M (Ctl (Int) (Sb × Bool × Int) Int)) >>= fun y => thenC y (fun (s14 : (Int)) => ((pure s14) >>= fun (here16 : Int) => (pure (.nx (gone11, u12.2, here16)))))))))) 1000 (s6.2, going8, here7) >>= fun c => thenL c (fun (s10 : (Sb × Bool × Int)) => (pure (.nx (many_here9, s10.1))))))))) xs (s4.1, s4.2) >>= fun c => thenL c (fun (s6 : (Int × Sb)) => (pure (.nx (s6.1, s6.2)))))) xs (many_here2, gone1) >>= fun c => thenL c (fun (s4 : (Int × Sb)) => (((pure s4.1) >>= fun a => pure (a / (2 : Int))) >>= fun r => pure (.rt r)))))) : M (Ctl Unit Empty Int))) (p0, p1, ()))
def mir_law (p0 : Scr) : M Bool := runC ((fun (ar : Scr × Unit) => ((((pure (1 : Int)) >>= fun a => ((((pure ar.1) >>= fun a => ((pure (0 : Int)) >>= fun a => (pure ()) >>= fun b => pure (a, b)) >>= fun b => pure (a, b)) >>= fun a => mir__law_cell a.1 a.2.1) >>= fun a => pure (a % (10 : Int))) >>= fun b => pure (a + b)) >>= fun (n1 : Int) => ((((((pure ar.1) >>= fun a => ((pure (1 : Int)) >>= fun a => (pure ()) >>= fun b => pure (a, b)) >>= fun b => pure (a, b)) >>= fun a => mir__law_cell a.1 a.2.1) >>= fun a => ((pure n1) >>= fun a => (pure ()) >>= fun b => pure (a, b)) >>= fun b => pure (a, b)) >>= fun a => mir__law_letters a.1 a.2.1) >>= fun (letters_here2 : Str) => ((((pure ar.1) >>= fun a => ((pure (2 : Int)) >>= fun a => ((pure n1) >>= fun a => (pure ()) >>= fun b => pure (a, b)) >>= fun b => pure (a, b)) >>= fun b => pure (a, b)) >>= fun a => mir__law_row a.1 a.2.1 a.2.2.1) >>= fun (row_here3 : (List Int)) => (((pure ("" : Str)) >>= fun x => (((pure row_here3) >>= fun xs => compM xs (fun (place4 : Int) => (pure true)) (fun (place4 : Int) => ((pure letters_here2) >>= fun a => (pure place4) >>= fun b => atS a b))) >>= fun a => (pure ()) >>= fun b => pure (a, b)) >>= fun y => joinM x y.1) >>= fun (word5 : Str) => ((((pure n1) >>= fun a => range1 a) >>= fun xs => compM xs (fun (k6 : Int) => (pure true)) (fun (k6 : Int) => ((((pure ar.1) >>= fun a => (((pure (30 : Int)) >>= fun a => (pure k6) >>= fun b => pure (a + b)) >>= fun a => (pure ()) >>= fun b => pure (a, b)) >>= fun b => pure (a, b)) >>= fun a => mir__law_cell a.1 a.2.1) >>= fun a => pure (a % (3 : Int))))) >>= fun (choice7 : (List Int)) => ((pure (⟨[]⟩ : (Dc Str Int))) >>= fun (ways8 : (Dc Str Int)) => ((((pure letters_here2) >>= fun a => sortXM a) >>= fun a => pure (enumL a)) >>= fun xs => loopM (S := ((Dc Str Int))) (ρ := Bool) (fun (k9 : (Int × Str)) (s10 : ((Dc Str Int))) => (((pure choice7) >>= fun a => (pure k9.1) >>= fun b => atM a b) >>= fun a => (pure k9.2) >>= fun b => dputM s10 b a >>= fun (ways11 : (Dc Str Int)) => (pure (.nx (ways11))))) xs (ways8) >>= fun c => thenL c (fun (s10 : ((Dc Str Int))) => (((pure ([] : List Str)) >>= fun a => lstM a) >>= fun (order12 : (List Str)) => (((pure word5) >>= fun a => pure (a.cps.toList.map sgS)) >>= fun xs => loopM (S := ((List Str))) (ρ := Bool) (fun (letter13 : Str) (s14 : ((List Str))) => (((pure letter13) >>= fun a => (pure s14) >>= fun b => pure (!decide (a ∈ b))) >>= fun x => if x then ((pure letter13) >>= fun a => appM s14 a >>= fun (order15 : (List Str)) => (pure (.nx (order15)))) else (pure (.nx (s14))))) xs (order12) >>= fun c => thenL c (fun (s14 : ((List Str))) => (((pure choice7) >>= fun a => pure a) >>= fun (handed16 : (List Int)) => ((((pure word5) >>= fun a => ((pure handed16) >>= fun a => (pure ()) >>= fun b => pure (a, b)) >>= fun b => pure (a, b)) >>= fun a => mir_choice_by a.1 a.2.1) >>= fun (found17 : (List Int)) => ((bOr (bNot (((pure found17) >>= fun a => ((pure n1) >>= fun a => (pure ()) >>= fun b => pure (a, b)) >>= fun b => pure (a, b)) >>= fun a => mir__law_ends a.1 a.2.1)) (bOr ((pure found17) >>= fun a => ((pure s14) >>= fun xs => compM xs (fun (letter18 : Str) => (pure true)) (fun (letter18 : Str) => ((pure s10) >>= fun a => (pure letter18) >>= fun b => dgetM a b))) >>= fun b => neM a b) ((pure handed16) >>= fun a => (pure choice7) >>= fun b => neM a b))) >>= fun x => if x then ((((pure false) >>= fun r => pure (.rt r)) : M (Ctl Empty Empty Bool)) >>= fun y => thenC y nofun) else ((pure (7 : Int)) >>= fun a => (pure (0 : Int)) >>= fun b => setM found17 b a >>= fun (found19 : (List Int)) => ((((pure word5) >>= fun a => ((pure handed16) >>= fun a => (pure ()) >>= fun b => pure (a, b)) >>= fun b => pure (a, b)) >>= fun a => mir_choice_by a.1 a.2.1) >>= fun (found20 : (List Int)) => ((bOr (bNot (((pure found20) >>= fun a => ((pure n1) >>= fun a => (pure ()) >>= fun b => pure (a, b)) >>= fun b => pure (a, b)) >>= fun a => mir__law_ends a.1 a.2.1)) ((pure found20) >>= fun a => ((pure s14) >>= fun xs => compM xs (fun (letter21 : Str) => (pure true)) (fun (letter21 : Str) => ((pure s10) >>= fun a => (pure letter21) >>= fun b => dgetM a b))) >>= fun b => neM a b)) >>= fun x => if x then ((((pure false) >>= fun r => pure (.rt r)) : M (Ctl Empty Empty Bool)) >>= fun y => thenC y nofun) else ((bOr ((pure n1) >>= fun a => (pure (8 : Int)) >>= fun b => pure (decide (b < a))) ((((((pure word5) >>= fun a => (pure ()) >>= fun b => pure (a, b)) >>= fun a => mir_net_by a.1 >>= fun r => noX r) >>= fun a => ((pure found20) >>= fun a => (pure ()) >>= fun b => pure (a, b)) >>= fun b => pure (a, b)) >>= fun a => mir_many_rounds a.1 a.2.1) >>= fun a => (((pure word5) >>= fun a => ((pure s10) >>= fun a => (pure ()) >>= fun b => pure (a, b)) >>= fun b => pure (a, b)) >>= fun a => mir__law_many a.1 a.2.1) >>= fun b => pure (decide (a = b)))) >>= fun r => pure (.rt r))))))))))))))))))) : M (Ctl Unit Empty Bool))) (p0, ()))
/-! ### the text -/
def top (i : Nat) : Stmt := PySem.Challenge.pw_fourway_k20_choices_of_words.main.body.getD i (.Pass ⟨0, 0, 0, 0⟩)
abbrev FnP (K : PySem.W.Frag) (x : Str) (st : Stmt) (f : Addr) (fd : FuncData) : Prop := FunD K x x (defArgs st) (defBody st) (defScope st) [] [] f fd
structure Txt (K : PySem.W.Frag) (mg : Str → Option Value) : Prop where
  n_all : mg "all" = none
  n_bool : mg "bool" = none
  n_divmod : mg "divmod" = none
  n_enumerate : mg "enumerate" = none
  n_int : mg "int" = none
  n_isinstance : mg "isinstance" = none
  n_len : mg "len" = none
  n_list : mg "list" = none
  n_range : mg "range" = none
  n_sorted : mg "sorted" = none
  ex : ExF K exN exT
  c_RoundError : mg "RoundError" = some (clv K "RoundError")
  c_TooMany : mg "TooMany" = some (clv K "TooMany")
  g_JOINS : mg "JOINS" = some (.ref (He.ga K "JOINS")) ∧ ∀ H, Rp.sh K H (V.ref (He.ga K "JOINS")) cst_JOINS
  g_NAMES : ∃ t, mg "NAMES" = some (.str ("abcdefgh" : Str) t)
  g_SMALL : ∃ t, mg "SMALL" = some (.str ("abcdefghijklmnopqrstuvwxyz" : Str) t)
section
variable {P : Program} {w : World} {K : PySem.W.Frag} {mg : Str → Option Value} {base : Heap}
set_option maxHeartbeats 4000000
abbrev s_joined : Stmt := top 5
theorem sc_joined : FnScope ["way", "seat"] ["way", "seat"] (defScope s_joined) := ⟨rfl, rfl, rfl, by decide +kernel, rfl, by decide +kernel, by decide +kernel⟩
abbrev sp_joined (K : PySem.W.Frag) : Sp := spF K (As.cons (α := Int) (As.cons (α := Int) As.nil)) (Ow.v : Ow Int) (fun a => mir_joined a.1 a.2.1)
theorem ok0_joined (T : Txt K mg) {f : Addr} {fd : FuncData} (F : FnP K "joined" s_joined f fd)  : FnOk P w K mg base CX0 1 f fd ["way", "seat"] (sp_joined K) := by
  refine fn_okD (r := (As.cons (α := Int) (As.cons (α := Int) As.nil))) (o := Ow.v) (m := fun ar => ((((pure cst_JOINS) >>= fun a => (pure ar.1) >>= fun b => atM a.l b) >>= fun a => (pure ar.2.1) >>= fun b => atM a.l b) >>= fun r => pure (.rt r))) F sc_joined rfl rfl (fun cdv A' outer s H E hr ar => ?_)
  exact ⟨_, (ss_ret (ex_ixTu (K := K) (ex_ixTu (K := K) (ex_gtu (K := K) T.g_JOINS) (ex_var 0)) (ex_var 1)))⟩
theorem ok_joined (T : Txt K mg) {f : Addr} {fd : FuncData} (F : FnP K "joined" s_joined f fd) (hm : mg "joined" = some (.ref f))  : Has P w K mg base "joined" 1 ["way", "seat"] (sp_joined K) :=
  ⟨f, fd, ok0_joined T F , hm, F.kp, F.bindsN fun _ _ _ _ _ _ us hl => match us, hl with | [_, _], _ => rfl⟩
abbrev s_partner : Stmt := top 7
theorem sc_partner : FnScope ["choice", "end", "place", "seat"] ["choice", "end"] (defScope s_partner) := ⟨rfl, rfl, rfl, by decide +kernel, rfl, by decide +kernel, by decide +kernel⟩
abbrev sp_partner (K : PySem.W.Frag) : Sp := spF K (As.cons (α := (List Int)) (As.cons (α := Int) As.nil)) (Ow.v : Ow Int) (fun a => mir_partner a.1 a.2.1)
theorem ok0_partner (T : Txt K mg) {f : Addr} {fd : FuncData} (F : FnP K "partner" s_partner f fd) (H_joined : Has P w K mg base "joined" 1 ["way", "seat"] (sp_joined K)) : FnOk P w K mg base CX0 2 f fd ["choice", "end"] (sp_partner K) := by
  obtain ⟨f_joined, fd_joined, F_joined, m_joined, k_joined, b_joined⟩ := H_joined
  refine fn_okD (r := (As.cons (α := (List Int)) (As.cons (α := Int) As.nil))) (o := Ow.v) (m := fun ar => (((pure ar.2.1) >>= fun a => (pure (4 : Int)) >>= fun b => dmM a b) >>= fun (u1 : (Int × Int)) => ((((pure u1.1) >>= fun b => pure ((4 : Int) * b)) >>= fun a => ((((pure ar.1) >>= fun a => (pure u1.1) >>= fun b => atM a b) >>= fun a => ((pure u1.2) >>= fun a => (pure ()) >>= fun b => pure (a, b)) >>= fun b => pure (a, b)) >>= fun a => mir_joined a.1 a.2.1) >>= fun b => pure (a + b)) >>= fun r => pure (.rt r)))) F sc_partner rfl rfl (fun cdv A' outer s H E hr ar => ?_)
  have hr_joined := hr.mono (show 1 ≤ 1 by decide)
  exact ⟨_, (ss_asgT (ex_frz (ex_divmod T.n_divmod (ex_var 1) ex_int)) (fun u1 => (eg_pair (K := K) rfl (eg_name 2 sc_partner.nd) (eg_name 3 sc_partner.nd))) (fun u1 => (ss_ret (ex_add (ex_cmul (ex_var 2)) (ex_call F_joined hr_joined m_joined k_joined b_joined (ea_cons (ex_ixL (K := K) (ex_var 0) (ex_var 2)) (ea_cons (ex_var 3) ea_nil)))))))⟩
theorem ok_partner (T : Txt K mg) {f : Addr} {fd : FuncData} (F : FnP K "partner" s_partner f fd) (hm : mg "partner" = some (.ref f)) (H_joined : Has P w K mg base "joined" 1 ["way", "seat"] (sp_joined K)) : Has P w K mg base "partner" 2 ["choice", "end"] (sp_partner K) :=
  ⟨f, fd, ok0_partner T F H_joined, hm, F.kp, F.bindsN fun _ _ _ _ _ _ us hl => match us, hl with | [_, _], _ => rfl⟩
abbrev s_round_of : Stmt := top 8
theorem sc_round_of : FnScope ["net", "choice", "end", "ends", "here"] ["net", "choice", "end"] (defScope s_round_of) := ⟨rfl, rfl, rfl, by decide +kernel, rfl, by decide +kernel, by decide +kernel⟩
abbrev sp_round_of (K : PySem.W.Frag) : Sp := spF K (As.cons (α := (List Int)) (As.cons (α := (List Int)) (As.cons (α := Int) As.nil))) ((Ow.l Ow.v) : Ow (List Int)) (fun a => mir_round_of a.1 a.2.1 a.2.2.1)
theorem ok0_round_of (T : Txt K mg) {f : Addr} {fd : FuncData} (F : FnP K "round_of" s_round_of f fd) (H_partner : Has P w K mg base "partner" 2 ["choice", "end"] (sp_partner K)) : FnOk P w K mg base CX0 3 f fd ["net", "choice", "end"] (sp_round_of K) := by
  obtain ⟨f_partner, fd_partner, F_partner, m_partner, k_partner, b_partner⟩ := H_partner
  refine fn_okD (r := (As.cons (α := (List Int)) (As.cons (α := (List Int)) (As.cons (α := Int) As.nil)))) (o := (Ow.l Ow.v)) (m := fun ar => ((((pure ar.2.2.1) >>= fun a => ((((pure ar.2.1) >>= fun a => ((pure ar.2.2.1) >>= fun a => (pure ()) >>= fun b => pure (a, b)) >>= fun b => pure (a, b)) >>= fun a => mir_partner a.1 a.2.1) >>= fun a => (pure ([] : List Int)) >>= fun b => pure (a :: b)) >>= fun b => pure (a :: b)) >>= fun a => lstM a) >>= fun (ends1 : (List Int)) => (((pure ar.1) >>= fun a => ((pure ends1) >>= fun a => ((pure (1 : Int)) >>= fun a => pure (-a)) >>= fun b => atM a b) >>= fun b => atM a b) >>= fun (here2 : Int) => (whileM (S := ((List Int) × Int)) (ρ := (List Int)) (fun (s3 : ((List Int) × Int)) => ((pure s3.2) >>= fun a => (pure ar.2.2.1) >>= fun b => pure (!decide (a = b)))) (fun (s3 : ((List Int) × Int)) => ((pure s3.2) >>= fun a => appM s3.1 a >>= fun (ends4 : (List Int)) => ((((pure ar.2.1) >>= fun a => ((pure s3.2) >>= fun a => (pure ()) >>= fun b => pure (a, b)) >>= fun b => pure (a, b)) >>= fun a => mir_partner a.1 a.2.1) >>= fun a => appM ends4 a >>= fun (ends5 : (List Int)) => (((pure ar.1) >>= fun a => ((pure ends5) >>= fun a => ((pure (1 : Int)) >>= fun a => pure (-a)) >>= fun b => atM a b) >>= fun b => atM a b) >>= fun (here6 : Int) => (pure (.nx (ends5, here6))))))) 1000 (ends1, here2) >>= fun c => thenL c (fun (s3 : ((List Int) × Int)) => (pure (.rt s3.1))))))) F sc_round_of rfl rfl (fun cdv A' outer s H E hr ar => ?_)
  have hr_partner := hr.mono (show 2 ≤ 2 by decide)
  exact ⟨_, (ss_asg 3 sc_round_of.nd (ex_lst (el_cons (ex_var 2) (el_cons (ex_call F_partner hr_partner m_partner k_partner b_partner (ea_cons (ex_var 1) (ea_cons (ex_var 2) ea_nil))) (el_nil (o := Ow.v))))) (fun ends1 => (ss_asg 4 sc_round_of.nd (ex_view (ex_ixL (K := K) (ex_var 0) (ex_ixL (K := K) (ex_var 3) (ex_neg ex_int)))) (fun here2 => (ss_while (Γs := (fun (s3 : ((List Int) × Int)) => [.mk Ow.v ar.1, .mk Ow.v ar.2.1, .mk Ow.v ar.2.2.1, .mk (Ow.l Ow.v) (s3.1 : (List Int)), .mk Ow.v (s3.2 : Int)])) 1000 (ends1, here2) PassesOwn.never (.k (.k (.k (.k (.k .n))))) (fun s3 => (et_c (ec_ne (ex_var 4) (ex_var 2)))) (fun s3 => (ss_app 3 (ex_var 4) (fun ends4 => (ss_app 3 (ex_call F_partner hr_partner m_partner k_partner b_partner (ea_cons (ex_var 1) (ea_cons (ex_var 4) ea_nil))) (fun ends5 => (ss_asg 4 sc_round_of.nd (ex_view (ex_ixL (K := K) (ex_var 0) (ex_ixL (K := K) (ex_var 3) (ex_neg ex_int)))) (fun here6 => (ss_nil (ends5, here6) (.k (.k (.k (.k (.k .n))))))))))))) (fun s3 => (ss_retO 3)))))))⟩
theorem ok_round_of (T : Txt K mg) {f : Addr} {fd : FuncData} (F : FnP K "round_of" s_round_of f fd) (hm : mg "round_of" = some (.ref f)) (H_partner : Has P w K mg base "partner" 2 ["choice", "end"] (sp_partner K)) : Has P w K mg base "round_of" 3 ["net", "choice", "end"] (sp_round_of K) :=
  ⟨f, fd, ok0_round_of T F H_partner, hm, F.kp, F.bindsN fun _ _ _ _ _ _ us hl => match us, hl with | [_, _, _], _ => rfl⟩
abbrev s_rounds_of : Stmt := top 9
theorem sc_rounds_of : FnScope ["net", "choice", "met", "found", "end", "ends", "one"] ["net", "choice"] (defScope s_rounds_of) := ⟨rfl, rfl, rfl, by decide +kernel, rfl, by decide +kernel, by decide +kernel⟩
abbrev sp_rounds_of (K : PySem.W.Frag) : Sp := spF K (As.cons (α := (List Int)) (As.cons (α := (List Int)) As.nil)) ((Ow.l (Ow.l Ow.v)) : Ow (List (List Int))) (fun a => mir_rounds_of a.1 a.2.1)
theorem ok0_rounds_of (T : Txt K mg) {f : Addr} {fd : FuncData} (F : FnP K "rounds_of" s_rounds_of f fd) (H_round_of : Has P w K mg base "round_of" 3 ["net", "choice", "end"] (sp_round_of K)) : FnOk P w K mg base CX0 4 f fd ["net", "choice"] (sp_rounds_of K) := by
  obtain ⟨f_round_of, fd_round_of, F_round_of, m_round_of, k_round_of, b_round_of⟩ := H_round_of
  refine fn_okD (r := (As.cons (α := (List Int)) (As.cons (α := (List Int)) As.nil))) (o := (Ow.l (Ow.l Ow.v))) (m := fun ar => ((pure (⟨[]⟩ : (Dc Int Bool))) >>= fun (met1 : (Dc Int Bool)) => (((pure ([] : List (List Int))) >>= fun a => lstM a) >>= fun (found2 : (List (List Int))) => ((((pure ar.1) >>= fun a => pure (a.length : Int)) >>= fun a => range1 a) >>= fun xs => loopM (S := ((Dc Int Bool) × (List (List Int)))) (ρ := (List (List Int))) (fun (end3 : Int) (s4 : ((Dc Int Bool) × (List (List Int)))) => (((pure end3) >>= fun a => (pure s4.1) >>= fun b => pure (!dhas b a)) >>= fun x => if x then ((((pure ar.1) >>= fun a => ((pure ar.2.1) >>= fun a => ((pure end3) >>= fun a => (pure ()) >>= fun b => pure (a, b)) >>= fun b => pure (a, b)) >>= fun b => pure (a, b)) >>= fun a => mir_round_of a.1 a.2.1 a.2.2.1) >>= fun (ends5 : (List Int)) => ((pure true) >>= fun a => putAllM s4.1 ends5 a >>= fun (met6 : (Dc Int Bool)) => (appM s4.2 ends5 >>= fun (found7 : (List (List Int))) => (pure (.nx (met6, found7)))))) else (pure (.nx (s4.1, s4.2))))) xs (met1, found2) >>= fun c => thenL c (fun (s4 : ((Dc Int Bool) × (List (List Int)))) => (pure (.rt s4.2))))))) F sc_rounds_of rfl rfl (fun cdv A' outer s H E hr ar => ?_)
  have hr_round_of := hr.mono (show 3 ≤ 3 by decide)
  exact ⟨_, (ss_asg 2 sc_rounds_of.nd ex_dnew (fun met1 => (ss_asg 3 sc_rounds_of.nd (ex_lst (el_nil (o := (Ow.l Ow.v)))) (fun found2 => (ss_for (Γs := (fun (s4 : ((Dc Int Bool) × (List (List Int)))) => [.mk Ow.v ar.1, .mk Ow.v ar.2.1, .mk (Ow.d (κ := Int) (β := Bool)) (s4.1 : (Dc Int Bool)), .mk (Ow.l (Ow.l Ow.v)) (s4.2 : (List (List Int))), .un, .un, .un])) (met1, found2) rfl PassesOwn.never (ei_range1 T.n_range (ex_lenL (K := K) T.n_len (ex_var 0))) (.k (.k (.k (.k (.w (.w (.w .n))))))) (fun s4 end3 => (eg_name 4 sc_rounds_of.nd)) (fun s4 end3 => (ss_ifE (et_view (et_k (ek_dnin hr.units (ex_var 4) (ex_var 2)))) (ss_asg 5 sc_rounds_of.nd (ex_call F_round_of hr_round_of m_round_of k_round_of b_round_of (ea_cons (ex_var 0) (ea_cons (ex_var 1) (ea_cons (ex_var 4) ea_nil)))) (fun ends5 => (ss_forPut (K := K) 5 2 6 sc_rounds_of.nd rfl PassesOwn.never hr.units (fun _ => ex_bl) (fun met6 => (ss_appO 3 5 (fun found7 => (ss_nil (met6, found7) (.k (.k (.k (.k (.w (.w (.w .n)))))))))))))) (ss_nil (s4.1, s4.2) (.k (.k (.k (.k (.w (.w (.w .n)))))))))) (fun s4 => (ss_retO 3)))))))⟩
theorem ok_rounds_of (T : Txt K mg) {f : Addr} {fd : FuncData} (F : FnP K "rounds_of" s_rounds_of f fd) (hm : mg "rounds_of" = some (.ref f)) (H_round_of : Has P w K mg base "round_of" 3 ["net", "choice", "end"] (sp_round_of K)) : Has P w K mg base "rounds_of" 4 ["net", "choice"] (sp_rounds_of K) :=
  ⟨f, fd, ok0_rounds_of T F H_round_of, hm, F.kp, F.bindsN fun _ _ _ _ _ _ us hl => match us, hl with | [_, _], _ => rfl⟩
abbrev s_many_rounds : Stmt := top 10
theorem sc_many_rounds : FnScope ["net", "choice"] ["net", "choice"] (defScope s_many_rounds) := ⟨rfl, rfl, rfl, by decide +kernel, rfl, by decide +kernel, by decide +kernel⟩
abbrev sp_many_rounds (K : PySem.W.Frag) : Sp := spF K (As.cons (α := (List Int)) (As.cons (α := (List Int)) As.nil)) (Ow.v : Ow Int) (fun a => mir_many_rounds a.1 a.2.1)
theorem ok0_many_rounds (T : Txt K mg) {f : Addr} {fd : FuncData} (F : FnP K "many_rounds" s_many_rounds f fd) (H_rounds_of : Has P w K mg base "rounds_of" 4 ["net", "choice"] (sp_rounds_of K)) : FnOk P w K mg base CX0 5 f fd ["net", "choice"] (sp_many_rounds K) := by
  obtain ⟨f_rounds_of, fd_rounds_of, F_rounds_of, m_rounds_of, k_rounds_of, b_rounds_of⟩ := H_rounds_of
  refine fn_okD (r := (As.cons (α := (List Int)) (As.cons (α := (List Int)) As.nil))) (o := Ow.v) (m := fun ar => (((((pure ar.1) >>= fun a => ((pure ar.2.1) >>= fun a => (pure ()) >>= fun b => pure (a, b)) >>= fun b => pure (a, b)) >>= fun a => mir_rounds_of a.1 a.2.1) >>= fun a => pure (a.length : Int)) >>= fun r => pure (.rt r))) F sc_many_rounds rfl rfl (fun cdv A' outer s H E hr ar => ?_)
  have hr_rounds_of := hr.mono (show 4 ≤ 4 by decide)
  exact ⟨_, (ss_ret (ex_lenL (K := K) T.n_len (ex_frz (ex_call F_rounds_of hr_rounds_of m_rounds_of k_rounds_of b_rounds_of (ea_cons (ex_var 0) (ea_cons (ex_var 1) ea_nil))))))⟩
theorem ok_many_rounds (T : Txt K mg) {f : Addr} {fd : FuncData} (F : FnP K "many_rounds" s_many_rounds f fd) (hm : mg "many_rounds" = some (.ref f)) (H_rounds_of : Has P w K mg base "rounds_of" 4 ["net", "choice"] (sp_rounds_of K)) : Has P w K mg base "many_rounds" 5 ["net", "choice"] (sp_many_rounds K) :=
  ⟨f, fd, ok0_many_rounds T F H_rounds_of, hm, F.kp, F.bindsN fun _ _ _ _ _ _ us hl => match us, hl with | [_, _], _ => rfl⟩
abbrev s_letters_of : Stmt := top 13
theorem sc_letters_of : FnScope ["word", "letter"] ["word"] (defScope s_letters_of) := ⟨rfl, rfl, rfl, by decide +kernel, rfl, by decide +kernel, by decide +kernel⟩
abbrev sp_letters_of (K : PySem.W.Frag) : Sp := spF K (As.cons (α := Str) As.nil) (Ow.v : Ow Str) (fun a => mir_letters_of a.1)
theorem ok0_letters_of (T : Txt K mg) {f : Addr} {fd : FuncData} (F : FnP K "letters_of" s_letters_of f fd)  : FnOk P w K mg base CX0 1 f fd ["word"] (sp_letters_of K) := by
  refine fn_okD (r := (As.cons (α := Str) As.nil)) (o := Ow.v) (m := fun ar => (((pure ("" : Str)) >>= fun x => ((((pure ("abcdefghijklmnopqrstuvwxyz" : Str)) >>= fun a => pure (a.cps.toList.map sgS)) >>= fun xs => compM xs (fun (letter1 : Str) => ((pure letter1) >>= fun a => (pure ar.1) >>= fun b => pure (inS a b))) (fun (letter1 : Str) => (pure letter1))) >>= fun a => (pure ()) >>= fun b => pure (a, b)) >>= fun y => joinM x y.1) >>= fun r => pure (.rt r))) F sc_letters_of rfl rfl (fun cdv A' outer s H E hr ar => ?_)
  exact ⟨_, (ss_ret (ex_join (K := K) ex_str (ea_cons (ex_frz (ex_lc rfl sc_letters_of.nd (ei_str (ex_gstr T.g_SMALL)) (own := [("letter", 1)]) (by kernel_rfl) rfl rfl (fun _ _ _ _ _ letter1 => (eg_name 1 sc_letters_of.nd)) (fun _ _ _ _ _ letter1 => (ef_one (et_c (ec_inS (ex_var 1) (ex_var 0))))) (fun _ _ _ _ _ letter1 => (ex_var 1)))) ea_nil)))⟩
theorem ok_letters_of (T : Txt K mg) {f : Addr} {fd : FuncData} (F : FnP K "letters_of" s_letters_of f fd) (hm : mg "letters_of" = some (.ref f))  : Has P w K mg base "letters_of" 1 ["word"] (sp_letters_of K) :=
  ⟨f, fd, ok0_letters_of T F , hm, F.kp, F.bindsN fun _ _ _ _ _ _ us hl => match us, hl with | [_], _ => rfl⟩
abbrev s_place_order : Stmt := top 16
theorem sc_place_order : FnScope ["word", "found", "letter"] ["word"] (defScope s_place_order) := ⟨rfl, rfl, rfl, by decide +kernel, rfl, by decide +kernel, by decide +kernel⟩
abbrev sp_place_order (K : PySem.W.Frag) : Sp := spF K (As.cons (α := Str) As.nil) (Ow.v : Ow Str) (fun a => mir_place_order a.1)
theorem ok0_place_order (T : Txt K mg) {f : Addr} {fd : FuncData} (F : FnP K "place_order" s_place_order f fd)  : FnOk P w K mg base CX0 1 f fd ["word"] (sp_place_order K) := by
  refine fn_okD (r := (As.cons (α := Str) As.nil)) (o := Ow.v) (m := fun ar => ((pure ("" : Str)) >>= fun (found1 : Str) => (((pure ar.1) >>= fun a => pure (a.cps.toList.map sgS)) >>= fun xs => loopM (S := (Str)) (ρ := Str) (fun (letter2 : Str) (s3 : (Str)) => (((pure letter2) >>= fun a => (pure s3) >>= fun b => pure (!inS a b)) >>= fun x => if x then (((pure s3) >>= fun a => (pure letter2) >>= fun b => addSM a b) >>= fun (found4 : Str) => (pure (.nx (found4)))) else (pure (.nx (s3))))) xs (found1) >>= fun c => thenL c (fun (s3 : (Str)) => ((pure s3) >>= fun r => pure (.rt r)))))) F sc_place_order rfl rfl (fun cdv A' outer s H E hr ar => ?_)
  exact ⟨_, (ss_asg 1 sc_place_order.nd ex_str (fun found1 => (ss_for (Γs := (fun (s3 : (Str)) => [.mk Ow.v ar.1, .mk Ow.v (s3 : Str), .un])) (found1) rfl PassesOwn.never (ei_str (ex_var 0)) (.k (.k (.w .n))) (fun s3 letter2 => (eg_name 2 sc_place_order.nd)) (fun s3 letter2 => (ss_ifE (et_c (ec_ninS (ex_var 2) (ex_var 1))) (ss_asg 1 sc_place_order.nd (ex_addS (ex_var 1) (ex_var 2)) (fun found4 => (ss_nil (found4) (.k (.k (.w .n)))))) (ss_nil (s3) (.k (.k (.w .n)))))) (fun s3 => (ss_ret (ex_var 1))))))⟩
theorem ok_place_order (T : Txt K mg) {f : Addr} {fd : FuncData} (F : FnP K "place_order" s_place_order f fd) (hm : mg "place_order" = some (.ref f))  : Has P w K mg base "place_order" 1 ["word"] (sp_place_order K) :=
  ⟨f, fd, ok0_place_order T F , hm, F.kp, F.bindsN fun _ _ _ _ _ _ us hl => match us, hl with | [_], _ => rfl⟩
abbrev s_net_by : Stmt := top 17
theorem sc_net_by : FnScope ["word", "order", "ins", "stood", "letter", "net", "at", "end", "out"] ["word"] (defScope s_net_by) := ⟨rfl, rfl, rfl, by decide +kernel, rfl, by decide +kernel, by decide +kernel⟩
abbrev sp_net_by (K : PySem.W.Frag) : Sp := spX K (As.cons (α := Str) As.nil) ((Ow.l Ow.v) : Ow (List Int)) (fun a => mir_net_by a.1)
theorem ok0_net_by (T : Txt K mg) {f : Addr} {fd : FuncData} (F : FnP K "net_by" s_net_by f fd) (H_place_order : Has P w K mg base "place_order" 1 ["word"] (sp_place_order K)) : FnOk P w K mg base (L2.CX P w) 2 f fd ["word"] (sp_net_by K) := by
  obtain ⟨f_place_order, fd_place_order, F_place_order, m_place_order, k_place_order, b_place_order⟩ := H_place_order
  refine fn_okX (r := (As.cons (α := Str) As.nil)) (o := (Ow.l Ow.v)) (m := fun ar => ((((pure ar.1) >>= fun a => (pure ()) >>= fun b => pure (a, b)) >>= fun a => mir_place_order a.1) >>= fun (order1 : Str) => ((((pure order1) >>= fun a => lenS a) >>= fun a => ((pure ("abcdefgh" : Str)) >>= fun a => lenS a) >>= fun b => pure (decide (b < a))) >>= fun x => if x then (((pure (.rt (.inr "TooMany"))) : M (Ctl Empty Empty ((List Int) ⊕ Str))) >>= fun y => thenC y nofun) else (((pure ([] : List Int)) >>= fun a => lstM a) >>= fun (ins2 : (List Int)) => ((pure (⟨[]⟩ : (Dc Str Int))) >>= fun (stood3 : (Dc Str Int)) => (((pure ar.1) >>= fun a => pure (a.cps.toList.map sgS)) >>= fun xs => loopM (S := ((List Int) × (Dc Str Int))) (ρ := ((List Int) ⊕ Str)) (fun (letter4 : Str) (s5 : ((List Int) × (Dc Str Int))) => (((((pure order1) >>= fun x => ((pure letter4) >>= fun a => (pure ()) >>= fun b => pure (a, b)) >>= fun y => pure (Txt.find x y.1)) >>= fun b => pure ((4 : Int) * b)) >>= fun a => (((pure s5.2) >>= fun a => (pure letter4) >>= fun b => (pure (0 : Int)) >>= fun c => pure ((dget a.l b).getD c)) >>= fun b => pure ((2 : Int) * b)) >>= fun b => pure (a + b)) >>= fun a => appM s5.1 a >>= fun (ins6 : (List Int)) => ((pure (1 : Int)) >>= fun a => (pure letter4) >>= fun b => dputM s5.2 b a >>= fun (stood7 : (Dc Str Int)) => (pure (.nx (ins6, stood7)))))) xs (ins2, stood3) >>= fun c => thenL c (fun (s5 : ((List Int) × (Dc Str Int))) => ((((((pure ar.1) >>= fun a => lenS a) >>= fun b => pure ((2 : Int) * b)) >>= fun a => range1 a) >>= fun xs => compM xs (fun (end8 : Int) => (pure true)) (fun (end8 : Int) => (pure (0 : Int)))) >>= fun (net9 : (List Int)) => (((pure s5.1) >>= fun a => pure (enumL a)) >>= fun xs => loopM (S := ((List Int))) (ρ := ((List Int) ⊕ Str)) (fun (at10 : (Int × Int)) (s11 : ((List Int))) => ((((pure s5.1) >>= fun a => ((pure at10.1) >>= fun a => (pure (1 : Int)) >>= fun b => pure (a - b)) >>= fun b => atM a b) >>= fun a => (pure (1 : Int)) >>= fun b => pure (a + b)) >>= fun (out12 : Int) => ((pure at10.2) >>= fun a => (pure out12) >>= fun b => setM s11 b a >>= fun (net13 : (List Int)) => ((pure out12) >>= fun a => (pure at10.2) >>= fun b => setM net13 b a >>= fun (net14 : (List Int)) => (pure (.nx (net14))))))) xs (net9) >>= fun c => thenL c (fun (s11 : ((List Int))) => (pure (.rt (.inl s11))))))))))))) F sc_net_by rfl rfl (fun cdv A' outer s H E hr ar => ?_)
  have hr_place_order := hr.mono (show 1 ≤ 1 by decide)
  exact ⟨_, (ss_asg 1 sc_net_by.nd (ex_call F_place_order hr_place_order m_place_order k_place_order b_place_order (ea_cons (ex_var 0) ea_nil)) (fun order1 => (ss_ifR (et_c (ec_gt (ex_lenS T.n_len (ex_var 1)) (ex_lenS T.n_len (ex_gstr T.g_NAMES)))) (ss_raise T.ex (by decide) T.c_TooMany (takes_of rfl rfl rfl rfl)) (ss_asg 2 sc_net_by.nd (ex_lst (el_nil (o := Ow.v))) (fun ins2 => (ss_asg 3 sc_net_by.nd ex_dnew (fun stood3 => (ss_for (Γs := (fun (s5 : ((List Int) × (Dc Str Int))) => [.mk Ow.v ar.1, .mk Ow.v order1, .mk (Ow.l Ow.v) (s5.1 : (List Int)), .mk (Ow.d (κ := Str) (β := Int)) (s5.2 : (Dc Str Int)), .un, .un, .un, .un, .un])) (ins2, stood3) rfl (passes_of rfl) (ei_str (ex_var 0)) (.k (.k (.k (.k (.w (.w (.w (.w (.w .n))))))))) (fun s5 letter4 => (eg_name 4 sc_net_by.nd)) (fun s5 letter4 => (ss_app 2 (ex_view (ex_add (ex_cmul (ex_find (K := K) (ex_var 1) (ea_cons (ex_var 4) ea_nil))) (ex_cmul (ex_dget2 hr.units (ex_var 3) (ex_var 4) ex_int)))) (fun ins6 => (ss_dput 3 hr.units ex_int (ex_var 4) (fun stood7 => (ss_nil (ins6, stood7) (.k (.k (.k (.k (.w (.w (.w (.w (.w .n))))))))))))))) (fun s5 => (ss_asgLc 5 rfl sc_net_by.nd (ei_range1 T.n_range (ex_cmul (ex_lenS T.n_len (ex_var 0)))) (own := [("end", 7)]) (by kernel_rfl) rfl rfl (fun _ _ _ _ _ end8 => (eg_name 7 sc_net_by.nd)) (fun _ _ _ _ _ end8 => ef_nil) (fun _ _ _ _ _ end8 => ex_int) (fun net9 => (ss_frz 2 rfl (ss_for (Γs := (fun (s11 : ((List Int))) => [.mk Ow.v ar.1, .mk Ow.v order1, .mk Ow.v s5.1, .mk (Ow.d (κ := Str) (β := Int)) s5.2, .un, .mk (Ow.l Ow.v) (s11 : (List Int)), .un, .un, .un])) (net9) rfl (passes_of rfl) (ei_enum (K := K) T.n_enumerate (ex_var 2)) (.k (.k (.k (.k (.w (.k (.w (.w (.w .n))))))))) (fun s11 at10 => (eg_pair (K := K) rfl (eg_name 6 sc_net_by.nd) (eg_name 7 sc_net_by.nd))) (fun s11 at10 => (ss_asg 8 sc_net_by.nd (ex_add (ex_ixL (K := K) (ex_var 2) (ex_sub (ex_var 6) ex_int)) ex_int) (fun out12 => (ss_set 5 (ex_var 7) (ex_var 8) (fun net13 => (ss_set 5 (ex_var 8) (ex_var 7) (fun net14 => (ss_nil (net14) (.k (.k (.k (.k (.w (.k (.w (.w (.w .n))))))))))))))))) (fun s11 => (ss_retOX 5)))))))))))))))⟩
theorem ok_net_by (T : Txt K mg) {f : Addr} {fd : FuncData} (F : FnP K "net_by" s_net_by f fd) (hm : mg "net_by" = some (.ref f)) (H_place_order : Has P w K mg base "place_order" 1 ["word"] (sp_place_order K)) : HasX P w K mg base "net_by" 2 ["word"] (sp_net_by K) :=
  ⟨f, fd, ok0_net_by T F H_place_order, hm, F.kp, F.bindsN fun _ _ _ _ _ _ us hl => match us, hl with | [_], _ => rfl⟩
abbrev s_choice_by : Stmt := top 18
theorem sc_choice_by : FnScope ["word", "choice", "letters", "letter"] ["word", "choice"] (defScope s_choice_by) := ⟨rfl, rfl, rfl, by decide +kernel, rfl, by decide +kernel, by decide +kernel⟩
abbrev sp_choice_by (K : PySem.W.Frag) : Sp := spF K (As.cons (α := Str) (As.cons (α := (List Int)) As.nil)) ((Ow.l Ow.v) : Ow (List Int)) (fun a => mir_choice_by a.1 a.2.1)
theorem ok0_choice_by (T : Txt K mg) {f : Addr} {fd : FuncData} (F : FnP K "choice_by" s_choice_by f fd) (H_letters_of : Has P w K mg base "letters_of" 1 ["word"] (sp_letters_of K)) (H_place_order : Has P w K mg base "place_order" 1 ["word"] (sp_place_order K)) : FnOk P w K mg base CX0 2 f fd ["word", "choice"] (sp_choice_by K) := by
  obtain ⟨f_letters_of, fd_letters_of, F_letters_of, m_letters_of, k_letters_of, b_letters_of⟩ := H_letters_of
  obtain ⟨f_place_order, fd_place_order, F_place_order, m_place_order, k_place_order, b_place_order⟩ := H_place_order
  refine fn_okD (r := (As.cons (α := Str) (As.cons (α := (List Int)) As.nil))) (o := (Ow.l Ow.v)) (m := fun ar => ((((pure ar.1) >>= fun a => (pure ()) >>= fun b => pure (a, b)) >>= fun a => mir_letters_of a.1) >>= fun (letters1 : Str) => ((((((pure ar.1) >>= fun a => (pure ()) >>= fun b => pure (a, b)) >>= fun a => mir_place_order a.1) >>= fun a => pure (a.cps.toList.map sgS)) >>= fun xs => compM xs (fun (letter2 : Str) => (pure true)) (fun (letter2 : Str) => ((pure ar.2.1) >>= fun a => ((pure letters1) >>= fun x => ((pure letter2) >>= fun a => (pure ()) >>= fun b => pure (a, b)) >>= fun y => pure (Txt.find x y.1)) >>= fun b => atM a b))) >>= fun r => pure (.rt r)))) F sc_choice_by rfl rfl (fun cdv A' outer s H E hr ar => ?_)
  have hr_letters_of := hr.mono (show 1 ≤ 1 by decide)
  have hr_place_order := hr.mono (show 1 ≤ 1 by decide)
  exact ⟨_, (ss_asg 2 sc_choice_by.nd (ex_call F_letters_of hr_letters_of m_letters_of k_letters_of b_letters_of (ea_cons (ex_var 0) ea_nil)) (fun letters1 => (ss_ret (ex_lc rfl sc_choice_by.nd (ei_str (ex_call F_place_order hr_place_order m_place_order k_place_order b_place_order (ea_cons (ex_var 0) ea_nil))) (own := [("letter", 3)]) (by kernel_rfl) rfl rfl (fun _ _ _ _ _ letter2 => (eg_name 3 sc_choice_by.nd)) (fun _ _ _ _ _ letter2 => ef_nil) (fun _ _ _ _ _ letter2 => (ex_ixL (K := K) (ex_var 1) (ex_find (K := K) (ex_var 2) (ea_cons (ex_var 3) ea_nil))))))))⟩
theorem ok_choice_by (T : Txt K mg) {f : Addr} {fd : FuncData} (F : FnP K "choice_by" s_choice_by f fd) (hm : mg "choice_by" = some (.ref f)) (H_letters_of : Has P w K mg base "letters_of" 1 ["word"] (sp_letters_of K)) (H_place_order : Has P w K mg base "place_order" 1 ["word"] (sp_place_order K)) : Has P w K mg base "choice_by" 2 ["word", "choice"] (sp_choice_by K) :=
  ⟨f, fd, ok0_choice_by T F H_letters_of H_place_order, hm, F.kp, F.bindsN fun _ _ _ _ _ _ us hl => match us, hl with | [_, _], _ => rfl⟩
abbrev s__law_cell : Stmt := top 20
theorem sc__law_cell : FnScope ["_law_script", "_law_k", "_law_cell_here"] ["_law_script", "_law_k"] (defScope s__law_cell) := ⟨rfl, rfl, rfl, by decide +kernel, rfl, by decide +kernel, by decide +kernel⟩
abbrev sp__law_cell (K : PySem.W.Frag) : Sp := spF K (As.cons (α := Scr) (As.cons (α := Int) As.nil)) (Ow.v : Ow Int) (fun a => mir__law_cell a.1 a.2.1)
theorem ok0__law_cell (T : Txt K mg) {f : Addr} {fd : FuncData} (F : FnP K "_law_cell" s__law_cell f fd)  : FnOk P w K mg base CX0 1 f fd ["_law_script", "_law_k"] (sp__law_cell K) := by
  refine fn_okD (r := (As.cons (α := Scr) (As.cons (α := Int) As.nil))) (o := Ow.v) (m := fun ar => ((((pure ar.2.1) >>= fun a => (pure (1 : Int)) >>= fun b => pure (a + b)) >>= fun b => pure ((7919 : Int) * b)) >>= fun (cell_here1 : Int) => (((pure ar.2.1) >>= fun a => ((pure ar.1) >>= fun a => pure (a.l.length : Int)) >>= fun b => pure (decide (a < b))) >>= fun x => ((if x then (((pure cell_here1) >>= fun a => ((pure ar.1) >>= fun a => (pure ar.2.1) >>= fun b => atM a.l b) >>= fun b => pure (a + b)) >>= fun (cell_here3 : Int) => (pure (.nx (cell_here3)))) else (pure (.nx (cell_here1)))) : M (Ctl (Int) Empty Int)) >>= fun y => thenC y (fun (s2 : (Int)) => (((((((pure s2) >>= fun a => pure (a % (1000000000039 : Int))) >>= fun a => pure (a * (48271 : Int))) >>= fun a => pure (a % (2147483647 : Int))) >>= fun a => pure (a * (69621 : Int))) >>= fun a => pure (a % (2147483629 : Int))) >>= fun r => pure (.rt r)))))) F sc__law_cell rfl rfl (fun cdv A' outer s H E hr ar => ?_)
  exact ⟨_, (ss_asg 2 sc__law_cell.nd (ex_cmul (ex_add (ex_var 1) ex_int)) (fun cell_here1 => (ss_if (Γ1 := (fun (s2 : (Int)) => [.mk Ow.v ar.1, .mk Ow.v ar.2.1, .mk Ow.v (s2 : Int)])) (et_c (ec_lt (ex_var 1) (ex_lenScr (K := K) T.n_len (ex_var 0)))) (ss_asg 2 sc__law_cell.nd (ex_add (ex_var 2) (ex_ixScr (K := K) (ex_var 0) (ex_var 1))) (fun cell_here3 => (ss_nil (cell_here3) (.k (.k (.k .n)))))) (ss_nil (cell_here1) (.k (.k (.k .n)))) (fun s2 => (ss_ret (ex_modc (ex_mulc (ex_modc (ex_mulc (ex_modc (ex_var 2)))))))))))⟩
theorem ok__law_cell (T : Txt K mg) {f : Addr} {fd : FuncData} (F : FnP K "_law_cell" s__law_cell f fd) (hm : mg "_law_cell" = some (.ref f))  : Has P w K mg base "_law_cell" 1 ["_law_script", "_law_k"] (sp__law_cell K) :=
  ⟨f, fd, ok0__law_cell T F , hm, F.kp, F.bindsN fun _ _ _ _ _ _ us hl => match us, hl with | [_, _], _ => rfl⟩
abbrev s__law_ends : Stmt := top 21
theorem sc__law_ends : FnScope ["_law_found", "_law_many_here", "_law_end"] ["_law_found", "_law_many_here"] (defScope s__law_ends) := ⟨rfl, rfl, rfl, by decide +kernel, rfl, by decide +kernel, by decide +kernel⟩
abbrev sp__law_ends (K : PySem.W.Frag) : Sp := spF K (As.cons (α := (List Int)) (As.cons (α := Int) As.nil)) (Ow.v : Ow Bool) (fun a => mir__law_ends a.1 a.2.1)
theorem ok0__law_ends (T : Txt K mg) {f : Addr} {fd : FuncData} (F : FnP K "_law_ends" s__law_ends f fd)  : FnOk P w K mg base CX0 1 f fd ["_law_found", "_law_many_here"] (sp__law_ends K) := by
  refine fn_okD (r := (As.cons (α := (List Int)) (As.cons (α := Int) As.nil))) (o := Ow.v) (m := fun ar => ((bOr (bNot ((pure ar.1) >>= fun _ => pure true)) (((pure ar.1) >>= fun a => pure (a.length : Int)) >>= fun a => (pure ar.2.1) >>= fun b => pure (!decide (a = b)))) >>= fun x => if x then ((((pure false) >>= fun r => pure (.rt r)) : M (Ctl Empty Empty Bool)) >>= fun y => thenC y nofun) else ((((pure ar.1) >>= fun xs => compM xs (fun (end1 : Int) => (pure true)) (fun (end1 : Int) => (bAnd ((pure end1) >>= fun _ => pure true) (bNot ((pure end1) >>= fun _ => pure false))))) >>= fun a => pure (a.all id)) >>= fun r => pure (.rt r)))) F sc__law_ends rfl rfl (fun cdv A' outer s H E hr ar => ?_)
  exact ⟨_, (ss_ifR (ew_pt (ew_or (et_not (et_val (ex_isi (K := K) T.n_isinstance T.n_list boot_list (ex_var 0) (by decide +kernel)))) (ew_or1 (et_c (ec_ne (ex_lenL (K := K) T.n_len (ex_var 0)) (ex_var 1)))))) (ss_ret ex_bl) (ss_ret (ex_all (K := K) rfl T.n_all (ex_frz (ex_lc rfl sc__law_ends.nd (ei_list (K := K) (ex_var 0)) (own := [("_law_end", 2)]) (by kernel_rfl) rfl rfl (fun _ _ _ _ _ end1 => (eg_name 2 sc__law_ends.nd)) (fun _ _ _ _ _ end1 => ef_nil) (fun _ _ _ _ _ end1 => (ex_and (ex_isi (K := K) T.n_isinstance T.n_int boot_int (ex_var 2) (by decide +kernel)) (ex_one (ex_not (ex_isi (K := K) T.n_isinstance T.n_bool boot_bool (ex_var 2) (by decide +kernel)))))))))))⟩
theorem ok__law_ends (T : Txt K mg) {f : Addr} {fd : FuncData} (F : FnP K "_law_ends" s__law_ends f fd) (hm : mg "_law_ends" = some (.ref f))  : Has P w K mg base "_law_ends" 1 ["_law_found", "_law_many_here"] (sp__law_ends K) :=
  ⟨f, fd, ok0__law_ends T F , hm, F.kp, F.bindsN fun _ _ _ _ _ _ us hl => match us, hl with | [_, _], _ => rfl⟩
abbrev s__law_row : Stmt := top 22
theorem sc__law_row : FnScope ["_law_script", "_law_at", "_law_n", "_law_left", "_law_number", "_law_row_here", "_law_k"] ["_law_script", "_law_at", "_law_n"] (defScope s__law_row) := ⟨rfl, rfl, rfl, by decide +kernel, rfl, by decide +kernel, by decide +kernel⟩
abbrev sp__law_row (K : PySem.W.Frag) : Sp := spF K (As.cons (α := Scr) (As.cons (α := Int) (As.cons (α := Int) As.nil))) ((Ow.l Ow.v) : Ow (List Int)) (fun a => mir__law_row a.1 a.2.1 a.2.2.1)
theorem ok0__law_row (T : Txt K mg) {f : Addr} {fd : FuncData} (F : FnP K "_law_row" s__law_row f fd) (H__law_cell : Has P w K mg base "_law_cell" 1 ["_law_script", "_law_k"] (sp__law_cell K)) : FnOk P w K mg base CX0 2 f fd ["_law_script", "_law_at", "_law_n"] (sp__law_row K) := by
  obtain ⟨f__law_cell, fd__law_cell, F__law_cell, m__law_cell, k__law_cell, b__law_cell⟩ := H__law_cell
  refine fn_okD (r := (As.cons (α := Scr) (As.cons (α := Int) (As.cons (α := Int) As.nil)))) (o := (Ow.l Ow.v)) (m := fun ar => (((((pure ar.2.2.1) >>= fun b => pure ((2 : Int) * b)) >>= fun a => range1 a) >>= fun xs => compM xs (fun (k1 : Int) => (pure true)) (fun (k1 : Int) => ((pure k1) >>= fun a => pure (a / (2 : Int))))) >>= fun (left2 : (List Int)) => (((((pure ar.1) >>= fun a => ((pure ar.2.1) >>= fun a => (pure ()) >>= fun b => pure (a, b)) >>= fun b => pure (a, b)) >>= fun a => mir__law_cell a.1 a.2.1) >>= fun a => pure (a % (1000003 : Int))) >>= fun (number3 : Int) => (((pure ([] : List Int)) >>= fun a => lstM a) >>= fun (row_here4 : (List Int)) => ((((pure ar.2.2.1) >>= fun b => pure ((2 : Int) * b)) >>= fun a => range1 a) >>= fun xs => loopM (S := (Int × (List Int) × (List Int))) (ρ := (List Int)) (fun (k5 : Int) (s6 : (Int × (List Int) × (List Int))) => (((((pure s6.1) >>= fun a => pure (a * (48271 : Int))) >>= fun a => (((pure ar.1) >>= fun a => ((((pure ar.2.1) >>= fun a => (pure (1 : Int)) >>= fun b => pure (a + b)) >>= fun a => (pure k5) >>= fun b => pure (a + b)) >>= fun a => (pure ()) >>= fun b => pure (a, b)) >>= fun b => pure (a, b)) >>= fun a => mir__law_cell a.1 a.2.1) >>= fun b => pure (a + b)) >>= fun a => pure (a % (2147483647 : Int))) >>= fun (number7 : Int) => (((((pure number7) >>= fun a => pure (a / (16 : Int))) >>= fun a => ((pure s6.2.2) >>= fun a => pure (a.length : Int)) >>= fun b => modM a b) >>= fun j => popAtM s6.2.2 j) >>= fun (q9 : Int × (List Int)) => appM s6.2.1 q9.1 >>= fun (row_here8 : (List Int)) => (pure (.nx (number7, row_here8, q9.2)))))) xs (number3, row_here4, left2) >>= fun c => thenL c (fun (s6 : (Int × (List Int) × (List Int))) => (pure (.rt s6.2.1)))))))) F sc__law_row rfl rfl (fun cdv A' outer s H E hr ar => ?_)
  have hr__law_cell := hr.mono (show 1 ≤ 1 by decide)
  exact ⟨_, (ss_asgLc 3 rfl sc__law_row.nd (ei_range1 T.n_range (ex_cmul (ex_var 2))) (own := [("_law_k", 6)]) (by kernel_rfl) rfl rfl (fun _ _ _ _ _ k1 => (eg_name 6 sc__law_row.nd)) (fun _ _ _ _ _ k1 => ef_nil) (fun _ _ _ _ _ k1 => (ex_fdivc (ex_var 6))) (fun left2 => (ss_asg 4 sc__law_row.nd (ex_modc (ex_call F__law_cell hr__law_cell m__law_cell k__law_cell b__law_cell (ea_cons (ex_var 0) (ea_cons (ex_var 1) ea_nil)))) (fun number3 => (ss_asg 5 sc__law_row.nd (ex_lst (el_nil (o := Ow.v))) (fun row_here4 => (ss_for (Γs := (fun (s6 : (Int × (List Int) × (List Int))) => [.mk Ow.v ar.1, .mk Ow.v ar.2.1, .mk Ow.v ar.2.2.1, .mk (Ow.l Ow.v) (s6.2.2 : (List Int)), .mk Ow.v (s6.1 : Int), .mk (Ow.l Ow.v) (s6.2.1 : (List Int)), .un])) (number3, row_here4, left2) rfl PassesOwn.never (ei_range1 T.n_range (ex_cmul (ex_var 2))) (.k (.k (.k (.k (.k (.k (.w .n))))))) (fun s6 k5 => (eg_name 6 sc__law_row.nd)) (fun s6 k5 => (ss_asg 4 sc__law_row.nd (ex_modc (ex_add (ex_mulc (ex_var 4)) (ex_call F__law_cell hr__law_cell m__law_cell k__law_cell b__law_cell (ea_cons (ex_var 0) (ea_cons (ex_add (ex_add (ex_var 1) ex_int) (ex_var 6)) ea_nil))))) (fun number7 => (ss_appP (α := Int) (β := Int) 3 5 (ep_popAt 3 (ex_view (ex_mod (ex_fdivc (ex_var 4)) (ex_lenL (K := K) T.n_len (ex_var 3))))) (fun q9 row_here8 => (ss_nil (number7, row_here8, q9.2) (.k (.k (.k (.k (.k (.k (.w .n))))))))))))) (fun s6 => (ss_retO 5)))))))))⟩
theorem ok__law_row (T : Txt K mg) {f : Addr} {fd : FuncData} (F : FnP K "_law_row" s__law_row f fd) (hm : mg "_law_row" = some (.ref f)) (H__law_cell : Has P w K mg base "_law_cell" 1 ["_law_script", "_law_k"] (sp__law_cell K)) : Has P w K mg base "_law_row" 2 ["_law_script", "_law_at", "_law_n"] (sp__law_row K) :=
  ⟨f, fd, ok0__law_row T F H__law_cell, hm, F.kp, F.bindsN fun _ _ _ _ _ _ us hl => match us, hl with | [_, _, _], _ => rfl⟩
abbrev s__law_letters : Stmt := top 23
theorem sc__law_letters : FnScope ["_law_cell_here", "_law_n", "_law_left", "_law_found", "_law_k", "_law_at"] ["_law_cell_here", "_law_n"] (defScope s__law_letters) := ⟨rfl, rfl, rfl, by decide +kernel, rfl, by decide +kernel, by decide +kernel⟩
abbrev sp__law_letters (K : PySem.W.Frag) : Sp := spF K (As.cons (α := Int) (As.cons (α := Int) As.nil)) (Ow.v : Ow Str) (fun a => mir__law_letters a.1 a.2.1)
theorem ok0__law_letters (T : Txt K mg) {f : Addr} {fd : FuncData} (F : FnP K "_law_letters" s__law_letters f fd)  : FnOk P w K mg base CX0 1 f fd ["_law_cell_here", "_law_n"] (sp__law_letters K) := by
  refine fn_okD (r := (As.cons (α := Int) (As.cons (α := Int) As.nil))) (o := Ow.v) (m := fun ar => ((pure ("abcdefghijklmnopqrstuvwxyz" : Str)) >>= fun (left1 : Str) => ((pure ("" : Str)) >>= fun (found2 : Str) => (((pure ar.2.1) >>= fun a => range1 a) >>= fun xs => loopM (S := (Int × Str × Str)) (ρ := Str) (fun (k3 : Int) (s4 : (Int × Str × Str)) => (((pure s4.1) >>= fun a => ((pure s4.2.2) >>= fun a => lenS a) >>= fun b => modM a b) >>= fun (at5 : Int) => ((((pure s4.1) >>= fun a => ((pure s4.2.2) >>= fun a => lenS a) >>= fun b => divM a b) >>= fun a => ((pure k3) >>= fun b => pure ((7 : Int) * b)) >>= fun b => pure (a + b)) >>= fun (cell_here6 : Int) => (((pure s4.2.1) >>= fun a => ((pure s4.2.2) >>= fun a => (pure at5) >>= fun b => atS a b) >>= fun b => addSM a b) >>= fun (found7 : Str) => ((((pure s4.2.2) >>= fun a => (pure none) >>= fun l => ((pure at5) >>= fun i => pure (some i)) >>= fun u => cutSM a l u) >>= fun a => ((pure s4.2.2) >>= fun a => (((pure at5) >>= fun a => (pure (1 : Int)) >>= fun b => pure (a + b)) >>= fun i => pure (some i)) >>= fun l => (pure none) >>= fun u => cutSM a l u) >>= fun b => addSM a b) >>= fun (left8 : Str) => (pure (.nx (cell_here6, found7, left8)))))))) xs (ar.1, found2, left1) >>= fun c => thenL c (fun (s4 : (Int × Str × Str)) => ((pure s4.2.1) >>= fun r => pure (.rt r))))))) F sc__law_letters rfl rfl (fun cdv A' outer s H E hr ar => ?_)
  exact ⟨_, (ss_asg 2 sc__law_letters.nd ex_str (fun left1 => (ss_asg 3 sc__law_letters.nd ex_str (fun found2 => (ss_for (Γs := (fun (s4 : (Int × Str × Str)) => [.mk Ow.v (s4.1 : Int), .mk Ow.v ar.2.1, .mk Ow.v (s4.2.2 : Str), .mk Ow.v (s4.2.1 : Str), .un, .un])) (ar.1, found2, left1) rfl PassesOwn.never (ei_range1 T.n_range (ex_var 1)) (.k (.k (.k (.k (.w (.w .n)))))) (fun s4 k3 => (eg_name 4 sc__law_letters.nd)) (fun s4 k3 => (ss_asg 5 sc__law_letters.nd (ex_mod (ex_var 0) (ex_lenS T.n_len (ex_var 2))) (fun at5 => (ss_asg 0 sc__law_letters.nd (ex_add (ex_fdiv (ex_var 0) (ex_lenS T.n_len (ex_var 2))) (ex_cmul (ex_var 4))) (fun cell_here6 => (ss_asg 3 sc__law_letters.nd (ex_addS (ex_var 3) (ex_ixS (ex_var 2) (ex_var 5))) (fun found7 => (ss_asg 2 sc__law_letters.nd (ex_addS (ex_cutS (ex_var 2) eo_none (eo_some (ex_var 5))) (ex_cutS (ex_var 2) (eo_some (ex_add (ex_var 5) ex_int)) eo_none)) (fun left8 => (ss_nil (cell_here6, found7, left8) (.k (.k (.k (.k (.w (.w .n)))))))))))))))) (fun s4 => (ss_ret (ex_var 3))))))))⟩
theorem ok__law_letters (T : Txt K mg) {f : Addr} {fd : FuncData} (F : FnP K "_law_letters" s__law_letters f fd) (hm : mg "_law_letters" = some (.ref f))  : Has P w K mg base "_law_letters" 1 ["_law_cell_here", "_law_n"] (sp__law_letters K) :=
  ⟨f, fd, ok0__law_letters T F , hm, F.kp, F.bindsN fun _ _ _ _ _ _ us hl => match us, hl with | [_, _], _ => rfl⟩
abbrev s__law_other_place : Stmt := top 24
theorem sc__law_other_place : FnScope ["_law_word", "_law_at", "_law_there"] ["_law_word", "_law_at"] (defScope s__law_other_place) := ⟨rfl, rfl, rfl, by decide +kernel, rfl, by decide +kernel, by decide +kernel⟩
abbrev sp__law_other_place (K : PySem.W.Frag) : Sp := spF K (As.cons (α := Str) (As.cons (α := Int) As.nil)) (Ow.v : Ow Int) (fun a => mir__law_other_place a.1 a.2.1)
theorem ok0__law_other_place (T : Txt K mg) {f : Addr} {fd : FuncData} (F : FnP K "_law_other_place" s__law_other_place f fd)  : FnOk P w K mg base CX0 1 f fd ["_law_word", "_law_at"] (sp__law_other_place K) := by
  refine fn_okD (r := (As.cons (α := Str) (As.cons (α := Int) As.nil))) (o := Ow.v) (m := fun ar => (((pure ar.1) >>= fun x => (((pure ar.1) >>= fun a => (pure ar.2.1) >>= fun b => atS a b) >>= fun a => (pure ()) >>= fun b => pure (a, b)) >>= fun y => pure (Txt.find x y.1)) >>= fun (there1 : Int) => (((pure there1) >>= fun a => (pure ar.2.1) >>= fun b => pure (!decide (a = b))) >>= fun x => if x then ((((pure there1) >>= fun r => pure (.rt r)) : M (Ctl Empty Empty Int)) >>= fun y => thenC y nofun) else (((pure ar.1) >>= fun x => (((pure ar.1) >>= fun a => (pure ar.2.1) >>= fun b => atS a b) >>= fun a => (pure ()) >>= fun b => pure (a, b)) >>= fun y => pure (Txt.rfind x y.1)) >>= fun r => pure (.rt r))))) F sc__law_other_place rfl rfl (fun cdv A' outer s H E hr ar => ?_)
  exact ⟨_, (ss_asg 2 sc__law_other_place.nd (ex_find (K := K) (ex_var 0) (ea_cons (ex_ixS (ex_var 0) (ex_var 1)) ea_nil)) (fun there1 => (ss_ifR (et_c (ec_ne (ex_var 2) (ex_var 1))) (ss_ret (ex_var 2)) (ss_ret (ex_rfind (K := K) (ex_var 0) (ea_cons (ex_ixS (ex_var 0) (ex_var 1)) ea_nil))))))⟩
theorem ok__law_other_place (T : Txt K mg) {f : Addr} {fd : FuncData} (F : FnP K "_law_other_place" s__law_other_place f fd) (hm : mg "_law_other_place" = some (.ref f))  : Has P w K mg base "_law_other_place" 1 ["_law_word", "_law_at"] (sp__law_other_place K) :=
  ⟨f, fd, ok0__law_other_place T F , hm, F.kp, F.bindsN fun _ _ _ _ _ _ us hl => match us, hl with | [_, _], _ => rfl⟩
abbrev s__law_next : Stmt := top 25
theorem sc__law_next : FnScope ["_law_word", "_law_ways", "_law_at", "_law_onward", "_law_way"] ["_law_word", "_law_ways", "_law_at", "_law_onward"] (defScope s__law_next) := ⟨rfl, rfl, rfl, by decide +kernel, rfl, by decide +kernel, by decide +kernel⟩
abbrev sp__law_next (K : PySem.W.Frag) : Sp := spF K (As.cons (α := Str) (As.cons (α := (Dc Str Int)) (As.cons (α := Int) (As.cons (α := Bool) As.nil)))) (Ow.v : Ow (Int × Bool)) (fun a => mir__law_next a.1 a.2.1 a.2.2.1 a.2.2.2.1)
theorem ok0__law_next (T : Txt K mg) {f : Addr} {fd : FuncData} (F : FnP K "_law_next" s__law_next f fd) (H__law_other_place : Has P w K mg base "_law_other_place" 1 ["_law_word", "_law_at"] (sp__law_other_place K)) : FnOk P w K mg base CX0 2 f fd ["_law_word", "_law_ways", "_law_at", "_law_onward"] (sp__law_next K) := by
  obtain ⟨f__law_other_place, fd__law_other_place, F__law_other_place, m__law_other_place, k__law_other_place, b__law_other_place⟩ := H__law_other_place
  refine fn_okD (r := (As.cons (α := Str) (As.cons (α := (Dc Str Int)) (As.cons (α := Int) (As.cons (α := Bool) As.nil))))) (o := Ow.v) (m := fun ar => (((pure ar.2.1) >>= fun a => ((pure ar.1) >>= fun a => (pure ar.2.2.1) >>= fun b => atS a b) >>= fun b => dgetM a b) >>= fun (way1 : Int) => (((pure way1) >>= fun a => (pure (0 : Int)) >>= fun b => pure (decide (a = b))) >>= fun x => if x then (((((pure ar.2.2.1) >>= fun a => (pure ar.2.2.2.1) >>= fun b => pure (a, b)) >>= fun r => pure (.rt r)) : M (Ctl Empty Empty (Int × Bool))) >>= fun y => thenC y nofun) else (((pure way1) >>= fun a => (pure (1 : Int)) >>= fun b => pure (decide (a = b))) >>= fun x => if x then (((((((pure ar.1) >>= fun a => ((pure ar.2.2.1) >>= fun a => (pure ()) >>= fun b => pure (a, b)) >>= fun b => pure (a, b)) >>= fun a => mir__law_other_place a.1 a.2.1) >>= fun a => (bNot (pure ar.2.2.2.1)) >>= fun b => pure (a, b)) >>= fun r => pure (.rt r)) : M (Ctl Empty Empty (Int × Bool))) >>= fun y => thenC y nofun) else (((((pure ar.1) >>= fun a => ((pure ar.2.2.1) >>= fun a => (pure ()) >>= fun b => pure (a, b)) >>= fun b => pure (a, b)) >>= fun a => mir__law_other_place a.1 a.2.1) >>= fun a => (pure ar.2.2.2.1) >>= fun b => pure (a, b)) >>= fun r => pure (.rt r)))))) F sc__law_next rfl rfl (fun cdv A' outer s H E hr ar => ?_)
  have hr__law_other_place := hr.mono (show 1 ≤ 1 by decide)
  exact ⟨_, (ss_asg 4 sc__law_next.nd (ex_dget hr.units (ex_var 1) (ex_ixS (ex_var 0) (ex_var 2))) (fun way1 => (ss_ifR (et_c (ec_eq (ex_var 4) ex_int)) (ss_ret (ex_frz (ex_pair (ex_var 2) (ex_var 3)))) (ss_ifR (et_c (ec_eq (ex_var 4) ex_int)) (ss_ret (ex_frz (ex_pair (ex_call F__law_other_place hr__law_other_place m__law_other_place k__law_other_place b__law_other_place (ea_cons (ex_var 0) (ea_cons (ex_var 2) ea_nil))) (ex_not (ex_var 3))))) (ss_ret (ex_frz (ex_pair (ex_call F__law_other_place hr__law_other_place m__law_other_place k__law_other_place b__law_other_place (ea_cons (ex_var 0) (ea_cons (ex_var 2) ea_nil))) (ex_var 3))))))))⟩
theorem ok__law_next (T : Txt K mg) {f : Addr} {fd : FuncData} (F : FnP K "_law_next" s__law_next f fd) (hm : mg "_law_next" = some (.ref f)) (H__law_other_place : Has P w K mg base "_law_other_place" 1 ["_law_word", "_law_at"] (sp__law_other_place K)) : Has P w K mg base "_law_next" 2 ["_law_word", "_law_ways", "_law_at", "_law_onward"] (sp__law_next K) :=
  ⟨f, fd, ok0__law_next T F H__law_other_place, hm, F.kp, F.bindsN fun _ _ _ _ _ _ us hl => match us, hl with | [_, _, _, _], _ => rfl⟩
abbrev s__law_many : Stmt := top 26
theorem sc__law_many : FnScope ["_law_word", "_law_ways", "_law_gone", "_law_many_here", "_law_at", "_law_onward", "_law_here", "_law_going", "_law_turned", "_law_back"] ["_law_word", "_law_ways"] (defScope s__law_many) := ⟨rfl, rfl, rfl, by decide +kernel, rfl, by decide +kernel, by decide +kernel⟩
abbrev sp__law_many (K : PySem.W.Frag) : Sp := spF K (As.cons (α := Str) (As.cons (α := (Dc Str Int)) As.nil)) (Ow.v : Ow Int) (fun a => mir__law_many a.1 a.2.1)
theorem ok0__law_many (T : Txt K mg) {f : Addr} {fd : FuncData} (F : FnP K "_law_many" s__law_many f fd) (H__law_next : Has P w K mg base "_law_next" 2 ["_law_word", "_law_ways", "_law_at", "_law_onward"] (sp__law_next K)) : FnOk P w K mg base CX0 3 f fd ["_law_word", "_law_ways"] (sp__law_many K) := by
  obtain ⟨f__law_next, fd__law_next, F__law_next, m__law_next, k__law_next, b__law_next⟩ := H__law_next
  refine fn_okD (r := (As.cons (α := Str) (As.cons (α := (Dc Str Int)) As.nil))) (o := Ow.v) (m := fun ar => ((pure (⟨[]⟩ : Sb)) >>= fun (gone1 : Sb) => ((pure (0 : Int)) >>= fun (many_here2 : Int) => ((((pure ar.1) >>= fun a => lenS a) >>= fun a => range1 a) >>= fun xs => loopM (S := (Int × Sb)) (ρ := Int) (fun (at3 : Int) (s4 : (Int × Sb)) => (((((pure true) >>= fun a => ((pure false) >>= fun a => (pure ([] : List Bool)) >>= fun b => pure (a :: b)) >>= fun b => pure (a :: b)) >>= fun a => lstM a >>= fun b => pure (Tu.mk b)) >>= fun a => pure a.l) >>= fun xs => loopM (S := (Int × Sb)) (ρ := Int) (fun (onward5 : Bool) (s6 : (Int × Sb)) => ((pure at3) >>= fun (here7 : Int) => ((pure onward5) >>= fun (going8 : Bool) => (((pure s6.1) >>= fun a => ((((pure at3) >>= fun a => (pure onward5) >>= fun b => pure (⟨(a, b)⟩ : Kb)) >>= fun a => (pure s6.2) >>= fun b => pure (!decide (a.k ∈ b.l))) >>= fun a => pure (if a then (1 : Int) else 0)) >>= fun b => pure (a + b)) >>= fun (many_here9 : Int) => (whileM (S := (Sb × Bool × Int)) (ρ := Int) (fun (s10 : (Sb × Bool × Int)) => (((pure s10.2.2) >>= fun a => (pure s10.2.1) >>= fun b => pure (⟨(a, b)⟩ : Kb)) >>= fun a => (pure s10.1) >>= fun b => pure (!decide (a.k ∈ b.l)))) (fun (s10 : (Sb × Bool × Int)) => ((pure true) >>= fun a => ((pure s10.2.2) >>= fun a => (pure s10.2.1) >>= fun b => pure (⟨(a, b)⟩ : Kb)) >>= fun b => bputM s10.1 b a >>= fun (gone11 : Sb) => ((((pure ar.1) >>= fun a => ((pure ar.2.1) >>= fun a => ((pure s10.2.2) >>= fun a => ((pure s10.2.1) >>= fun a => (pure ()) >>= fun b => pure (a, b)) >>= fun b => pure (a, b)) >>= fun b => pure (a, b)) >>= fun b => pure (a, b)) >>= fun a => mir__law_next a.1 a.2.1 a.2.2.1 a.2.2.2.1) >>= fun (u12 : (Int × Bool)) => ((((pure u12.1) >>= fun a => (pure (1 : Int)) >>= fun b => pure (a + b)) >>= fun a => ((pure ar.1) >>= fun a => lenS a) >>= fun b => modM a b) >>= fun (back13 : Int) => ((bNot (pure u12.2)) >>= fun x => ((if x then ((((pure u12.1) >>= fun a => (pure (1 : Int)) >>= fun b => pure (a - b)) >>= fun a => ((pure ar.1) >>= fun a => lenS a) >>= fun b => modM a b) >>= fun (back15 : Int) => (pure (.nx (back15)))) else (pure (.nx (back13)))) : M (Ctl (Int) (Sb × Bool × Int) Int)) >>= fun y => thenC y (fun (s14 : (Int)) => ((pure s14) >>= fun (here16 : Int) => (pure (.nx (gone11, u12.2, here16)))))))))) 1000 (s6.2, going8, here7) >>= fun c => thenL c (fun (s10 : (Sb × Bool × Int)) => (pure (.nx (many_here9, s10.1))))))))) xs (s4.1, s4.2) >>= fun c => thenL c (fun (s6 : (Int × Sb)) => (pure (.nx (s6.1, s6.2)))))) xs (many_here2, gone1) >>= fun c => thenL c (fun (s4 : (Int × Sb)) => (((pure s4.1) >>= fun a => pure (a / (2 : Int))) >>= fun r => pure (.rt r))))))) F sc__law_many rfl rfl (fun cdv A' outer s H E hr ar => ?_)
  have hr__law_next := hr.mono (show 2 ≤ 2 by decide)
  exact ⟨_, (ss_asg 2 sc__law_many.nd ex_bnew (fun gone1 => (ss_asg 3 sc__law_many.nd ex_int (fun many_here2 => (ss_for (Γs := (fun (s4 : (Int × Sb)) => [.mk Ow.v ar.1, .mk Ow.v ar.2.1, .mk Ow.sb (s4.2 : Sb), .mk Ow.v (s4.1 : Int), .un, .un, .un, .un, .un, .un])) (many_here2, gone1) rfl PassesOwn.never (ei_range1 T.n_range (ex_lenS T.n_len (ex_var 0))) (.k (.k (.k (.k (.w (.w (.w (.w (.w (.w .n)))))))))) (fun s4 at3 => (eg_name 4 sc__law_many.nd)) (fun s4 at3 => (ss_for (Γs := (fun (s6 : (Int × Sb)) => [.mk Ow.v ar.1, .mk Ow.v ar.2.1, .mk Ow.sb (s6.2 : Sb), .mk Ow.v (s6.1 : Int), .mk Ow.v at3, .un, .un, .un, .un, .un])) (s4.1, s4.2) rfl PassesOwn.never (ei_tu (K := K) (ex_tu (el_cons ex_bl (el_cons ex_bl (el_nil (o := Ow.v)))))) (.k (.k (.k (.k (.k (.w (.w (.w (.w (.w .n)))))))))) (fun s6 onward5 => (eg_name 5 sc__law_many.nd)) (fun s6 onward5 => (ss_asg 6 sc__law_many.nd (ex_var 4) (fun here7 => (ss_asg 7 sc__law_many.nd (ex_var 5) (fun going8 => (ss_asg 3 sc__law_many.nd (ex_view (ex_add (ex_var 3) (ex_intB T.n_int (ex_k (ek_bnin hr.units (ex_kB (ex_var 4) (ex_var 5)) (ex_var 2)))))) (fun many_here9 => (ss_while (Γs := (fun (s10 : (Sb × Bool × Int)) => [.mk Ow.v ar.1, .mk Ow.v ar.2.1, .mk Ow.sb (s10.1 : Sb), .mk Ow.v many_here9, .mk Ow.v at3, .mk Ow.v onward5, .mk Ow.v (s10.2.2 : Int), .mk Ow.v (s10.2.1 : Bool), .un, .un])) 1000 (s6.2, going8, here7) PassesOwn.never (.k (.k (.k (.k (.k (.k (.k (.k (.w (.w .n)))))))))) (fun s10 => (et_view (et_k (ek_bnin hr.units (ex_kB (ex_var 6) (ex_var 7)) (ex_var 2))))) (fun s10 => (ss_bput 2 hr.units ex_bl (ex_kB (ex_var 6) (ex_var 7)) (fun gone11 => (ss_asgT (ex_call F__law_next hr__law_next m__law_next k__law_next b__law_next (ea_cons (ex_var 0) (ea_cons (ex_var 1) (ea_cons (ex_var 6) (ea_cons (ex_var 7) ea_nil))))) (fun u12 => (eg_pair (K := K) rfl (eg_name 8 sc__law_many.nd) (eg_name 7 sc__law_many.nd))) (fun u12 => (ss_asg 9 sc__law_many.nd (ex_mod (ex_add (ex_var 8) ex_int) (ex_lenS T.n_len (ex_var 0))) (fun back13 => (ss_if (Γ1 := (fun (s14 : (Int)) => [.mk Ow.v ar.1, .mk Ow.v ar.2.1, .mk Ow.sb gone11, .mk Ow.v many_here9, .mk Ow.v at3, .mk Ow.v onward5, .mk Ow.v s10.2.2, .mk Ow.v u12.2, .mk Ow.v u12.1, .mk Ow.v (s14 : Int)])) (et_not (et_val (ex_var 7))) (ss_asg 9 sc__law_many.nd (ex_mod (ex_sub (ex_var 8) ex_int) (ex_lenS T.n_len (ex_var 0))) (fun back15 => (ss_nil (back15) (.k (.k (.k (.k (.k (.k (.k (.k (.k (.k .n))))))))))))) (ss_nil (back13) (.k (.k (.k (.k (.k (.k (.k (.k (.k (.k .n))))))))))) (fun s14 => (ss_asg 6 sc__law_many.nd (ex_var 9) (fun here16 => (ss_nil (gone11, u12.2, here16) (.k (.k (.k (.k (.k (.k (.k (.k (.w (.w .n)))))))))))))))))))))) (fun s10 => (ss_nil (many_here9, s10.1) (.k (.k (.k (.k (.k (.w (.w (.w (.w (.w .n)))))))))))))))))))) (fun s6 => (ss_nil (s6.1, s6.2) (.k (.k (.k (.k (.w (.w (.w (.w (.w (.w .n)))))))))))))) (fun s4 => (ss_ret (ex_fdivc (ex_var 3)))))))))⟩
theorem ok__law_many (T : Txt K mg) {f : Addr} {fd : FuncData} (F : FnP K "_law_many" s__law_many f fd) (hm : mg "_law_many" = some (.ref f)) (H__law_next : Has P w K mg base "_law_next" 2 ["_law_word", "_law_ways", "_law_at", "_law_onward"] (sp__law_next K)) : Has P w K mg base "_law_many" 3 ["_law_word", "_law_ways"] (sp__law_many K) :=
  ⟨f, fd, ok0__law_many T F H__law_next, hm, F.kp, F.bindsN fun _ _ _ _ _ _ us hl => match us, hl with | [_, _], _ => rfl⟩
abbrev s_law : Stmt := top 27
theorem sc_law : FnScope ["_law_script", "_law_n", "_law_letters_here", "_law_row_here", "_law_word", "_law_choice", "_law_ways", "_law_k", "_law_letter", "_law_order", "_law_handed", "_law_found", "_law_place"] ["_law_script"] (defScope s_law) := ⟨rfl, rfl, rfl, by decide +kernel, rfl, by decide +kernel, by decide +kernel⟩
abbrev sp_law (K : PySem.W.Frag) : Sp := spF K (As.cons (α := Scr) As.nil) (Ow.v : Ow Bool) (fun a => mir_law a.1)
theorem ok0_law (T : Txt K mg) {f : Addr} {fd : FuncData} (F : FnP K "law" s_law f fd) (H__law_cell : Has P w K mg base "_law_cell" 1 ["_law_script", "_law_k"] (sp__law_cell K)) (H__law_letters : Has P w K mg base "_law_letters" 1 ["_law_cell_here", "_law_n"] (sp__law_letters K)) (H__law_row : Has P w K mg base "_law_row" 2 ["_law_script", "_law_at", "_law_n"] (sp__law_row K)) (H_choice_by : Has P w K mg base "choice_by" 2 ["word", "choice"] (sp_choice_by K)) (H__law_ends : Has P w K mg base "_law_ends" 1 ["_law_found", "_law_many_here"] (sp__law_ends K)) (H_net_by : HasX P w K mg base "net_by" 2 ["word"] (sp_net_by K)) (H_many_rounds : Has P w K mg base "many_rounds" 5 ["net", "choice"] (sp_many_rounds K)) (H__law_many : Has P w K mg base "_law_many" 3 ["_law_word", "_law_ways"] (sp__law_many K)) : FnOk P w K mg base CX0 6 f fd ["_law_script"] (sp_law K) := by
  obtain ⟨f__law_cell, fd__law_cell, F__law_cell, m__law_cell, k__law_cell, b__law_cell⟩ := H__law_cell
  obtain ⟨f__law_letters, fd__law_letters, F__law_letters, m__law_letters, k__law_letters, b__law_letters⟩ := H__law_letters
  obtain ⟨f__law_row, fd__law_row, F__law_row, m__law_row, k__law_row, b__law_row⟩ := H__law_row
  obtain ⟨f_choice_by, fd_choice_by, F_choice_by, m_choice_by, k_choice_by, b_choice_by⟩ := H_choice_by
  obtain ⟨f__law_ends, fd__law_ends, F__law_ends, m__law_ends, k__law_ends, b__law_ends⟩ := H__law_ends
  obtain ⟨f_net_by, fd_net_by, F_net_by, m_net_by, k_net_by, b_net_by⟩ := H_net_by
  obtain ⟨f_many_rounds, fd_many_rounds, F_many_rounds, m_many_rounds, k_many_rounds, b_many_rounds⟩ := H_many_rounds
  obtain ⟨f__law_many, fd__law_many, F__law_many, m__law_many, k__law_many, b__law_many⟩ := H__law_many
  refine fn_okD (r := (As.cons (α := Scr) As.nil)) (o := Ow.v) (m := fun ar => (((pure (1 : Int)) >>= fun a => ((((pure ar.1) >>= fun a => ((pure (0 : Int)) >>= fun a => (pure ()) >>= fun b => pure (a, b)) >>= fun b => pure (a, b)) >>= fun a => mir__law_cell a.1 a.2.1) >>= fun a => pure (a % (10 : Int))) >>= fun b => pure (a + b)) >>= fun (n1 : Int) => ((((((pure ar.1) >>= fun a => ((pure (1 : Int)) >>= fun a => (pure ()) >>= fun b => pure (a, b)) >>= fun b => pure (a, b)) >>= fun a => mir__law_cell a.1 a.2.1) >>= fun a => ((pure n1) >>= fun a => (pure ()) >>= fun b => pure (a, b)) >>= fun b => pure (a, b)) >>= fun a => mir__law_letters a.1 a.2.1) >>= fun (letters_here2 : Str) => ((((pure ar.1) >>= fun a => ((pure (2 : Int)) >>= fun a => ((pure n1) >>= fun a => (pure ()) >>= fun b => pure (a, b)) >>= fun b => pure (a, b)) >>= fun b => pure (a, b)) >>= fun a => mir__law_row a.1 a.2.1 a.2.2.1) >>= fun (row_here3 : (List Int)) => (((pure ("" : Str)) >>= fun x => (((pure row_here3) >>= fun xs => compM xs (fun (place4 : Int) => (pure true)) (fun (place4 : Int) => ((pure letters_here2) >>= fun a => (pure place4) >>= fun b => atS a b))) >>= fun a => (pure ()) >>= fun b => pure (a, b)) >>= fun y => joinM x y.1) >>= fun (word5 : Str) => ((((pure n1) >>= fun a => range1 a) >>= fun xs => compM xs (fun (k6 : Int) => (pure true)) (fun (k6 : Int) => ((((pure ar.1) >>= fun a => (((pure (30 : Int)) >>= fun a => (pure k6) >>= fun b => pure (a + b)) >>= fun a => (pure ()) >>= fun b => pure (a, b)) >>= fun b => pure (a, b)) >>= fun a => mir__law_cell a.1 a.2.1) >>= fun a => pure (a % (3 : Int))))) >>= fun (choice7 : (List Int)) => ((pure (⟨[]⟩ : (Dc Str Int))) >>= fun (ways8 : (Dc Str Int)) => ((((pure letters_here2) >>= fun a => sortXM a) >>= fun a => pure (enumL a)) >>= fun xs => loopM (S := ((Dc Str Int))) (ρ := Bool) (fun (k9 : (Int × Str)) (s10 : ((Dc Str Int))) => (((pure choice7) >>= fun a => (pure k9.1) >>= fun b => atM a b) >>= fun a => (pure k9.2) >>= fun b => dputM s10 b a >>= fun (ways11 : (Dc Str Int)) => (pure (.nx (ways11))))) xs (ways8) >>= fun c => thenL c (fun (s10 : ((Dc Str Int))) => (((pure ([] : List Str)) >>= fun a => lstM a) >>= fun (order12 : (List Str)) => (((pure word5) >>= fun a => pure (a.cps.toList.map sgS)) >>= fun xs => loopM (S := ((List Str))) (ρ := Bool) (fun (letter13 : Str) (s14 : ((List Str))) => (((pure letter13) >>= fun a => (pure s14) >>= fun b => pure (!decide (a ∈ b))) >>= fun x => if x then ((pure letter13) >>= fun a => appM s14 a >>= fun (order15 : (List Str)) => (pure (.nx (order15)))) else (pure (.nx (s14))))) xs (order12) >>= fun c => thenL c (fun (s14 : ((List Str))) => (((pure choice7) >>= fun a => pure a) >>= fun (handed16 : (List Int)) => ((((pure word5) >>= fun a => ((pure handed16) >>= fun a => (pure ()) >>= fun b => pure (a, b)) >>= fun b => pure (a, b)) >>= fun a => mir_choice_by a.1 a.2.1) >>= fun (found17 : (List Int)) => ((bOr (bNot (((pure found17) >>= fun a => ((pure n1) >>= fun a => (pure ()) >>= fun b => pure (a, b)) >>= fun b => pure (a, b)) >>= fun a => mir__law_ends a.1 a.2.1)) (bOr ((pure found17) >>= fun a => ((pure s14) >>= fun xs => compM xs (fun (letter18 : Str) => (pure true)) (fun (letter18 : Str) => ((pure s10) >>= fun a => (pure letter18) >>= fun b => dgetM a b))) >>= fun b => neM a b) ((pure handed16) >>= fun a => (pure choice7) >>= fun b => neM a b))) >>= fun x => if x then ((((pure false) >>= fun r => pure (.rt r)) : M (Ctl Empty Empty Bool)) >>= fun y => thenC y nofun) else ((pure (7 : Int)) >>= fun a => (pure (0 : Int)) >>= fun b => setM found17 b a >>= fun (found19 : (List Int)) => ((((pure word5) >>= fun a => ((pure handed16) >>= fun a => (pure ()) >>= fun b => pure (a, b)) >>= fun b => pure (a, b)) >>= fun a => mir_choice_by a.1 a.2.1) >>= fun (found20 : (List Int)) => ((bOr (bNot (((pure found20) >>= fun a => ((pure n1) >>= fun a => (pure ()) >>= fun b => pure (a, b)) >>= fun b => pure (a, b)) >>= fun a => mir__law_ends a.1 a.2.1)) ((pure found20) >>= fun a => ((pure s14) >>= fun xs => compM xs (fun (letter21 : Str) => (pure true)) (fun (letter21 : Str) => ((pure s10) >>= fun a => (pure letter21) >>= fun b => dgetM a b))) >>= fun b => neM a b)) >>= fun x => if x then ((((pure false) >>= fun r => pure (.rt r)) : M (Ctl Empty Empty Bool)) >>= fun y => thenC y nofun) else ((bOr ((pure n1) >>= fun a => (pure (8 : Int)) >>= fun b => pure (decide (b < a))) ((((((pure word5) >>= fun a => (pure ()) >>= fun b => pure (a, b)) >>= fun a => mir_net_by a.1 >>= fun r => noX r) >>= fun a => ((pure found20) >>= fun a => (pure ()) >>= fun b => pure (a, b)) >>= fun b => pure (a, b)) >>= fun a => mir_many_rounds a.1 a.2.1) >>= fun a => (((pure word5) >>= fun a => ((pure s10) >>= fun a => (pure ()) >>= fun b => pure (a, b)) >>= fun b => pure (a, b)) >>= fun a => mir__law_many a.1 a.2.1) >>= fun b => pure (decide (a = b)))) >>= fun r => pure (.rt r)))))))))))))))))))) F sc_law rfl rfl (fun cdv A' outer s H E hr ar => ?_)
  have hr__law_cell := hr.mono (show 1 ≤ 5 by decide)
  have hr__law_letters := hr.mono (show 1 ≤ 5 by decide)
  have hr__law_row := hr.mono (show 2 ≤ 5 by decide)
  have hr_choice_by := hr.mono (show 2 ≤ 5 by decide)
  have hr__law_ends := hr.mono (show 1 ≤ 5 by decide)
  have hr_net_by := hr.mono (show 2 ≤ 5 by decide)
  have hr_many_rounds := hr.mono (show 5 ≤ 5 by decide)
  have hr__law_many := hr.mono (show 3 ≤ 5 by decide)
  exact ⟨_, (ss_asg 1 sc_law.nd (ex_add ex_int (ex_modc (ex_call F__law_cell hr__law_cell m__law_cell k__law_cell b__law_cell (ea_cons (ex_var 0) (ea_cons ex_int ea_nil))))) (fun n1 => (ss_asg 2 sc_law.nd (ex_call F__law_letters hr__law_letters m__law_letters k__law_letters b__law_letters (ea_cons (ex_call F__law_cell hr__law_cell m__law_cell k__law_cell b__law_cell (ea_cons (ex_var 0) (ea_cons ex_int ea_nil))) (ea_cons (ex_var 1) ea_nil))) (fun letters_here2 => (ss_asg 3 sc_law.nd (ex_call F__law_row hr__law_row m__law_row k__law_row b__law_row (ea_cons (ex_var 0) (ea_cons ex_int (ea_cons (ex_var 1) ea_nil)))) (fun row_here3 => (ss_asg 4 sc_law.nd (ex_view (ex_join (K := K) ex_str (ea_cons (ex_frz (ex_lc rfl sc_law.nd (ei_list (K := K) (ex_var 3)) (own := [("_law_place", 12)]) (by kernel_rfl) rfl rfl (fun _ _ _ _ _ place4 => (eg_name 12 sc_law.nd)) (fun _ _ _ _ _ place4 => ef_nil) (fun _ _ _ _ _ place4 => (ex_ixS (ex_var 2) (ex_var 12))))) ea_nil))) (fun word5 => (ss_asgLc 5 rfl sc_law.nd (ei_range1 T.n_range (ex_var 1)) (own := [("_law_k", 7)]) (by kernel_rfl) rfl rfl (fun _ _ _ _ _ k6 => (eg_name 7 sc_law.nd)) (fun _ _ _ _ _ k6 => ef_nil) (fun _ _ _ _ _ k6 => (ex_modc (ex_call F__law_cell hr__law_cell m__law_cell k__law_cell b__law_cell (ea_cons (ex_var 0) (ea_cons (ex_add ex_int (ex_var 7)) ea_nil))))) (fun choice7 => (ss_frz 5 rfl (ss_asg 6 sc_law.nd ex_dnew (fun ways8 => (ss_for (Γs := (fun (s10 : ((Dc Str Int))) => [.mk Ow.v ar.1, .mk Ow.v n1, .mk Ow.v letters_here2, .mk (Ow.l Ow.v) row_here3, .mk Ow.v word5, .mk Ow.v choice7, .mk (Ow.d (κ := Str) (β := Int)) (s10 : (Dc Str Int)), .un, .un, .un, .un, .un, .un])) (ways8) rfl PassesOwn.never (ei_enum (K := K) T.n_enumerate (ex_frz (ex_sortTx rfl T.n_sorted (ex_var 2)))) (.k (.k (.k (.k (.k (.k (.k (.w (.w (.w (.w (.w (.w .n))))))))))))) (fun s10 k9 => (eg_pair (K := K) rfl (eg_name 7 sc_law.nd) (eg_name 8 sc_law.nd))) (fun s10 k9 => (ss_dput 6 hr.units (ex_ixL (K := K) (ex_var 5) (ex_var 7)) (ex_var 8) (fun ways11 => (ss_nil (ways11) (.k (.k (.k (.k (.k (.k (.k (.w (.w (.w (.w (.w (.w .n))))))))))))))))) (fun s10 => (ss_asg 9 sc_law.nd (ex_lst (el_nil (o := Ow.v))) (fun order12 => (ss_for (Γs := (fun (s14 : ((List Str))) => [.mk Ow.v ar.1, .mk Ow.v n1, .mk Ow.v letters_here2, .mk (Ow.l Ow.v) row_here3, .mk Ow.v word5, .mk Ow.v choice7, .mk (Ow.d (κ := Str) (β := Int)) s10, .un, .un, .mk (Ow.l Ow.v) (s14 : (List Str)), .un, .un, .un])) (order12) rfl PassesOwn.never (ei_str (ex_var 4)) (.k (.k (.k (.k (.k (.k (.k (.w (.w (.k (.w (.w (.w .n))))))))))))) (fun s14 letter13 => (eg_name 8 sc_law.nd)) (fun s14 letter13 => (ss_ifE (et_view (et_c (ec_ninL (K := K) (ex_var 8) (ex_var 9)))) (ss_app 9 (ex_var 8) (fun order15 => (ss_nil (order15) (.k (.k (.k (.k (.k (.k (.k (.w (.w (.k (.w (.w (.w .n)))))))))))))))) (ss_nil (s14) (.k (.k (.k (.k (.k (.k (.k (.w (.w (.k (.w (.w (.w .n)))))))))))))))) (fun s14 => (ss_asg 10 sc_law.nd (ex_listL (K := K) T.n_list (ex_var 5)) (fun handed16 => (ss_asg 11 sc_law.nd (ex_view (ex_call F_choice_by hr_choice_by m_choice_by k_choice_by b_choice_by (ea_cons (ex_var 4) (ea_cons (ex_var 10) ea_nil)))) (fun found17 => (ss_ifR (et_view (ew_pt (ew_or (et_not (et_val (ex_call F__law_ends hr__law_ends m__law_ends k__law_ends b__law_ends (ea_cons (ex_var 11) (ea_cons (ex_var 1) ea_nil))))) (ew_or (et_c (ec_neD (K := K) hr.units (ex_var 11) (ex_frz (ex_lc rfl sc_law.nd (ei_list (K := K) (ex_var 9)) (own := [("_law_letter", 8)]) (by kernel_rfl) rfl rfl (fun _ _ _ _ _ letter18 => (eg_name 8 sc_law.nd)) (fun _ _ _ _ _ letter18 => ef_nil) (fun _ _ _ _ _ letter18 => (ex_dget hr.units (ex_var 6) (ex_var 8))))))) (ew_or1 (et_c (ec_neD (K := K) hr.units (ex_var 10) (ex_var 5)))))))) (ss_ret ex_bl) (ss_set 11 ex_int ex_int (fun found19 => (ss_asg 11 sc_law.nd (ex_view (ex_call F_choice_by hr_choice_by m_choice_by k_choice_by b_choice_by (ea_cons (ex_var 4) (ea_cons (ex_var 10) ea_nil)))) (fun found20 => (ss_ifR (et_view (ew_pt (ew_or (et_not (et_val (ex_call F__law_ends hr__law_ends m__law_ends k__law_ends b__law_ends (ea_cons (ex_var 11) (ea_cons (ex_var 1) ea_nil))))) (ew_or1 (et_c (ec_neD (K := K) hr.units (ex_var 11) (ex_frz (ex_lc rfl sc_law.nd (ei_list (K := K) (ex_var 9)) (own := [("_law_letter", 8)]) (by kernel_rfl) rfl rfl (fun _ _ _ _ _ letter21 => (eg_name 8 sc_law.nd)) (fun _ _ _ _ _ letter21 => ef_nil) (fun _ _ _ _ _ letter21 => (ex_dget hr.units (ex_var 6) (ex_var 8))))))))))) (ss_ret ex_bl) (ss_ret (ex_view (ex_or (ex_c (ec_gt (ex_var 1) ex_int)) (ex_one (ex_c (ec_eq (ex_call F_many_rounds hr_many_rounds m_many_rounds k_many_rounds b_many_rounds (ea_cons (ex_frz (ex_callN F_net_by hr_net_by m_net_by k_net_by b_net_by (ea_cons (ex_var 4) ea_nil))) (ea_cons (ex_var 11) ea_nil))) (ex_call F__law_many hr__law_many m__law_many k__law_many b__law_many (ea_cons (ex_var 4) (ea_cons (ex_var 6) ea_nil))))))))))))))))))))))))))))))))))))))⟩
end
/-! ### the head -/
def d_joined : He.DefD := ⟨("joined", none), "joined", "joined", defArgs s_joined, defBody s_joined, defScope s_joined, [], []⟩
def d_partner : He.DefD := ⟨("partner", none), "partner", "partner", defArgs s_partner, defBody s_partner, defScope s_partner, [], []⟩
def d_round_of : He.DefD := ⟨("round_of", none), "round_of", "round_of", defArgs s_round_of, defBody s_round_of, defScope s_round_of, [], []⟩
def d_rounds_of : He.DefD := ⟨("rounds_of", none), "rounds_of", "rounds_of", defArgs s_rounds_of, defBody s_rounds_of, defScope s_rounds_of, [], []⟩
def d_many_rounds : He.DefD := ⟨("many_rounds", none), "many_rounds", "many_rounds", defArgs s_many_rounds, defBody s_many_rounds, defScope s_many_rounds, [], []⟩
def d_letters_of : He.DefD := ⟨("letters_of", none), "letters_of", "letters_of", defArgs s_letters_of, defBody s_letters_of, defScope s_letters_of, [], []⟩
def d_place_order : He.DefD := ⟨("place_order", none), "place_order", "place_order", defArgs s_place_order, defBody s_place_order, defScope s_place_order, [], []⟩
def d_net_by : He.DefD := ⟨("net_by", none), "net_by", "net_by", defArgs s_net_by, defBody s_net_by, defScope s_net_by, [], []⟩
def d_choice_by : He.DefD := ⟨("choice_by", none), "choice_by", "choice_by", defArgs s_choice_by, defBody s_choice_by, defScope s_choice_by, [], []⟩
def d__law_cell : He.DefD := ⟨("_law_cell", none), "_law_cell", "_law_cell", defArgs s__law_cell, defBody s__law_cell, defScope s__law_cell, [], []⟩
def d__law_ends : He.DefD := ⟨("_law_ends", none), "_law_ends", "_law_ends", defArgs s__law_ends, defBody s__law_ends, defScope s__law_ends, [], []⟩
def d__law_row : He.DefD := ⟨("_law_row", none), "_law_row", "_law_row", defArgs s__law_row, defBody s__law_row, defScope s__law_row, [], []⟩
def d__law_letters : He.DefD := ⟨("_law_letters", none), "_law_letters", "_law_letters", defArgs s__law_letters, defBody s__law_letters, defScope s__law_letters, [], []⟩
def d__law_other_place : He.DefD := ⟨("_law_other_place", none), "_law_other_place", "_law_other_place", defArgs s__law_other_place, defBody s__law_other_place, defScope s__law_other_place, [], []⟩
def d__law_next : He.DefD := ⟨("_law_next", none), "_law_next", "_law_next", defArgs s__law_next, defBody s__law_next, defScope s__law_next, [], []⟩
def d__law_many : He.DefD := ⟨("_law_many", none), "_law_many", "_law_many", defArgs s__law_many, defBody s__law_many, defScope s__law_many, [], []⟩
def d_law : He.DefD := ⟨("law", none), "law", "law", defArgs s_law, defBody s_law, defScope s_law, [], []⟩
def fn : List He.DefD := [d_joined, d_partner, d_round_of, d_rounds_of, d_many_rounds, d_letters_of, d_place_order, d_net_by, d_choice_by, d__law_cell, d__law_ends, d__law_row, d__law_letters, d__law_other_place, d__law_next, d__law_many, d_law]
def fa : List He.Fa := [.glo "joined", .glo "partner", .glo "round_of", .glo "rounds_of", .glo "many_rounds", .glo "letters_of", .glo "place_order", .glo "net_by", .glo "choice_by", .glo "_law_cell", .glo "_law_ends", .glo "_law_row", .glo "_law_letters", .glo "_law_other_place", .glo "_law_next", .glo "_law_many", .glo "law", .free "all", .free "bool", .free "divmod", .free "enumerate", .free "int", .free "isinstance", .free "len", .free "list", .free "range", .free "sorted", .glo "JOINS", .str "NAMES" ("abcdefgh" : Str), .str "SMALL" ("abcdefghijklmnopqrstuvwxyz" : Str)]
abbrev R : PySem.W.OpenRow := PySem.W.OpenLaw.row PySem.Challenge.rw_fourway_k20_choices_of_words
def exB (K : PySem.W.Frag) : Bool := exfB exN exT K && tup2B "JOINS" [[1, 0, 3, 2], [2, 3, 0, 1], [3, 2, 1, 0]] K
abbrev hk : PySem.W.Hook := He.hookX 4 fa fn [] [] exB
def ob (s : PySem.W.SharedT) : He.AlX := He.obsX 4 fa fn [] [] exB (HandSHeadRun.getT s)
theorem ob_eq (s : PySem.W.SharedT) : ob s = hk.obs s.abs := He.obsX_eq (HandSHeadRun.getT_eq s)
theorem run (w : World) : HandSHeadRun.RunEq R (PySem.W.view R.prog [27]) hk ob 4000 ((["RoundError", "TooMany", "JOINS", "joined", "partner", "round_of", "rounds_of", "many_rounds", "SMALL", "letters_of", "NAMES", "place_order", "net_by", "choice_by", "_law_cell", "_law_ends", "_law_row", "_law_letters", "_law_other_place", "_law_next", "_law_many"] : List PySem.Str)) w := by
  intro os
  kernel_rfl
theorem facts {P : Program} {w : World} {K : PySem.W.Frag} {h : Heap} {mg : Str → Option Value} {f : Addr} (X : K.In h) (G : h.Ns mainGlobals mg) (hfa : mg ("law" : Str) = some (.ref f)) (c : He.SaysX fa fn [] [] exB w h K) :
    ∃ fd : FuncData, (∀ (s : Shared) (v : Value), BindsTo s fd ⟨[v], []⟩ [("_law_script", v)]) ∧ ∀ base : Heap, K.In base → base.Ns mainGlobals mg → FnOk P w K mg base CX0 6 f fd ["_law_script"] (sp_law K) := by
  have cx := c.more
  have c := c.t.d
  unfold exB at cx
  simp only [Bool.and_eq_true] at cx
  have TE : ExF K exN exT := exf_of (cx.1)
  obtain ⟨fd_joined, F_joined⟩ := c.def_ 0 (d := d_joined) rfl
  obtain ⟨fd_partner, F_partner⟩ := c.def_ 1 (d := d_partner) rfl
  obtain ⟨fd_round_of, F_round_of⟩ := c.def_ 2 (d := d_round_of) rfl
  obtain ⟨fd_rounds_of, F_rounds_of⟩ := c.def_ 3 (d := d_rounds_of) rfl
  obtain ⟨fd_many_rounds, F_many_rounds⟩ := c.def_ 4 (d := d_many_rounds) rfl
  obtain ⟨fd_letters_of, F_letters_of⟩ := c.def_ 5 (d := d_letters_of) rfl
  obtain ⟨fd_place_order, F_place_order⟩ := c.def_ 6 (d := d_place_order) rfl
  obtain ⟨fd_net_by, F_net_by⟩ := c.def_ 7 (d := d_net_by) rfl
  obtain ⟨fd_choice_by, F_choice_by⟩ := c.def_ 8 (d := d_choice_by) rfl
  obtain ⟨fd__law_cell, F__law_cell⟩ := c.def_ 9 (d := d__law_cell) rfl
  obtain ⟨fd__law_ends, F__law_ends⟩ := c.def_ 10 (d := d__law_ends) rfl
  obtain ⟨fd__law_row, F__law_row⟩ := c.def_ 11 (d := d__law_row) rfl
  obtain ⟨fd__law_letters, F__law_letters⟩ := c.def_ 12 (d := d__law_letters) rfl
  obtain ⟨fd__law_other_place, F__law_other_place⟩ := c.def_ 13 (d := d__law_other_place) rfl
  obtain ⟨fd__law_next, F__law_next⟩ := c.def_ 14 (d := d__law_next) rfl
  obtain ⟨fd__law_many, F__law_many⟩ := c.def_ 15 (d := d__law_many) rfl
  obtain ⟨fd_law, F_law⟩ := c.def_ 16 (d := d_law) rfl
  have m_joined := He.glo_ok X G (c.fact 0 (f := .glo "joined") rfl)
  have m_partner := He.glo_ok X G (c.fact 1 (f := .glo "partner") rfl)
  have m_round_of := He.glo_ok X G (c.fact 2 (f := .glo "round_of") rfl)
  have m_rounds_of := He.glo_ok X G (c.fact 3 (f := .glo "rounds_of") rfl)
  have m_many_rounds := He.glo_ok X G (c.fact 4 (f := .glo "many_rounds") rfl)
  have m_letters_of := He.glo_ok X G (c.fact 5 (f := .glo "letters_of") rfl)
  have m_place_order := He.glo_ok X G (c.fact 6 (f := .glo "place_order") rfl)
  have m_net_by := He.glo_ok X G (c.fact 7 (f := .glo "net_by") rfl)
  have m_choice_by := He.glo_ok X G (c.fact 8 (f := .glo "choice_by") rfl)
  have m__law_cell := He.glo_ok X G (c.fact 9 (f := .glo "_law_cell") rfl)
  have m__law_ends := He.glo_ok X G (c.fact 10 (f := .glo "_law_ends") rfl)
  have m__law_row := He.glo_ok X G (c.fact 11 (f := .glo "_law_row") rfl)
  have m__law_letters := He.glo_ok X G (c.fact 12 (f := .glo "_law_letters") rfl)
  have m__law_other_place := He.glo_ok X G (c.fact 13 (f := .glo "_law_other_place") rfl)
  have m__law_next := He.glo_ok X G (c.fact 14 (f := .glo "_law_next") rfl)
  have m__law_many := He.glo_ok X G (c.fact 15 (f := .glo "_law_many") rfl)
  have m_law := He.glo_ok X G (c.fact 16 (f := .glo "law") rfl)
  have T : Txt K mg := ⟨He.free_ok X G (c.fact 17 (f := .free "all") rfl), He.free_ok X G (c.fact 18 (f := .free "bool") rfl), He.free_ok X G (c.fact 19 (f := .free "divmod") rfl), He.free_ok X G (c.fact 20 (f := .free "enumerate") rfl), He.free_ok X G (c.fact 21 (f := .free "int") rfl), He.free_ok X G (c.fact 22 (f := .free "isinstance") rfl), He.free_ok X G (c.fact 23 (f := .free "len") rfl), He.free_ok X G (c.fact 24 (f := .free "list") rfl), He.free_ok X G (c.fact 25 (f := .free "range") rfl), He.free_ok X G (c.fact 26 (f := .free "sorted") rfl), TE, PySem.W.mg_of X G (TE.ok "RoundError" (by decide)).2.2.2.2, PySem.W.mg_of X G (TE.ok "TooMany" (by decide)).2.2.2.2, ⟨He.glo_ok X G (c.fact 27 (f := .glo "JOINS") rfl), fun H => tup2B_ok (cx.2) H⟩, He.str_ok X G (c.fact 28 (f := .str "NAMES" ("abcdefgh" : Str)) rfl), He.str_ok X G (c.fact 29 (f := .str "SMALL" ("abcdefghijklmnopqrstuvwxyz" : Str)) rfl)⟩
  have e := hfa.symm.trans m_law
  cases e
  refine ⟨fd_law, fun s v => FunD.bindsA (ps := ["_law_script"]) F_law (fun _ _ _ _ _ _ us hl => match us, hl with | [_], _ => rfl) s [v] rfl, fun base _ _ => ?_⟩
  have H_joined : Has P w K mg base "joined" 1 ["way", "seat"] (sp_joined K) := ok_joined T F_joined m_joined 
  have H_partner : Has P w K mg base "partner" 2 ["choice", "end"] (sp_partner K) := ok_partner T F_partner m_partner H_joined
  have H_round_of : Has P w K mg base "round_of" 3 ["net", "choice", "end"] (sp_round_of K) := ok_round_of T F_round_of m_round_of H_partner
  have H_rounds_of : Has P w K mg base "rounds_of" 4 ["net", "choice"] (sp_rounds_of K) := ok_rounds_of T F_rounds_of m_rounds_of H_round_of
  have H_many_rounds : Has P w K mg base "many_rounds" 5 ["net", "choice"] (sp_many_rounds K) := ok_many_rounds T F_many_rounds m_many_rounds H_rounds_of
  have H_letters_of : Has P w K mg base "letters_of" 1 ["word"] (sp_letters_of K) := ok_letters_of T F_letters_of m_letters_of 
  have H_place_order : Has P w K mg base "place_order" 1 ["word"] (sp_place_order K) := ok_place_order T F_place_order m_place_order 
  have H_net_by : HasX P w K mg base "net_by" 2 ["word"] (sp_net_by K) := ok_net_by T F_net_by m_net_by H_place_order
  have H_choice_by : Has P w K mg base "choice_by" 2 ["word", "choice"] (sp_choice_by K) := ok_choice_by T F_choice_by m_choice_by H_letters_of H_place_order
  have H__law_cell : Has P w K mg base "_law_cell" 1 ["_law_script", "_law_k"] (sp__law_cell K) := ok__law_cell T F__law_cell m__law_cell 
  have H__law_ends : Has P w K mg base "_law_ends" 1 ["_law_found", "_law_many_here"] (sp__law_ends K) := ok__law_ends T F__law_ends m__law_ends 
  have H__law_row : Has P w K mg base "_law_row" 2 ["_law_script", "_law_at", "_law_n"] (sp__law_row K) := ok__law_row T F__law_row m__law_row H__law_cell
  have H__law_letters : Has P w K mg base "_law_letters" 1 ["_law_cell_here", "_law_n"] (sp__law_letters K) := ok__law_letters T F__law_letters m__law_letters 
  have H__law_other_place : Has P w K mg base "_law_other_place" 1 ["_law_word", "_law_at"] (sp__law_other_place K) := ok__law_other_place T F__law_other_place m__law_other_place 
  have H__law_next : Has P w K mg base "_law_next" 2 ["_law_word", "_law_ways", "_law_at", "_law_onward"] (sp__law_next K) := ok__law_next T F__law_next m__law_next H__law_other_place
  have H__law_many : Has P w K mg base "_law_many" 3 ["_law_word", "_law_ways"] (sp__law_many K) := ok__law_many T F__law_many m__law_many H__law_next
  exact ok0_law T F_law H__law_cell H__law_letters H__law_row H_choice_by H__law_ends H_net_by H_many_rounds H__law_many
end Law

/-! ## Gf1: rows of bits as numbers, what they span, ranks -/
namespace Gf
theorem xs (a b : Nat) : (a ^^^ b) ^^^ b = a := by rw [Nat.xor_assoc, Nat.xor_self, Nat.xor_zero]
theorem xs' (a b : Nat) : b ^^^ (b ^^^ a) = a := by rw [← Nat.xor_assoc, Nat.xor_self, Nat.zero_xor]
/-- all sums of some of the rows, one for each choice of rows -/
def sp : List Nat → List Nat
  | [] => [0]
  | k :: ks => sp ks ++ (sp ks).map (· ^^^ k)
theorem sp_len : ∀ ks : List Nat, (sp ks).length = 2 ^ ks.length
  | [] => rfl
  | k :: ks => by
    show (sp ks ++ (sp ks).map (· ^^^ k)).length = _
    rw [List.length_append, List.length_map, sp_len ks, List.length_cons, Nat.pow_succ]; omega
theorem sp_cons {k : Nat} {ks : List Nat} {v : Nat} : v ∈ sp (k :: ks) ↔ v ∈ sp ks ∨ v ^^^ k ∈ sp ks := by
  show v ∈ sp ks ++ (sp ks).map (· ^^^ k) ↔ _
  rw [List.mem_append, List.mem_map]
  constructor
  · rintro (h | ⟨w, h, rfl⟩)
    · exact .inl h
    · exact .inr (by rw [xs]; exact h)
  · rintro (h | h)
    · exact .inl h
    · exact .inr ⟨_, h, xs _ _⟩
theorem sp_zero : ∀ ks : List Nat, 0 ∈ sp ks
  | [] => by simp [sp]
  | k :: ks => sp_cons.mpr (.inl (sp_zero ks))
theorem sp_xor : ∀ {ks : List Nat} {u v : Nat}, u ∈ sp ks → v ∈ sp ks → u ^^^ v ∈ sp ks
  | [], u, v, h, h' => by
    simp [sp] at h h' ⊢
    rw [h, h']; rfl
  | k :: ks, u, v, h, h' => by
    rw [sp_cons] at h h' ⊢
    rcases h with h | h <;> rcases h' with h' | h'
    · exact .inl (sp_xor h h')
    · exact .inr (by rw [Nat.xor_assoc]; exact sp_xor h h')
    · refine .inr ?_
      have := sp_xor h h'
      rwa [Nat.xor_assoc, Nat.xor_comm k v, ← Nat.xor_assoc] at this
    · refine .inl ?_
      have := sp_xor h h'
      rwa [Nat.xor_comm v k, ← Nat.xor_assoc, xs] at this
theorem sp_mem : ∀ {ks : List Nat} {k : Nat}, k ∈ ks → k ∈ sp ks
  | j :: ks, k, h => by
    rw [sp_cons]
    rcases List.mem_cons.mp h with e | h
    · subst e; exact .inr (by rw [Nat.xor_self]; exact sp_zero ks)
    · exact .inl (sp_mem h)
theorem sp_sub : ∀ {ks ls : List Nat}, (∀ k ∈ ks, k ∈ sp ls) → ∀ v ∈ sp ks, v ∈ sp ls
  | [], ls, _, v, hv => by
    simp [sp] at hv
    subst hv; exact sp_zero ls
  | k :: ks, ls, h, v, hv => by
    have h' := fun x hx => h x (List.mem_cons_of_mem _ hx)
    rcases sp_cons.mp hv with hv | hv
    · exact sp_sub h' v hv
    · have := sp_xor (sp_sub h' _ hv) (h k (List.mem_cons_self ..))
      rwa [xs] at this
def Eqs (ks ls : List Nat) : Prop := ∀ v, v ∈ sp ks ↔ v ∈ sp ls
theorem Eqs.of {ks ls : List Nat} (h : ∀ k ∈ ks, k ∈ sp ls) (h' : ∀ k ∈ ls, k ∈ sp ks) : Eqs ks ls := fun v => ⟨sp_sub h v, sp_sub h' v⟩
theorem Eqs.refl (ks : List Nat) : Eqs ks ks := fun _ => Iff.rfl
theorem Eqs.symm {ks ls : List Nat} (h : Eqs ks ls) : Eqs ls ks := fun v => (h v).symm
theorem Eqs.trans {ks ls ms : List Nat} (h : Eqs ks ls) (h' : Eqs ls ms) : Eqs ks ms := fun v => (h v).trans (h' v)
theorem Eqs.cons {ks ls : List Nat} (h : Eqs ks ls) (k : Nat) : Eqs (k :: ks) (k :: ls) := fun v => by rw [sp_cons, sp_cons, h, h]
/-- no row is a sum of others -/
def Ind (ks : List Nat) : Prop := (sp ks).Nodup
theorem Ind.nil : Ind [] := by simp [Ind, sp]
theorem nodup_le {α : Type} [DecidableEq α] : ∀ {l m : List α}, l.Nodup → (∀ x ∈ l, x ∈ m) → l.length ≤ m.length
  | [], m, _, _ => Nat.zero_le _
  | x :: l, m, nd, h => by
    obtain ⟨h1, h2⟩ := List.nodup_cons.mp nd
    have hx := h x (List.mem_cons_self ..)
    have := nodup_le (m := m.erase x) h2 fun y hy => (List.mem_erase_of_ne (fun e => h1 (by rw [← e]; exact hy))).mpr (h y (List.mem_cons_of_mem _ hy))
    rw [List.length_erase_of_mem hx] at this
    have := List.length_pos_of_mem hx
    rw [List.length_cons]; omega
theorem Ind.le {ks ls : List Nat} (h : Ind ks) (hs : ∀ k ∈ ks, k ∈ sp ls) : ks.length ≤ ls.length := by
  have := nodup_le h (sp_sub hs)
  rw [sp_len, sp_len] at this
  exact (Nat.pow_le_pow_iff_right (by decide)).mp this
theorem Ind.cons {k : Nat} {ks : List Nat} : Ind (k :: ks) ↔ Ind ks ∧ k ∉ sp ks := by
  show (sp ks ++ (sp ks).map (· ^^^ k)).Nodup ↔ (sp ks).Nodup ∧ _
  rw [List.nodup_append]
  constructor
  · rintro ⟨h1, h2, h3⟩
    refine ⟨h1, fun hk => ?_⟩
    exact h3 k hk (0 ^^^ k) (List.mem_map.mpr ⟨0, sp_zero ks, rfl⟩) (by simp)
  · rintro ⟨h1, h2⟩
    refine ⟨h1, List.Pairwise.map _ (fun a b hab e => hab (by
      have := congrArg (· ^^^ k) e
      simpa [xs] using this)) h1, fun a ha b hb e => ?_⟩
    obtain ⟨c, hc, rfl⟩ := List.mem_map.mp hb
    subst e
    have := sp_xor hc ha
    rw [xs'] at this
    exact h2 this
/-- the rank of rows -/
def Rk (ks : List Nat) (r : Nat) : Prop := ∃ bs, Ind bs ∧ bs.length = r ∧ Eqs bs ks
theorem Rk.uniq {ks : List Nat} {r r' : Nat} (h : Rk ks r) (h' : Rk ks r') : r = r' := by
  obtain ⟨b, b1, b2, b3⟩ := h
  obtain ⟨c, c1, c2, c3⟩ := h'
  have e1 := b1.le (ls := c) fun k hk => (c3 k).mpr ((b3 k).mp (sp_mem hk))
  have e2 := c1.le (ls := b) fun k hk => (b3 k).mpr ((c3 k).mp (sp_mem hk))
  omega
theorem Rk.eqs {ks ls : List Nat} {r : Nat} (h : Rk ks r) (e : Eqs ks ls) : Rk ls r := by
  obtain ⟨b, b1, b2, b3⟩ := h
  exact ⟨b, b1, b2, b3.trans e⟩
theorem Rk.ind {ks : List Nat} (h : Ind ks) : Rk ks ks.length := ⟨ks, h, rfl, Eqs.refl _⟩
theorem Rk.ex : ∀ ks : List Nat, ∃ r, r ≤ ks.length ∧ Rk ks r
  | [] => ⟨0, Nat.le_refl _, [], Ind.nil, rfl, Eqs.refl _⟩
  | k :: ks => by
    obtain ⟨r, hr, b, b1, b2, b3⟩ := Rk.ex ks
    by_cases h : k ∈ sp ks
    · exact ⟨r, by rw [List.length_cons]; omega, b, b1, b2, b3.trans (Eqs.of (fun x hx => sp_cons.mpr (.inl (sp_mem hx))) fun x hx => by
        rcases List.mem_cons.mp hx with e | hx
        · subst e; exact h
        · exact sp_mem hx)⟩
    · exact ⟨r + 1, by rw [List.length_cons]; omega, k :: b, Ind.cons.mpr ⟨b1, fun hk => h ((b3 k).mp hk)⟩, by rw [List.length_cons, b2], b3.cons k⟩
theorem Rk.full {ks : List Nat} (h : Rk ks ks.length) : Ind ks := by
  induction ks with
  | nil => exact Ind.nil
  | cons k ks ih =>
    rw [Ind.cons]
    obtain ⟨r, hr, hR⟩ := Rk.ex ks
    have hk : k ∉ sp ks := fun hk => by
      have e : Eqs ks (k :: ks) := Eqs.of (fun x hx => sp_cons.mpr (.inl (sp_mem hx))) fun x hx => by
        rcases List.mem_cons.mp hx with e | hx
        · subst e; exact hk
        · exact sp_mem hx
      have := (hR.eqs e).uniq h
      rw [List.length_cons] at this
      omega
    refine ⟨ih ?_, hk⟩
    have h2 : Rk (k :: ks) (r + 1) := by
      obtain ⟨b, b1, b2, b3⟩ := hR
      exact ⟨k :: b, Ind.cons.mpr ⟨b1, fun h => hk ((b3 k).mp h)⟩, by rw [List.length_cons, b2], b3.cons k⟩
    have := h2.uniq h
    rw [List.length_cons] at this
    have e : r = ks.length := by omega
    rw [← e]; exact hR
/-! ### maps that keep sums -/
def Lin (f : Nat → Nat) : Prop := f 0 = 0 ∧ ∀ a b, f (a ^^^ b) = f a ^^^ f b
theorem sp_map {f : Nat → Nat} (hf : Lin f) : ∀ ks : List Nat, sp (ks.map f) = (sp ks).map f
  | [] => by simp [sp, hf.1]
  | k :: ks => by
    show sp (ks.map f) ++ (sp (ks.map f)).map (· ^^^ f k) = (sp ks ++ (sp ks).map (· ^^^ k)).map f
    rw [sp_map hf ks, List.map_append, List.map_map, List.map_map]
    congr 1
    apply List.map_congr_left
    intro x _
    exact (hf.2 x k).symm
theorem Rk.map {f : Nat → Nat} (hf : Lin f) (hi : ∀ a, f a = 0 → a = 0) {ks : List Nat} {r : Nat} (h : Rk ks r) : Rk (ks.map f) r := by
  obtain ⟨b, b1, b2, b3⟩ := h
  have inj : ∀ x y, f x = f y → x = y := fun x y e => by
    have := hi (x ^^^ y) (by rw [hf.2, e, Nat.xor_self])
    have h := congrArg (· ^^^ y) this
    simpa [xs] using h
  refine ⟨b.map f, ?_, by rw [List.length_map, b2], fun v => ?_⟩
  · show (sp (b.map f)).Nodup
    rw [sp_map hf]
    exact List.Pairwise.map _ (fun a c hac e => hac (inj _ _ e)) b1
  · rw [sp_map hf, sp_map hf, List.mem_map, List.mem_map]
    exact ⟨fun ⟨w, h, e⟩ => ⟨w, (b3 w).mp h, e⟩, fun ⟨w, h, e⟩ => ⟨w, (b3 w).mpr h, e⟩⟩
/-! ### rows, each of which has a bit that no later one has -/
def Tri : List Nat → Prop
  | [] => True
  | k :: ks => k.testBit k.log2 = true ∧ (∀ x ∈ ks, x.testBit k.log2 = false) ∧ Tri ks
theorem sp_bit {t : Nat} : ∀ {ks : List Nat}, (∀ k ∈ ks, k.testBit t = false) → ∀ v ∈ sp ks, v.testBit t = false
  | [], _, v, hv => by
    simp [sp] at hv
    subst hv; simp
  | k :: ks, h, v, hv => by
    have h' := fun x hx => h x (List.mem_cons_of_mem _ hx)
    rcases sp_cons.mp hv with hv | hv
    · exact sp_bit h' v hv
    · have := sp_bit h' _ hv
      rw [Nat.testBit_xor, h k (List.mem_cons_self ..)] at this
      simpa using this
theorem Tri.ind : ∀ {ks : List Nat}, Tri ks → Ind ks
  | [], _ => Ind.nil
  | k :: ks, ⟨h1, h2, h3⟩ => Ind.cons.mpr ⟨h3.ind, fun hk => by
    have := sp_bit h2 k hk
    rw [h1] at this; cases this⟩
theorem top_bit {k : Nat} (h : k ≠ 0) : k.testBit k.log2 = true := by
  rw [Nat.testBit, Nat.shiftRight_eq_div_pow]
  have h1 := Nat.log2_self_le h
  have h2 := Nat.lt_log2_self (n := k)
  have : k / 2 ^ k.log2 = 1 := by
    apply Nat.div_eq_of_lt_le
    · omega
    · rw [Nat.pow_succ] at h2; omega
  rw [this]; rfl
/-- a row lowered by rows -/
def low (m : Nat) (ks : List Nat) : Nat := ks.foldl (fun m k => min m (m ^^^ k)) m
theorem Tri.ne : ∀ {ks : List Nat}, Tri ks → ∀ k ∈ ks, k ≠ 0
  | k :: ks, ⟨h1, h2, h3⟩, x, hx => by
    rcases List.mem_cons.mp hx with e | hx
    · subst e
      intro e
      rw [e] at h1
      simp at h1
    · exact h3.ne x hx
theorem Tri.snoc : ∀ {ks : List Nat} {x : Nat}, Tri ks → x ≠ 0 → (∀ k ∈ ks, x.testBit k.log2 = false) → Tri (ks ++ [x])
  | [], x, _, hx, _ => ⟨top_bit hx, by simp, True.intro⟩
  | k :: ks, x, ⟨h1, h2, h3⟩, hx, h => ⟨h1, fun y hy => by
      rcases List.mem_append.mp hy with hy | hy
      · exact h2 y hy
      · rw [List.mem_singleton.mp hy]
        exact h k (List.mem_cons_self ..), h3.snoc hx fun y hy => h y (List.mem_cons_of_mem _ hy)⟩
/-- the leads of rows -/
def leads : List Nat → List Nat → List Nat
  | [], ls => ls
  | r :: rs, ls => leads rs (if low r ls > 0 then ls ++ [low r ls] else ls)
end Gf

/-! ## Gf2: masks of rows -/
namespace Gf
open PySem Ty
theorem Rk.push {ks : List Nat} {r v : Nat} (h : Rk ks r) (hv : v ∉ sp ks) : Rk (v :: ks) (r + 1) := by
  obtain ⟨b, b1, b2, b3⟩ := h
  exact ⟨v :: b, Ind.cons.mpr ⟨b1, fun h => hv ((b3 v).mp h)⟩, by rw [List.length_cons, b2], b3.cons v⟩
end Gf

/-! ## Gf3: the steps of undoing a table -/
namespace Gf
open PySem Ty
theorem Eqs.map {f : Nat → Nat} (hf : Lin f) {ks ls : List Nat} (h : Eqs ks ls) : Eqs (ks.map f) (ls.map f) := fun v => by
  rw [sp_map hf, sp_map hf, List.mem_map, List.mem_map]
  exact ⟨fun ⟨w, h1, e⟩ => ⟨w, (h w).mp h1, e⟩, fun ⟨w, h1, e⟩ => ⟨w, (h w).mpr h1, e⟩⟩
/-- the unit rows -/
theorem units_sp : ∀ (us : List Nat) (v : Nat), (∀ j, v.testBit j = true → j ∈ us) → v ∈ sp (us.map (2 ^ ·))
  | [], v, h => by
    have : v = 0 := by
      apply Nat.eq_of_testBit_eq
      intro j
      rw [Nat.zero_testBit]
      cases q : v.testBit j with
      | false => rfl
      | true => exact absurd (h j q) (by simp)
    subst this; simp [sp]
  | u :: us, v, h => by
    show v ∈ sp (2 ^ u :: us.map (2 ^ ·))
    rw [sp_cons]
    cases q : v.testBit u with
    | false =>
      left
      refine units_sp us v fun j hj => ?_
      rcases List.mem_cons.mp (h j hj) with e | h'
      · subst e; rw [q] at hj; cases hj
      · exact h'
    | true =>
      right
      refine units_sp us _ fun j hj => ?_
      rw [Nat.testBit_xor, Nat.testBit_two_pow] at hj
      by_cases e : u = j
      · subst e; rw [q] at hj; simp at hj
      · have hv : v.testBit j = true := by simpa [e] using hj
        rcases List.mem_cons.mp (h j hv) with e' | h'
        · exact absurd e'.symm e
        · exact h'
/-- the row f moved to the place t -/
def mv (t f : Nat) (g : Nat → Nat) : Nat → Nat := fun j => if j < t then g j else if j = t then g f else if j ≤ f then g (j - 1) else g j
/-- the row t added to all others that have the bit t -/
def cl (t : Nat) (g : Nat → Nat) : Nat → Nat := fun k => if k ≠ t ∧ (g k).testBit t = true then g k ^^^ g t else g k
/-- the first t columns are done -/
def Done (n t : Nat) (g : Nat → Nat) : Prop := ∀ j, j < t → ∀ k, k < n → (g k).testBit j = decide (k = j)
theorem Done.step {n t f : Nat} {g : Nat → Nat} (h : Done n t g) (ht : t ≤ f) (hf : f < n) (hb : (g f).testBit t = true) : Done n (t + 1) (cl t (mv t f g)) := by
  have m1 : ∀ j, j < t → ∀ k, k < n → (mv t f g k).testBit j = decide (k = j) := fun j hj k hk => by
    unfold mv
    split
    · exact h j hj k hk
    · split
      · rw [h j hj f hf]
        exact decide_eq_decide.mpr (by omega)
      · split
        · rw [h j hj (k - 1) (by omega)]
          exact decide_eq_decide.mpr (by omega)
        · exact h j hj k hk
  have m2 : (mv t f g t).testBit t = true := by unfold mv; rw [if_neg (by omega), if_pos rfl]; exact hb
  intro j hj k hk
  by_cases hjt : j < t
  · unfold cl
    split
    · rw [Nat.testBit_xor, m1 j hjt k hk, m1 j hjt t (by omega), decide_eq_false (show ¬ t = j by omega)]; simp
    · exact m1 j hjt k hk
  · have : j = t := by omega
    subst this
    unfold cl
    by_cases hkj : k = j
    · subst hkj
      rw [if_neg (by simp), m2]; simp
    · split
      · rename_i h2
        rw [Nat.testBit_xor, h2.2, m2]; simp [hkj]
      · rename_i h2
        have : ¬ (mv j f g k).testBit j = true := fun z => h2 ⟨hkj, z⟩
        rw [decide_eq_false hkj]
        simpa using this
theorem Done.full {n : Nat} {g : Nat → Nat} (h : Done n n g) : (row n g).map (fun m => m % 2 ^ n) = row n fun i => 2 ^ i := by
  unfold row
  rw [List.map_map]
  apply List.map_congr_left
  intro k hk
  have hk := List.mem_range.mp hk
  apply Nat.eq_of_testBit_eq
  intro j
  show (g k % 2 ^ n).testBit j = _
  rw [Nat.testBit_mod_two_pow, Nat.testBit_two_pow]
  by_cases hj : j < n
  · rw [h j hj k hk, decide_eq_true hj]; simp
  · rw [decide_eq_false hj, decide_eq_false (by omega)]; rfl
/-- no row for the column t: there are too few -/
theorem Done.none {n t : Nat} {g : Nat → Nat} (h : Done n t g) (ht : t < n) (hno : ∀ k, t ≤ k → k < n → (g k).testBit t = false) : ¬ Rk ((row n g).map fun m => m % 2 ^ n) n := by
  intro hr
  have hlen : ((row n g).map fun m => m % 2 ^ n).length = n := by rw [List.length_map, row_len]
  have hi : Ind ((row n g).map fun m => m % 2 ^ n) := Rk.full (by rw [hlen]; exact hr)
  -- the rows from t on
  let tl := (List.range (n - t)).map fun i => g (t + i) % 2 ^ n
  have hsub : ∃ pre, (row n g).map (fun m => m % 2 ^ n) = pre ++ tl := by
    refine ⟨(List.range t).map fun i => g i % 2 ^ n, ?_⟩
    unfold row
    rw [List.map_map]
    have e : List.range n = List.range t ++ (List.range (n - t)).map (t + ·) := by
      rw [← List.range_add, show t + (n - t) = n by omega]
    rw [e, List.map_append, List.map_map]
    rfl
  obtain ⟨pre, hpre⟩ := hsub
  have hind : ∀ (a b : List Nat), Ind (a ++ b) → Ind b := by
    intro a
    induction a with
    | nil => exact fun b h => h
    | cons x a ih => exact fun b h => ih b (Ind.cons.mp h).1
  have h1 : Ind tl := hind pre tl (by rw [← hpre]; exact hi)
  have h2 := h1.le (ls := ((List.range (n - t - 1)).map fun i => t + 1 + i).map (2 ^ ·)) fun k hk => by
    obtain ⟨i, hi, rfl⟩ := List.mem_map.mp hk
    have hi := List.mem_range.mp hi
    refine units_sp _ _ fun j hj => ?_
    rw [Nat.testBit_mod_two_pow] at hj
    by_cases hjn : j < n
    · rw [decide_eq_true hjn] at hj
      have hj : (g (t + i)).testBit j = true := by simpa using hj
      have ht1 : t < j := by
        rcases Nat.lt_or_ge t j with q | q
        · exact q
        · rcases Nat.lt_or_ge j t with q2 | q2
          · rw [h j q2 (t + i) (by omega), decide_eq_false (by omega)] at hj; cases hj
          · have : j = t := by omega
            subst this
            rw [hno (j + i) (by omega) (by omega)] at hj; cases hj
      exact List.mem_map.mpr ⟨j - (t + 1), List.mem_range.mpr (by omega), by omega⟩
    · rw [decide_eq_false hjn] at hj
      simp at hj
  simp only [tl, List.length_map, List.length_range] at h2
  omega
/-- rows with a 1 at the bit p, but one, and the others, with that one added -/
theorem Rk.elim {R R' : List Nat} {pv p r : Nat} (h : Rk R r) (e : Eqs R (pv :: R')) (hp : pv.testBit p = true) (hz : ∀ k ∈ R', k.testBit p = false) : ∃ r', r = r' + 1 ∧ Rk R' r' := by
  obtain ⟨r', _, h'⟩ := Rk.ex R'
  have := h'.push (v := pv) fun hv => by
    have := sp_bit hz _ hv
    rw [hp] at this; cases this
  exact ⟨r', (h.eqs e).uniq this, h'⟩
theorem Rk.zero {R : List Nat} (h : ∀ k ∈ R, k = 0) : Rk R 0 := ⟨[], Ind.nil, rfl, Eqs.of (fun k hk => by cases hk) fun k hk => by rw [h k hk]; exact sp_zero _⟩
end Gf

/-! ## Gf4: the greatest part that can be undone -/
namespace Gf
open PySem Ty
/-- an odd number of the h k, k below n -/
def qx : Nat → (Nat → Bool) → Bool
  | 0, _ => false
  | n + 1, h => qx n h != h n
theorem qx_xor (a b : Nat → Bool) : ∀ n, qx n (fun k => a k != b k) = (qx n a != qx n b)
  | 0 => rfl
  | n + 1 => by
    show (qx n _ != (a n != b n)) = ((qx n a != a n) != (qx n b != b n))
    rw [qx_xor a b n]
    cases qx n a <;> cases qx n b <;> cases a n <;> cases b n <;> rfl
theorem qx_congr {h h' : Nat → Bool} : ∀ {n : Nat}, (∀ k, k < n → h k = h' k) → qx n h = qx n h'
  | 0, _ => rfl
  | n + 1, e => by
    show (qx n h != h n) = (qx n h' != h' n)
    rw [qx_congr fun k hk => e k (by omega), e n (by omega)]
theorem qx_no {h : Nat → Bool} : ∀ {n : Nat}, (∀ k, k < n → h k = false) → qx n h = false
  | 0, _ => rfl
  | n + 1, e => by
    show (qx n h != h n) = false
    rw [qx_no fun k hk => e k (by omega), e n (by omega)]; rfl
end Gf

/-! ## Gf5: parts of a pivoted table -/
namespace Gf
open PySem Ty
/-- the part at S can be undone -/
def NS (n : Nat) (a : Nat → Nat → Bool) (S : Nat → Bool) : Prop := ∀ x : Nat → Bool, (∀ k, k < n → S k = false → x k = false) → (∀ i, i < n → S i = true → qx n (fun j => a i j && x j) = false) → ∀ k, k < n → x k = false
theorem NS.congr {n : Nat} {a : Nat → Nat → Bool} {S T : Nat → Bool} (e : ∀ k, k < n → S k = T k) (h : NS n a S) : NS n a T := fun x h1 h2 => h x (fun k hk hs => h1 k hk (by rw [← e k hk]; exact hs)) fun i hi hs => h2 i hi (by rw [← e i hi]; exact hs)
/-! ### pivots -/
theorem qx_split {n v : Nat} (hv : v < n) (h : Nat → Bool) : qx n h = (h v != qx n fun k => if k = v then false else h k) := by
  induction n with
  | zero => omega
  | succ n ih =>
    show (qx n h != h n) = (h v != (qx n (fun k => if k = v then false else h k) != (if n = v then false else h n)))
    by_cases e : n = v
    · subst e
      rw [if_pos rfl, qx_congr (h := fun k => if k = n then false else h k) (h' := h) fun k hk => if_neg (by omega)]
      generalize qx n h = q
      cases q <;> cases h n <;> rfl
    · rw [if_neg e, ih (by omega)]
      generalize qx n (fun k => if k = v then false else h k) = q
      cases q <;> cases h n <;> cases h v <;> rfl
def Ppt (n : Nat) (a b : Nat → Nat → Bool) (X : Nat → Bool) : Prop := ∀ x : Nat → Bool, ∀ i, i < n → qx n (fun j => b i j && (if X j then qx n (fun k => a j k && x k) else x j)) = if X i then x i else qx n fun k => a i k && x k
theorem Ppt.ns {n : Nat} {a b : Nat → Nat → Bool} {X S : Nat → Bool} (h : Ppt n a b X) (hs : NS n b S) : NS n a fun k => S k != X k := by
  intro x h1 h2
  have h3 := hs (fun j => if X j then qx n (fun k => a j k && x k) else x j) (fun k hk hS => ?_) fun i hi hS => ?_
  · intro k hk
    have h4 := h3 k hk
    cases hX : X k with
    | false => simpa [hX] using h4
    | true =>
      have h5 := h x k hk
      rw [hX, if_pos rfl, qx_no fun j hj => by rw [h3 j hj]; simp] at h5
      exact h5.symm
  · cases hX : X k with
    | true => rw [if_pos rfl]; exact h2 k hk (by show (_ != _) = _; rw [hS, hX]; rfl)
    | false => rw [if_neg (by simp)]; exact h1 k hk (by show (_ != _) = _; rw [hS, hX]; rfl)
  · rw [h x i hi]
    cases hX : X i with
    | true => rw [if_pos rfl]; exact h1 i hi (by show (_ != _) = _; rw [hS, hX]; rfl)
    | false => rw [if_neg (by simp)]; exact h2 i hi (by show (_ != _) = _; rw [hS, hX]; rfl)
theorem qx_split2 {n u v : Nat} (hu : u < n) (hv : v < n) (huv : u ≠ v) (h : Nat → Bool) : qx n h = (h u != (h v != qx n fun k => if k = u ∨ k = v then false else h k)) := by
  rw [qx_split hu, qx_split hv, if_neg (fun e => huv e.symm)]
  rw [qx_congr (h' := fun k => if k = u ∨ k = v then false else h k) fun k hk => by
    by_cases e1 : k = v
    · simp [e1]
    · by_cases e2 : k = u
      · simp [e1, e2]
      · simp [e1, e2]]
/-- rows that differ by sums of few rows have near ranks -/
theorem Rk.near {n r r' : Nat} {g h : Nat → Nat} {ws : List Nat} (hg : Rk (row n g) r) (hh : Rk (row n h) r') (hd : ∀ i, i < n → g i ^^^ h i ∈ sp ws) : r ≤ r' + ws.length := by
  obtain ⟨b, b1, b2, b3⟩ := hg
  obtain ⟨c, c1, c2, c3⟩ := hh
  have := b1.le (ls := ws ++ c) fun k hk => by
    have h1 := (b3 k).mp (sp_mem hk)
    refine sp_sub (fun y hy => ?_) k h1
    obtain ⟨i, hi, rfl⟩ := List.mem_map.mp hy
    have hi := List.mem_range.mp hi
    have h2 : g i ^^^ h i ∈ sp (ws ++ c) := sp_sub (fun z hz => sp_mem (List.mem_append_left _ hz)) _ (hd i hi)
    have h3 : h i ∈ sp (ws ++ c) := sp_sub (fun z hz => sp_mem (List.mem_append_right _ hz)) _ ((c3 (h i)).mpr (sp_mem (List.mem_map.mpr ⟨i, List.mem_range.mpr hi, rfl⟩)))
    have := sp_xor h2 h3
    rwa [xs] at this
  rw [List.length_append] at this
  omega
end Gf

/-! ## Gf6: the rounds part the ends -/
namespace Gf
open PySem Ty
section
variable {s p f : Int → Int} {e : Int} {m : Nat} (hs : ∀ x, s x = f (p x)) (hpi : ∀ x : Int, 0 ≤ x → x < m → 0 ≤ p x ∧ p x < m ∧ p (p x) = x ∧ p x ≠ x) (hfi : ∀ x : Int, 0 ≤ x → x < m → 0 ≤ f x ∧ f x < m ∧ f (f x) = x ∧ f x ≠ x) (h0 : 0 ≤ e) (h1 : e < m)
include hs hpi hfi h0 h1
/-- a round is closed -/
theorem wl_closed {k : Nat} (k1 : 1 ≤ k) (hk : orb s e k = e) {x : Int} (hx : x ∈ wl s p e k) : 0 ≤ x ∧ x < m ∧ p x ∈ wl s p e k ∧ f x ∈ wl s p e k := by
  obtain ⟨i, hi, h⟩ := (mem_wl k).mp hx
  have rg := orb_rng hs hpi hfi h0 h1
  have a := rg i
  have b := hpi _ a.1 a.2
  rcases h with rfl | rfl
  · refine ⟨a.1, a.2, (mem_wl k).mpr ⟨i, hi, .inr rfl⟩, ?_⟩
    have key : ∀ j, f (orb s e (j + 1)) = p (orb s e j) := fun j => by
      show f (s (orb s e j)) = _
      have c := hpi _ (rg j).1 (rg j).2
      rw [hs]
      exact (hfi _ c.1 c.2.1).2.2.1
    cases i with
    | zero =>
      refine (mem_wl k).mpr ⟨k - 1, by omega, .inr ?_⟩
      have := key (k - 1)
      rw [show k - 1 + 1 = k by omega, hk] at this
      exact this
    | succ j => exact (mem_wl k).mpr ⟨j, by omega, .inr (key j)⟩
  · refine ⟨b.1, b.2.1, ?_, ?_⟩
    · rw [b.2.2.1]; exact (mem_wl k).mpr ⟨i, hi, .inl rfl⟩
    · rw [← hs]
      by_cases h : i + 1 = k
      · have : s (orb s e i) = e := by
          show orb s e (i + 1) = e
          rw [h]; exact hk
        rw [this]
        exact (mem_wl k).mpr ⟨0, by omega, .inl rfl⟩
      · exact (mem_wl k).mpr ⟨i + 1, by omega, .inl rfl⟩
/-- what is closed and meets a round has its first end -/
theorem wl_back {k : Nat} {W : Int → Prop} (hW : ∀ x, W x → W (p x) ∧ W (f x)) {x : Int} (hx : x ∈ wl s p e k) (hw : W x) : W e := by
  obtain ⟨i, hi, h⟩ := (mem_wl k).mp hx
  have rg := orb_rng hs hpi hfi h0 h1
  have : ∀ i, W (orb s e i) → W e := by
    intro i
    induction i with
    | zero => exact fun h => h
    | succ i ih =>
      intro h
      refine ih ?_
      have c := hpi _ (rg i).1 (rg i).2
      have d := hfi _ c.1 c.2.1
      have e1 : f (orb s e (i + 1)) = p (orb s e i) := by
        show f (s (orb s e i)) = _
        rw [hs]; exact d.2.2.1
      have := (hW _ (hW _ h).2).1
      rw [e1, c.2.2.1] at this
      exact this
  rcases h with rfl | rfl
  · exact this i hw
  · have c := hpi _ (rg i).1 (rg i).2
    have := (hW _ hw).1
    rw [c.2.2.1] at this
    rename_i q
    exact q i this
end
/-- a round from its first end -/
def Rd (s p : Int → Int) (e : Int) (R : List Int) : Prop := ∃ k, 1 ≤ k ∧ R = wl s p e k ∧ orb s e k = e ∧ ∀ j, 1 ≤ j → j < k → orb s e j ≠ e
/-- the rounds of the ends below i -/
structure Rds (s p : Int → Int) (i : Nat) (W : List (List Int)) : Prop where
  rd : ∀ R ∈ W, ∃ e, 0 ≤ e ∧ e < (i : Int) ∧ Rd s p e R ∧ ∀ y ∈ R, e ≤ y
  nd : W.flatten.Nodup
  all : ∀ x : Int, 0 ≤ x → x < (i : Int) → x ∈ W.flatten
  len : W.length ≤ i
theorem Rd.head {s p : Int → Int} {e : Int} {R : List Int} (h : Rd s p e R) : R[0]? = some e ∧ 2 ≤ R.length := by
  obtain ⟨k, h1, rfl, _, _⟩ := h
  exact ⟨(wl_get (k := k) (i := 0) (by omega)).1, by rw [wl_len]; omega⟩
theorem Rd.uniq {s p : Int → Int} {e : Int} {R R' : List Int} (h : Rd s p e R) (h' : Rd s p e R') : R = R' := by
  obtain ⟨k, h1, rfl, h2, h3⟩ := h
  obtain ⟨k', h1', rfl, h2', h3'⟩ := h'
  have : k = k' := by
    rcases Nat.lt_trichotomy k k' with z | z | z
    · exact absurd h2 (h3' k h1 z)
    · exact z
    · exact absurd h2' (h3 k' h1' z)
  rw [this]
theorem Rds.zero {s p : Int → Int} : Rds s p 0 [] := ⟨by simp, by simp, fun x a b => by omega, by simp⟩
theorem Rds.old {s p : Int → Int} {i : Nat} {W : List (List Int)} (h : Rds s p i W) (hi : (i : Int) ∈ W.flatten) : Rds s p (i + 1) W :=
  ⟨fun R hR => by
    obtain ⟨e, a, b, c⟩ := h.rd R hR
    exact ⟨e, a, by omega, c⟩, h.nd, fun x a b => by
    by_cases z : x = i
    · rw [z]; exact hi
    · exact h.all x a (by omega), Nat.le_succ_of_le h.len⟩
section
variable {s p f : Int → Int} {m : Nat} (hs : ∀ x, s x = f (p x)) (hpi : ∀ x : Int, 0 ≤ x → x < m → 0 ≤ p x ∧ p x < m ∧ p (p x) = x ∧ p x ≠ x) (hfi : ∀ x : Int, 0 ≤ x → x < m → 0 ≤ f x ∧ f x < m ∧ f (f x) = x ∧ f x ≠ x)
include hs hpi hfi
theorem Rd.rng {e : Int} {R : List Int} (h0 : 0 ≤ e) (h1 : e < m) (h : Rd s p e R) : ∀ x ∈ R, 0 ≤ x ∧ x < m := by
  obtain ⟨k, k1, rfl, k2, _⟩ := h
  intro x hx
  have := wl_closed hs hpi hfi h0 h1 k1 k2 hx
  exact ⟨this.1, this.2.1⟩
theorem Rd.nd {e : Int} {R : List Int} (h0 : 0 ≤ e) (h1 : e < m) (h : Rd s p e R) : R.Nodup := by
  obtain ⟨k, k1, rfl, k2, k3⟩ := h
  exact wl_nodup hs hpi hfi h0 h1 k k3
theorem Rd.len {e : Int} {R : List Int} (h0 : 0 ≤ e) (h1 : e < m) (h : Rd s p e R) : R.length ≤ m := by
  have a := Rd.rng hs hpi hfi h0 h1 h
  have b := Rd.nd hs hpi hfi h0 h1 h
  have := len_le_of_lt m (R.map Int.toNat) (by
    rw [List.nodup_iff_pairwise_ne, List.pairwise_map]
    refine List.Pairwise.imp_of_mem ?_ b
    intro x y hx hy hxy e
    have := a x hx
    have := a y hy
    omega) (fun y hy => by
    obtain ⟨x, hx, rfl⟩ := List.mem_map.mp hy
    have := a x hx
    omega)
  rwa [List.length_map] at this
theorem Rds.new {i : Nat} {W : List (List Int)} {R : List Int} (hi : i < m) (h : Rds s p i W) (hn : (i : Int) ∉ W.flatten) (hR : Rd s p i R) : Rds s p (i + 1) (W ++ [R]) := by
  have hd : ∀ x ∈ R, x ∉ W.flatten := by
    intro x hx hw
    obtain ⟨k, k1, rfl, k2, k3⟩ := hR
    obtain ⟨R', hR', hx'⟩ := List.mem_flatten.mp hw
    obtain ⟨e, a, b, ⟨k', k1', rfl, k2', k3'⟩, _⟩ := h.rd _ hR'
    refine hn (List.mem_flatten.mpr ⟨_, hR', ?_⟩)
    exact wl_back hs hpi hfi (e := (i : Int)) (by omega) (by omega) (W := fun x => x ∈ wl s p e k') (fun y hy => (wl_closed hs hpi hfi a (by omega) k1' k2' hy).2.2) hx hx'
  have hr := Rd.rng hs hpi hfi (e := (i : Int)) (by omega) (by omega) hR
  refine ⟨fun R' hR' => ?_, ?_, fun x a b => ?_, ?_⟩
  · rcases List.mem_append.mp hR' with z | z
    · obtain ⟨e, a, b, c⟩ := h.rd R' z
      exact ⟨e, a, by omega, c⟩
    · rw [List.mem_singleton.mp z]
      refine ⟨i, by omega, by omega, hR, fun y hy => ?_⟩
      rcases Int.lt_or_le y i with q | q
      · exact absurd (h.all y (hr y hy).1 q) (hd y hy)
      · exact q
  · rw [List.flatten_append, List.nodup_append]
    refine ⟨h.nd, by simpa using Rd.nd hs hpi hfi (e := (i : Int)) (by omega) (by omega) hR, ?_⟩
    intro x hx y hy e
    subst e
    exact hd x (by simpa using hy) hx
  · rw [List.flatten_append, List.mem_append]
    by_cases z : x = i
    · refine .inr ?_
      rw [z]
      simp only [List.flatten_cons, List.flatten_nil, List.append_nil]
      exact List.mem_of_getElem? hR.head.1
    · exact .inl (h.all x a (by omega))
  · rw [List.length_append]
    have := h.len
    simp; omega
theorem Rds.rng {i : Nat} {W : List (List Int)} (hi : i ≤ m) (h : Rds s p i W) : ∀ x ∈ W.flatten, 0 ≤ x ∧ x < m := by
  intro x hx
  obtain ⟨R, hR, hx⟩ := List.mem_flatten.mp hx
  obtain ⟨e, a, b, c, _⟩ := h.rd R hR
  exact Rd.rng hs hpi hfi a (by omega) c x hx
end
theorem Rds.ne {s p : Int → Int} {m : Nat} {W : List (List Int)} (hm : 1 ≤ m) (h : Rds s p m W) : 1 ≤ W.length := by
  rcases Nat.eq_zero_or_pos W.length with z | z
  · have := h.all 0 (by omega) (by omega)
    rw [List.length_eq_zero_iff.mp z] at this
    simp at this
  · exact z
/-- what is put into a dict -/
theorem putAllM_ok {β : Type} {a : β} : ∀ (R : List Int) (d : Dc Int β), d.l.length + R.length ≤ 100000 → ∃ d', putAllM d R a = .ok d' ∧ d'.l.length ≤ d.l.length + R.length ∧ ∀ x, dhas d' x = (decide (x ∈ R) || dhas d x)
  | [], d, _ => ⟨d, rfl, by simp, fun x => by simp⟩
  | y :: R, d, h => by
    rw [List.length_cons] at h
    have e : dputM d y a = .ok ⟨dput d.l y a⟩ := dputM_ok (by omega)
    have l := dput_len d.l y a
    obtain ⟨d', q1, q2, q3⟩ := putAllM_ok (a := a) R ⟨dput d.l y a⟩ (by simp only; omega)
    refine ⟨d', ?_, ?_, fun x => ?_⟩
    · unfold putAllM
      rw [e]; exact q1
    · rw [List.length_cons]
      simp only at q2; omega
    · rw [q3 x]
      unfold dhas
      rw [dget_dput]
      by_cases z : x = y
      · subst z; simp
      · rw [if_neg z]
        have : decide (x ∈ y :: R) = decide (x ∈ R) := by simp [z]
        rw [this]
end Gf

/-! ## Gf7: numbers exchanged between sets that can be undone -/
namespace Gf
open PySem Ty
abbrev Sym (n : Nat) (a : Nat → Nat → Bool) : Prop := ∀ i j, i < n → j < n → a i j = a j i
theorem qx_one {n v : Nat} (hv : v < n) {h : Nat → Bool} (hz : ∀ k, k < n → k ≠ v → h k = false) : qx n h = h v := by
  rw [qx_split hv, qx_no fun k hk => by
    by_cases e : k = v
    · rw [if_pos e]
    · rw [if_neg e]; exact hz k hk e]
  simp
/-- each number of a set that can be undone has 1 with one of the set -/
theorem NS.hit {n u : Nat} {a : Nat → Nat → Bool} {S : Nat → Bool} (hs : Sym n a) (h : NS n a S) (hu : u < n) (hS : S u = true) : ∃ v, v < n ∧ S v = true ∧ a u v = true := by
  refine Classical.byContradiction fun hn => ?_
  have := h (fun k => decide (k = u)) (fun k _ hk => decide_eq_false fun e => by rw [e, hS] at hk; cases hk) (fun i hi hSi => ?_) u hu
  · simp at this
  · rw [qx_one hu fun k _ hk => by simp [hk]]
    simp only [decide_true, Bool.and_true]
    rw [hs i u hi hu]
    cases q : a u i with
    | false => rfl
    | true => exact absurd ⟨i, hi, hSi, q⟩ hn
end Gf

/-! ## Gf8: one round, and the ways at a place that leave one -/
namespace Gf
open PySem Ty
def fJ (f : Nat → Int) (x : Int) : Int := f x.toNat
def sJ (f c : Nat → Int) (x : Int) : Int := f (par c x).toNat
/-- whatever is closed is all or nothing -/
def OneR (m : Nat) (p f : Int → Int) : Prop := ∀ W : Int → Prop, (∀ x, 0 ≤ x → x < (m : Int) → W x → W (p x) ∧ W (f x)) → (∃ x, 0 ≤ x ∧ x < (m : Int) ∧ W x) → ∀ x, 0 ≤ x → x < (m : Int) → W x
section
variable {s p f : Int → Int} {m : Nat} (hs : ∀ x, s x = f (p x)) (hpi : ∀ x : Int, 0 ≤ x → x < m → 0 ≤ p x ∧ p x < m ∧ p (p x) = x ∧ p x ≠ x) (hfi : ∀ x : Int, 0 ≤ x → x < m → 0 ≤ f x ∧ f x < m ∧ f (f x) = x ∧ f x ≠ x)
include hs hpi hfi
theorem wl_fwd {e : Int} (h0 : 0 ≤ e) (h1 : e < m) {Z : Int → Prop} (hZ : ∀ x, 0 ≤ x → x < (m : Int) → Z x → Z (p x) ∧ Z (f x)) (he : Z e) (k : Nat) : ∀ x ∈ wl s p e k, Z x := by
  have rg := orb_rng hs hpi hfi h0 h1
  have ho : ∀ i, Z (orb s e i) := by
    intro i
    induction i with
    | zero => exact he
    | succ i ih =>
      show Z (s (orb s e i))
      rw [hs]
      have a := hpi _ (rg i).1 (rg i).2
      exact (hZ _ a.1 a.2.1 (hZ _ (rg i).1 (rg i).2 ih).1).2
  intro x hx
  obtain ⟨i, _, h⟩ := (mem_wl k).mp hx
  rcases h with rfl | rfl
  · exact ho i
  · exact (hZ _ (rg i).1 (rg i).2 (ho i)).1
theorem wl_back' {e : Int} (h0 : 0 ≤ e) (h1 : e < m) {Z : Int → Prop} (hZ : ∀ x, 0 ≤ x → x < (m : Int) → Z x → Z (p x) ∧ Z (f x)) {k : Nat} {x : Int} (hx : x ∈ wl s p e k) (hw : Z x) : Z e := by
  obtain ⟨i, hi, h⟩ := (mem_wl k).mp hx
  have rg := orb_rng hs hpi hfi h0 h1
  have key : ∀ i, Z (orb s e i) → Z e := by
    intro i
    induction i with
    | zero => exact fun h => h
    | succ i ih =>
      intro h
      refine ih ?_
      have c := hpi _ (rg i).1 (rg i).2
      have d := hfi _ c.1 c.2.1
      have e1 : f (orb s e (i + 1)) = p (orb s e i) := by
        show f (s (orb s e i)) = _
        rw [hs]; exact d.2.2.1
      have h2 := (hZ _ (rg (i + 1)).1 (rg (i + 1)).2 h).2
      rw [e1] at h2
      have := (hZ _ c.1 c.2.1 h2).1
      rwa [c.2.2.1] at this
  rcases h with rfl | rfl
  · exact key i hw
  · have c := hpi _ (rg i).1 (rg i).2
    have := (hZ _ c.1 c.2.1 hw).1
    rw [c.2.2.1] at this
    exact key i this
theorem Rds.one {W : List (List Int)} (hm : 1 ≤ m) (h : Rds s p m W) : W.length = 1 ↔ OneR m p f := by
  constructor
  · intro hl Z hZ hx x h0 h1
    obtain ⟨y, y0, y1, hy⟩ := hx
    obtain ⟨R, hR⟩ := List.length_eq_one_iff.mp hl
    subst hR
    have ally := h.all y y0 y1
    have allx := h.all x h0 h1
    simp only [List.flatten_cons, List.flatten_nil, List.append_nil] at ally allx
    obtain ⟨e, a, b, ⟨k, k1, rfl, k2, k3⟩, _⟩ := h.rd R (List.mem_singleton.mpr rfl)
    exact wl_fwd hs hpi hfi a b hZ (wl_back' hs hpi hfi a b hZ ally hy) k x allx
  · intro ho
    have hne := h.ne hm
    match W, h, hne with
    | [R], _, _ => rfl
    | R :: R' :: W, h, _ =>
      exfalso
      obtain ⟨e, a, b, ⟨k, k1, rfl, k2, k3⟩, _⟩ := h.rd R (List.mem_cons_self ..)
      obtain ⟨e', a', b', hR', _⟩ := h.rd R' (by simp)
      have := ho (fun x => x ∈ wl s p e k) (fun x x0 x1 hx => (wl_closed hs hpi hfi a b k1 k2 hx).2.2) ⟨e, a, b, (mem_wl k).mpr ⟨0, by omega, .inl rfl⟩⟩ e' a' b'
      have nd := h.nd
      rw [List.flatten_cons, List.nodup_append] at nd
      exact nd.2.2 e' this e' (by
        rw [List.flatten_cons, List.mem_append]
        exact .inl (List.mem_of_getElem? hR'.head.1)) rfl
end
section
variable {n : Nat} {f : Nat → Int}
theorem sJ_s {c : Nat → Int} : ∀ x, sJ f c x = fJ f (par c x) := fun _ => rfl
theorem par_hJ {c : Nat → Int} : ∀ x : Int, 0 ≤ x → x < ((4 * n : Nat) : Int) → 0 ≤ par c x ∧ par c x < ((4 * n : Nat) : Int) ∧ par c (par c x) = x ∧ par c x ≠ x := fun x a b => by
  have := par_in (c := c) a b
  exact ⟨this.1, this.2, par_par a, par_ne a⟩
theorem net_hJ (hf : Net (4 * n) f) (hf2 : ∀ i, i < 4 * n → f i ≠ i) : ∀ x : Int, 0 ≤ x → x < ((4 * n : Nat) : Int) → 0 ≤ fJ f x ∧ fJ f x < ((4 * n : Nat) : Int) ∧ fJ f (fJ f x) = x ∧ fJ f x ≠ x := fun x a b => by
  have q := hf x.toNat (by omega)
  exact ⟨q.1, q.2.1, by unfold fJ; rw [q.2.2]; omega, fun z => hf2 x.toNat (by omega) (by unfold fJ at z; omega)⟩
theorem par_at {c : Nat → Int} {x : Int} (h0 : 0 ≤ x) : par c x / 4 = x / 4 := by
  have h := jn_in (w := c (x / 4).toNat) (s := x % 4) (by omega) (by omega)
  unfold par
  omega
theorem par_off {c c' : Nat → Int} {q x : Int} (h0 : 0 ≤ q) (hc : ∀ k : Nat, (k : Int) ≠ q → c k = c' k) (hx : 0 ≤ x) (hq : x / 4 ≠ q) : par c x = par c' x := by
  unfold par
  rw [hc (x / 4).toNat (by omega)]
/-- from x, off the place, to y at the place -/
def Pth (f c : Nat → Int) (q x y : Int) : Prop := ∃ k, 1 ≤ k ∧ orb (sJ f c) (par c x) k = y ∧ y / 4 = q ∧ ∀ j, 1 ≤ j → j < k → orb (sJ f c) (par c x) j / 4 ≠ q
variable (hf : Net (4 * n) f) (hf2 : ∀ i, i < 4 * n → f i ≠ i) {c : Nat → Int} {q : Int} (hq0 : 0 ≤ q) (hq1 : q < (n : Int))
include hf hf2 hq0 hq1
theorem pth_ex {x : Int} (hx : x / 4 = q) : ∃ y, Pth f c q x y := by
  have x0 : 0 ≤ x ∧ x < ((4 * n : Nat) : Int) := by omega
  have pp := par_hJ (c := c) x x0.1 x0.2
  obtain ⟨k, k1, _, k3, _⟩ := orb_back (s := sJ f c) (e := par c x) (m := 4 * n) (fun z a b => by
    have q := par_hJ (c := c) z a b
    have q2 := net_hJ hf hf2 _ q.1 q.2.1
    exact ⟨q2.1, q2.2.1⟩) (fun u v a b a' b' h => s_inj (s := sJ f c) (p := par c) (f := fJ f) sJ_s par_hJ (net_hJ hf hf2) pp.1 pp.2.1 a b a' b' h) pp.1 pp.2.1
  obtain ⟨j, _, j2, j3⟩ := least_of (fun j => orb (sJ f c) (par c x) (j + 1) / 4 = q) (k - 1) (by
    rw [show k - 1 + 1 = k by omega, k3, par_at x0.1, hx])
  exact ⟨_, j + 1, by omega, rfl, j2, fun i i1 i2 => by
    have := j3 (i - 1) (by omega)
    rwa [show i - 1 + 1 = i by omega] at this⟩
/-- the steps of a way between -/
theorem pth_rng {x : Int} (hx : x / 4 = q) (i : Nat) : 0 ≤ orb (sJ f c) (par c x) i ∧ orb (sJ f c) (par c x) i < ((4 * n : Nat) : Int) := by
  have x0 : 0 ≤ x ∧ x < ((4 * n : Nat) : Int) := by omega
  have pp := par_hJ (c := c) x x0.1 x0.2
  exact orb_rng (s := sJ f c) (p := par c) (f := fJ f) sJ_s par_hJ (net_hJ hf hf2) pp.1 pp.2.1 i
theorem pth_ne {x y : Int} (hx : x / 4 = q) (h : Pth f c q x y) : y ≠ x := by
  obtain ⟨k, k1, rfl, k2, k3⟩ := h
  have x0 : 0 ≤ x ∧ x < ((4 * n : Nat) : Int) := by omega
  have pp := par_hJ (c := c) x x0.1 x0.2
  have := orb_par' (s := sJ f c) (p := par c) (f := fJ f) (e := par c x) (m := 4 * n) sJ_s par_hJ (net_hJ hf hf2) pp.1 pp.2.1 0 k
  intro z
  apply this
  rw [z]
  exact pp.2.2.1
/-- what is closed by another way at the place has both ends of a path, or none -/
theorem pth_on {c' : Nat → Int} (hc : ∀ k : Nat, (k : Int) ≠ q → c k = c' k) {x y : Int} (hx : x / 4 = q) (h : Pth f c q x y) {Z : Int → Prop} (hZ : ∀ x, 0 ≤ x → x < ((4 * n : Nat) : Int) → Z x → Z (par c' x) ∧ Z (fJ f x)) (hz : Z x) : Z y := by
  obtain ⟨k, k1, rfl, k2, k3⟩ := h
  have x0 : 0 ≤ x ∧ x < ((4 * n : Nat) : Int) := by omega
  have pp := par_hJ (c := c) x x0.1 x0.2
  have rg := pth_rng (c := c) hf hf2 hq0 hq1 hx
  have key : ∀ j, 1 ≤ j → j ≤ k → Z (orb (sJ f c) (par c x) j) := by
    intro j j1
    induction j with
    | zero => omega
    | succ j ih =>
      intro hj
      by_cases h0 : j = 0
      · subst h0
        show Z (sJ f c (par c x))
        rw [sJ_s, pp.2.2.1]
        exact (hZ x x0.1 x0.2 hz).2
      · have ih := ih (by omega) (by omega)
        show Z (sJ f c (orb (sJ f c) (par c x) j))
        rw [sJ_s]
        have a := par_hJ (c := c) _ (rg j).1 (rg j).2
        refine (hZ _ a.1 a.2.1 ?_).2
        rw [par_off hq0 hc (rg j).1 (k3 j (by omega) (by omega))]
        exact (hZ _ (rg j).1 (rg j).2 ih).1
  exact key k k1 (Nat.le_refl _)
end
end Gf

/-! ## Gf9: as few rounds as parts -/
namespace Gf
open PySem Ty
theorem nodup_sub : ∀ {l m : List Int}, l.Nodup → (∀ x ∈ l, x ∈ m) → l.length ≤ m.length
  | [], m, _, _ => by simp
  | a :: l, m, h, hs => by
    obtain ⟨h1, h2⟩ := List.nodup_cons.mp h
    have ha := hs a (List.mem_cons_self ..)
    have := nodup_sub (m := m.erase a) h2 fun x hx => (List.mem_erase_of_ne (fun e => h1 (by rw [← e]; exact hx))).mpr (hs x (List.mem_cons_of_mem _ hx))
    rw [List.length_erase_of_mem ha] at this
    have : 0 < m.length := List.length_pos_of_mem ha
    simp only [List.length_cons]; omega
/-- a list that is longer than what it has -/
theorem two_alike {α : Type} {k : α → Int} : ∀ {l : List α} {m : List Int}, (∀ x ∈ l, k x ∈ m) → m.length < l.length → ∃ pre x mid y post, l = pre ++ x :: (mid ++ y :: post) ∧ k x = k y := by
  intro l m hs hl
  have : ¬ (l.map k).Nodup := fun h => by
    have := nodup_sub h fun x hx => by
      obtain ⟨y, hy, rfl⟩ := List.mem_map.mp hx
      exact hs y hy
    rw [List.length_map] at this; omega
  clear hs hl
  induction l with
  | nil => exact absurd List.nodup_nil this
  | cons a l ih =>
    by_cases h : k a ∈ l.map k
    · obtain ⟨b, hb, e⟩ := List.mem_map.mp h
      obtain ⟨mid, post, rfl⟩ := List.append_of_mem hb
      exact ⟨[], a, mid, b, post, rfl, e.symm⟩
    · obtain ⟨pre, x, mid, y, post, rfl, e⟩ := ih fun hn => this (by rw [List.map_cons]; exact List.nodup_cons.mpr ⟨h, hn⟩)
      exact ⟨a :: pre, x, mid, y, post, rfl, e⟩
def hd (R : List Int) : Int := R.getD 0 0
theorem Rd.hd {s p : Int → Int} {e : Int} {R : List Int} (h : Rd s p e R) : hd R = e ∧ e ∈ R := by
  have := h.head.1
  refine ⟨?_, List.mem_of_getElem? this⟩
  unfold Gf.hd
  rw [List.getD_eq_getElem?_getD, this]; rfl
section
variable {s p : Int → Int} {m : Nat} {W : List (List Int)} (h : Rds s p m W)
include h
theorem Rds.disj {R R' : List Int} (hR : R ∈ W) (hR' : R' ∈ W) {x : Int} (h1 : x ∈ R) (h2 : x ∈ R') : R = R' := by
  have nd := h.nd
  have : ∀ (W : List (List Int)), W.flatten.Nodup → R ∈ W → R' ∈ W → R = R' := by
    intro W
    induction W with
    | nil => intro _ h; cases h
    | cons A W ih =>
      intro nd a b
      rw [List.flatten_cons, List.nodup_append] at nd
      have key : ∀ {B : List Int}, B ∈ W → x ∈ A → x ∈ B → False := fun hB h1 h2 => nd.2.2 x h1 x (List.mem_flatten.mpr ⟨_, hB, h2⟩) rfl
      rcases List.mem_cons.mp a with ea | ea
      · rcases List.mem_cons.mp b with eb | eb
        · rw [ea, eb]
        · exact (key eb (by rw [← ea]; exact h1) h2).elim
      · rcases List.mem_cons.mp b with eb | eb
        · exact (key ea (by rw [← eb]; exact h2) h1).elim
        · exact ih nd.2.1 ea eb
  exact this W nd hR hR'
theorem Rds.heads : (W.map hd).Nodup := by
  have key : ∀ (V : List (List Int)), (∀ R ∈ V, R ∈ W) → V.flatten.Nodup → (V.map hd).Nodup := by
    intro V
    induction V with
    | nil => intro _ _; exact List.nodup_nil
    | cons A V ih =>
      intro hV nd
      rw [List.flatten_cons, List.nodup_append] at nd
      rw [List.map_cons]
      refine List.nodup_cons.mpr ⟨fun hm => ?_, ih (fun R hR => hV R (List.mem_cons_of_mem _ hR)) nd.2.1⟩
      obtain ⟨B, hB, e⟩ := List.mem_map.mp hm
      obtain ⟨a, _, _, ha, _⟩ := h.rd A (hV A (List.mem_cons_self ..))
      obtain ⟨b, _, _, hb, _⟩ := h.rd B (hV B (List.mem_cons_of_mem _ hB))
      rw [ha.hd.1, hb.hd.1] at e
      subst e
      exact nd.2.2 b ha.hd.2 b (List.mem_flatten.mpr ⟨_, hB, hb.hd.2⟩) rfl
  exact key W (fun _ h => h) h.nd
end
section
variable {n : Nat} {f : Nat → Int} (hf : Net (4 * n) f) (hf2 : ∀ i, i < 4 * n → f i ≠ i)
include hf hf2
theorem rd_closed {c : Nat → Int} {W : List (List Int)} (h : Rds (sJ f c) (par c) (4 * n) W) {R : List Int} (hR : R ∈ W) : ∀ x ∈ R, 0 ≤ x ∧ x < ((4 * n : Nat) : Int) ∧ par c x ∈ R ∧ fJ f x ∈ R := by
  obtain ⟨e, a, b, ⟨k, k1, rfl, k2, _⟩, _⟩ := h.rd R hR
  exact fun x hx => wl_closed sJ_s par_hJ (net_hJ hf hf2) a b k1 k2 hx
/-- what is closed and meets a round has the whole -/
theorem rd_whole {c : Nat → Int} {W : List (List Int)} (h : Rds (sJ f c) (par c) (4 * n) W) {R : List Int} (hR : R ∈ W) {Z : Int → Prop} (hZ : ∀ x, 0 ≤ x → x < ((4 * n : Nat) : Int) → Z x → Z (par c x) ∧ Z (fJ f x)) {x : Int} (hx : x ∈ R) (hz : Z x) : ∀ y ∈ R, Z y := by
  obtain ⟨e, a, b, ⟨k, k1, rfl, k2, _⟩, _⟩ := h.rd R hR
  exact wl_fwd sJ_s par_hJ (net_hJ hf hf2) a b hZ (wl_back' sJ_s par_hJ (net_hJ hf hf2) a b hZ hx hz) k
/-- joined at a place at which two rounds go: fewer rounds -/
theorem fewer {c : Nat → Int} {W W' : List (List Int)} {q a b w : Int} (hq0 : 0 ≤ q) (hq1 : q < (n : Int)) (h : Rds (sJ f c) (par c) (4 * n) W) (ha : a / 4 = q) (hb : b / 4 = q) {R : List Int} (hR : R ∈ W) (haR : a ∈ R) (hbR : b ∉ R)
    (hj : par (fun k => if (k : Int) = q then w else c k) a = b) (h' : Rds (sJ f (fun k => if (k : Int) = q then w else c k)) (par fun k => if (k : Int) = q then w else c k) (4 * n) W') : W'.length < W.length := by
  have hoff : ∀ k : Nat, (k : Int) ≠ q → c k = (fun k : Nat => if (k : Int) = q then w else c k) k := fun k hk => by
    simp only []
    rw [if_neg hk]
  generalize (fun k : Nat => if (k : Int) = q then w else c k) = c' at hj h' hoff
  have a0 : 0 ≤ a ∧ a < ((4 * n : Nat) : Int) := by omega
  have b0 : 0 ≤ b ∧ b < ((4 * n : Nat) : Int) := by omega
  have hRc := rd_closed hf hf2 h hR
  have pa := par_hJ (n := n) (c := c) a a0.1 a0.2
  have pb := par_hJ (n := n) (c := c) b b0.1 b0.2
  have pa4 := par_at (c := c) (x := a) a0.1
  have pb4 := par_at (c := c) (x := b) b0.1
  have haP : par c a ∈ R := (hRc a haR).2.2.1
  have hbP : par c b ∉ R := fun z => hbR (by have := (hRc _ z).2.2.1; rwa [pb.2.2.1] at this)
  -- the four ends of the place
  have four : ∀ x : Int, x / 4 = q → x = a ∨ x = par c a ∨ x = b ∨ x = par c b := by
    intro x hx
    have n1 : a ≠ b := fun e => hbR (e ▸ haR)
    have n2 : a ≠ par c b := fun e => hbP (e ▸ haR)
    have n3 : par c a ≠ b := fun e => hbR (e ▸ haP)
    have n4 : par c a ≠ par c b := fun e => hbP (e ▸ haP)
    have n5 := pa.2.2.2
    have n6 := pb.2.2.2
    generalize par c a = u at *
    generalize par c b = v at *
    omega
  -- what is closed by the new ways is closed by the old ones
  have old : ∀ Z : Int → Prop, (∀ x, 0 ≤ x → x < ((4 * n : Nat) : Int) → Z x → Z (par c' x) ∧ Z (fJ f x)) → ∀ x, 0 ≤ x → x < ((4 * n : Nat) : Int) → Z x → Z (par c x) ∧ Z (fJ f x) := by
    intro Z hZ x x0 x1 hx
    refine ⟨?_, (hZ x x0 x1 hx).2⟩
    by_cases hxq : x / 4 = q
    · obtain ⟨y, hy⟩ := pth_ex (c := c) hf hf2 hq0 hq1 hxq
      have y4 : y / 4 = q := by obtain ⟨_, _, _, h, _⟩ := hy; exact h
      have hzy := pth_on hf hf2 hq0 hq1 hoff hxq hy hZ hx
      have hne := pth_ne (c := c) hf hf2 hq0 hq1 hxq hy
      have inR : x ∈ R → y ∈ R := fun hx => pth_on (c' := c) hf hf2 hq0 hq1 (fun _ _ => rfl) hxq hy (Z := fun z => z ∈ R) (fun z _ _ hz => (hRc z hz).2.2) hx
      have outR : x ∉ R → y ∉ R := fun hx => pth_on (c' := c) hf hf2 hq0 hq1 (fun _ _ => rfl) hxq hy (Z := fun z => 0 ≤ z ∧ z < ((4 * n : Nat) : Int) ∧ z ∉ R) (fun z z0 z1 hz => by
        have p1 := par_hJ (n := n) (c := c) z z0 z1
        have p2 := net_hJ hf hf2 z z0 z1
        refine ⟨⟨p1.1, p1.2.1, fun h => hz.2.2 ?_⟩, p2.1, p2.2.1, fun h => hz.2.2 ?_⟩
        · have := (hRc _ h).2.2.1; rwa [p1.2.2.1] at this
        · have := (hRc _ h).2.2.2; rwa [p2.2.2.1] at this) ⟨x0, x1, hx⟩ |>.2.2
      have : y = par c x := by
        rcases four x hxq with rfl | rfl | rfl | rfl
        · have := inR haR
          rcases four y y4 with rfl | rfl | rfl | rfl
          · exact absurd rfl hne
          · rfl
          · exact absurd this hbR
          · exact absurd this hbP
        · have := inR haP
          rw [pa.2.2.1]
          rcases four y y4 with rfl | rfl | rfl | rfl
          · rfl
          · exact absurd rfl hne
          · exact absurd this hbR
          · exact absurd this hbP
        · have := outR hbR
          rcases four y y4 with rfl | rfl | rfl | rfl
          · exact absurd haR this
          · exact absurd haP this
          · exact absurd rfl hne
          · rfl
        · have := outR hbP
          rw [pb.2.2.1]
          rcases four y y4 with rfl | rfl | rfl | rfl
          · exact absurd haR this
          · exact absurd haP this
          · rfl
          · exact absurd rfl hne
      rw [← this]; exact hzy
    · rw [par_off hq0 hoff x0 hxq]
      exact (hZ x x0 x1 hx).1
  have whole : ∀ R' ∈ W', ∀ A ∈ W, ∀ x, x ∈ A → x ∈ R' → ∀ y ∈ A, y ∈ R' := fun R' hR' A hA x h1 h2 => rd_whole hf hf2 h hA (Z := fun z => z ∈ R') (old (fun z => z ∈ R') fun z _ _ hz => (rd_closed hf hf2 h' hR' z hz).2.2) h1 h2
  -- each new first end is an old one
  have first : ∀ R' ∈ W', ∃ A ∈ W, hd A = hd R' ∧ hd R' ∈ A := by
    intro R' hR'
    obtain ⟨e', e0, e1, hr', le'⟩ := h'.rd R' hR'
    obtain ⟨A, hA, hx⟩ := List.mem_flatten.mp (h.all e' e0 e1)
    obtain ⟨e, z0, z1, hr, le⟩ := h.rd A hA
    have he := whole R' hR' A hA e' hx hr'.hd.2 e hr.hd.2
    have := le' e he
    have := le e' hx
    refine ⟨A, hA, ?_, ?_⟩
    · rw [hr.hd.1, hr'.hd.1]; omega
    · rw [hr'.hd.1]; exact hx
  -- the round of b
  obtain ⟨B, hB, hbB⟩ := List.mem_flatten.mp (h.all b b0.1 b0.2)
  obtain ⟨R', hR', haR'⟩ := List.mem_flatten.mp (h'.all a a0.1 a0.2)
  have hbR' : b ∈ R' := by
    have := (rd_closed hf hf2 h' hR' a haR').2.2.1
    rwa [hj] at this
  have hRR := whole R' hR' R hR a haR haR'
  have hBR := whole R' hR' B hB b hbB hbR'
  obtain ⟨r1, _, _, hr1, _⟩ := h.rd R hR
  obtain ⟨r2, _, _, hr2, _⟩ := h.rd B hB
  have hne : r1 ≠ r2 := fun e => by
    subst e
    exact hbR (h.disj hR hB hr1.hd.2 hr2.hd.2 ▸ hbB)
  obtain ⟨e', _, _, hr', le'⟩ := h'.rd R' hR'
  -- the greater of both is no new first end
  have hlt : ∀ r, (r = r1 ∨ r = r2) → r ≠ e' → r ∉ W'.map hd := by
    intro r hr hre hm
    obtain ⟨A', hA', e⟩ := List.mem_map.mp hm
    obtain ⟨x, _, _, hx, _⟩ := h'.rd A' hA'
    rw [hx.hd.1] at e
    subst e
    have : x ∈ R' := by
      rcases hr with rfl | rfl
      · exact hRR _ hr1.hd.2
      · exact hBR _ hr2.hd.2
    have := h'.disj hA' hR' hx.hd.2 this
    subst this
    have e1 := hx.hd.1
    have e2 := hr'.hd.1
    exact hre (e1.symm.trans e2)
  obtain ⟨r, hr, hre⟩ : ∃ r, (r = r1 ∨ r = r2) ∧ r ≠ e' := by
    by_cases z : r1 = e'
    · exact ⟨r2, .inr rfl, fun z2 => hne (z.trans z2.symm)⟩
    · exact ⟨r1, .inl rfl, z⟩
  have hrm : r ∈ W.map hd := by
    rcases hr with rfl | rfl
    · exact List.mem_map.mpr ⟨R, hR, hr1.hd.1⟩
    · exact List.mem_map.mpr ⟨B, hB, hr2.hd.1⟩
  have := nodup_sub (l := r :: W'.map hd) (m := W.map hd) (List.nodup_cons.mpr ⟨hlt r hr hre, h'.heads⟩) fun x hx => by
    rcases List.mem_cons.mp hx with rfl | hx
    · exact hrm
    · obtain ⟨A', hA', rfl⟩ := List.mem_map.mp hx
      obtain ⟨A, hA, e, _⟩ := first A' hA'
      exact List.mem_map.mpr ⟨A, hA, e⟩
  simp only [List.length_cons, List.length_map] at this
  omega
end
end Gf

/-! ## Gf10: texts as rows of signs; a sign that stands twice -/
namespace Gf
open PySem Ty PySem.StrLaws Builtin.Str
abbrev tx (l : List Nat) : Str := ⟨l.toArray⟩
theorem tx_sg (c : Nat) : sgS c = tx [c] := rfl
theorem tx_len (l : List Nat) : (tx l).length = l.length := by show l.toArray.size = _; simp
theorem tx_app (a b : List Nat) : tx a ++ tx b = tx (a ++ b) := by
  show (⟨a.toArray ++ b.toArray⟩ : Str) = _
  simp
theorem sgs (l : List Nat) : (tx l).cps.toList.map sgS = l.map sgS := rfl
theorem addS_ok {a b : List Nat} (h : a.length + b.length ≤ 16777216) : addSM (tx a) (tx b) = .ok (tx (a ++ b)) := by
  unfold addSM
  have e : szB ((tx a).length + (tx b).length) = true := by
    rw [tx_len, tx_len]
    unfold szB
    rw [sizeLine_eq]
    exact decide_eq_true h
  rw [e, tx_app]; rfl
theorem lenS_ok {a : List Nat} (h : a.length ≤ 16777216) : lenS (tx a) = .ok (a.length : Int) := by
  unfold lenS
  rw [sizeLine_eq, decide_eq_true (by rw [tx_len]; exact h), tx_len]; rfl
theorem atS_ok {a : List Nat} {i : Int} (h : a.length ≤ 16777216) (h0 : 0 ≤ i) (h1 : i < a.length) : atS (tx a) i = .ok (sgS (a.getD i.toNat 0)) := by
  unfold atS
  rw [sizeLine_eq, decide_eq_true (by rw [tx_len]; exact h)]
  have e : L2.atI (tx a).cps.toList i = some (a.getD i.toNat 0) := by
    rw [atI_ok h0 (by exact h1)]
    show a[i.toNat]? = _
    rw [List.getD_eq_getElem?_getD, List.getElem?_eq_getElem (by omega)]; rfl
  rw [e]; rfl
theorem glued_nil : ∀ (l : List Str) (acc : Array Nat), l.foldl (fun acc p => acc ++ (tx []).cps ++ p.cps) acc = acc ++ (l.flatMap fun p => p.cps.toList).toArray
  | [], acc => by simp
  | p :: l, acc => by
    rw [List.foldl_cons, glued_nil l]
    apply Array.ext'
    simp
theorem join_tx (cs : List (List Nat)) : Txt.join (tx []) (cs.map tx) = tx cs.flatten := by
  show glued (tx []) (cs.map tx) = _
  unfold glued
  cases cs with
  | nil => rfl
  | cons c cs =>
    rw [List.map_cons, List.drop_succ_cons, List.drop_zero, glued_nil]
    show (⟨c.toArray ++ _⟩ : Str) = _
    rw [List.flatMap_map]
    show _ = (⟨(c :: cs).flatten.toArray⟩ : Str)
    congr 1
    apply Array.ext'
    rw [List.flatten_cons]
    simp [List.flatMap_def]
theorem joinS_ok {l : List Nat} (h : l.length ≤ 16777216) : joinM (tx []) (l.map sgS) = .ok (tx l) := by
  unfold joinM
  have e1 : ((l.map sgS).map (·.length)).sum = l.length := by
    rw [List.map_map]
    induction l with
    | nil => rfl
    | cons a l ih =>
      rw [List.map_cons, List.sum_cons, ih (by simp at h; omega)]
      show 1 + l.length = _
      simp; omega
  rw [decide_eq_true (by rw [e1]; show l.length + (l.map sgS).length * 0 ≤ _; omega)]
  have e2 : l.map sgS = (l.map fun c => [c]).map tx := by rw [List.map_map]; rfl
  rw [e2, join_tx]
  have e3 : ∀ l : List Nat, (l.map fun c => [c]).flatten = l := by
    intro l
    induction l with
    | nil => rfl
    | cons a l ih => simpa using ih
  rw [e3]; rfl
/-! ### where a sign stands -/
theorem occ_run (x : Str) (c lim : Nat) : ∀ (is : List Nat) (acc : Array Nat) (free : Nat), is.Pairwise (· < ·) → (∀ i ∈ is, free ≤ i) →
    (forIn is (acc, free) (occBody x ⟨#[c]⟩ x.length lim)).run.fst.toList = acc.toList ++ (is.filter fun i => decide (x.cps.toList[i]? = some c)).take (lim - acc.size)
  | [], acc, free, _, _ => by simp
  | a :: is, acc, free, hp, hf => by
    rw [List.forIn_cons]
    unfold occBody
    obtain ⟨hp1, hp2⟩ := List.pairwise_cons.mp hp
    have ha := hf a List.mem_cons_self
    by_cases hc : x.cps.toList[a]? = some c
    · have hs := (subAt_one x c a).mpr hc
      rw [List.filter_cons_of_pos (by simpa using hc)]
      by_cases hl : acc.size < lim
      · rw [if_pos ⟨⟨⟨hl, ha⟩, hs.1⟩, hs.2⟩]
        refine (occ_run x c lim is _ _ hp2 fun i hi => ?_).trans ?_
        · have := hp1 i hi
          show a + 1 ≤ i
          omega
        · rw [Array.toList_push, Array.size_push, List.append_assoc]
          congr 1
          rw [show lim - acc.size = (lim - (acc.size + 1)) + 1 by omega, List.take_succ_cons]
          rfl
      · rw [if_neg (fun h => hl h.1.1.1)]
        refine (occ_run x c lim is _ _ hp2 fun i hi => hf i (List.mem_cons_of_mem _ hi)).trans ?_
        rw [show lim - acc.size = 0 by omega]; simp
    · rw [List.filter_cons_of_neg (by simpa using hc), if_neg (fun h => hc ((subAt_one x c a).mp ⟨h.1.2, h.2⟩))]
      exact occ_run x c lim is _ _ hp2 fun i hi => hf i (List.mem_cons_of_mem _ hi)
theorem occ_one (l : List Nat) (c lo lim : Nat) : occurrences (tx l) (sgS c) lo l.length lim = ((List.range' lo (l.length + 1 - lo)).filter fun i => decide (l[i]? = some c)).take lim := by
  rw [occ_eq, ← tx_len l]
  refine (occ_run (tx l) c lim _ _ _ ?_ ?_).trans ?_
  · exact List.pairwise_lt_range'
  · intro i hi
    have := List.mem_range'.mp hi
    omega
  · rw [tx_len]; rfl
theorem up_nat {a b : List Nat} (ha : a.Pairwise (· < ·)) (hb : b.Pairwise (· < ·)) (h : ∀ x, x ∈ a ↔ x ∈ b) : a = b := Ty.nup_uniq ha hb h
theorem pos_up (l : List Nat) (c lo n : Nat) : ((List.range' lo n).filter fun i => decide (l[i]? = some c)).Pairwise (· < ·) := List.Pairwise.filter _ List.pairwise_lt_range'
theorem mem_pos {l : List Nat} {c lo i : Nat} : i ∈ ((List.range' lo (l.length + 1 - lo)).filter fun i => decide (l[i]? = some c)) ↔ lo ≤ i ∧ l[i]? = some c := by
  rw [List.mem_filter, List.mem_range', decide_eq_true_eq]
  constructor
  · rintro ⟨⟨j, h1, h2⟩, h3⟩
    exact ⟨by omega, h3⟩
  · rintro ⟨h1, h2⟩
    have := (List.getElem?_eq_some_iff.mp h2).1
    exact ⟨⟨i - lo, by omega, by omega⟩, h2⟩
/-- c stands at i and j alone -/
structure Two (l : List Nat) (c i j : Nat) : Prop where
  lt : i < j
  hi : l[i]? = some c
  hj : l[j]? = some c
  only : ∀ k, l[k]? = some c → k = i ∨ k = j
theorem Two.bi {l : List Nat} {c i j : Nat} (h : Two l c i j) : i < l.length := (List.getElem?_eq_some_iff.mp h.hi).1
theorem Two.bj {l : List Nat} {c i j : Nat} (h : Two l c i j) : j < l.length := (List.getElem?_eq_some_iff.mp h.hj).1
theorem Two.mem {l : List Nat} {c i j : Nat} (h : Two l c i j) : c ∈ l := List.mem_of_getElem? h.hi
theorem Two.uniq {l : List Nat} {c i j i' j' : Nat} (h : Two l c i j) (h' : Two l c i' j') : i = i' ∧ j = j' := by
  have a := h.only i' h'.hi
  have b := h.only j' h'.hj
  have c1 := h'.only i h.hi
  have d := h'.only j h.hj
  have := h.lt
  have := h'.lt
  omega
theorem Two.pos0 {l : List Nat} {c i j : Nat} (h : Two l c i j) : ((List.range' 0 (l.length + 1 - 0)).filter fun k => decide (l[k]? = some c)) = [i, j] := by
  refine up_nat (pos_up ..) (by simpa using h.lt) fun k => ?_
  rw [mem_pos]
  constructor
  · rintro ⟨_, hk⟩
    rcases h.only k hk with e | e <;> simp [e]
  · intro hk
    rcases List.mem_cons.mp hk with e | e
    · rw [e]; exact ⟨Nat.zero_le _, h.hi⟩
    · rw [List.mem_singleton.mp e]; exact ⟨Nat.zero_le _, h.hj⟩
theorem Two.find {l : List Nat} {c i j : Nat} (h : Two l c i j) : Txt.find (tx l) (sgS c) = (i : Int) := by
  unfold Txt.find
  rw [tx_len, occ_one, h.pos0]; rfl
theorem Two.index {l : List Nat} {c i j : Nat} (h : Two l c i j) : indexM (tx l) (sgS c) = .ok (i : Int) := by
  unfold indexM Txt.index0
  rw [tx_len, occ_one, h.pos0]; rfl
theorem inS_sg (c : Nat) (l : List Nat) : inS (sgS c) (tx l) = decide (c ∈ l) := found_one (tx l) c
theorem len_pos (l : List Nat) (c : Nat) : ((List.range' 0 (l.length + 1 - 0)).filter fun k => decide (l[k]? = some c)).length = l.count c := by
  have key : ∀ (m : List Nat) (s : Nat), (∀ k, k < m.length → l[s + k]? = m[k]?) → (∀ k, m.length ≤ k → l[s + k]? = none) → ((List.range' s (m.length + 1)).filter fun k => decide (l[k]? = some c)).length = m.count c := by
    intro m
    induction m with
    | nil =>
      intro s _ h2
      have := h2 0 (Nat.le_refl _)
      simp only [Nat.add_zero] at this
      simp [this]
    | cons a m ih =>
      intro s h1 h2
      rw [List.length_cons, List.range'_succ]
      have q := h1 0 (by simp)
      simp only [Nat.add_zero, List.getElem?_cons_zero] at q
      have ih := ih (s + 1) (fun k hk => by
        have := h1 (k + 1) (by simp; omega)
        rw [show s + 1 + k = s + (k + 1) by omega, this]; simp) fun k hk => by
        rw [show s + 1 + k = s + (k + 1) by omega]
        exact h2 (k + 1) (by simp; omega)
      by_cases e : a = c
      · subst e
        rw [List.filter_cons_of_pos (by simp [q]), List.length_cons, ih, List.count_cons_self]
      · rw [List.filter_cons_of_neg (by simp [q, e]), ih, List.count_cons_of_ne (Ne.symm (Ne.symm e))]
  exact key l 0 (fun k _ => by rw [Nat.zero_add]) fun k hk => by rw [Nat.zero_add]; exact List.getElem?_eq_none hk
theorem two_of_count {l : List Nat} {c : Nat} (h : l.count c = 2) : ∃ i j, Two l c i j := by
  have e := len_pos l c
  rw [h] at e
  match q : ((List.range' 0 (l.length + 1 - 0)).filter fun k => decide (l[k]? = some c)), e with
  | [i, j], _ =>
    have hu := pos_up l c 0 (l.length + 1 - 0)
    rw [q] at hu
    have hm : ∀ k, k ∈ [i, j] ↔ 0 ≤ k ∧ l[k]? = some c := fun k => by rw [← q]; exact mem_pos
    refine ⟨i, j, by simpa using hu, ((hm i).mp (by simp)).2, ((hm j).mp (by simp)).2, fun k hk => ?_⟩
    have := (hm k).mpr ⟨Nat.zero_le _, hk⟩
    simpa using this
end Gf

/-! ## Gf11: ring words, their letters, where these stand, crossings -/
namespace Gf
open PySem Ty
/-- the letters of a word, rising -/
abbrev cs (l : List Nat) : List Nat := csort (tx l)
theorem mem_cs {l : List Nat} {c : Nat} : c ∈ cs l ↔ c ∈ l := mem_csort
theorem cs_up (l : List Nat) : (cs l).Pairwise (· < ·) := csort_up _
theorem cs_nd (l : List Nat) : (cs l).Nodup := by
  rw [List.nodup_iff_pairwise_ne]
  exact (cs_up l).imp fun h => by omega
/-- a ring word of n letters -/
structure Ring (l : List Nat) (n : Nat) : Prop where
  n1 : 1 ≤ n
  n10 : n ≤ 10
  len : l.length = 2 * n
  two : ∀ c ∈ l, l.count c = 2
  low : ∀ c ∈ l, 97 ≤ c ∧ c < 123
  few : (cs l).length = n
def dbl (ls : List Nat) : List Nat := ls.flatMap fun x => [x, x]
theorem dbl_len (ls : List Nat) : (dbl ls).length = 2 * ls.length := by
  unfold dbl
  induction ls with
  | nil => rfl
  | cons a l ih => rw [List.flatMap_cons, List.length_append, ih]; simp; omega
theorem mem_dbl {ls : List Nat} {c : Nat} : c ∈ dbl ls ↔ c ∈ ls := by
  unfold dbl
  rw [List.mem_flatMap]
  constructor
  · rintro ⟨a, h, e⟩
    simp at e
    rw [e]; exact h
  · intro h
    exact ⟨c, h, by simp⟩
theorem count_dbl {ls : List Nat} {c : Nat} (hn : ls.Nodup) (h : c ∈ ls) : (dbl ls).count c = 2 := by
  have key : ∀ ls : List Nat, (dbl ls).count c = 2 * ls.count c := by
    intro ls
    unfold dbl
    induction ls with
    | nil => rfl
    | cons a l ih =>
      rw [List.flatMap_cons, List.count_append, ih]
      by_cases e : a = c
      · subst e; simp; omega
      · simp [e]
  rw [key, hn.count, if_pos h]
theorem Ring.of_perm {l ls : List Nat} (hp : l.Perm (dbl ls)) (hn : ls.Nodup) (h1 : 1 ≤ ls.length) (h10 : ls.length ≤ 10) (hl : ∀ c ∈ ls, 97 ≤ c ∧ c < 123) : Ring l ls.length := by
  have hm : ∀ c, c ∈ l ↔ c ∈ ls := fun c => hp.mem_iff.trans mem_dbl
  refine ⟨h1, h10, by rw [hp.length_eq, dbl_len], fun c hc => ?_, fun c hc => hl c ((hm c).mp hc), ?_⟩
  · rw [hp.count_eq, count_dbl hn ((hm c).mp hc)]
  · exact ((List.perm_ext_iff_of_nodup (cs_nd l) hn).mpr fun c => mem_cs.trans (hm c)).length_eq
/-- where c stands -/
def pl (l : List Nat) (c : Nat) : Nat × Nat := match (List.range' 0 (l.length + 1 - 0)).filter fun k => decide (l[k]? = some c) with
  | [i, j] => (i, j)
  | _ => (0, 0)
theorem Two.pl {l : List Nat} {c i j : Nat} (h : Two l c i j) : Gf.pl l c = (i, j) := by
  unfold Gf.pl
  rw [h.pos0]
theorem Ring.at {l : List Nat} {n c : Nat} (R : Ring l n) (h : c ∈ l) : Two l c (pl l c).1 (pl l c).2 := by
  obtain ⟨i, j, q⟩ := two_of_count (R.two c h)
  rw [q.pl]; exact q
/-- do c and d stand by turns? -/
def crB (l : List Nat) (c d : Nat) : Bool := decide ((pl l c).1 < (pl l d).1 ∧ (pl l d).1 < (pl l c).2) != decide ((pl l c).1 < (pl l d).2 ∧ (pl l d).2 < (pl l c).2)
def cr (l : List Nat) (c d : Nat) : Int := if crB l c d then 1 else 0
theorem cs_row {l : List Nat} {n : Nat} (R : Ring l n) : cs l = row n fun i => (cs l).getD i 0 := row_ext R.few fun i hi => by
  rw [List.getD_eq_getElem?_getD, List.getElem?_eq_getElem (by rw [R.few]; exact hi)]; rfl
theorem small_letters {l : List Nat} (h : ∀ c ∈ l, 97 ≤ c ∧ c < 123) : (List.range' 97 26).filter (fun c => decide (c ∈ l)) = cs l := by
  refine up_nat (List.Pairwise.filter _ List.pairwise_lt_range') (cs_up l) fun c => ?_
  rw [List.mem_filter, mem_cs, decide_eq_true_eq, List.mem_range']
  constructor
  · exact fun h => h.2
  · intro hc
    have := h c hc
    exact ⟨⟨c - 97, by omega, by omega⟩, hc⟩
theorem abc : ("abcdefghijklmnopqrstuvwxyz" : Str) = tx (List.range' 97 26) := by decide +kernel
end Gf

/-! ## Gf13: in the order of first standing; the net of a word -/
namespace Gf
open PySem Ty
section
variable {α : Type} [DecidableEq α]
def addF (acc : List α) (c : α) : List α := if c ∈ acc then acc else acc ++ [c]
/-- each once, as they first stand -/
def fo (l : List α) : List α := l.foldl addF []
theorem fo_snoc (l : List α) (c : α) : fo (l ++ [c]) = addF (fo l) c := by
  unfold fo
  rw [List.foldl_append]; rfl
theorem snoc_ind {P : List α → Prop} (h0 : P []) (h1 : ∀ l c, P l → P (l ++ [c])) (l : List α) : P l := by
  have : ∀ r : List α, P r.reverse := by
    intro r
    induction r with
    | nil => exact h0
    | cons a r ih => rw [List.reverse_cons]; exact h1 _ _ ih
  simpa using this l.reverse
theorem mem_fo {c : α} (l : List α) : c ∈ fo l ↔ c ∈ l := by
  refine snoc_ind (P := fun l => ∀ c, c ∈ fo l ↔ c ∈ l) (fun _ => Iff.rfl) (fun l d ih c => ?_) l c
  rw [fo_snoc]
  unfold addF
  split
  · rename_i h
    rw [ih, List.mem_append, List.mem_singleton]
    constructor
    · exact .inl
    · rintro (z | z)
      · exact z
      · rw [z]; exact (ih d).mp h
  · rw [List.mem_append, List.mem_append, ih]
theorem fo_nd (l : List α) : (fo l).Nodup := by
  refine snoc_ind (P := fun l => (fo l).Nodup) List.nodup_nil (fun l d ih => ?_) l
  rw [fo_snoc]
  unfold addF
  split
  · exact ih
  · rename_i h
    exact List.nodup_append.mpr ⟨ih, by simp, fun a ha b hb e => by
      rw [List.mem_singleton] at hb
      rw [e, hb] at ha
      exact h ha⟩
/-- where sign number k comes in -/
def inn [Inhabited α] (l : List α) (k : Nat) : Nat := 4 * (fo l).idxOf (l.getD k default) + if l.getD k default ∈ l.take k then 2 else 0
end
/-! ### of a ring word -/
theorem fo_len {l : List Nat} {n : Nat} (R : Ring l n) : (fo l).length = n := by
  rw [← R.few]
  exact ((List.perm_ext_iff_of_nodup (fo_nd l) (cs_nd l)).mpr fun c => (mem_fo l).trans mem_cs.symm).length_eq
theorem getD_mem' {l : List Nat} {k : Nat} (h : k < l.length) : l.getD k default ∈ l := by
  rw [List.getD_eq_getElem?_getD, List.getElem?_eq_getElem h]
  exact List.getElem_mem h
theorem getD_some {l : List Nat} {k : Nat} (h : k < l.length) : l[k]? = some (l.getD k default) := by
  rw [List.getD_eq_getElem?_getD, List.getElem?_eq_getElem h]; rfl
theorem mem_take' {l : List Nat} {c k : Nat} : c ∈ l.take k ↔ ∃ i, i < k ∧ l[i]? = some c := by
  rw [List.mem_iff_getElem?]
  constructor
  · rintro ⟨i, h⟩
    rw [List.getElem?_take] at h
    split at h
    · exact ⟨i, ‹_›, h⟩
    · cases h
  · rintro ⟨i, h1, h2⟩
    exact ⟨i, by rw [List.getElem?_take_of_lt h1]; exact h2⟩
theorem Two.seat {l : List Nat} {c i j k : Nat} (h : Two l c i j) (hk : l[k]? = some c) : (c ∈ l.take k ↔ k = j) ∧ (¬ c ∈ l.take k ↔ k = i) := by
  have hl := h.lt
  rw [mem_take']
  rcases h.only k hk with e | e
  · subst e
    have a : ¬ ∃ i, i < k ∧ l[i]? = some c := by
      rintro ⟨a, ha, q⟩
      rcases h.only a q with z | z <;> omega
    exact ⟨⟨fun z => absurd z a, fun z => by omega⟩, ⟨fun _ => rfl, fun _ => a⟩⟩
  · subst e
    have a : ∃ i, i < k ∧ l[i]? = some c := ⟨i, hl, h.hi⟩
    exact ⟨⟨fun _ => rfl, fun _ => a⟩, ⟨fun z => absurd a z, fun z => by omega⟩⟩
theorem inn_even (l : List Nat) (k : Nat) : inn l k % 2 = 0 := by
  unfold inn
  split <;> omega
theorem inn_lt {l : List Nat} {n k : Nat} (R : Ring l n) (hk : k < l.length) : inn l k < 4 * n := by
  unfold inn
  have : (fo l).idxOf (l.getD k default) < (fo l).length := List.idxOf_lt_length_iff.mpr ((mem_fo l).mpr (getD_mem' hk))
  rw [fo_len R] at this
  split <;> omega
theorem idx_inj {m : List Nat} {a b : Nat} (ha : a ∈ m) (hb : b ∈ m) (h : m.idxOf a = m.idxOf b) : a = b := by
  have h1 := List.getElem_idxOf (List.idxOf_lt_length_iff.mpr ha)
  have h2 := List.getElem_idxOf (List.idxOf_lt_length_iff.mpr hb)
  rw [← h1, ← h2]
  congr 1
theorem inn_inj {l : List Nat} {n j k : Nat} (R : Ring l n) (hj : j < l.length) (hk : k < l.length) (h : inn l j = inn l k) : j = k := by
  unfold inn at h
  have e1 : (fo l).idxOf (l.getD j default) = (fo l).idxOf (l.getD k default) := by split at h <;> split at h <;> omega
  have e2 := idx_inj ((mem_fo l).mpr (getD_mem' hj)) ((mem_fo l).mpr (getD_mem' hk)) e1
  have gj := getD_some hj
  have gk := getD_some hk
  rw [e2] at gj h
  generalize l.getD k default = c at gj gk h
  obtain ⟨a, b, T⟩ := two_of_count (R.two c (List.mem_of_getElem? gk))
  have s1 := T.seat gj
  have s2 := T.seat gk
  by_cases q1 : c ∈ l.take j <;> by_cases q2 : c ∈ l.take k
  · rw [s1.1.mp q1, s2.1.mp q2]
  · rw [if_pos q1, if_neg q2] at h; omega
  · rw [if_neg q1, if_pos q2] at h; omega
  · rw [s1.2.mp q1, s2.2.mp q2]
theorem inn_sur {l : List Nat} {n j : Nat} (R : Ring l n) (hj : j < 4 * n) (he : j % 2 = 0) : ∃ k, k < l.length ∧ inn l k = j := by
  have hi : j / 4 < (fo l).length := by rw [fo_len R]; omega
  have hc : (fo l)[j / 4] ∈ l := (mem_fo l).mp (List.getElem_mem hi)
  have hx : (fo l).idxOf (fo l)[j / 4] = j / 4 := (fo_nd l).idxOf_getElem _ hi
  generalize (fo l)[j / 4] = c at hc hx
  obtain ⟨a, b, T⟩ := two_of_count (R.two c hc)
  have ga : l.getD a default = c := by rw [List.getD_eq_getElem?_getD, T.hi]; rfl
  have gb : l.getD b default = c := by rw [List.getD_eq_getElem?_getD, T.hj]; rfl
  have hl := T.lt
  by_cases h4 : j % 4 = 0
  · refine ⟨a, T.bi, ?_⟩
    unfold inn
    rw [ga, hx, if_neg ((T.seat T.hi).2.mpr rfl)]
    omega
  · refine ⟨b, T.bj, ?_⟩
    unfold inn
    rw [gb, hx, if_pos ((T.seat T.hj).1.mpr rfl)]
    omega
def prv' (m k : Nat) : Nat := if k = 0 then m - 1 else k - 1
theorem prv_lt {m k : Nat} (h : k < m) : prv' m k < m := by unfold prv'; split <;> omega
theorem prv_inj {m j k : Nat} (hj : j < m) (hk : k < m) (h : prv' m j = prv' m k) : j = k := by
  unfold prv' at h
  split at h <;> split at h <;> omega
/-- the ties of a word's net, up to sign number j -/
def NetU (l : List Nat) (j : Nat) (F : Nat → Int) : Prop := ∀ k, k < j → F (inn l k) = inn l (prv' l.length k) + 1 ∧ F (inn l (prv' l.length k) + 1) = inn l k
/-- one more pair of ties -/
theorem net_step {l : List Nat} {n j : Nat} (R : Ring l n) (hj : j < l.length) {S : Nat → Prop} {F : Nat → Int} (hS : ∀ k, S k → k < l.length) (hF : ∀ k, S k → F (inn l k) = inn l (prv' l.length k) + 1 ∧ F (inn l (prv' l.length k) + 1) = inn l k) (k : Nat) (hk : S k ∨ k = j) :
    (fun i => if i = inn l j then ((inn l (prv' l.length j) : Nat) : Int) + 1 else if i = inn l (prv' l.length j) + 1 then (inn l j : Int) else F i) (inn l k) = inn l (prv' l.length k) + 1 ∧
    (fun i => if i = inn l j then ((inn l (prv' l.length j) : Nat) : Int) + 1 else if i = inn l (prv' l.length j) + 1 then (inn l j : Int) else F i) (inn l (prv' l.length k) + 1) = inn l k := by
  have hkl : k < l.length := hk.elim (hS k) fun e => e ▸ hj
  have p1 := inn_even l j
  have p2 := inn_even l k
  have p3 := inn_even l (prv' l.length j)
  have p4 := inn_even l (prv' l.length k)
  by_cases e : k = j
  · subst e
    refine ⟨by simp, ?_⟩
    simp only
    rw [if_neg (by omega)]
    simp
  · have hs := hk.resolve_right e
    have n1 : inn l k ≠ inn l j := fun z => e (inn_inj R hkl hj z)
    have n2 : inn l (prv' l.length k) ≠ inn l (prv' l.length j) := fun z => e (prv_inj hkl hj (inn_inj R (prv_lt hkl) (prv_lt hj) z))
    simp only
    rw [if_neg n1, if_neg (by omega), if_neg (by omega), if_neg (by omega)]
    exact hF k hs
theorem idx_app {c : Nat} : ∀ (a b : List Nat), c ∈ a → (a ++ b).idxOf c = a.idxOf c
  | [], b, h => by cases h
  | x :: a, b, h => by
    rw [List.cons_append, List.idxOf_cons, List.idxOf_cons]
    by_cases q : x = c
    · simp [q]
    · have q2 : (x == c) = false := by simpa using q
      rw [q2, idx_app a b ((List.mem_cons.mp h).resolve_left (fun z => q z.symm))]
theorem find_idx {l : List Nat} {c : Nat} (h : c ∈ l) : Txt.find (tx l) (sgS c) = (l.idxOf c : Int) := by
  have hi := List.idxOf_lt_length_iff.mpr h
  have hx : l[l.idxOf c]? = some c := by rw [List.getElem?_eq_getElem hi, List.getElem_idxOf hi]
  have key : ∀ a : List Nat, a.Pairwise (· < ·) → l.idxOf c ∈ a → (∀ x ∈ a, l.idxOf c ≤ x) → a.take 1 = [l.idxOf c] := by
    intro a hu hm hl
    cases a with
    | nil => cases hm
    | cons x a =>
      rcases List.mem_cons.mp hm with e | e
      · rw [e]; rfl
      · have := (List.pairwise_cons.mp hu).1 _ e
        have := hl x List.mem_cons_self
        omega
  unfold Txt.find
  rw [tx_len, occ_one, key _ (pos_up ..) (mem_pos.mpr ⟨Nat.zero_le _, hx⟩) fun x hx' => ?_]
  have hx' := (mem_pos.mp hx').2
  by_cases q : x < l.idxOf c
  · exfalso
    have hxl := (List.getElem?_eq_some_iff.mp hx').1
    have : l.idxOf c ≤ x := by
      have e1 : l = l.take (x + 1) ++ l.drop (x + 1) := (List.take_append_drop ..).symm
      have hm : c ∈ l.take (x + 1) := mem_take'.mpr ⟨x, by omega, hx'⟩
      have : l.idxOf c = (l.take (x + 1)).idxOf c := by
        conv => lhs; rw [e1]
        exact idx_app _ _ hm
      rw [this]
      have := List.idxOf_lt_length_iff.mpr hm
      rw [List.length_take] at this
      omega
    omega
  · omega
end Gf

/-! ## Gf14: cut texts; words from places and letters -/
namespace Gf
open PySem Ty
theorem cutS_to {a : List Nat} {j : Nat} (h : a.length ≤ 16777216) : cutSM (tx a) none (some (j : Int)) = .ok (tx (a.take (min j a.length))) := by
  unfold cutSM
  rw [sizeLine_eq, decide_eq_true (by rw [tx_len]; exact h)]
  unfold L2.cutS
  rw [HT.sIx_nat, HT.sIx_none, tx_len]; rfl
theorem cutS_from {a : List Nat} {i : Nat} (h : a.length ≤ 16777216) : cutSM (tx a) (some (i : Int)) none = .ok (tx (a.drop (min i a.length))) := by
  unfold cutSM
  rw [sizeLine_eq, decide_eq_true (by rw [tx_len]; exact h)]
  unfold L2.cutS
  rw [HT.sIx_nat, HT.sIx_none, tx_len]
  show Except.ok (tx ((a.drop (min i a.length)).take (a.length - min i a.length))) = _
  rw [List.take_of_length_le (by rw [List.length_drop]; omega)]
theorem all_in {F M : List Int} (hF : F.Nodup) (hM : M.Nodup) (hl : M.length ≤ F.length) (hs : ∀ x ∈ F, x ∈ M) : F.Perm M := by
  refine (List.perm_ext_iff_of_nodup hF hM).mpr fun x => ⟨hs x, fun hx => ?_⟩
  refine Classical.byContradiction fun hn => ?_
  have := nodup_le (List.nodup_cons.mpr ⟨hn, hF⟩) (fun y hy => (List.mem_cons.mp hy).elim (fun e => e ▸ hx) (hs y))
  rw [List.length_cons] at this
  omega
theorem dbl_range (L : Nat → Nat) (n : Nat) : (List.range (2 * n)).map (fun i => L (i / 2)) = dbl ((List.range n).map L) := by
  induction n with
  | zero => rfl
  | succ n ih =>
    rw [show 2 * (n + 1) = 2 * n + 1 + 1 by omega, List.range_succ, List.range_succ, List.map_append, List.map_append, ih, List.range_succ, List.map_append]
    unfold dbl
    rw [List.flatMap_append, List.append_assoc]
    congr 1
    simp only [List.map_cons, List.map_nil, List.flatMap_cons, List.flatMap_nil, List.append_nil, List.singleton_append]
    rw [show 2 * n / 2 = n by omega, show (2 * n + 1) / 2 = n by omega]
/-- places with letters -/
theorem ring_map {n : Nat} {F : List Int} (hl : F.length = 2 * n) (hn : F.Nodup) (hr : ∀ x ∈ F, 0 ≤ x ∧ x < ((2 * n : Nat) : Int)) {L : Nat → Nat} (h1 : 1 ≤ n) (h10 : n ≤ 10) (hL : ∀ i j, i < n → j < n → L i = L j → i = j) (ha : ∀ i, i < n → 97 ≤ L i ∧ L i < 123) :
    Ring ((F.map fun x => x / 2).map fun x => L x.toNat) n := by
  have hp : F.Perm ((List.range (2 * n)).map Int.ofNat) := by
    refine all_in hn ?_ (by simp [hl]) fun x hx => ?_
    · rw [List.nodup_iff_pairwise_ne, List.pairwise_map]
      exact (List.nodup_iff_pairwise_ne.mp List.nodup_range).imp fun h e => h (Int.ofNat.inj e)
    · have := hr x hx
      exact List.mem_map.mpr ⟨x.toNat, List.mem_range.mpr (by omega), by show ((x.toNat : Nat) : Int) = x; omega⟩
  have hp2 : ((F.map fun x => x / 2).map fun x => L x.toNat).Perm (dbl ((List.range n).map L)) := by
    have q := (hp.map fun x => x / 2).map fun x => L x.toNat
    rw [← dbl_range]
    refine q.trans (List.Perm.of_eq ?_)
    rw [List.map_map, List.map_map]
    refine List.map_congr_left fun i _ => ?_
    show L (((i : Nat) : Int) / 2).toNat = L (i / 2)
    congr 1
  have hlen : ((List.range n).map L).length = n := by simp
  have := Ring.of_perm hp2 (by
    rw [List.nodup_iff_pairwise_ne, List.pairwise_map]
    refine List.Pairwise.imp_of_mem ?_ (List.nodup_iff_pairwise_ne.mp List.nodup_range)
    intro a b ha hb hne e
    exact hne (hL a b (List.mem_range.mp ha) (List.mem_range.mp hb) e)) (by omega) (by omega) fun c hc => by
    obtain ⟨i, hi, rfl⟩ := List.mem_map.mp hc
    exact ha i (List.mem_range.mp hi)
  rw [hlen] at this
  exact this
theorem take_drop_erase (a : List Nat) (j : Nat) : a.take j ++ a.drop (j + 1) = a.eraseIdx j := (List.eraseIdx_eq_take_drop_succ ..).symm
end Gf

/-! ## Gf17: a round through all places as a word; choices held against it: what is closed, and what the crossings tell -/
namespace Gf
open PySem Ty
/-- one round through all ends: one comes in at I k, goes out at O k; A q, B q: the two turns at which the place q is come to -/
structure CW (n : Nat) (f c I O : Nat → Int) (A B : Nat → Nat) : Prop where
  n1 : 1 ≤ n
  rI : ∀ k, k < 2 * n → 0 ≤ I k ∧ I k < ((4 * n : Nat) : Int)
  rO : ∀ k, k < 2 * n → 0 ≤ O k ∧ O k < ((4 * n : Nat) : Int)
  hp : ∀ k, k < 2 * n → par c (I k) = O k
  hf : ∀ k, k + 1 < 2 * n → fJ f (O k) = I (k + 1)
  hl : fJ f (O (2 * n - 1)) = I 0
  all : ∀ x : Int, 0 ≤ x → x < ((4 * n : Nat) : Int) → ∃ k, k < 2 * n ∧ (x = I k ∨ x = O k)
  iI : ∀ j k, j < 2 * n → k < 2 * n → I j = I k → j = k
  iIO : ∀ j k, j < 2 * n → k < 2 * n → I j ≠ O k
  hA : ∀ q, q < n → A q < B q ∧ B q < 2 * n ∧ I (A q) / 4 = (q : Int) ∧ I (B q) / 4 = (q : Int)
  hk : ∀ k, k < 2 * n → ∀ q, q < n → I k / 4 = (q : Int) → k = A q ∨ k = B q
/-- the place come to at a turn -/
def wpl (I : Nat → Int) (k : Nat) : Nat := (I k / 4).toNat
/-- two places' turns stand by turns -/
def crw (A B : Nat → Nat) (q p : Nat) : Bool := decide (A q < A p ∧ A p < B q) != decide (A q < B p ∧ B p < B q)
/-- how a choice joins at a place: 0 along, 1 in with in, 2 in with the other out -/
def tpw (I O : Nat → Int) (A B : Nat → Nat) (d : Nat → Int) (q : Nat) : Nat := if par d (I (A q)) = O (A q) then 0 else if par d (I (A q)) = I (B q) then 1 else 2
/-- what the part at S makes noughts of -/
def Ker (n : Nat) (a : Nat → Nat → Bool) (S x : Nat → Bool) : Prop := (∀ k, k < n → S k = false → x k = false) ∧ ∀ i, i < n → S i = true → qx n (fun j => a i j && x j) = false
/-- closed under a choice and the ties -/
def Clo (n : Nat) (f d : Nat → Int) (Z : Int → Bool) : Prop := ∀ x : Int, 0 ≤ x → x < ((4 * n : Nat) : Int) → Z (par d x) = Z x ∧ Z (fJ f x) = Z x
theorem qx_two {n u v : Nat} (hu : u < n) (hv : v < n) (huv : u ≠ v) {h : Nat → Bool} (hz : ∀ k, k < n → k ≠ u → k ≠ v → h k = false) : qx n h = (h u != h v) := by
  rw [qx_split2 hu hv huv, qx_no fun k hk => by
    by_cases e : k = u ∨ k = v
    · rw [if_pos e]
    · rw [if_neg e]; exact hz k hk (fun z => e (.inl z)) (fun z => e (.inr z))]
  cases h u <;> cases h v <;> rfl
/-- counted place by place -/
theorem qx_places {n m : Nat} {w : Nat → Nat} (hw : ∀ k, k < m → w k < n) (u x : Nat → Bool) : qx m (fun k => u k && x (w k)) = qx n (fun p => (qx m fun k => u k && decide (w k = p)) && x p) := by
  induction m with
  | zero => exact (qx_no fun k _ => rfl).symm
  | succ m ih =>
    have ih := ih fun k hk => hw k (by omega)
    show (qx m (fun k => u k && x (w k)) != (u m && x (w m))) = qx n (fun p => (qx m (fun k => u k && decide (w k = p)) != (u m && decide (w m = p))) && x p)
    rw [ih]
    have e : ∀ p, ((qx m (fun k => u k && decide (w k = p)) != (u m && decide (w m = p))) && x p) = ((qx m (fun k => u k && decide (w k = p)) && x p) != ((u m && decide (w m = p)) && x p)) := fun p => by
      cases qx m (fun k => u k && decide (w k = p)) <;> cases u m <;> cases decide (w m = p) <;> cases x p <;> rfl
    rw [qx_congr fun p _ => e p, qx_xor]
    congr 1
    rw [qx_one (hw m (by omega)) fun p _ hp => by rw [decide_eq_false (fun z => hp z.symm)]; simp]
    simp
/-- the stretch from i to j -/
theorem qx_cut {h : Nat → Bool} {i : Nat} : ∀ {j : Nat}, i ≤ j → (qx i h != qx j h) = qx j fun k => decide (i ≤ k) && h k
  | 0, hi => by
    have : i = 0 := by omega
    subst this; rfl
  | j + 1, hi => by
    show (qx i h != (qx j h != h j)) = (qx j (fun k => decide (i ≤ k) && h k) != (decide (i ≤ j) && h j))
    by_cases e : i ≤ j
    · rw [← qx_cut e, decide_eq_true e]
      generalize qx i h = a
      generalize qx j h = b
      cases a <;> cases b <;> cases h j <;> rfl
    · have e2 : i = j + 1 := by omega
      subst e2
      rw [decide_eq_false e, qx_no (h := fun k => decide (j + 1 ≤ k) && h k) fun k hk => by rw [decide_eq_false (show ¬ j + 1 ≤ k by omega)]; rfl]
      show ((qx j h != h j) != (qx j h != h j)) = _
      generalize qx j h = a
      cases a <;> cases h j <;> rfl
section
variable {n : Nat} {f c I O : Nat → Int} {A B : Nat → Nat} (C : CW n f c I O A B)
include C
theorem CW.pO {k : Nat} (hk : k < 2 * n) : par c (O k) = I k := by
  rw [← C.hp k hk, par_par (C.rI k hk).1]
theorem CW.dO {k : Nat} (hk : k < 2 * n) : O k / 4 = I k / 4 := by
  rw [← C.hp k hk]; exact par_at (C.rI k hk).1
theorem CW.iO {j k : Nat} (hj : j < 2 * n) (hk : k < 2 * n) (h : O j = O k) : j = k := C.iI j k hj hk (by rw [← C.pO hj, h, C.pO hk])
theorem CW.hw {k : Nat} (hk : k < 2 * n) : wpl I k < n ∧ I k / 4 = (wpl I k : Int) := by
  have := C.rI k hk
  unfold wpl
  omega
theorem CW.wA {q : Nat} (hq : q < n) : wpl I (A q) = q ∧ wpl I (B q) = q := by
  have := C.hA q hq
  unfold wpl
  omega
theorem CW.wk {k q : Nat} (hk : k < 2 * n) (hq : q < n) : wpl I k = q ↔ k = A q ∨ k = B q := by
  constructor
  · intro h
    exact C.hk k hk q hq (by rw [(C.hw hk).2, h])
  · rintro (rfl | rfl)
    · exact (C.wA hq).1
    · exact (C.wA hq).2
/-- the four ends of a place -/
theorem CW.ends {q : Nat} (hq : q < n) {x : Int} (h0 : 0 ≤ x) (h : x / 4 = (q : Int)) : x = I (A q) ∨ x = O (A q) ∨ x = I (B q) ∨ x = O (B q) := by
  obtain ⟨k, hk, e⟩ := C.all x h0 (by omega)
  have e4 : I k / 4 = (q : Int) := by
    rcases e with rfl | rfl
    · exact h
    · rw [← C.dO hk]; exact h
  rcases C.hk k hk q hq e4 with rfl | rfl <;> rcases e with rfl | rfl <;> simp
theorem CW.dis {q : Nat} (hq : q < n) : I (A q) ≠ O (A q) ∧ I (A q) ≠ I (B q) ∧ I (A q) ≠ O (B q) ∧ O (A q) ≠ I (B q) ∧ O (A q) ≠ O (B q) ∧ I (B q) ≠ O (B q) := by
  obtain ⟨h1, h2, _, _⟩ := C.hA q hq
  refine ⟨C.iIO _ _ (by omega) (by omega), fun z => ?_, C.iIO _ _ (by omega) (by omega), fun z => C.iIO _ _ (by omega) (by omega) z.symm, fun z => ?_, C.iIO _ _ (by omega) (by omega)⟩
  · have := C.iI _ _ (by omega) (by omega) z; omega
  · have := C.iO (by omega) (by omega) z; omega
/-- how the ends of a place are joined -/
theorem CW.joins {q : Nat} (hq : q < n) (d : Nat → Int) : (tpw I O A B d q = 0 ∧ par d (I (A q)) = O (A q) ∧ par d (I (B q)) = O (B q)) ∨ (tpw I O A B d q = 1 ∧ par d (I (A q)) = I (B q) ∧ par d (O (A q)) = O (B q)) ∨ (tpw I O A B d q = 2 ∧ par d (I (A q)) = O (B q) ∧ par d (O (A q)) = I (B q)) := by
  obtain ⟨h1, h2, h3, h4⟩ := C.hA q hq
  obtain ⟨d1, d2, d3, d4, d5, d6⟩ := C.dis hq
  have rA := C.rI (A q) (by omega)
  have rB := C.rI (B q) (by omega)
  have sA := C.rO (A q) (by omega)
  have sB := C.rO (B q) (by omega)
  have oA : O (A q) / 4 = (q : Int) := by rw [C.dO (by omega)]; exact h3
  have oB : O (B q) / 4 = (q : Int) := by rw [C.dO (by omega)]; exact h4
  have key : ∀ x : Int, 0 ≤ x → x / 4 = (q : Int) → par d x ≠ x ∧ par d (par d x) = x ∧ (par d x = I (A q) ∨ par d x = O (A q) ∨ par d x = I (B q) ∨ par d x = O (B q)) := fun x x0 xq => by
    refine ⟨par_ne x0, par_par x0, C.ends hq ?_ (by rw [par_at x0]; exact xq)⟩
    have := par_at (c := d) x0
    omega
  obtain ⟨a1, a2, a3⟩ := key _ rA.1 h3
  obtain ⟨b1, b2, b3⟩ := key _ rB.1 h4
  obtain ⟨e1, e2, e3⟩ := key _ sA.1 oA
  unfold tpw
  rcases a3 with a | a | a | a
  · exact absurd a a1
  · refine .inl ⟨if_pos a, a, ?_⟩
    rcases b3 with b | b | b | b
    · rw [b] at b2; rw [b2] at a; exact absurd a d4.symm
    · rw [b] at b2; rw [a] at a2; rw [a2] at b2; exact absurd b2 d2
    · exact absurd b b1
    · exact b
  · refine .inr (.inl ⟨by rw [if_neg (by rw [a]; exact d4.symm), if_pos a], a, ?_⟩)
    rcases e3 with b | b | b | b
    · rw [b] at e2; rw [e2] at a; exact absurd a d4
    · exact absurd b e1
    · rw [b] at e2; rw [a] at a2; rw [a2] at e2; exact absurd e2 d1
    · exact b
  · refine .inr (.inr ⟨by rw [if_neg (by rw [a]; exact d5.symm), if_neg (by rw [a]; exact d6.symm)], a, ?_⟩)
    rcases e3 with b | b | b | b
    · rw [b] at e2; rw [e2] at a; exact absurd a d5
    · exact absurd b e1
    · exact b
    · rw [b] at e2; rw [a] at a2; rw [a2] at e2; exact absurd e2 d1
/-- what changes at a turn -/
theorem CW.flip {d : Nat → Int} {Z : Int → Bool} (hZ : Clo n f d Z) {k : Nat} (hk : k < 2 * n) : (Z (I k) != Z (O k)) = (Z (I (A (wpl I k))) != Z (O (A (wpl I k)))) ∧ (tpw I O A B d (wpl I k) = 0 → Z (I k) = Z (O k)) := by
  obtain ⟨hq, _⟩ := C.hw hk
  obtain ⟨h1, h2, _, _⟩ := C.hA _ hq
  have zz : ∀ j, j < 2 * n → Z (par d (I j)) = Z (I j) ∧ Z (par d (O j)) = Z (O j) := fun j hj => ⟨(hZ _ (C.rI j hj).1 (C.rI j hj).2).1, (hZ _ (C.rO j hj).1 (C.rO j hj).2).1⟩
  have zA := zz (A (wpl I k)) (by omega)
  have zB := zz (B (wpl I k)) (by omega)
  rcases (C.wk hk hq).mp rfl with e | e
  · constructor
    · rw [← e]
    · intro t0
      rcases C.joins hq d with ⟨t, j1, j2⟩ | ⟨t, _⟩ | ⟨t, _⟩
      · rw [e, ← zA.1, j1]
      · rw [t] at t0; cases t0
      · rw [t] at t0; cases t0
  · have ek : Z (I k) = Z (I (B (wpl I k))) ∧ Z (O k) = Z (O (B (wpl I k))) := by rw [← e]; exact ⟨rfl, rfl⟩
    rw [ek.1, ek.2]
    rcases C.joins hq d with ⟨t, j1, j2⟩ | ⟨t, j1, j2⟩ | ⟨t, j1, j2⟩
    · rw [← zA.1, j1, ← zB.1, j2]
      refine ⟨?_, fun _ => rfl⟩
      generalize Z (O (A (wpl I k))) = a
      generalize Z (O (B (wpl I k))) = b
      cases a <;> cases b <;> rfl
    · rw [← zA.1, ← zA.2, j1, j2]
      refine ⟨rfl, fun z => ?_⟩
      rw [t] at z; cases z
    · rw [← zA.1, ← zA.2, j1, j2]
      refine ⟨?_, fun z => ?_⟩
      · generalize Z (I (B (wpl I k))) = a
        generalize Z (O (B (wpl I k))) = b
        cases a <;> cases b <;> rfl
      · rw [t] at z; cases z
/-- what one is in behind k turns -/
theorem CW.along {Z : Int → Bool} {x : Nat → Bool} (hZ : ∀ y : Int, 0 ≤ y → y < ((4 * n : Nat) : Int) → Z (fJ f y) = Z y) (hx : ∀ k, k < 2 * n → (Z (I k) != Z (O k)) = x (wpl I k)) : ∀ k, k < 2 * n → Z (I k) = (Z (I 0) != qx k fun k => x (wpl I k)) ∧ Z (O k) = (Z (I 0) != qx (k + 1) fun k => x (wpl I k))
  | 0, h0 => by
    have := hx 0 h0
    refine ⟨by show _ = (Z (I 0) != false); simp, ?_⟩
    show _ = (Z (I 0) != (false != x (wpl I 0)))
    rw [← this]
    generalize Z (I 0) = a
    generalize Z (O 0) = b
    cases a <;> cases b <;> rfl
  | k + 1, h => by
    obtain ⟨_, i2⟩ := CW.along hZ hx k (by omega)
    have e : Z (I (k + 1)) = (Z (I 0) != qx (k + 1) fun k => x (wpl I k)) := by
      rw [← C.hf k h, hZ _ (C.rO k (by omega)).1 (C.rO k (by omega)).2, i2]
    refine ⟨e, ?_⟩
    have := hx (k + 1) h
    show _ = (Z (I 0) != (qx (k + 1) (fun k => x (wpl I k)) != x (wpl I (k + 1))))
    rw [← this, e]
    generalize Z (I 0) = a
    generalize qx (k + 1) (fun k => x (wpl I k)) = b
    generalize Z (O (k + 1)) = e
    cases a <;> cases b <;> cases e <;> rfl
/-- the places come to once between both turns of a place -/
theorem CW.count {q p : Nat} (hq : q < n) (hp : p < n) : (qx (B q) fun k => decide (A q + 1 ≤ k) && decide (wpl I k = p)) = if q = p then false else crw A B q p := by
  obtain ⟨h1, h2, _, _⟩ := C.hA q hq
  obtain ⟨g1, g2, _, _⟩ := C.hA p hp
  have ew : ∀ k, k < B q → (decide (A q + 1 ≤ k) && decide (wpl I k = p)) = ((decide (A q + 1 ≤ k) && decide (k = A p)) != (decide (A q + 1 ≤ k) && decide (k = B p))) := fun k hk => by
    have := C.wk (k := k) (q := p) (by omega) hp
    by_cases e1 : k = A p
    · rw [decide_eq_true (this.mpr (.inl e1)), decide_eq_true e1, decide_eq_false (show ¬ k = B p by omega)]; simp
    · by_cases e2 : k = B p
      · rw [decide_eq_true (this.mpr (.inr e2)), decide_eq_false e1, decide_eq_true e2]; simp
      · rw [decide_eq_false (fun z => (this.mp z).elim e1 e2), decide_eq_false e1, decide_eq_false e2]; simp
  rw [qx_congr ew, qx_xor]
  have one : ∀ a, (qx (B q) fun k => decide (A q + 1 ≤ k) && decide (k = a)) = decide (A q < a ∧ a < B q) := fun a => by
    by_cases ha : a < B q
    · rw [qx_one ha fun k _ hk => by rw [decide_eq_false hk]; simp]
      simp [ha, Nat.succ_le_iff]
    · rw [qx_no fun k hk => by rw [decide_eq_false (show ¬ k = a by omega)]; simp, decide_eq_false (by omega)]
  rw [one, one]
  by_cases e : q = p
  · subst e
    rw [if_pos rfl, decide_eq_false (by omega), decide_eq_false (by omega)]; rfl
  · rw [if_neg e]; rfl
/-- between both turns of a place -/
theorem CW.stretch {q : Nat} (hq : q < n) (x : Nat → Bool) : (qx (A q + 1) (fun k => x (wpl I k)) != qx (B q) fun k => x (wpl I k)) = qx n fun p => (if q = p then false else crw A B q p) && x p := by
  obtain ⟨h1, h2, _, _⟩ := C.hA q hq
  rw [qx_cut (by omega), qx_places (n := n) fun k hk => (C.hw (show k < 2 * n by omega)).1]
  exact qx_congr fun p hp => by rw [C.count hq hp]
theorem CW.none {d : Nat → Int} {Z : Int → Bool} (hZ : Clo n f d Z) (h0 : Z (I 0) = false) (hz : ∀ q, q < n → (Z (I (A q)) != Z (O (A q))) = false) : ∀ x : Int, 0 ≤ x → x < ((4 * n : Nat) : Int) → Z x = false := by
  have al := C.along (Z := Z) (x := fun _ => false) (fun y a b => (hZ y a b).2) fun k hk => by
    rw [(C.flip hZ hk).1]
    exact hz _ (C.hw hk).1
  intro x x0 x1
  obtain ⟨k, hk, rfl | rfl⟩ := C.all x x0 x1
  · rw [(al k hk).1, h0, qx_no fun _ _ => rfl]; rfl
  · rw [(al k hk).2, h0, qx_no fun _ _ => rfl]; rfl
theorem CW.whole (x : Nat → Bool) : (qx (2 * n) fun k => x (wpl I k)) = false := by
  have := qx_places (n := n) (m := 2 * n) (w := wpl I) (fun k hk => (C.hw hk).1) (fun _ => true) x
  simp only [Bool.true_and] at this
  rw [this]
  refine qx_no fun p hp => ?_
  obtain ⟨h1, h2, _, _⟩ := C.hA p hp
  rw [qx_two (u := A p) (v := B p) (by omega) h2 (by omega) fun k hk e1 e2 => decide_eq_false fun z => ((C.wk hk hp).mp z).elim e1 e2, decide_eq_true (C.wA hp).1, decide_eq_true (C.wA hp).2]
  rfl
end
end Gf

/-! ## Gf18: a word's net is a net; places of signs; rounds in their order -/
namespace Gf
open PySem Ty
theorem prv_sur {m k : Nat} (h : k < m) : ∃ j, j < m ∧ prv' m j = k := by
  by_cases e : k + 1 < m
  · exact ⟨k + 1, e, by unfold prv'; rw [if_neg (by omega)]; omega⟩
  · exact ⟨0, by omega, by unfold prv'; rw [if_pos rfl]; omega⟩
theorem NetU.net {l : List Nat} {n : Nat} (R : Ring l n) {F : Nat → Int} (h : NetU l l.length F) : Net (4 * n) F ∧ ∀ i, i < 4 * n → F i ≠ i := by
  have key : ∀ i, i < 4 * n → 0 ≤ F i ∧ F i < ((4 * n : Nat) : Int) ∧ F (F i).toNat = i ∧ F i ≠ i := by
    intro i hi
    by_cases he : i % 2 = 0
    · obtain ⟨k, hk, rfl⟩ := inn_sur R hi he
      obtain ⟨h1, h2⟩ := h k hk
      have b := inn_lt R (prv_lt hk)
      have b2 := inn_even l (prv' l.length k)
      rw [h1]
      refine ⟨by omega, by omega, ?_, by omega⟩
      rw [show (((inn l (prv' l.length k) : Nat) : Int) + 1).toNat = inn l (prv' l.length k) + 1 by omega, h2]
    · obtain ⟨j, hj, ej⟩ := inn_sur R (j := i - 1) (by omega) (by omega)
      obtain ⟨k, hk, ek⟩ := prv_sur hj
      obtain ⟨h1, h2⟩ := h k hk
      rw [ek, ej, show i - 1 + 1 = i by omega] at h2
      rw [ek, ej] at h1
      have b := inn_lt R hk
      have b2 := inn_even l k
      rw [h2]
      refine ⟨by omega, by omega, ?_, by omega⟩
      rw [Int.toNat_natCast, h1]
      omega
  exact ⟨fun i hi => ⟨(key i hi).1, (key i hi).2.1, (key i hi).2.2.1⟩, fun i hi => (key i hi).2.2.2⟩
end Gf

/-! ## Gf19: a word as a round through its own net; rounds of another choice are what makes noughts -/
namespace Gf
open PySem Ty
def fol (l : List Nat) (p : Nat) : Nat := (fo l).getD p default
def inI (l : List Nat) (k : Nat) : Int := (inn l k : Int)
def outO (l : List Nat) (k : Nat) : Int := (inn l k : Int) + 1
def plA (l : List Nat) (q : Nat) : Nat := (pl l (fol l q)).1
def plB (l : List Nat) (q : Nat) : Nat := (pl l (fol l q)).2
theorem idx_at {m : List Nat} (hn : m.Nodup) {i : Nat} (h : i < m.length) (d : Nat) : m.idxOf (m.getD i d) = i := by
  have e : m.getD i d = m[i] := by rw [List.getD_eq_getElem?_getD, List.getElem?_eq_getElem h]; rfl
  rw [e]
  have h2 : m.idxOf m[i] < m.length := List.idxOf_lt_length_iff.mpr (List.getElem_mem h)
  exact (List.getElem_inj hn).mp (List.getElem_idxOf h2)
theorem at_idx {m : List Nat} {c : Nat} (h : c ∈ m) (d : Nat) : m.getD (m.idxOf c) d = c := by
  have h2 := List.idxOf_lt_length_iff.mpr h
  rw [List.getD_eq_getElem?_getD, List.getElem?_eq_getElem h2, List.getElem_idxOf h2]; rfl
section
variable {l : List Nat} {n : Nat} (R : Ring l n)
include R
theorem fol_mem {p : Nat} (hp : p < n) : fol l p ∈ l := (mem_fo l).mp (getD_mem' (by rw [fo_len R]; exact hp))
theorem fol_idx {p : Nat} (hp : p < n) : (fo l).idxOf (fol l p) = p := idx_at (fo_nd l) (by rw [fo_len R]; exact hp) default
theorem idx_fol {c : Nat} (hc : c ∈ l) : (fo l).idxOf c < n ∧ fol l ((fo l).idxOf c) = c := by
  have hm := (mem_fo l).mpr hc
  have := List.idxOf_lt_length_iff.mpr hm
  rw [fo_len R] at this
  exact ⟨this, at_idx hm default⟩
theorem fol_two {q : Nat} (hq : q < n) : Two l (fol l q) (plA l q) (plB l q) := R.at (fol_mem R hq)
theorem inn_AB {q : Nat} (hq : q < n) : inn l (plA l q) = 4 * q ∧ inn l (plB l q) = 4 * q + 2 := by
  have T := fol_two R hq
  have eA : l.getD (plA l q) default = fol l q := by rw [List.getD_eq_getElem?_getD, T.hi]; rfl
  have eB : l.getD (plB l q) default = fol l q := by rw [List.getD_eq_getElem?_getD, T.hj]; rfl
  unfold inn
  rw [eA, eB, fol_idx R hq, if_neg ((T.seat T.hi).2.mpr rfl), if_pos ((T.seat T.hj).1.mpr rfl)]
  exact ⟨rfl, rfl⟩
end
/-! ### rounds -/
theorem Rds.dis {s p : Int → Int} {m : Nat} {W : List (List Int)} (hW : Rds s p m W) {i j : Nat} {x : Int} (hi : x ∈ W.getD i []) (hj : x ∈ W.getD j []) : i = j := by
  have hp := (List.pairwise_flatten.mp (List.nodup_iff_pairwise_ne.mp hW.nd)).2
  have li : i < W.length := by
    refine Decidable.byContradiction fun h => ?_
    rw [List.getD_eq_getElem?_getD, List.getElem?_eq_none (by omega)] at hi
    cases hi
  have lj : j < W.length := by
    refine Decidable.byContradiction fun h => ?_
    rw [List.getD_eq_getElem?_getD, List.getElem?_eq_none (by omega)] at hj
    cases hj
  rw [List.getD_eq_getElem?_getD, List.getElem?_eq_getElem li] at hi
  rw [List.getD_eq_getElem?_getD, List.getElem?_eq_getElem lj] at hj
  rcases Nat.lt_trichotomy i j with h | h | h
  · exact absurd rfl (List.pairwise_iff_getElem.mp hp i j li lj h x hi x hj)
  · exact h
  · exact absurd rfl (List.pairwise_iff_getElem.mp hp j i lj li h x hj x hi)
section
variable {n : Nat} {f d : Nat → Int} (hn : Net (4 * n) f) (hf2 : ∀ i, i < 4 * n → f i ≠ i) {W : List (List Int)} (hW : Rds (sJ f d) (par d) (4 * n) W)
/-- the end is in the round -/
def inR (W : List (List Int)) (i : Nat) (x : Int) : Bool := decide (x ∈ W.getD i [])
include hn hf2 hW
end
/-- bits of a mask by places in another order -/
structure Prm (n : Nat) (π σ : Nat → Nat) : Prop where
  p : ∀ i, i < n → π i < n ∧ σ (π i) = i
  s : ∀ i, i < n → σ i < n ∧ π (σ i) = i
theorem Prm.qx {n : Nat} {π σ : Nat → Nat} (h : Prm n π σ) (g : Nat → Bool) : Gf.qx n (fun i => g (π i)) = Gf.qx n g := by
  have := qx_places (n := n) (m := n) (w := π) (fun k hk => (h.p k hk).1) (fun _ => true) g
  simp only [Bool.true_and] at this
  rw [this]
  refine qx_congr fun p hp => ?_
  rw [qx_one (v := σ p) (h.s p hp).1 fun k hk hne => decide_eq_false fun z => hne (by rw [← z]; exact (h.p k hk).2.symm), decide_eq_true (h.s p hp).2, Bool.true_and]
theorem Ker.congr {n : Nat} {a b : Nat → Nat → Bool} {S T x y : Nat → Bool} (ha : ∀ i j, i < n → j < n → a i j = b i j) (hs : ∀ i, i < n → S i = T i) (hx : ∀ i, i < n → x i = y i) (k : Ker n a S x) : Ker n b T y :=
  ⟨fun i hi h => by rw [← hx i hi]; exact k.1 i hi (by rw [hs i hi]; exact h), fun i hi h => by
    rw [← k.2 i hi (by rw [hs i hi]; exact h)]
    exact qx_congr fun j hj => by rw [ha i j hi hj, hx j hj]⟩
section
variable {n : Nat} {f c I O : Nat → Int} {A B : Nat → Nat} (C : CW n f c I O A B) (hn : Net (4 * n) f) (hf2 : ∀ i, i < 4 * n → f i ≠ i) {d : Nat → Int} {W : List (List Int)} (hW : Rds (sJ f d) (par d) (4 * n) W) {π σ : Nat → Nat} (P : Prm n π σ)
include C hn hf2 hW P
end
end Gf

set_option maxHeartbeats 2000000
/-! ## Gf24: a choice that leaves one round is a word; the word of the turned choice; texts within texts -/
namespace Gf
open PySem Ty
section
variable {n : Nat} {f c : Nat → Int} (hn1 : 1 ≤ n) (hn : Net (4 * n) f) (hf2 : ∀ i, i < 4 * n → f i ≠ i) (ho : OneR (4 * n) (par c) (fJ f))
include hn1 hn hf2 ho
end
/-! ### the turned word -/
section
variable {n : Nat} {f c I O : Nat → Int} {A B : Nat → Nat} (C : CW n f c I O A B) (hn : Net (4 * n) f) {d : Nat → Int} {q : Nat} (hq : q < n) (hoff : ∀ x : Int, 0 ≤ x → x / 4 ≠ (q : Int) → par d x = par c x) (hI : par d (I (A q)) = I (B q))
include C hn hq hoff hI
end
/-! ### texts within texts -/
theorem Two.rfind {l : List Nat} {c i j : Nat} (h : Two l c i j) : Txt.rfind (tx l) (sgS c) = (j : Int) := by
  have key : ∀ k, StrLaws.At (tx l) (sgS c) (tx l).length k ↔ l[k]? = some c := fun k => by
    rw [tx_len]
    unfold StrLaws.At
    rw [StrLaws.subAt_eq, tx_sg, tx_len]
    show (k + 1 ≤ l.length ∧ ((l.drop k).take 1 == [c]) = true) ↔ _
    constructor
    · rintro ⟨h1, h2⟩
      have h2 := eq_of_beq h2
      have := congrArg (fun z : List Nat => z[0]?) h2
      simp only [List.getElem?_take, List.getElem?_drop] at this
      simpa using this
    · intro h1
      obtain ⟨b1, b2⟩ := List.getElem?_eq_some_iff.mp h1
      refine ⟨b1, ?_⟩
      rw [List.drop_eq_getElem_cons b1, b2]
      simp
  unfold Txt.rfind
  rcases StrLaws.last_spec (tx l) (sgS c) with ⟨_, hn⟩ | ⟨k, e, hk, hmax⟩
  · exact absurd ((key j).mpr h.hj) (hn j)
  · rw [e]
    have hk := (key k).mp hk
    have hlt := h.lt
    rcases h.only k hk with r | r
    · exact absurd ((key j).mpr h.hj) (hmax j (by omega))
    · rw [r]
end Gf

/-! ## Gf41: rounds found from starts in any order -/
namespace Gf
open PySem Ty
theorem flat_disj {R R' : List Int} {x : Int} (h1 : x ∈ R) (h2 : x ∈ R') : ∀ (W : List (List Int)), W.flatten.Nodup → R ∈ W → R' ∈ W → R = R'
  | [], _, h, _ => by cases h
  | A :: W, nd, a, b => by
    rw [List.flatten_cons, List.nodup_append] at nd
    have key : ∀ {B : List Int}, B ∈ W → x ∈ A → x ∈ B → False := fun hB h1 h2 => nd.2.2 x h1 x (List.mem_flatten.mpr ⟨_, hB, h2⟩) rfl
    rcases List.mem_cons.mp a with ea | ea
    · rcases List.mem_cons.mp b with eb | eb
      · rw [ea, eb]
      · exact (key eb (by rw [← ea]; exact h1) h2).elim
    · rcases List.mem_cons.mp b with eb | eb
      · exact (key ea (by rw [← eb]; exact h2) h1).elim
      · exact flat_disj h1 h2 W nd.2.1 ea eb
structure Rdl (s p : Int → Int) (S : List Int) (m : Nat) (V : List (List Int)) : Prop where
  rd : ∀ R ∈ V, ∃ e, 0 ≤ e ∧ e < (m : Int) ∧ Rd s p e R
  nd : V.flatten.Nodup
  all : ∀ x ∈ S, x ∈ V.flatten
theorem Rdl.zero {s p : Int → Int} {m : Nat} : Rdl s p [] m [] := ⟨by simp, by simp, fun x h => by cases h⟩
theorem Rdl.old {s p : Int → Int} {S : List Int} {m : Nat} {V : List (List Int)} {e : Int} (h : Rdl s p S m V) (he : e ∈ V.flatten) : Rdl s p (S ++ [e]) m V := ⟨h.rd, h.nd, fun x hx => by
  rcases List.mem_append.mp hx with hx | hx
  · exact h.all x hx
  · rw [List.mem_singleton.mp hx]; exact he⟩
theorem Rds.rdl {s p : Int → Int} {m : Nat} {W : List (List Int)} (h : Rds s p m W) : Rdl s p (row m fun k => (k : Int)) m W := ⟨fun R hR => by
  obtain ⟨e, a, b, c, _⟩ := h.rd R hR
  exact ⟨e, a, b, c⟩, h.nd, fun x hx => by
  obtain ⟨k, hk, rfl⟩ := List.mem_map.mp (show x ∈ (List.range m).map fun k : Nat => (k : Int) from hx)
  exact h.all _ (by omega) (by have := List.mem_range.mp hk; omega)⟩
section
variable {s p f : Int → Int} {m : Nat} (hs : ∀ x, s x = f (p x)) (hpi : ∀ x : Int, 0 ≤ x → x < m → 0 ≤ p x ∧ p x < m ∧ p (p x) = x ∧ p x ≠ x) (hfi : ∀ x : Int, 0 ≤ x → x < m → 0 ≤ f x ∧ f x < m ∧ f (f x) = x ∧ f x ≠ x)
include hs hpi hfi
theorem Rdl.rng {S : List Int} {V : List (List Int)} (h : Rdl s p S m V) : ∀ x ∈ V.flatten, 0 ≤ x ∧ x < (m : Int) := fun x hx => by
  obtain ⟨R, hR, hx⟩ := List.mem_flatten.mp hx
  obtain ⟨e, a, b, c⟩ := h.rd R hR
  exact Rd.rng hs hpi hfi a b c x hx
theorem Rdl.new {S : List Int} {V : List (List Int)} {e : Int} {R : List Int} (h0 : 0 ≤ e) (h1 : e < m) (h : Rdl s p S m V) (hn : e ∉ V.flatten) (hR : Rd s p e R) : Rdl s p (S ++ [e]) m (V ++ [R]) := by
  have hd : ∀ x ∈ R, x ∉ V.flatten := by
    intro x hx hw
    obtain ⟨k, k1, rfl, k2, k3⟩ := hR
    obtain ⟨R', hR', hx'⟩ := List.mem_flatten.mp hw
    obtain ⟨e', a, b, ⟨k', k1', rfl, k2', k3'⟩⟩ := h.rd _ hR'
    refine hn (List.mem_flatten.mpr ⟨_, hR', ?_⟩)
    exact wl_back' hs hpi hfi h0 h1 (Z := fun x => x ∈ wl s p e' k') (fun y _ _ hy => (wl_closed hs hpi hfi a b k1' k2' hy).2.2) hx hx'
  have he : e ∈ R := hR.hd.2
  refine ⟨fun R' hR' => ?_, ?_, fun x hx => ?_⟩
  · rcases List.mem_append.mp hR' with z | z
    · exact h.rd R' z
    · rw [List.mem_singleton.mp z]; exact ⟨e, h0, h1, hR⟩
  · rw [List.flatten_append, List.flatten_cons, List.flatten_nil, List.append_nil]
    exact List.nodup_append.mpr ⟨h.nd, Rd.nd hs hpi hfi h0 h1 hR, fun a ha b hb e => hd b hb (e ▸ ha)⟩
  · rw [List.flatten_append, List.flatten_cons, List.flatten_nil, List.append_nil]
    rcases List.mem_append.mp hx with hx | hx
    · exact List.mem_append_left _ (h.all x hx)
    · rw [List.mem_singleton.mp hx]; exact List.mem_append_right _ he
open Classical in
theorem Rdl.le {S T : List Int} {V W : List (List Int)} (hV : Rdl s p S m V) (hW : Rdl s p T m W) (hT : ∀ x, 0 ≤ x → x < (m : Int) → x ∈ T) : V.length ≤ W.length := by
  refine Nat.le_of_not_lt fun hl => ?_
  have ex : ∀ R ∈ V, ∃ R', R' ∈ W ∧ hd R ∈ R' := fun R hR => by
    obtain ⟨e, a, b, c⟩ := hV.rd R hR
    rw [c.hd.1]
    obtain ⟨R', h1, h2⟩ := List.mem_flatten.mp (hW.all e (hT e a b))
    exact ⟨R', h1, h2⟩
  let k : List Int → Int := fun R => if h : ∃ R', R' ∈ W ∧ hd R ∈ R' then hd (Classical.choose h) else 0
  have hk : ∀ R ∈ V, ∃ R', R' ∈ W ∧ hd R ∈ R' ∧ k R = hd R' := fun R hR => by
    have h := ex R hR
    refine ⟨Classical.choose h, (Classical.choose_spec h).1, (Classical.choose_spec h).2, ?_⟩
    show (if h : ∃ R', R' ∈ W ∧ hd R ∈ R' then hd (Classical.choose h) else 0) = _
    rw [dif_pos h]
  obtain ⟨pre, R1, mid, R2, post, eV, ek⟩ := two_alike (k := k) (l := V) (m := W.map hd) (fun R hR => by
    obtain ⟨R', h1, _, h2⟩ := hk R hR
    rw [h2]; exact List.mem_map.mpr ⟨R', h1, rfl⟩) (by rw [List.length_map]; exact hl)
  have m1 : R1 ∈ V := by rw [eV]; simp
  have m2 : R2 ∈ V := by rw [eV]; simp
  obtain ⟨A, a1, a2, a3⟩ := hk R1 m1
  obtain ⟨B, b1, b2, b3⟩ := hk R2 m2
  obtain ⟨eA, _, _, cA⟩ := hW.rd A a1
  obtain ⟨eB, _, _, cB⟩ := hW.rd B b1
  have hAB : A = B := flat_disj (x := hd A) (by rw [cA.hd.1]; exact cA.hd.2) (by rw [← a3, ek, b3, cB.hd.1]; exact cB.hd.2) W hW.nd a1 b1
  subst hAB
  obtain ⟨e1, p1, p2, ⟨k1, q1, rfl, q2, q3⟩⟩ := hV.rd R1 m1
  obtain ⟨e2, r1, r2, c2⟩ := hV.rd R2 m2
  obtain ⟨e3, t1, t2, ⟨k3, u1, rfl, u2, u3⟩⟩ := hW.rd A a1
  have hZ : ∀ x : Int, 0 ≤ x → x < (m : Int) → x ∈ wl s p e1 k1 → p x ∈ wl s p e1 k1 ∧ f x ∈ wl s p e1 k1 := fun y _ _ hy => (wl_closed hs hpi hfi p1 p2 q1 q2 hy).2.2
  have hin : hd (wl s p e1 k1) ∈ wl s p e1 k1 := by
    have c1 : Rd s p e1 (wl s p e1 k1) := ⟨k1, q1, rfl, q2, q3⟩
    rw [c1.hd.1]; exact c1.hd.2
  have hb := wl_back' hs hpi hfi t1 t2 (Z := fun x => x ∈ wl s p e1 k1) hZ a2 hin
  have hall := wl_fwd hs hpi hfi t1 t2 (Z := fun x => x ∈ wl s p e1 k1) hZ hb k3 _ b2
  have hin2 : hd R2 ∈ R2 := by rw [c2.hd.1]; exact c2.hd.2
  have nd := hV.nd
  rw [eV, List.flatten_append, List.flatten_cons, List.flatten_append, List.flatten_cons] at nd
  have nd2 := (List.nodup_append.mp nd).2.1
  exact (List.nodup_append.mp nd2).2.2 _ hall _ (List.mem_append_right _ (List.mem_append_left _ hin2)) rfl
theorem Rdl.count {S : List Int} {V W : List (List Int)} (hV : Rdl s p S m V) (hS : ∀ x, 0 ≤ x → x < (m : Int) → x ∈ S) (hW : Rds s p m W) : V.length = W.length :=
  Nat.le_antisymm (hV.le hs hpi hfi hW.rdl fun x a b => List.mem_map.mpr ⟨x.toNat, List.mem_range.mpr (by omega), by omega⟩) (hW.rdl.le hs hpi hfi hV hS)
end
theorem whl2 {S ρ : Type} {c : S → M Bool} {f : S → M (Ctl S S ρ)} (st : Nat → S) (K : Nat) (h1 : ∀ i, i < K → c (st i) = .ok true ∧ f (st i) = .ok (.nx (st (i + 1)))) (h2 : c (st K) = .ok false) : ∀ d i, i + d = K → ∀ fuel, d < fuel → whileM c f fuel (st i) = .ok (.inl (st K))
  | 0, i, h, fuel + 1, _ => by
    have : i = K := by omega
    subst this
    unfold whileM
    rw [h2]; rfl
  | d + 1, i, h, fuel + 1, hf => by
    unfold whileM
    rw [(h1 i (by omega)).1]
    simp only [okB, if_true]
    rw [(h1 i (by omega)).2]
    simp only [okB]
    exact whl2 st K h1 h2 d (i + 1) (by omega) fuel (by omega)
theorem dget_nd {κ β : Type} [DecidableEq κ] {k : κ} {v : β} : ∀ {L : List (κ × β)}, (L.map (·.1)).Nodup → (k, v) ∈ L → dget L k = some v
  | [], _, h => by cases h
  | (k', v') :: L, nd, h => by
    rw [List.map_cons, List.nodup_cons] at nd
    rcases List.mem_cons.mp h with e | h
    · injection e with e1 e2
      subst e1 e2
      simp [dget]
    · have hne : k' ≠ k := fun e => nd.1 (List.mem_map.mpr ⟨_, h, e.symm⟩)
      have := dget_nd nd.2 h
      unfold dget at this ⊢
      rw [List.find?_cons_of_neg (by simpa using hne)]
      exact this
theorem dput_new {κ β : Type} [DecidableEq κ] {k : κ} {v : β} {L : List (κ × β)} (h : k ∉ L.map (·.1)) : dput L k v = L ++ [(k, v)] := by
  unfold dput
  rw [if_neg]
  intro e
  obtain ⟨p, hp, e⟩ := List.any_eq_true.mp e
  exact h (List.mem_map.mpr ⟨p, hp, of_decide_eq_true e⟩)
end Gf

/-! ## Gf45: the ways along a step, marked from starts in any order: twice as many as the rounds -/
namespace Gf
open PySem Ty
/-- on the same way -/
def Sm (s : Int → Int) (x y : Int) : Prop := ∃ i j, orb s x i = orb s y j
theorem orb_shf (s : Int → Int) (e : Int) (i : Nat) : ∀ j, orb s (orb s e i) j = orb s e (i + j)
  | 0 => rfl
  | j + 1 => by
    show s (orb s (orb s e i) j) = s (orb s e (i + j))
    rw [orb_shf s e i j]
theorem orb_front (s : Int → Int) (e : Int) (j : Nat) : orb s e (j + 1) = orb s (s e) j := by
  have := orb_shf s e 1 j
  rw [show 1 + j = j + 1 by omega] at this
  exact this.symm
theorem Sm.refl (s : Int → Int) (x : Int) : Sm s x x := ⟨0, 0, rfl⟩
theorem Sm.symm {s : Int → Int} {x y : Int} : Sm s x y → Sm s y x := fun ⟨i, j, h⟩ => ⟨j, i, h.symm⟩
theorem Sm.trans {s : Int → Int} {x y z : Int} : Sm s x y → Sm s y z → Sm s x z := fun ⟨i, j, h⟩ ⟨k, l, h'⟩ => ⟨i + k, l + j, by
  rw [← orb_shf, h, orb_shf, Nat.add_comm, ← orb_shf, h', orb_shf]⟩
open Classical in
theorem tv_le {r : Int → Int → Prop} (h3 : ∀ a b d, r a d → r b d → r a b) {C D : List Int} (hp : C.Pairwise fun x y => ¬ r x y) (hc : ∀ c ∈ C, ∃ d, d ∈ D ∧ r c d) : C.length ≤ D.length := by
  refine Nat.le_of_not_lt fun hl => ?_
  let k : Int → Int := fun c => if h : ∃ d, d ∈ D ∧ r c d then Classical.choose h else 0
  have hk : ∀ c ∈ C, k c ∈ D ∧ r c (k c) := fun c hcC => by
    have h := hc c hcC
    show (if h : ∃ d, d ∈ D ∧ r c d then Classical.choose h else 0) ∈ D ∧ r c (if h : ∃ d, d ∈ D ∧ r c d then Classical.choose h else 0)
    rw [dif_pos h]
    exact Classical.choose_spec h
  obtain ⟨pre, x, mid, y, post, e, ek⟩ := two_alike (k := k) (l := C) (m := D) (fun c hcC => (hk c hcC).1) hl
  have h1 := (hk x (by rw [e]; simp)).2
  have h2 := (hk y (by rw [e]; simp)).2
  rw [e, List.pairwise_append] at hp
  have := (List.pairwise_cons.mp hp.2.1).1 y (by simp)
  exact this (h3 _ _ _ h1 (ek ▸ h2))
section
variable {s p f : Int → Int} {m : Nat} (hs : ∀ x, s x = f (p x)) (hpi : ∀ x : Int, 0 ≤ x → x < m → 0 ≤ p x ∧ p x < m ∧ p (p x) = x ∧ p x ≠ x) (hfi : ∀ x : Int, 0 ≤ x → x < m → 0 ≤ f x ∧ f x < m ∧ f (f x) = x ∧ f x ≠ x)
include hs hpi hfi
theorem step_back {e : Int} (h0 : 0 ≤ e) (h1 : e < m) (j : Nat) : s (p (orb s e (j + 1))) = p (orb s e j) := by
  have rg := orb_rng hs hpi hfi h0 h1
  have a := hpi _ (rg (j + 1)).1 (rg (j + 1)).2
  rw [hs, a.2.2.1]
  show f (s (orb s e j)) = _
  have c := hpi _ (rg j).1 (rg j).2
  rw [hs]
  exact (hfi _ c.1 c.2.1).2.2.1
theorem back_all {e : Int} (h0 : 0 ≤ e) (h1 : e < m) : ∀ i, orb s (p (orb s e i)) i = p e
  | 0 => rfl
  | i + 1 => by
    rw [orb_front, step_back hs hpi hfi h0 h1]
    exact back_all h0 h1 i
theorem back_ex {e : Int} (h0 : 0 ≤ e) (h1 : e < m) {k : Nat} (k1 : 1 ≤ k) (hk : orb s e k = e) : ∀ j, ∃ i, orb s (p e) j = p (orb s e i)
  | 0 => ⟨0, rfl⟩
  | j + 1 => by
    obtain ⟨i, hi⟩ := back_ex h0 h1 k1 hk j
    show ∃ i', s (orb s (p e) j) = _
    rw [hi]
    cases i with
    | zero =>
      refine ⟨k - 1, ?_⟩
      have := step_back hs hpi hfi h0 h1 (k - 1)
      rw [show k - 1 + 1 = k by omega, hk] at this
      exact this
    | succ i => exact ⟨i, step_back hs hpi hfi h0 h1 i⟩
theorem wl_orb {e : Int} (h0 : 0 ≤ e) (h1 : e < m) {k : Nat} (k1 : 1 ≤ k) (hk : orb s e k = e) {x : Int} (hx : x ∈ wl s p e k) : ∀ i, orb s x i ∈ wl s p e k
  | 0 => hx
  | i + 1 => by
    have ih := wl_orb h0 h1 k1 hk hx i
    have a := wl_closed hs hpi hfi h0 h1 k1 hk ih
    have b := wl_closed hs hpi hfi h0 h1 k1 hk a.2.2.1
    show s (orb s x i) ∈ _
    rw [hs]
    exact b.2.2.2
def reps (p : Int → Int) (W : List (List Int)) : List Int := W.flatMap fun R => [hd R, p (hd R)]
omit hs hpi hfi in
theorem reps_len (p : Int → Int) : ∀ W, (reps p W).length = 2 * W.length
  | [] => rfl
  | R :: W => by
    have := reps_len p W
    unfold reps at this ⊢
    rw [List.flatMap_cons, List.length_append, this, List.length_cons]
    simp; omega
theorem reps_pw {W : List (List Int)} (h : Rds s p m W) : (reps p W).Pairwise fun x y => ¬ Sm s x y := by
  unfold reps
  rw [List.pairwise_flatMap]
  refine ⟨fun R hR => ?_, ?_⟩
  · obtain ⟨e, a, b, c, _⟩ := h.rd R hR
    rw [c.hd.1]
    obtain ⟨k, k1, rfl, k2, k3⟩ := c
    simp only [List.pairwise_cons, List.mem_singleton, List.not_mem_nil, false_imp_iff, implies_true, List.Pairwise.nil, and_true, forall_eq]
    rintro ⟨i, j, hij⟩
    obtain ⟨i', hi'⟩ := back_ex hs hpi hfi a b k1 k2 j
    rw [hi'] at hij
    exact orb_par' hs hpi hfi a b i' i hij.symm
  · have nd := h.nd
    rw [List.nodup_iff_pairwise_ne, List.pairwise_flatten] at nd
    refine List.Pairwise.imp_of_mem (fun {R R'} hR hR' hd => ?_) nd.2
    obtain ⟨e, a, b, c, _⟩ := h.rd R hR
    obtain ⟨e', a', b', c', _⟩ := h.rd R' hR'
    rw [c.hd.1, c'.hd.1]
    have m1 := c.hd.2
    have m2 := c'.hd.2
    obtain ⟨k, k1, rfl, k2, k3⟩ := c
    obtain ⟨k', k1', rfl, k2', k3'⟩ := c'
    have q1 := (wl_closed hs hpi hfi a b k1 k2 m1).2.2.1
    have q2 := (wl_closed hs hpi hfi a' b' k1' k2' m2).2.2.1
    intro x hx y hy ⟨i, j, hij⟩
    have hx' : x ∈ wl s p e k := by
      simp only [List.mem_cons, List.not_mem_nil, or_false] at hx
      rcases hx with rfl | rfl
      · exact m1
      · exact q1
    have hy' : y ∈ wl s p e' k' := by
      simp only [List.mem_cons, List.not_mem_nil, or_false] at hy
      rcases hy with rfl | rfl
      · exact m2
      · exact q2
    exact hd _ (wl_orb hs hpi hfi a b k1 k2 hx' i) _ (wl_orb hs hpi hfi a' b' k1' k2' hy' j) hij
theorem reps_cv {W : List (List Int)} (h : Rds s p m W) {x : Int} (x0 : 0 ≤ x) (x1 : x < m) : ∃ d, d ∈ reps p W ∧ Sm s x d := by
  obtain ⟨R, hR, hx⟩ := List.mem_flatten.mp (h.all x x0 x1)
  obtain ⟨e, a, b, c, _⟩ := h.rd R hR
  have e1 := c.hd.1
  obtain ⟨k, k1, rfl, k2, k3⟩ := c
  obtain ⟨i, hi, q | q⟩ := (mem_wl k).mp hx
  · exact ⟨e, List.mem_flatMap.mpr ⟨_, hR, by rw [e1]; simp⟩, 0, i, q⟩
  · exact ⟨p e, List.mem_flatMap.mpr ⟨_, hR, by rw [e1]; simp⟩, i, 0, by rw [q, back_all hs hpi hfi a b i]; rfl⟩
/-- marked so far: the ends G, the starts C of ways, the starts asked -/
structure Mk (s : Int → Int) (m : Nat) (G C pre : List Int) : Prop where
  rg : ∀ x ∈ G, 0 ≤ x ∧ x < (m : Int)
  nd : G.Nodup
  cv : ∀ x ∈ G, ∃ c, c ∈ C ∧ Sm s x c
  cl : ∀ x c, 0 ≤ x → x < (m : Int) → c ∈ C → Sm s x c → x ∈ G
  pw : C.Pairwise fun x y => ¬ Sm s x y
  cr : ∀ c ∈ C, 0 ≤ c ∧ c < (m : Int)
  al : ∀ x ∈ pre, x ∈ G
omit hs hpi hfi in
theorem Mk.zero : Mk s m [] [] [] := ⟨by simp, by simp, by simp, by simp, by simp, by simp, by simp⟩
omit hs hpi hfi in
theorem Mk.old {G C pre : List Int} {e : Int} (h : Mk s m G C pre) (he : e ∈ G) : Mk s m G C (pre ++ [e]) := ⟨h.rg, h.nd, h.cv, h.cl, h.pw, h.cr, fun x hx => by
  rcases List.mem_append.mp hx with hx | hx
  · exact h.al x hx
  · rw [List.mem_singleton.mp hx]; exact he⟩
/-- the way from e -/
def way (s : Int → Int) (e : Int) (k : Nat) : List Int := row k fun i => orb s e i
omit hs hpi hfi in
theorem mem_way {e x : Int} {k : Nat} : x ∈ way s e k ↔ ∃ i, i < k ∧ x = orb s e i := by
  unfold way row
  rw [List.mem_map]
  exact ⟨fun ⟨i, hi, h⟩ => ⟨i, List.mem_range.mp hi, h.symm⟩, fun ⟨i, hi, h⟩ => ⟨i, List.mem_range.mpr hi, h.symm⟩⟩
omit hs hpi hfi in
theorem way_s (e : Int) (i : Nat) : way s e (i + 1) = way s e i ++ [orb s e i] := by
  unfold way row
  rw [List.range_succ, List.map_append]; rfl
omit hs hpi hfi in
theorem way_all {e : Int} {k : Nat} (k1 : 1 ≤ k) (hk : orb s e k = e) : ∀ j, orb s e j ∈ way s e k
  | 0 => mem_way.mpr ⟨0, by omega, rfl⟩
  | j + 1 => by
    obtain ⟨t, ht, h⟩ := mem_way.mp (way_all k1 hk j)
    have e1 : orb s e (j + 1) = orb s e (t + 1) := by
      show s (orb s e j) = s (orb s e t)
      rw [h]
    by_cases q : t + 1 = k
    · rw [e1, q, hk]; exact mem_way.mpr ⟨0, by omega, rfl⟩
    · exact mem_way.mpr ⟨t + 1, by omega, e1⟩
theorem way_in {e : Int} (h0 : 0 ≤ e) (h1 : e < m) {k : Nat} (k1 : 1 ≤ k) (hk : orb s e k = e) {x : Int} (x0 : 0 ≤ x) (x1 : x < m) : ∀ i j, orb s x i = orb s e j → x ∈ way s e k
  | 0, j, h => by
    have h : x = orb s e j := h
    rw [h]; exact way_all k1 hk j
  | i + 1, j, h => by
    have h : s (orb s x i) = orb s e j := h
    have rx := orb_rng hs hpi hfi x0 x1 i
    obtain ⟨j', hj⟩ : ∃ j', orb s e j = s (orb s e j') := by
      cases j with
      | zero =>
        refine ⟨k - 1, ?_⟩
        show e = orb s e (k - 1 + 1)
        rw [show k - 1 + 1 = k by omega, hk]
      | succ j => exact ⟨j, rfl⟩
    have re := orb_rng hs hpi hfi h0 h1 j'
    exact way_in h0 h1 k1 hk x0 x1 i j' (s_inj hs hpi hfi h0 h1 rx.1 rx.2 re.1 re.2 (h.trans hj))
theorem Mk.out {G C pre : List Int} {e : Int} (h : Mk s m G C pre) (h0 : 0 ≤ e) (h1 : e < m) (he : e ∉ G) (i : Nat) : orb s e i ∉ G := fun hi => by
  obtain ⟨c, hc, h2⟩ := h.cv _ hi
  exact he (h.cl e c h0 h1 hc (Sm.trans ⟨i, 0, rfl⟩ h2))
theorem way_new {e : Int} (h0 : 0 ≤ e) (h1 : e < m) {k : Nat} (hk : ∀ j, 1 ≤ j → j < k → orb s e j ≠ e) {i : Nat} (hi : i < k) : orb s e i ∉ way s e i := fun h => by
  obtain ⟨t, ht, e1⟩ := mem_way.mp h
  have := orb_sub hs hpi hfi h0 h1 t (i - t) (by rw [show t + (i - t) = i by omega]; exact e1.symm)
  exact hk (i - t) (by omega) (by omega) this
theorem Mk.new {G C pre : List Int} {e : Int} (h : Mk s m G C pre) (h0 : 0 ≤ e) (h1 : e < m) (he : e ∉ G) {k : Nat} (k1 : 1 ≤ k) (k2 : orb s e k = e) (k3 : ∀ j, 1 ≤ j → j < k → orb s e j ≠ e) : Mk s m (G ++ way s e k) (C ++ [e]) (pre ++ [e]) := by
  have rg := orb_rng hs hpi hfi h0 h1
  refine ⟨fun x hx => ?_, ?_, fun x hx => ?_, fun x c x0 x1 hc hr => ?_, ?_, fun c hc => ?_, fun x hx => ?_⟩
  · rcases List.mem_append.mp hx with hx | hx
    · exact h.rg x hx
    · obtain ⟨i, _, rfl⟩ := mem_way.mp hx
      exact rg i
  · refine List.nodup_append.mpr ⟨h.nd, ?_, fun a ha b hb e2 => ?_⟩
    · have : ∀ i, i ≤ k → (way s e i).Nodup := fun i => by
        induction i with
        | zero => intro _; exact List.nodup_nil
        | succ i ih =>
          intro hi
          rw [way_s]
          exact List.nodup_append.mpr ⟨ih (by omega), by simp, fun a ha b hb e2 => way_new hs hpi hfi h0 h1 k3 (show i < k by omega) (by rw [List.mem_singleton.mp hb] at e2; exact e2 ▸ ha)⟩
      exact this k (Nat.le_refl k)
    · obtain ⟨i, _, rfl⟩ := mem_way.mp hb
      exact h.out hs hpi hfi h0 h1 he i (e2 ▸ ha)
  · rcases List.mem_append.mp hx with hx | hx
    · obtain ⟨c, hc, hr⟩ := h.cv x hx
      exact ⟨c, List.mem_append_left _ hc, hr⟩
    · obtain ⟨i, _, rfl⟩ := mem_way.mp hx
      exact ⟨e, by simp, 0, i, rfl⟩
  · rcases List.mem_append.mp hc with hc | hc
    · exact List.mem_append_left _ (h.cl x c x0 x1 hc hr)
    · rw [List.mem_singleton.mp hc] at hr
      obtain ⟨i, j, hij⟩ := hr
      exact List.mem_append_right _ (way_in hs hpi hfi h0 h1 k1 k2 x0 x1 i j hij)
  · rw [List.pairwise_append]
    refine ⟨h.pw, by simp, fun a ha b hb hr => ?_⟩
    rw [List.mem_singleton.mp hb] at hr
    exact he (h.cl e a h0 h1 ha hr.symm)
  · rcases List.mem_append.mp hc with hc | hc
    · exact h.cr c hc
    · rw [List.mem_singleton.mp hc]; exact ⟨h0, h1⟩
  · rcases List.mem_append.mp hx with hx | hx
    · exact List.mem_append_left _ (h.al x hx)
    · rw [List.mem_singleton.mp hx]
      exact List.mem_append_right _ (mem_way.mpr ⟨0, by omega, rfl⟩)
theorem Mk.count {G C pre : List Int} {W : List (List Int)} (h : Mk s m G C pre) (hp : ∀ x, 0 ≤ x → x < (m : Int) → x ∈ pre) (hW : Rds s p m W) : C.length = 2 * W.length := by
  rw [← reps_len p W]
  refine Nat.le_antisymm (tv_le (r := Sm s) (fun a b d h1 h2 => h1.trans h2.symm) h.pw fun c hc => reps_cv hs hpi hfi hW (h.cr c hc).1 (h.cr c hc).2) (tv_le (r := Sm s) (fun a b d h1 h2 => h1.trans h2.symm) (reps_pw hs hpi hfi hW) fun c hc => ?_)
  have hr : 0 ≤ c ∧ c < (m : Int) := by
    obtain ⟨R, hR, hx⟩ := List.mem_flatMap.mp hc
    obtain ⟨e, a, b, q, _⟩ := hW.rd R hR
    rw [q.hd.1] at hx
    simp only [List.mem_cons, List.not_mem_nil, or_false] at hx
    rcases hx with rfl | rfl
    · exact ⟨a, b⟩
    · have := hpi e a b
      exact ⟨this.1, this.2.1⟩
  exact h.cv c (h.al c (hp c hr.1 hr.2))
end
end Gf

/-! ## LGcell0: cells, mixed -/
namespace Law
open PySem Ty
theorem cell_ok (s : Scr) (k : Int) (h0 : 0 ≤ k) : Ev (mir__law_cell s k) fun c => 0 ≤ c := by
  unfold mir__law_cell
  simp only [pureB]
  refine Ev.run (Ev.bind (P := fun c => ∃ v : Int, c = .nx v) (Ev.bif (fun hc => ?_) fun hc => ⟨_, rfl, _, rfl⟩) ?_)
  · rw [atM_ok h0 (of_decide_eq_true hc)]
    exact ⟨_, rfl, _, rfl⟩
  · rintro _ ⟨v, rfl⟩
    refine Ev.ok ⟨_, rfl, ?_⟩
    omega
end Law

/-! ## LGwd: ring words of numbers -/
namespace Law
open PySem Ty
/-- a ring word of 2 n signs: I tells unlike numbers, two for each place -/
def Wd (n : Nat) (R : List Int) : Prop := ∃ F : List Int, R = F.map (fun x => x / 2) ∧ F.length = 2 * n ∧ F.Nodup ∧ ∀ x ∈ F, 0 ≤ x ∧ x < ((2 * n : Nat) : Int)
end Law

/-! ## LGrowX: drawn ring words, to ten letters -/
namespace Law
open PySem Ty
theorem row_ok (s : Scr) (at' : Int) (ha : 0 ≤ at') (n : Nat) (hn : n ≤ 10) : Ev (mir__law_row s at' n) (Wd n) := by
  unfold mir__law_row
  simp only [pureB, bindA]
  rw [range1_ok (by omega) (by omega), lstM_ok (by simp)]
  simp only [okB, pureB]
  rw [compM_map (f := fun a => pure (a / 2)) (fun x => x / 2) (by simp [rangeL]; omega) (fun _ _ => rfl)]
  simp only [okB, pureB]
  rw [show (2 : Int) * n = ((2 * n : Nat) : Int) by omega]
  refine Ev.run (Ev.bind (cell_ok s at' ha) fun c0 hc0 => ?_)
  refine Ev.loopN (fun k s => 0 ≤ s.1 ∧ ∃ F L : List Int, s.2.1 = F.map (fun x => x / 2) ∧ s.2.2 = L.map (fun x => x / 2) ∧ F.length = k ∧ L.length = 2 * n - k ∧ (F ++ L).Nodup ∧ ∀ x ∈ F ++ L, 0 ≤ x ∧ x < ((2 * n : Nat) : Int)) ⟨by omega, [], rangeL 0 ((2 * n : Nat) : Int), rfl, rfl, rfl, by simp [rangeL]; omega, (prt_start (2 * n) (fun _ => 0)).nd, fun x hx => mem_range1 hx⟩ ?_ ?_
  · rintro i ⟨z, F', L'⟩ hi ⟨h1, F, L, e1, e2, h2, h3, h4, h5⟩
    simp only at h1 e1 e2 ⊢
    subst e1 e2
    refine Ev.bind (cell_ok s (at' + 1 + i) (by omega)) fun c1 hc1 => ?_
    have hz : 0 ≤ (z * 48271 + c1) % 2147483647 := by omega
    generalize (z * 48271 + c1) % 2147483647 = z' at hz
    rw [List.length_map, modM_ok (by omega)]
    simp only [okB, pureB]
    have hj0 : 0 ≤ z' / 16 % (L.length : Int) := Int.emod_nonneg _ (by omega)
    have hj1 : z' / 16 % (L.length : Int) < L.length := Int.emod_lt_of_pos _ (by omega)
    generalize z' / 16 % (L.length : Int) = j at hj0 hj1
    have hj : j.toNat < L.length := by omega
    rw [popAtM_ok hj0 (by rw [List.length_map]; exact hj1) (by omega)]
    simp only [okB, pureB]
    rw [appM_ok (by rw [List.length_map]; omega)]
    have eg : (L.map (fun x => x / 2)).getD j.toNat default = L[j.toNat] / 2 := by
      rw [List.getD_eq_getElem?_getD, List.getElem?_map, List.getElem?_eq_getElem hj]; rfl
    have pm : (F ++ [L[j.toNat]] ++ L.eraseIdx j.toNat).Perm (F ++ L) := by
      rw [List.append_assoc]
      exact List.Perm.append_left _ (perm_erase hj)
    refine ⟨_, rfl, _, rfl, hz, F ++ [L[j.toNat]], L.eraseIdx j.toNat, ?_, ?_, by simp [h2], ?_, pm.nodup_iff.mpr h4, fun x hx => h5 x (pm.mem_iff.mp hx)⟩
    · show List.map _ F ++ [_] = _
      rw [eg, List.map_append]; rfl
    · show (L.map _).eraseIdx _ = _
      rw [erase_map]
    · rw [List.length_eraseIdx_of_lt hj]; omega
  · rintro ⟨z, F', L'⟩ ⟨h1, F, L, e1, e2, h2, h3, h4, h5⟩
    have hl : L = [] := List.length_eq_zero_iff.mp (by rw [h3]; omega)
    subst hl
    rw [List.append_nil] at h4 h5
    exact ⟨_, rfl, _, rfl, F, e1, by omega, h4, h5⟩
end Law

/-! ## LGltx: drawn letters -/
namespace Law
open PySem Ty
theorem letters_drawn (z : Int) (n : Nat) (hn : n ≤ 10) : Ev (mir__law_letters z n) fun w => ∃ fd : List Nat, w = Gf.tx fd ∧ fd.length = n ∧ fd.Nodup ∧ ∀ c ∈ fd, 97 ≤ c ∧ c < 123 := by
  unfold mir__law_letters
  simp only [pureB, bindA]
  rw [range1_ok (by omega) (by omega)]
  simp only [okB, pureB]
  refine Ev.run (Ev.loopN (fun k (s : Int × Str × Str) => ∃ fd left : List Nat, s.2.1 = Gf.tx fd ∧ s.2.2 = Gf.tx left ∧ fd.length = k ∧ (fd ++ left).Perm (List.range' 97 26)) ⟨[], _, rfl, Gf.abc, rfl, List.Perm.refl _⟩ ?_ ?_)
  · rintro k ⟨z, F', L'⟩ hk ⟨fd, left, e1, e2, h1, h2⟩
    simp only at e1 e2 ⊢
    subst e1 e2
    have hlen := h2.length_eq
    rw [List.length_append, List.length_range', h1] at hlen
    rw [Gf.lenS_ok (by omega)]
    simp only [okB]
    rw [modM_ok (by omega)]
    simp only [okB]
    have b0 : 0 ≤ z % (left.length : Int) := Int.emod_nonneg _ (by omega)
    have b1 : z % (left.length : Int) < left.length := Int.emod_lt_of_pos _ (by omega)
    obtain ⟨j, hj⟩ : ∃ j : Nat, z % (left.length : Int) = j := ⟨(z % (left.length : Int)).toNat, by omega⟩
    rw [hj] at b0 b1 ⊢
    rw [divM_s (by omega) (by omega)]
    simp only [okB, pureB]
    rw [Gf.atS_ok (by omega) b0 b1]
    simp only [okB]
    rw [Gf.tx_sg, Gf.addS_ok (by show fd.length + 1 ≤ _; omega)]
    simp only [okB]
    rw [Gf.cutS_to (by omega), show (j : Int) + 1 = ((j + 1 : Nat) : Int) by omega, Gf.cutS_from (by omega)]
    simp only [okB]
    rw [Gf.addS_ok (by rw [List.length_take, List.length_drop]; omega)]
    simp only [okB, pureB]
    have hjl : j < left.length := by omega
    refine Ev.ok ⟨_, rfl, _, _, rfl, rfl, by rw [List.length_append, h1]; rfl, ?_⟩
    rw [Nat.min_eq_left (by omega), Nat.min_eq_left (by omega), Gf.take_drop_erase, Int.toNat_natCast, List.getD_eq_getElem?_getD, List.getElem?_eq_getElem hjl]
    refine List.Perm.trans ?_ h2
    rw [List.append_assoc]
    exact List.Perm.append_left fd (perm_erase hjl)
  · rintro ⟨z, F', L'⟩ ⟨fd, left, e1, e2, h1, h2⟩
    simp only at e1 ⊢
    subst e1
    have nd := h2.nodup_iff.mpr List.nodup_range'
    refine Ev.ok ⟨_, rfl, fd, rfl, by omega, (List.nodup_append.mp nd).1, fun c hc => ?_⟩
    have := List.mem_range'.mp (h2.mem_iff.mp (List.mem_append_left _ hc))
    omega
end Law

/-! ## LGround: the program's rounds -/
namespace Law
open PySem Ty Gf
theorem joined_ok {w s : Int} (h0 : 0 ≤ w) (h1 : w < 3) (h2 : 0 ≤ s) (h3 : s < 4) : mir_joined w s = .ok (jn w s) := by
  have hw : w = 0 ∨ w = 1 ∨ w = 2 := by omega
  have hs : s = 0 ∨ s = 1 ∨ s = 2 ∨ s = 3 := by omega
  rcases hw with rfl | rfl | rfl <;> rcases hs with rfl | rfl | rfl | rfl <;> rfl
def Ch (n : Nat) (c : Nat → Int) : Prop := ∀ i, i < n → 0 ≤ c i ∧ c i < 3
theorem partner_ok {n : Nat} {c : Nat → Int} {e : Int} (hc : Ch n c) (h0 : 0 ≤ e) (h1 : e < ((4 * n : Nat) : Int)) : mir_partner (row n c) e = .ok (par c e) := by
  apply Ev.eq
  unfold mir_partner
  simp only [pureB]
  rw [dmM_ok (by omega) (by omega)]
  simp only [okB, pureB]
  have := hc (e / 4).toNat (by omega)
  rw [atM_row (by omega) (by omega)]
  simp only [okB, pureB]
  rw [joined_ok this.1 this.2 (by omega) (by omega)]
  exact ⟨_, rfl, rfl⟩
def stp (f c : Nat → Int) (e : Int) : Int := f (par c e).toNat
def fI (f : Nat → Int) (x : Int) : Int := f x.toNat
section
variable {n : Nat} {f c : Nat → Int}
theorem stp_s : ∀ x, stp f c x = fI f (par c x) := fun _ => rfl
theorem par_h : ∀ x : Int, 0 ≤ x → x < ((4 * n : Nat) : Int) → 0 ≤ par c x ∧ par c x < ((4 * n : Nat) : Int) ∧ par c (par c x) = x ∧ par c x ≠ x := fun x a b => by
  have := par_in (c := c) a b
  exact ⟨this.1, this.2, par_par a, par_ne a⟩
theorem net_h (hf : Net (4 * n) f) (hf2 : ∀ i, i < 4 * n → f i ≠ i) : ∀ x : Int, 0 ≤ x → x < ((4 * n : Nat) : Int) → 0 ≤ fI f x ∧ fI f x < ((4 * n : Nat) : Int) ∧ fI f (fI f x) = x ∧ fI f x ≠ x := fun x a b => by
  have q := hf x.toNat (by omega)
  exact ⟨q.1, q.2.1, by unfold fI; rw [q.2.2]; omega, fun z => hf2 x.toNat (by omega) (by unfold fI at z; omega)⟩
theorem round_ok (hn : n ≤ 8) (hf : Net (4 * n) f) (hf2 : ∀ i, i < 4 * n → f i ≠ i) (hc : Ch n c) {e : Int} (h0 : 0 ≤ e) (h1 : e < ((4 * n : Nat) : Int)) : ∃ R, mir_round_of (row (4 * n) f) (row n c) e = .ok R ∧ Rd (stp f c) (par c) e R := by
  have rg := orb_rng (s := stp f c) (p := par c) (f := fI f) (e := e) (m := 4 * n) stp_s par_h (net_h hf hf2) h0 h1
  obtain ⟨k, k1, k2, k3, k4⟩ := orb_back (s := stp f c) (e := e) (m := 4 * n) (fun x a b => by
    have q := par_h (c := c) x a b
    have q2 := net_h hf hf2 _ q.1 q.2.1
    exact ⟨q2.1, q2.2.1⟩) (fun x y a b a' b' h => s_inj (s := stp f c) (p := par c) (f := fI f) stp_s par_h (net_h hf hf2) h0 h1 a b a' b' h) h0 h1
  have hp : ∀ i, 0 ≤ par c (orb (stp f c) e i) ∧ par c (orb (stp f c) e i) < ((4 * n : Nat) : Int) := fun i => par_in (rg i).1 (rg i).2
  have hlen := wl_len (stp f c) (par c) e
  have hlast : ∀ i, atM (wl (stp f c) (par c) e (i + 1)) (-1) = .ok (par c (orb (stp f c) e i)) := fun i => by
    show atM (wl (stp f c) (par c) e i ++ [_, _]) (-1) = _
    rw [List.append_cons]
    exact atM_last
  have hnet : ∀ i, atM (row (4 * n) f) (par c (orb (stp f c) e i)) = .ok (orb (stp f c) e (i + 1)) := fun i => atM_row (hp i).1 (hp i).2
  refine ⟨wl (stp f c) (par c) e k, ?_, k, k1, rfl, k3, k4⟩
  · apply Ev.eq
    unfold mir_round_of
    simp only [pureB, bindA]
    rw [partner_ok hc h0 h1]
    simp only [okB, pureB]
    rw [lstM_ok (by simp)]
    simp only [okB, pureB]
    rw [show ([e, par c e] : List Int) = wl (stp f c) (par c) e 1 from rfl, hlast 0]
    simp only [okB, pureB]
    rw [hnet 0]
    simp only [okB, pureB]
    refine Ev.run (Ev.whileR (fun s => ∃ i, 1 ≤ i ∧ i ≤ k ∧ s = (wl (stp f c) (par c) e i, orb (stp f c) e i)) (fun s => k - s.1.length / 2) ?_ 1000 _ ⟨1, by omega, k1, rfl⟩ (by simp only; omega))
    rintro _ ⟨i, i1, i2, rfl⟩
    refine Ev.pure ?_
    simp only
    by_cases hi : orb (stp f c) e i = e
    · rw [decide_eq_true hi]
      have : i = k := by
        rcases Nat.lt_or_ge i k with h | h
        · exact absurd hi (k4 i i1 h)
        · omega
      subst this
      exact ⟨_, rfl, _, rfl, rfl⟩
    · rw [decide_eq_false hi]
      simp only [Bool.not_false, if_true]
      have : i ≠ k := fun z => hi (by rw [z]; exact k3)
      rw [appM_ok (by rw [hlen]; omega)]
      simp only [okB, pureB]
      rw [partner_ok hc (rg i).1 (rg i).2]
      simp only [okB, pureB]
      rw [appM_ok (by rw [List.length_append, hlen]; simp; omega)]
      simp only [okB, pureB]
      rw [List.append_assoc, show wl (stp f c) (par c) e i ++ ([orb (stp f c) e i] ++ [par c (orb (stp f c) e i)]) = wl (stp f c) (par c) e (i + 1) from rfl, hlast i]
      simp only [okB, pureB]
      rw [hnet i]
      refine ⟨_, rfl, .inl ⟨_, .inl rfl, ⟨i + 1, by omega, by omega, rfl⟩, ?_⟩⟩
      simp only [hlen]
      omega
theorem rounds_ok (hn : n ≤ 8) (hf : Net (4 * n) f) (hf2 : ∀ i, i < 4 * n → f i ≠ i) (hc : Ch n c) : ∃ W, mir_rounds_of (row (4 * n) f) (row n c) = .ok W ∧ Rds (stp f c) (par c) (4 * n) W := by
  suffices h : Ev (mir_rounds_of (row (4 * n) f) (row n c)) (Rds (stp f c) (par c) (4 * n)) from h
  unfold mir_rounds_of
  simp only [pureB, bindA, row_len]
  rw [lstM_ok (by simp)]
  simp only [okB, pureB]
  rw [range1_ok (by omega) (by omega)]
  simp only [okB, pureB]
  refine Ev.run (Ev.loopN (fun k s => s.1.l.length ≤ k * 64 ∧ (∀ x, dhas s.1 x = decide (x ∈ s.2.flatten)) ∧ Rds (stp f c) (par c) k s.2) ⟨by simp, fun x => rfl, Rds.zero⟩ ?_ ?_)
  · rintro i ⟨d, W⟩ hi ⟨h1, h2, h3⟩
    have h1 : d.l.length ≤ i * 64 := h1
    have h2 : ∀ x, dhas d x = decide (x ∈ W.flatten) := h2
    have h3 : Rds (stp f c) (par c) i W := h3
    refine Ev.bif (fun hc' => ?_) fun hc' => ⟨_, rfl, _, rfl, by show d.l.length ≤ _; omega, h2, h3.old ?_⟩
    · obtain ⟨R, e1, hR⟩ := round_ok hn hf hf2 hc (e := (i : Int)) (by omega) (by omega)
      rw [e1]
      simp only [okB, pureB]
      have hl := Rd.len (f := fI f) stp_s par_h (net_h hf hf2) (e := (i : Int)) (by omega) (by omega) hR
      obtain ⟨d', p1, p2, p3⟩ := putAllM_ok (a := true) R d (by omega)
      rw [p1]
      simp only [okB, pureB]
      have hw := h3.len
      rw [appM_ok (by omega)]
      refine ⟨_, rfl, _, rfl, by simp only; omega, fun x => ?_, Rds.new (f := fI f) stp_s par_h (net_h hf hf2) (by omega) h3 ?_ hR⟩
      · rw [p3 x, h2 x]
        simp only [List.flatten_append, List.flatten_cons, List.flatten_nil, List.append_nil, List.mem_append]
        by_cases a : x ∈ R <;> by_cases b : x ∈ W.flatten <;> simp [a, b]
      · rw [h2] at hc'
        simpa using hc'
    · rw [h2] at hc'
      simpa using hc'
  · rintro s ⟨_, _, h⟩
    rw [show (((4 * n : Nat) : Int)).toNat = 4 * n by omega] at h
    exact ⟨_, rfl, _, rfl, h⟩
end
end Law

/-! ## LGlet0: letters, by the program -/
namespace Law
open PySem Ty
theorem letters_ok {l : List Nat} {n : Nat} (R : Gf.Ring l n) : mir_letters_of (Gf.tx l) = .ok (Gf.tx (Gf.cs l)) := by
  unfold mir_letters_of
  simp only [pureB, bindA]
  rw [Gf.abc, Gf.sgs]
  rw [compM_fm (t := fun a => pure (inS a (Gf.tx l))) (f := fun x => pure x) (fun x : Str => inS x (Gf.tx l)) (fun x => x) (by simp) (fun _ _ => rfl) (fun _ _ _ => rfl)]
  simp only [okB, pureB, List.map_id']
  have e : ((List.range' 97 26).map sgS).filter (fun x : Str => inS x (Gf.tx l)) = (Gf.cs l).map sgS := by
    rw [List.filter_map, ← Gf.small_letters R.low]
    congr 1
    refine List.filter_congr fun c _ => ?_
    exact Gf.inS_sg c l
  rw [e, show ("" : Str) = Gf.tx [] from rfl, Gf.joinS_ok (by rw [R.few]; have := R.n10; omega)]
  rfl
end Law

/-! ## LGnetby: the order of a word's letters; the net of a word -/
namespace Law
open PySem Ty
theorem len8 : lenS ("abcdefgh" : Str) = .ok 8 := by
  rw [show ("abcdefgh" : Str) = Gf.tx (List.range' 97 8) from by decide +kernel]
  exact Gf.lenS_ok (by decide)
theorem order_ok {l : List Nat} (hl : l.length ≤ 1000) : mir_place_order (Gf.tx l) = .ok (Gf.tx (Gf.fo l)) := by
  apply Ev.eq
  unfold mir_place_order
  simp only [pureB, bindA]
  rw [Gf.sgs]
  refine Ev.run (Ev.loopL (fun pre W => ∃ m : List Nat, pre = m.map sgS ∧ W = Gf.tx (Gf.fo m)) ⟨[], rfl, rfl⟩ ?_ ?_)
  · rintro pre x post W e ⟨m, rfl, rfl⟩
    have hx : x ∈ l.map sgS := pre_mem e
    obtain ⟨c, hc, rfl⟩ := List.mem_map.mp hx
    rw [Gf.inS_sg]
    have hlen : m.length ≤ l.length := by
      have := congrArg List.length e
      rw [List.length_map, List.length_append, List.length_map] at this
      omega
    have hfo : (Gf.fo m).length ≤ m.length := by
      have : ∀ m : List Nat, (Gf.fo m).length ≤ m.length := Gf.snoc_ind (by simp [Gf.fo]) fun l d ih => by
        rw [Gf.fo_snoc]
        unfold Gf.addF
        split
        · rw [List.length_append]; omega
        · rw [List.length_append, List.length_append]; omega
      exact this m
    refine Ev.bif (fun h => ?_) fun h => ?_
    · rw [Gf.tx_sg, Gf.addS_ok (by show (Gf.fo m).length + 1 ≤ _; omega)]
      refine Ev.ok ⟨_, rfl, m ++ [c], by rw [List.map_append]; rfl, ?_⟩
      rw [Gf.fo_snoc]
      unfold Gf.addF
      rw [if_neg (by simpa using h)]
    · refine Ev.ok ⟨_, rfl, m ++ [c], by rw [List.map_append]; rfl, ?_⟩
      rw [Gf.fo_snoc]
      unfold Gf.addF
      rw [if_pos (by simpa using h)]
  · rintro W ⟨m, e, rfl⟩
    have : l = m := by
      have : ∀ a b : List Nat, a.map sgS = b.map sgS → a = b := by
        intro a
        induction a with
        | nil =>
          intro b h
          cases b with
          | nil => rfl
          | cons y b => cases h
        | cons x a ih =>
          intro b h
          cases b with
          | nil => cases h
          | cons y b =>
            rw [List.map_cons, List.map_cons] at h
            obtain ⟨h1, h2⟩ := List.cons.inj h
            rw [sg_inj h1, ih b h2]
      exact this _ _ e
    rw [this]
    exact Ev.ok ⟨_, rfl, rfl⟩
theorem netby_ok {l : List Nat} {n : Nat} (R : Gf.Ring l n) (h : n ≤ 8) : ∃ F, mir_net_by (Gf.tx l) = .ok (.inl (row (4 * n) F)) ∧ Gf.NetU l l.length F := by
  suffices H : Ev (mir_net_by (Gf.tx l)) fun r => ∃ F, r = .inl (row (4 * n) F) ∧ Gf.NetU l l.length F by
    obtain ⟨r, e, F, rfl, hF⟩ := H
    exact ⟨F, e, hF⟩
  unfold mir_net_by
  simp only [pureB, bindA]
  have hl := R.len
  have h1 := R.n1
  rw [order_ok (by omega)]
  simp only [okB]
  rw [Gf.lenS_ok (by rw [Gf.fo_len R]; omega), len8, Gf.fo_len R]
  simp only [okB, pureB]
  rw [decide_eq_false (by omega), lstM_ok (by decide)]
  simp only [okB, Bool.false_eq_true, if_false, pureB]
  rw [Gf.sgs, show l.map sgS = row l.length fun k => sgS (l.getD k default) from by
    conv => lhs; rw [row_of l]
    unfold row
    rw [List.map_map]; rfl]
  refine Ev.run (Ev.loopL (fun pre (W : List Int × Dc Str Int) => W.1 = row pre.length (fun k => (Gf.inn l k : Int)) ∧ W.2.l.length ≤ pre.length ∧ ∀ c : Nat, dget W.2.l (sgS c) = if c ∈ l.take pre.length then some 1 else none) ⟨rfl, Nat.le_refl _, fun c => by simp [dget]⟩ ?_ ?_)
  · rintro pre x post ⟨I, D⟩ e ⟨e1, e2, e3⟩
    obtain ⟨hlt, rfl, -⟩ := row_pre e
    simp only at e1 e2 e3 ⊢
    subst e1
    have hm : l.getD pre.length default ∈ Gf.fo l := (Gf.mem_fo l).mpr (Gf.getD_mem' hlt)
    rw [Gf.find_idx hm, e3, appM_ok (by rw [row_len]; omega)]
    simp only [okB]
    rw [dputM_ok (by omega)]
    refine Ev.ok ⟨_, rfl, ?_, ?_, fun c => ?_⟩
    · rw [List.length_append, List.length_singleton, row_succ]
      have e : (4 : Int) * ((Gf.fo l).idxOf (l.getD pre.length default) : Int) + 2 * ((if l.getD pre.length default ∈ l.take pre.length then some (1 : Int) else none).getD 0) = (Gf.inn l pre.length : Int) := by
        unfold Gf.inn
        by_cases q : l.getD pre.length default ∈ l.take pre.length
        · rw [if_pos q, if_pos q]; show 4 * _ + 2 * (1 : Int) = _; omega
        · rw [if_neg q, if_neg q]; show 4 * _ + 2 * (0 : Int) = _; omega
      rw [← e]
    · rw [List.length_append, List.length_singleton]
      have : ∀ (m : List (Str × Int)) (k : Str) (v : Int), (dput m k v).length ≤ m.length + 1 := by
        intro m k v
        induction m with
        | nil => simp [dput]
        | cons p m ih =>
          unfold dput
          split
          · simp
          · first
              | (simp; done)
              | simpa using ih
      have := this D.l (sgS (l.getD pre.length default)) 1
      show (dput D.l _ _).length ≤ _
      omega
    · rw [dget_dput, e3, List.length_append, List.length_singleton, List.take_add_one, Gf.getD_some hlt]
      by_cases q : c = l.getD pre.length default
      · rw [if_pos (by rw [q]), if_pos (by rw [q]; simp)]
      · rw [if_neg (fun z => q (sg_inj z))]
        by_cases q2 : c ∈ l.take pre.length
        · rw [if_pos q2, if_pos (by simp [q2])]
        · rw [if_neg q2, if_neg (by simp [q2]; exact q)]
  · rintro ⟨I, D⟩ ⟨e1, -, -⟩
    simp only at e1 ⊢
    subst e1
    rw [row_len, Gf.lenS_ok (by omega)]
    simp only [okB]
    rw [range1_ok (by omega) (by omega)]
    simp only [okB]
    rw [compM_map (f := fun _ => pure (0 : Int)) (fun _ => (0 : Int)) (by simp [rangeL]; omega) (fun _ _ => rfl)]
    simp only [okB, pureB]
    rw [enum_row]
    have z0 : (rangeL 0 (2 * (l.length : Int))).map (fun _ => (0 : Int)) = row (4 * n) fun _ => 0 := by
      refine row_ext (by simp [rangeL]; omega) fun i hi => ?_
      rw [List.getElem?_map, List.getElem?_eq_getElem (by simp [rangeL]; omega)]; rfl
    rw [z0]
    refine Ev.loopL (fun pre W => ∃ F, W = row (4 * n) F ∧ Gf.NetU l pre.length F) ⟨_, rfl, fun k hk => absurd hk (by simp)⟩ ?_ ?_
    · rintro pre x post W e ⟨F, rfl, hF⟩
      obtain ⟨hlt, rfl, -⟩ := row_pre e
      simp only
      have ea : atM (row l.length fun k => (Gf.inn l k : Int)) ((pre.length : Int) - 1) = .ok (Gf.inn l (Gf.prv' l.length pre.length) : Int) := by
        unfold Gf.prv'
        by_cases q : pre.length = 0
        · rw [if_pos q, q]
          unfold atM L2.atI L2.ixN
          rw [if_neg (by decide), row_len, if_pos (by omega)]
          rw [show ((0 : Nat) : Int) - 1 + (l.length : Int) = ((l.length - 1 : Nat) : Int) by omega, Int.toNat_natCast]
          show ofO ((row l.length fun k => (Gf.inn l k : Int))[l.length - 1]?) = _
          rw [row_get (by omega)]; rfl
        · rw [if_neg q, show (pre.length : Int) - 1 = ((pre.length - 1 : Nat) : Int) by omega, atM_rowN (by omega)]
      rw [ea]
      simp only [okB, pureB]
      have hp := Gf.prv_lt hlt
      have b1 := Gf.inn_lt R hlt
      have b2 := Gf.inn_lt R hp
      have b3 := Gf.inn_even l (Gf.prv' l.length pre.length)
      rw [setM_row (by omega) (by omega)]
      simp only [okB]
      rw [setM_row (by omega) (by omega)]
      refine Ev.ok ⟨_, rfl, (fun i => if i = Gf.inn l pre.length then ((Gf.inn l (Gf.prv' l.length pre.length) : Nat) : Int) + 1 else if i = Gf.inn l (Gf.prv' l.length pre.length) + 1 then (Gf.inn l pre.length : Int) else F i), row_congr fun i hi => ?_, ?_⟩
      · have t1 : ((Gf.inn l pre.length : Nat) : Int).toNat = Gf.inn l pre.length := by omega
        have t2 : (((Gf.inn l (Gf.prv' l.length pre.length) : Nat) : Int) + 1).toNat = Gf.inn l (Gf.prv' l.length pre.length) + 1 := by omega
        simp only [t1, t2]
      · intro k hk
        rw [List.length_append, List.length_singleton] at hk
        exact Gf.net_step R hlt (S := fun k => k < pre.length) (fun k hk => by omega) hF k (by omega)
    · rintro W ⟨F, rfl, hF⟩
      rw [row_len] at hF
      exact Ev.ok ⟨_, rfl, F, rfl, hF⟩
end Law

/-! ## LGmny: the law's walks along the word (k20) -/
namespace Law
open PySem Ty Gf
def cwy (u : List Nat) (wy : Nat → Int) (p : Nat) : Int := wy (fol u p)
def oth (u : List Nat) (k : Nat) : Nat := if (pl u (u.getD k default)).1 = k then (pl u (u.getD k default)).2 else (pl u (u.getD k default)).1
def en (u : List Nat) (x : Nat × Bool) : Int := if x.2 = true then inI u x.1 else outO u x.1
def tk (u : List Nat) (wy : Nat → Int) (x : Nat × Bool) : Nat := if wy (u.getD x.1 default) = 0 then x.1 else oth u x.1
def tb (u : List Nat) (wy : Nat → Int) (x : Nat × Bool) : Bool := if wy (u.getD x.1 default) = 1 then !x.2 else x.2
def nx (u : List Nat) (wy : Nat → Int) (x : Nat × Bool) : Nat × Bool := (if tb u wy x = true then (tk u wy x + 1) % u.length else prv' u.length (tk u wy x), tb u wy x)
theorem par_at (c : Nat → Int) (q : Nat) {r : Int} (h0 : 0 ≤ r) (h1 : r < 4) : par c (4 * (q : Int) + r) = 4 * (q : Int) + jn (c q) r := by
  unfold par
  rw [show (4 * (q : Int) + r) / 4 = (q : Int) by omega, show (4 * (q : Int) + r) % 4 = r by omega, Int.toNat_natCast]
section
variable {u : List Nat} {n : Nat} (R : Ring u n)
include R
theorem lt_mem' {k : Nat} (hk : k < u.length) : u.getD k default ∈ u := getD_mem' hk
theorem place {k : Nat} (hk : k < u.length) : ∃ q, q < n ∧ fol u q = u.getD k default ∧ ((inn u k = 4 * q ∧ inn u (oth u k) = 4 * q + 2) ∨ (inn u k = 4 * q + 2 ∧ inn u (oth u k) = 4 * q)) ∧ oth u k < u.length := by
  have hm := lt_mem' R hk
  obtain ⟨hq, hf⟩ := idx_fol R hm
  have T := R.at hm
  have ek : u[k]? = some (u.getD k default) := by rw [List.getD_eq_getElem?_getD, List.getElem?_eq_getElem hk]; rfl
  obtain ⟨iA, iB⟩ := inn_AB R hq
  unfold plA at iA
  unfold plB at iB
  rw [hf] at iA iB
  have hlt := T.lt
  have hbj := T.bj
  refine ⟨_, hq, hf, ?_, ?_⟩
  · unfold oth
    generalize u.getD k default = c at hm hq hf T ek iA iB hlt hbj ⊢
    rcases T.only k ek with h | h
    · rw [if_pos h.symm]
      exact .inl ⟨by rw [h]; exact iA, iB⟩
    · have hne : (pl u c).1 ≠ k := by omega
      rw [if_neg hne]
      exact .inr ⟨by rw [h]; exact iB, iA⟩
  · unfold oth
    split <;> omega
theorem par_en {wy : Nat → Int} (hw : ∀ c ∈ u, 0 ≤ wy c ∧ wy c < 3) {x : Nat × Bool} (hk : x.1 < u.length) : par (cwy u wy) (en u x) = en u (tk u wy x, !tb u wy x) ∧ tk u wy x < u.length := by
  obtain ⟨k, b⟩ := x
  obtain ⟨q, hq, hf, hi, ho⟩ := place R hk
  have w0 := hw _ (lt_mem' R hk)
  have hc : cwy u wy q = wy (u.getD k default) := by unfold cwy; rw [hf]
  unfold en tk tb inI outO
  simp only
  generalize wy (u.getD k default) = w at hc w0
  have hw3 : w = 0 ∨ w = 1 ∨ w = 2 := by omega
  have a0 := par_at (cwy u wy) q (r := 0) (by omega) (by omega)
  have a1 := par_at (cwy u wy) q (r := 1) (by omega) (by omega)
  have a2 := par_at (cwy u wy) q (r := 2) (by omega) (by omega)
  have a3 := par_at (cwy u wy) q (r := 3) (by omega) (by omega)
  rw [hc] at a0 a1 a2 a3
  rcases hi with ⟨h1, h2⟩ | ⟨h1, h2⟩ <;> rcases hw3 with rfl | rfl | rfl <;> cases b <;> simp only [h1, h2, if_true, if_false, Bool.not_true, Bool.not_false, Bool.false_eq_true, reduceIte, Int.reduceEq] <;> refine ⟨?_, by first | exact hk | exact ho⟩ <;> first
    | exact (congrArg (par (cwy u wy)) (show _ = 4 * (q : Int) + 0 by omega)).trans (a0.trans (by simp [jn]; try omega))
    | exact (congrArg (par (cwy u wy)) (show _ = 4 * (q : Int) + 1 by omega)).trans (a1.trans (by simp [jn]; try omega))
    | exact (congrArg (par (cwy u wy)) (show _ = 4 * (q : Int) + 2 by omega)).trans (a2.trans (by simp [jn]; try omega))
    | exact (congrArg (par (cwy u wy)) (show _ = 4 * (q : Int) + 3 by omega)).trans (a3.trans (by simp [jn]; try omega))
theorem nextF {F : Nat → Int} (hF : NetU u u.length F) {k : Nat} (hk : k < u.length) : F (outO u k).toNat = inI u ((k + 1) % u.length) ∧ F (inI u k).toNat = outO u (prv' u.length k) := by
  have hlt : (k + 1) % u.length < u.length := Nat.mod_lt _ (by omega)
  have hprv : prv' u.length ((k + 1) % u.length) = k := by
    unfold prv'
    by_cases h : k + 1 = u.length
    · rw [h, Nat.mod_self, if_pos rfl]; omega
    · rw [Nat.mod_eq_of_lt (by omega), if_neg (by omega)]; omega
  have h1 := hF _ hlt
  have h2 := hF _ hk
  rw [hprv] at h1
  unfold inI outO
  rw [show (((inn u k : Nat) : Int) + 1).toNat = inn u k + 1 by omega, Int.toNat_natCast]
  exact ⟨h1.2, h2.1⟩
theorem nx_lt {wy : Nat → Int} (hw : ∀ c ∈ u, 0 ≤ wy c ∧ wy c < 3) {x : Nat × Bool} (hk : x.1 < u.length) : (nx u wy x).1 < u.length := by
  have h := (par_en R hw hk).2
  unfold nx
  simp only
  split
  · exact Nat.mod_lt _ (by omega)
  · exact prv_lt h
/-- the law's step is the net's -/
theorem nx_en {wy : Nat → Int} (hw : ∀ c ∈ u, 0 ≤ wy c ∧ wy c < 3) {F : Nat → Int} (hF : NetU u u.length F) {x : Nat × Bool} (hk : x.1 < u.length) : sJ F (cwy u wy) (en u x) = en u (nx u wy x) := by
  obtain ⟨h, ht⟩ := par_en R hw hk
  obtain ⟨n1, n2⟩ := nextF R hF ht
  unfold sJ
  rw [h]
  unfold nx en
  simp only
  cases tb u wy x
  · simp only [Bool.not_false, if_true, Bool.false_eq_true, if_false]
    exact n2
  · simp only [Bool.not_true, if_true, Bool.false_eq_true, if_false]
    exact n1
theorem en_rg {x : Nat × Bool} (hk : x.1 < u.length) : 0 ≤ en u x ∧ en u x < ((4 * n : Nat) : Int) := by
  have a := inn_lt R hk
  have b := inn_even u x.1
  unfold en inI outO
  split <;> omega
theorem en_inj {x y : Nat × Bool} (hx : x.1 < u.length) (hy : y.1 < u.length) (h : en u x = en u y) : x = y := by
  obtain ⟨k, b⟩ := x
  obtain ⟨k', b'⟩ := y
  have e1 := inn_even u k
  have e2 := inn_even u k'
  unfold en inI outO at h
  simp only at h hx hy
  cases b <;> cases b' <;> simp only [if_true, Bool.false_eq_true, if_false] at h
  · rw [inn_inj R hx hy (by omega)]
  · omega
  · omega
  · rw [inn_inj R hx hy (by omega)]
theorem en_sur {e : Int} (h0 : 0 ≤ e) (h1 : e < ((4 * n : Nat) : Int)) : ∃ x : Nat × Bool, x.1 < u.length ∧ en u x = e := by
  obtain ⟨j, hj⟩ : ∃ j : Nat, e = (j : Int) := ⟨e.toNat, by omega⟩
  subst hj
  by_cases he : j % 2 = 0
  · obtain ⟨k, hk, h⟩ := inn_sur R (j := j) (by omega) he
    exact ⟨(k, true), hk, by unfold en inI; simp only [if_true]; omega⟩
  · obtain ⟨k, hk, h⟩ := inn_sur R (j := j - 1) (by omega) (by omega)
    exact ⟨(k, false), hk, by unfold en outO; simp only [Bool.false_eq_true, if_false]; omega⟩
/-! ### the law's defs -/
theorem other_ok {k : Nat} (hk : k < u.length) : mir__law_other_place (tx u) (k : Int) = .ok (oth u k : Int) := by
  have hl := R.len
  have h10 := R.n10
  have hm := lt_mem' R hk
  have T := R.at hm
  have ek : atS (tx u) (k : Int) = .ok (sgS (u.getD k default)) := by
    rw [atS_ok (by omega) (by omega) (by omega), Int.toNat_natCast]; rfl
  unfold mir__law_other_place
  simp only [pureB, bindA]
  rw [ek]
  simp only [okB]
  rw [T.find, T.rfind]
  unfold oth
  by_cases h : (pl u (u.getD k default)).1 = k
  · rw [if_pos h, decide_eq_true (by omega)]
    rfl
  · rw [if_neg h, decide_eq_false (by omega)]
    rfl
theorem lnext_ok {wy : Nat → Int} {d : Dc Str Int} (hd : ∀ c ∈ u, dget d.l (sgS c) = some (wy c)) {x : Nat × Bool} (hk : x.1 < u.length) : mir__law_next (tx u) d (x.1 : Int) x.2 = .ok ((tk u wy x : Int), tb u wy x) := by
  obtain ⟨k, b⟩ := x
  have hl := R.len
  have h10 := R.n10
  simp only at hk ⊢
  have hm := lt_mem' R hk
  have ek : atS (tx u) (k : Int) = .ok (sgS (u.getD k default)) := by
    rw [atS_ok (by omega) (by omega) (by omega), Int.toNat_natCast]; rfl
  unfold mir__law_next
  simp only [pureB, bindA]
  rw [ek]
  simp only [okB]
  unfold dgetM
  rw [hd _ hm, other_ok R hk]
  unfold tk tb
  simp only [ofO, okB, pureB, bNot]
  generalize wy (u.getD k default) = w
  by_cases h0 : w = 0
  · subst h0; rfl
  · rw [decide_eq_false h0, if_neg h0]
    by_cases h1 : w = 1
    · subst h1; rfl
    · rw [decide_eq_false h1, if_neg h1]; rfl
/-! ### the marks -/
end
def ky (x : Nat × Bool) : Int × Bool := ((x.1 : Int), x.2)
def ek' (u : List Nat) (p : Int × Bool) : Int := en u (p.1.toNat, p.2)
/-- the keys told stand for these ends -/
structure Ks (u : List Nat) (g : List (Int × Bool)) (G : List Int) : Prop where
  eq : G = g.map (ek' u)
  ok : ∀ p ∈ g, ∃ x : Nat × Bool, x.1 < u.length ∧ p = ky x
theorem ek_ky (u : List Nat) (x : Nat × Bool) : ek' u (ky x) = en u x := by
  unfold ek' ky
  simp only [Int.toNat_natCast]
theorem Ks.app {u : List Nat} {g h : List (Int × Bool)} {G H : List Int} (a : Ks u g G) (b : Ks u h H) : Ks u (g ++ h) (G ++ H) := ⟨by rw [List.map_append, a.eq, b.eq], fun p hp => by
  rcases List.mem_append.mp hp with hp | hp
  · exact a.ok p hp
  · exact b.ok p hp⟩
theorem Ks.one {u : List Nat} {x : Nat × Bool} (h : x.1 < u.length) : Ks u [ky x] [en u x] := ⟨by rw [List.map_cons, ek_ky]; rfl, fun p hp => ⟨x, h, List.mem_singleton.mp hp⟩⟩
theorem Ks.mem {u : List Nat} {n : Nat} (R : Ring u n) {g : List (Int × Bool)} {G : List Int} (a : Ks u g G) {x : Nat × Bool} (h : x.1 < u.length) : ky x ∈ g ↔ en u x ∈ G := by
  rw [a.eq, List.mem_map]
  constructor
  · exact fun h => ⟨_, h, ek_ky u x⟩
  · rintro ⟨p, hp, e⟩
    obtain ⟨y, hy, rfl⟩ := a.ok p hp
    rw [ek_ky] at e
    rw [← en_inj R hy h e]; exact hp
def itn (u : List Nat) (wy : Nat → Int) (x : Nat × Bool) : Nat → Nat × Bool
  | 0 => x
  | i + 1 => nx u wy (itn u wy x i)
section
variable {u : List Nat} {n : Nat} (R : Ring u n) {wy : Nat → Int} (hw : ∀ c ∈ u, 0 ≤ wy c ∧ wy c < 3) {F : Nat → Int} (hF : NetU u u.length F) {x : Nat × Bool} (hx : x.1 < u.length)
include R hw hx
theorem itn_lt : ∀ i, (itn u wy x i).1 < u.length
  | 0 => hx
  | i + 1 => nx_lt R hw (itn_lt i)
include hF
theorem itn_en : ∀ i, en u (itn u wy x i) = orb (sJ F (cwy u wy)) (en u x) i
  | 0 => rfl
  | i + 1 => by
    show en u (nx u wy (itn u wy x i)) = sJ F (cwy u wy) (orb (sJ F (cwy u wy)) (en u x) i)
    rw [← itn_en i, nx_en R hw hF (itn_lt R hw hx i)]
theorem itn_ks : ∀ i, Ks u (row i fun j => ky (itn u wy x j)) (way (sJ F (cwy u wy)) (en u x) i)
  | 0 => ⟨rfl, fun p hp => by cases hp⟩
  | i + 1 => by
    rw [way_s, row_succ, ← itn_en R hw hF hx i]
    exact (itn_ks i).app (Ks.one (itn_lt R hw hx i))
end
end Law

/-! ## LGmny2: the law's count (k20) -/
namespace Law
open PySem Ty Gf
/-- the marks so far -/
structure St (u : List Nat) (n : Nat) (s : Int → Int) (pre : List Int) (z : Int × Sb) : Prop where
  ex : ∃ G C, Mk s (4 * n) G C pre ∧ Ks u z.2.l G ∧ z.1 = (C.length : Int)
def Es (u : List Nat) (i : Nat) : List Int := (List.range i).flatMap fun k => [en u (k, true), en u (k, false)]
theorem Es_s (u : List Nat) (i : Nat) : Es u (i + 1) = Es u i ++ [en u (i, true), en u (i, false)] := by
  unfold Es
  rw [List.range_succ, List.flatMap_append]
  simp
set_option maxHeartbeats 4000000 in
theorem lmany_ok {u : List Nat} {n : Nat} (R : Ring u n) (h8 : n ≤ 8) {wy : Nat → Int} (hw : ∀ c ∈ u, 0 ≤ wy c ∧ wy c < 3) {d : Dc Str Int} (hd : ∀ c ∈ u, dget d.l (sgS c) = some (wy c)) {F : Nat → Int} (hF : NetU u u.length F) {W : List (List Int)} (hW : Rds (sJ F (cwy u wy)) (par (cwy u wy)) (4 * n) W) : mir__law_many (tx u) d = .ok (W.length : Int) := by
  have hl := R.len
  have hn1 := R.n1
  obtain ⟨hf, hf2⟩ := hF.net R
  have hs : ∀ x, sJ F (cwy u wy) x = fI F (par (cwy u wy) x) := fun _ => rfl
  have hpi : ∀ x : Int, 0 ≤ x → x < ((4 * n : Nat) : Int) → 0 ≤ par (cwy u wy) x ∧ par (cwy u wy) x < ((4 * n : Nat) : Int) ∧ par (cwy u wy) (par (cwy u wy) x) = x ∧ par (cwy u wy) x ≠ x := par_h
  have hfi := net_h hf hf2
  apply Ev.eq
  unfold mir__law_many
  simp only [pureB, bindA]
  rw [lenS_ok (by omega)]
  simp only [okB]
  rw [range1_ok (by omega) (by omega)]
  simp only [okB]
  refine Ev.run (Ev.loopN (fun i z => St u n (sJ F (cwy u wy)) (Es u i) z) ⟨[], [], Mk.zero, ⟨rfl, fun p hp => by cases hp⟩, rfl⟩ ?_ ?_)
  · rintro i ⟨cnt, gone⟩ hi hst
    have hi : i < u.length := by omega
    rw [lstM_ok (by simp)]
    simp only [okB]
    refine Ev.loopL (fun pre z => St u n (sJ F (cwy u wy)) (Es u i ++ pre.map fun b => en u (i, b)) z) (by simpa using hst) ?_ ?_
    · rintro pre b post ⟨cnt, gone⟩ - hst
      obtain ⟨G, C, hM, hK, hC⟩ := hst.ex
      simp only at hK hC ⊢
      subst hC
      rw [List.map_append, List.map_cons, List.map_nil, ← List.append_assoc]
      generalize Es u i ++ pre.map (fun b => en u (i, b)) = pr at hM
      obtain ⟨e0, e1⟩ := en_rg R (x := (i, b)) hi
      have hGl : G.length ≤ 4 * n := by
        have := nodup_sub hM.nd (m := row (4 * n) fun k => (k : Int)) fun x hx => by
          have := hM.rg x hx
          exact List.mem_map.mpr ⟨x.toNat, List.mem_range.mpr (by omega), by omega⟩
        rw [row_len] at this
        exact this
      have hgl : gone.l.length = G.length := by rw [hK.eq, List.length_map]
      by_cases hin : en u (i, b) ∈ G
      · have hk : ((i : Int), b) ∈ gone.l := (hK.mem R (x := (i, b)) hi).mpr hin
        rw [decide_eq_true hk]
        have hw0 := whl2 (S := Sb × Bool × Int) (ρ := Int) (fun _ => (gone, b, (i : Int))) 0 (c := fun s10 : Sb × Bool × Int => (pure (!decide ((s10.2.2, s10.2.1) ∈ s10.1.l)) : M Bool)) (f := fun _ => no) (fun i hi => absurd hi (by omega)) (by show (Except.ok (!decide (((i : Int), b) ∈ gone.l)) : M Bool) = _; rw [decide_eq_true hk]; rfl) 0 0 rfl 1000 (by omega)
        have : ∀ (f : Sb × Bool × Int → M (Ctl (Sb × Bool × Int) (Sb × Bool × Int) Int)), whileM (S := Sb × Bool × Int) (ρ := Int) (fun s10 : Sb × Bool × Int => (pure (!decide ((s10.2.2, s10.2.1) ∈ s10.1.l)) : M Bool)) f 1000 (gone, b, (i : Int)) = .ok (.inl (gone, b, (i : Int))) := fun f =>
          whl2 (S := Sb × Bool × Int) (ρ := Int) (fun _ => (gone, b, (i : Int))) 0 (fun i hi => absurd hi (by omega)) (by show (Except.ok (!decide (((i : Int), b) ∈ gone.l)) : M Bool) = _; rw [decide_eq_true hk]; rfl) 0 0 rfl 1000 (by omega)
        rw [this]
        simp only [okB, thenL, Bool.not_true, Bool.false_eq_true, if_false, Int.add_zero]
        exact ⟨_, rfl, _, rfl, G, C, hM.old hin, hK, rfl⟩
      · have hk : ((i : Int), b) ∉ gone.l := fun h => hin ((hK.mem R (x := (i, b)) hi).mp h)
        rw [decide_eq_false hk]
        obtain ⟨K, k1, k4, k2, k3⟩ := orb_back (s := sJ F (cwy u wy)) (e := en u (i, b)) (m := 4 * n) (fun x a b => by
          have q := hpi x a b
          have q2 := hfi _ q.1 q.2.1
          exact ⟨q2.1, q2.2.1⟩) (fun x y a b a' b' h => s_inj (s := sJ F (cwy u wy)) (p := par (cwy u wy)) (f := fI F) hs hpi hfi e0 e1 a b a' b' h) e0 e1
        have hout := fun j => hM.out hs hpi hfi e0 e1 hin j
        let x0 : Nat × Bool := (i, b)
        have hx0 : x0.1 < u.length := hi
        let st : Nat → Sb × Bool × Int := fun j => (⟨gone.l ++ row j fun t => ky (itn u wy x0 t)⟩, (itn u wy x0 j).2, ((itn u wy x0 j).1 : Int))
        have hin2 : ∀ j, j ≤ K → ((ky (itn u wy x0 j) ∈ (st j).1.l) ↔ j = K) := fun j hj => by
          have hks := hK.app (itn_ks R hw hF hx0 j)
          rw [show (st j).1.l = gone.l ++ row j fun t => ky (itn u wy x0 t) from rfl, hks.mem R (itn_lt R hw hx0 j), itn_en R hw hF hx0 j]
          constructor
          · intro h
            rcases List.mem_append.mp h with h | h
            · exact absurd h (hout j)
            · rcases Nat.lt_or_ge j K with hlt | hge
              · exact absurd h (way_new hs hpi hfi e0 e1 k3 hlt)
              · omega
          · intro h
            subst h
            refine List.mem_append_right _ ?_
            rw [k2]
            exact mem_way.mpr ⟨0, by omega, rfl⟩
        have hwhile := whl2 (S := Sb × Bool × Int) (ρ := Int) (c := fun s10 : Sb × Bool × Int => (pure (!decide ((s10.2.2, s10.2.1) ∈ s10.1.l)) : M Bool)) (f := fun s10 => do
            let gone11 ← bputM s10.1 ⟨(s10.2.2, s10.2.1)⟩ true
            let u12 ← mir__law_next (tx u) d s10.2.2 s10.2.1
            let back13 ← modM (u12.1 + 1) (u.length : Int)
            let x ← bNot (pure u12.2)
            let y ← (if x = true then (do let back15 ← modM (u12.1 - 1) (u.length : Int); pure (.nx back15)) else pure (.nx back13) : M (Ctl Int (Sb × Bool × Int) Int))
            thenC y fun s14 => pure (.nx (gone11, u12.2, s14))) st K (fun j hj => ⟨?_, ?_⟩) ?_ K 0 (by omega) 1000 (by omega)
        · have e : st 0 = (gone, b, (i : Int)) := by
            show ((⟨gone.l ++ row 0 fun t => ky (itn u wy x0 t)⟩ : Sb), b, (i : Int)) = _
            rw [show (row 0 fun t => ky (itn u wy x0 t)) = [] from rfl, List.append_nil]
          rw [e] at hwhile
          rw [hwhile]
          simp only [okB, thenL, Bool.not_false, if_true]
          refine ⟨_, rfl, _, rfl, G ++ way (sJ F (cwy u wy)) (en u (i, b)) K, C ++ [en u (i, b)], hM.new hs hpi hfi e0 e1 hin k1 k2 k3, hK.app (itn_ks R hw hF hx0 K), ?_⟩
          rw [List.length_append, List.length_singleton]
          simp only
          omega
        · show (Except.ok (!decide (ky (itn u wy x0 j) ∈ (st j).1.l)) : M Bool) = _
          rw [decide_eq_false (fun h => by have := (hin2 j (by omega)).mp h; omega)]
          rfl
        · have hnot : ky (itn u wy x0 j) ∉ (st j).1.l := fun h => by have := (hin2 j (by omega)).mp h; omega
          have hsz := sizeLine_eq
          have hlj := itn_lt R hw hx0 j
          obtain ⟨_, ht⟩ := par_en R hw hlj
          have hput : bputM (st j).1 ⟨((st j).2.2, (st j).2.1)⟩ true = .ok (st (j + 1)).1 := by
            unfold bputM
            rw [decide_eq_true (show (st j).1.l.length ≤ sizeLine by
              show (gone.l ++ row j fun t => ky (itn u wy x0 t)).length ≤ _
              rw [List.length_append, row_len]; omega), decide_eq_false (show ¬ ((st j).2.2, (st j).2.1) ∈ (st j).1.l from hnot)]
            show (Except.ok (⟨(gone.l ++ row j fun t => ky (itn u wy x0 t)) ++ [ky (itn u wy x0 j)]⟩ : Sb) : M Sb) = Except.ok ⟨gone.l ++ row (j + 1) fun t => ky (itn u wy x0 t)⟩
            rw [row_succ, List.append_assoc]
          rw [hput]
          simp only [okB]
          rw [show mir__law_next (tx u) d (st j).2.2 (st j).2.1 = .ok ((tk u wy (itn u wy x0 j) : Int), tb u wy (itn u wy x0 j)) from lnext_ok R hd hlj]
          simp only [okB]
          rw [modM_ok (by omega)]
          simp only [okB, bNot, pureB]
          have fin : ∀ z : Int, z = ((itn u wy x0 (j + 1)).1 : Int) → (Except.ok (.nx ((st (j + 1)).1, tb u wy (itn u wy x0 j), z)) : M (Ctl (Sb × Bool × Int) (Sb × Bool × Int) Int)) = .ok (.nx (st (j + 1))) := fun z hz => by
            rw [hz]; rfl
          have e2 : (itn u wy x0 (j + 1)).1 = if tb u wy (itn u wy x0 j) = true then (tk u wy (itn u wy x0 j) + 1) % u.length else prv' u.length (tk u wy (itn u wy x0 j)) := rfl
          generalize tk u wy (itn u wy x0 j) = t at ht e2 ⊢
          cases hb : tb u wy (itn u wy x0 j)
          · rw [hb] at e2 fin
            simp only [Bool.not_false, if_true]
            rw [modM_ok (by omega)]
            simp only [okB, thenC]
            refine fin _ ?_
            rw [e2]
            simp only [Bool.false_eq_true, if_false]
            unfold prv'
            by_cases h0 : t = 0
            · rw [if_pos h0, h0]
              have h1 : ((u.length : Int) - 1) % (u.length : Int) = (u.length : Int) - 1 := Int.emod_eq_of_lt (by omega) (by omega)
              have h2 : (((0 : Nat) : Int) - 1) % (u.length : Int) = ((u.length : Int) - 1) % (u.length : Int) := by
                rw [show ((0 : Nat) : Int) - 1 = (u.length : Int) - 1 - u.length by omega, Int.sub_emod_right]
              rw [h2, h1]; omega
            · rw [if_neg h0, Int.emod_eq_of_lt (by omega) (by omega)]; omega
          · rw [hb] at e2 fin
            simp only [Bool.not_true, Bool.false_eq_true, if_false, okB, thenC]
            refine fin _ ?_
            rw [e2, if_pos rfl]
            push_cast
            rfl
        · show (Except.ok (!decide (ky (itn u wy x0 K) ∈ (st K).1.l)) : M Bool) = _
          rw [decide_eq_true ((hin2 K (Nat.le_refl K)).mpr rfl)]
          rfl
    · rintro z hst
      refine ⟨_, rfl, _, rfl, ?_⟩
      rw [Es_s]
      exact hst
  · rintro z hst
    obtain ⟨G, C, hM, hK, hC⟩ := hst.ex
    rw [show ((u.length : Nat) : Int).toNat = u.length by omega] at hM
    have := hM.count hs hpi hfi (fun x x0 x1 => by
      obtain ⟨⟨k, b⟩, hk, rfl⟩ := en_sur R x0 x1
      unfold Es
      refine List.mem_flatMap.mpr ⟨k, List.mem_range.mpr hk, ?_⟩
      cases b <;> simp) hW
    rw [hC, this]
    refine ⟨_, rfl, _, rfl, ?_⟩
    omega
end Law

/-! ## k20 -/
namespace Law
open PySem Ty Gf
theorem sgi {a b : Nat} (h : sgS a = sgS b) : a = b := by
  have := congrArg (fun s : Str => s.cps.toList) h
  simpa [sgS] using this
theorem nodup_subN {l m : List Nat} (h : l.Nodup) (hs : ∀ x ∈ l, x ∈ m) : l.length ≤ m.length := by
  have := nodup_sub (l := l.map fun x : Nat => (x : Int)) (m := m.map fun x : Nat => (x : Int)) (by
    rw [List.nodup_iff_pairwise_ne, List.pairwise_map]
    exact List.Pairwise.imp (fun hne e => hne (by omega)) (List.nodup_iff_pairwise_ne.mp h)) fun x hx => by
    obtain ⟨y, hy, rfl⟩ := List.mem_map.mp hx
    exact List.mem_map.mpr ⟨y, hs y hy, rfl⟩
  rw [List.length_map, List.length_map] at this
  exact this
theorem lends_ok {n : Nat} {f : Nat → Int} (h : n ≤ 10) : mir__law_ends (row n f) (n : Int) = .ok true := by
  unfold mir__law_ends
  simp only [pureB, bindA, bOr, bNot, bAnd, Bool.not_true, Bool.not_false, Bool.false_eq_true, if_false, if_true, row_len, decide_true]
  rw [comp_rows (r := f) (fun _ => true) (by omega) (fun _ _ => rfl)]
  simp only [okB, pureB]
  rw [show (row n fun _ => true).all id = true by simp [row]]
  rfl
theorem compL {fd : List Nat} {n : Nat} (hn : n ≤ 10) (hfd : fd.length = n) {M : List Int} (hM : M.length ≤ 1000) (hr : ∀ x ∈ M, 0 ≤ x ∧ x < (n : Int)) : compM M (fun _ => pure true) (fun place => atS (Gf.tx fd) place) = .ok ((M.map fun x => fd.getD x.toNat 0).map sgS) := by
  rw [compM_map (f := fun place => atS (Gf.tx fd) place) (fun x => sgS (fd.getD x.toNat 0)) (by omega) (fun x hx => Gf.atS_ok (by omega) (hr x hx).1 (by rw [hfd]; exact (hr x hx).2))]
  rw [List.map_map]; rfl
theorem joinE {m : List Nat} (h : m.length ≤ 1000) : joinM "" (m.map sgS) = .ok (Gf.tx m) := Gf.joinS_ok (by omega)
theorem tsort_cs {ls m : List Nat} (h : ls.Nodup) (hm : ∀ c, c ∈ m ↔ c ∈ ls) : tsort (ls.map sgS) = (Gf.cs m).map sgS := by
  have hp : (Gf.cs m).Perm ls := (List.perm_ext_iff_of_nodup (Gf.cs_nd m) h).mpr fun c => Gf.mem_cs.trans (hm c)
  refine List.Perm.eq_of_pairwise (le := fun a b => leS a b = true) (fun a b _ _ h1 h2 => leS_antisymm a b h1 h2) (tsort_up _) ?_ ((tsort_perm _).trans (hp.symm.map sgS))
  rw [List.pairwise_map]
  refine (Gf.cs_up m).imp fun {a b} hab => ?_
  unfold leS
  refine decide_eq_true ?_
  show [a] ≤ [b]
  exact List.le_of_lt (List.cons_lt_cons_iff.mpr (.inl hab))
theorem sortX_ok {l : List Nat} (h : l.length < 64) : sortXM (tx l) = .ok (tsort (l.map sgS)) := by
  unfold sortXM
  rw [show (tx l).cps.toList = l by simp, show (tx l).cps.size = l.length from tx_len l, decide_eq_true h]
  rfl
section
variable {u : List Nat} {n : Nat} (R : Ring u n)
include R
theorem cs_sg : (cs u).map sgS = row n fun k => sgS ((cs u).getD k 0) := by
  conv => lhs; rw [cs_row R]
  unfold row
  rw [List.map_map]; rfl
theorem fo_sg : (fo u).map sgS = row n fun p => sgS (fol u p) := by
  refine row_ext (by rw [List.length_map, fo_len R]) fun i hi => ?_
  have h : i < (fo u).length := by rw [fo_len R]; exact hi
  rw [List.getElem?_map, List.getElem?_eq_getElem h]
  unfold fol
  rw [List.getD_eq_getElem?_getD, List.getElem?_eq_getElem h]
  rfl
theorem idx_lt {c : Nat} (hc : c ∈ u) : (cs u).idxOf c < n := by
  have := List.idxOf_lt_length_iff.mpr (mem_cs.mpr hc)
  rw [R.few] at this
  exact this
theorem choiceby_ok {ch : Nat → Int} : mir_choice_by (tx u) (row n ch) = .ok (row n fun p => ch ((cs u).idxOf (fol u p))) := by
  have hl := R.len
  have h10 := R.n10
  unfold mir_choice_by
  simp only [pureB, bindA]
  rw [letters_ok R]
  simp only [okB]
  rw [order_ok (by omega)]
  simp only [okB]
  rw [sgs, fo_sg R, comp_rows (f := fun a => atM (row n ch) (Txt.find (tx (cs u)) a)) (fun p => ch ((cs u).idxOf (fol u p))) (by omega) (fun p hp => by
    have hm := fol_mem R hp
    have hi := idx_lt R hm
    rw [find_idx (mem_cs.mpr hm), atM_row (by omega) (by omega), Int.toNat_natCast])]
  rfl
def wD (u : List Nat) (ch : Nat → Int) (k : Nat) : List (Str × Int) := row k fun j => (sgS ((cs u).getD j 0), ch j)
omit R in
theorem wD_keys (u : List Nat) (ch : Nat → Int) (k : Nat) : (wD u ch k).map (·.1) = row k fun j => sgS ((cs u).getD j 0) := by
  unfold wD row
  rw [List.map_map]; rfl
theorem cs_inj {i j : Nat} (hi : i < n) (hj : j < n) (h : sgS ((cs u).getD i 0) = sgS ((cs u).getD j 0)) : i = j := by
  have e := sgi h
  have f := R.few
  rw [List.getD_eq_getElem?_getD, List.getElem?_eq_getElem (by omega), List.getD_eq_getElem?_getD, List.getElem?_eq_getElem (by omega)] at e
  exact (List.getElem_inj (cs_nd u)).mp e
theorem wD_new {ch : Nat → Int} {k : Nat} (hk : k < n) : dput (wD u ch k) (sgS ((cs u).getD k 0)) (ch k) = wD u ch (k + 1) := by
  rw [dput_new]
  · unfold wD
    rw [row_succ]
  · rw [wD_keys]
    intro h
    obtain ⟨j, hj, e⟩ := List.mem_map.mp h
    have hj := List.mem_range.mp hj
    have := cs_inj R (by omega) hk e
    omega
theorem wD_get {ch : Nat → Int} {c : Nat} (hc : c ∈ u) : dget (wD u ch n) (sgS c) = some (ch ((cs u).idxOf c)) := by
  refine dget_nd ?_ ?_
  · rw [wD_keys]
    unfold row
    rw [List.nodup_iff_pairwise_ne, List.pairwise_map]
    refine List.Pairwise.imp_of_mem (fun {a b} ha hb hlt e => ?_) List.pairwise_lt_range
    have := cs_inj R (List.mem_range.mp ha) (List.mem_range.mp hb) e
    omega
  · have hi := idx_lt R hc
    refine List.mem_map.mpr ⟨(cs u).idxOf c, List.mem_range.mpr hi, ?_⟩
    rw [at_idx (mem_cs.mpr hc)]
end
theorem take_s' {l : List Nat} {i : Nat} (h : i < l.length) : l.take (i + 1) = l.take i ++ [l.getD i default] := by
  rw [List.take_add_one, List.getD_eq_getElem?_getD, List.getElem?_eq_getElem h]; rfl
set_option maxHeartbeats 4000000 in
theorem law_true (ns : List Int) (hl : ns.length ≤ 63) : mir_law ⟨ns⟩ = .ok true := by
  apply Ev.eq
  unfold mir_law
  simp only [pureB, bindA]
  refine Ev.run (Ev.bind (cell_ok ⟨ns⟩ 0 (by decide)) fun c0 hc0 => ?_)
  obtain ⟨n, hn⟩ : ∃ n : Nat, 1 + c0 % 10 = n := ⟨(1 + c0 % 10).toNat, by omega⟩
  have h1 : 1 ≤ n := by omega
  have h10 : n ≤ 10 := by omega
  rw [hn]
  refine Ev.bind (cell_ok ⟨ns⟩ 1 (by decide)) fun c1 hc1 => ?_
  refine Ev.bind (letters_drawn c1 n h10) ?_
  rintro _ ⟨fd, rfl, g1, g2, g3⟩
  refine Ev.bind (row_ok ⟨ns⟩ 2 (by decide) n h10) ?_
  rintro _ ⟨F, rfl, f1, f2, f3⟩
  have hrng : ∀ x ∈ F.map (fun x => x / 2), 0 ≤ x ∧ x < (n : Int) := fun x hx => by
    obtain ⟨y, hy, rfl⟩ := List.mem_map.mp hx
    have := f3 y hy
    omega
  have hLinj : ∀ i j, i < n → j < n → fd.getD i 0 = fd.getD j 0 → i = j := fun i j hi hj e => by
    rw [List.getD_eq_getElem?_getD, List.getElem?_eq_getElem (by omega), List.getD_eq_getElem?_getD, List.getElem?_eq_getElem (by omega)] at e
    exact (List.getElem_inj g2).mp e
  have hfdm : ∀ i, i < n → fd.getD i 0 ∈ fd := fun i hi => by
    rw [List.getD_eq_getElem?_getD, List.getElem?_eq_getElem (by omega)]
    exact List.getElem_mem _
  have R : Gf.Ring ((F.map fun x => x / 2).map fun x => fd.getD x.toNat 0) n := Gf.ring_map f1 f2 f3 (L := fun i => fd.getD i 0) h1 h10 hLinj fun i hi => g3 _ (hfdm i hi)
  have hmlen : (F.map fun x => x / 2).length = 2 * n := by rw [List.length_map, f1]
  generalize F.map (fun x => x / 2) = Q at hrng R hmlen
  rw [compL h10 g1 (by omega) hrng]
  simp only [okB]
  rw [joinE (by rw [List.length_map]; omega)]
  simp only [okB]
  have hsub : ∀ c ∈ Q.map (fun x => fd.getD x.toNat 0), c ∈ fd := fun c hc => by
    obtain ⟨x, hx, rfl⟩ := List.mem_map.mp hc
    have := hrng x hx
    exact hfdm _ (by omega)
  generalize Q.map (fun x => fd.getD x.toNat 0) = u at R hsub
  have hlen := R.len
  have hmem : ∀ c, c ∈ u ↔ c ∈ fd := fun c => ⟨hsub c, fun hc => by
    refine Classical.byContradiction fun hn' => ?_
    have := nodup_subN (l := c :: cs u) (m := fd) (List.nodup_cons.mpr ⟨fun h => hn' (mem_cs.mp h), cs_nd u⟩) fun x hx => by
      rcases List.mem_cons.mp hx with rfl | hx
      · exact hc
      · exact hsub x (mem_cs.mp hx)
    rw [List.length_cons, R.few] at this
    omega⟩
  rw [range1_ok (by omega) (by omega)]
  simp only [okB]
  refine Ev.bind (Ev.comp (t := fun _ : Int => (pure true : M Bool)) (fun (_ : Int) (y : Int) => 0 ≤ y ∧ y < 3) (xs := rangeL 0 (n : Int)) (by simp [rangeL]; omega) (fun _ _ => rfl) fun k hk => ?_) ?_
  · have := mem_range1 hk
    obtain ⟨c, ec, hc⟩ := cell_ok ⟨ns⟩ (30 + k) (by omega)
    rw [ec]
    exact ⟨_, rfl, by omega, by omega⟩
  rintro ys ⟨yl, yP⟩
  have yl : ys.length = n := by rw [yl]; simp [rangeL]
  obtain ⟨ch, rfl⟩ : ∃ ch : Nat → Int, ys = row n ch := ⟨fun k => ys.getD k default, by
    have := row_of ys
    rw [yl] at this
    exact this⟩
  have hch : ∀ i, i < n → 0 ≤ ch i ∧ ch i < 3 := fun i hi => by
    have := yP i (by simp [rangeL]; omega) (by rw [row_len]; exact hi)
    have e : (row n ch)[i]'(by rw [row_len]; exact hi) = ch i := by
      have := row_get (g := ch) hi
      rw [List.getElem?_eq_getElem (by rw [row_len]; exact hi)] at this
      exact Option.some.inj this
    rw [e] at this
    exact this
  rw [sortX_ok (by omega), tsort_cs g2 hmem]
  simp only [okB]
  rw [cs_sg R, enum_row]
  refine Ev.loopL (fun pre (d : Dc Str Int) => d = ⟨wD u ch pre.length⟩) rfl ?_ ?_
  · rintro pre x post _ e rfl
    obtain ⟨hi, rfl, -⟩ := row_pre e
    simp only
    rw [atM_row (by omega) (by omega), Int.toNat_natCast]
    simp only [okB]
    rw [dputM_ok (by unfold wD; rw [row_len]; omega), wD_new R hi]
    exact ⟨_, rfl, _, rfl, by rw [List.length_append, List.length_singleton]⟩
  rintro _ rfl
  rw [row_len, lstM_ok (by simp)]
  simp only [okB]
  rw [sgs, show u.map sgS = row u.length fun k => sgS (u.getD k default) from by
    conv => lhs; rw [row_of u]
    unfold row
    rw [List.map_map]; rfl]
  refine Ev.loopL (fun pre (W : List Str) => W = (fo (u.take pre.length)).map sgS) rfl ?_ ?_
  · rintro pre x post _ e rfl
    obtain ⟨hi, rfl, -⟩ := row_pre e
    rw [List.length_append, List.length_singleton, take_s' hi, fo_snoc]
    have hdec : (sgS (u.getD pre.length default) ∈ (fo (u.take pre.length)).map sgS) ↔ u.getD pre.length default ∈ fo (u.take pre.length) := by
      rw [List.mem_map]
      exact ⟨fun ⟨y, hy, e⟩ => by rw [← sgi e]; exact hy, fun h => ⟨_, h, rfl⟩⟩
    unfold addF
    by_cases h : u.getD pre.length default ∈ fo (u.take pre.length)
    · rw [decide_eq_true (hdec.mpr h), if_pos h]
      exact ⟨_, rfl, _, rfl, rfl⟩
    · rw [decide_eq_false (fun q => h (hdec.mp q)), if_neg h]
      simp only [Bool.not_false, if_true]
      have hfl : (fo (u.take pre.length)).length ≤ 100 := by
        have := nodup_subN (l := fo (u.take pre.length)) (m := u) (fo_nd _) fun x hx => List.mem_of_mem_take ((mem_fo _).mp hx)
        omega
      rw [appM_ok (by rw [List.length_map]; omega)]
      exact ⟨_, rfl, _, rfl, by rw [List.map_append]; rfl⟩
  rintro _ rfl
  rw [row_len, List.take_length, choiceby_ok R]
  simp only [okB]
  have eE : ∀ f : Nat → Int, mir__law_ends (row n f) (n : Int) = .ok true := fun f => lends_ok h10
  have eO : compM ((fo u).map sgS) (fun _ => (pure true : M Bool)) (fun a => dgetM (⟨wD u ch n⟩ : Dc Str Int) a) = .ok (row n fun p => ch ((cs u).idxOf (fol u p))) := by
    rw [fo_sg R, comp_rows (f := fun a => dgetM (⟨wD u ch n⟩ : Dc Str Int) a) (fun p => ch ((cs u).idxOf (fol u p))) (by omega) (fun p hp => by
      unfold dgetM
      rw [wD_get R (fol_mem R hp)]; rfl)]
  simp only [pureB, bOr, bNot] at eO ⊢
  rw [eE]
  simp only [okB, Bool.not_true, Bool.false_eq_true, if_false]
  rw [eO]
  simp only [okB]
  rw [neM_ok, decide_eq_true rfl]
  simp only [okB, Bool.not_true, Bool.false_eq_true, if_false]
  rw [neM_ok, decide_eq_true rfl]
  simp only [okB, Bool.not_true, Bool.false_eq_true, if_false]
  rw [setM_row (by decide) (by omega)]
  simp only [okB]
  by_cases h8 : 8 < n
  · rw [decide_eq_true (show (8 : Int) < n by omega)]
    exact ⟨_, rfl, _, rfl, rfl⟩
  · rw [decide_eq_false (show ¬ (8 : Int) < n by omega)]
    simp only [Bool.false_eq_true, if_false]
    have h8 : n ≤ 8 := by omega
    obtain ⟨G, eG, hG⟩ := netby_ok R h8
    obtain ⟨hf, hf2⟩ := hG.net R
    have hw : ∀ c ∈ u, 0 ≤ ch ((cs u).idxOf c) ∧ ch ((cs u).idxOf c) < 3 := fun c hc => hch _ (idx_lt R hc)
    obtain ⟨W, w1, w2⟩ := rounds_ok (c := cwy u fun c => ch ((cs u).idxOf c)) h8 hf hf2 (fun i hi => hw _ (fol_mem R hi))
    rw [eG]
    simp only [okB, noX, pureB]
    have em : mir_many_rounds (row (4 * n) G) (row n fun p => ch ((cs u).idxOf (fol u p))) = .ok (W.length : Int) := by
      unfold mir_many_rounds
      simp only [pureB, bindA]
      rw [show mir_rounds_of (row (4 * n) G) (row n fun p => ch ((cs u).idxOf (fol u p))) = .ok W from w1]
      rfl
    rw [em]
    simp only [okB]
    rw [lmany_ok R h8 (d := ⟨wD u ch n⟩) (wy := fun c => ch ((cs u).idxOf c)) hw (fun c hc => wD_get R hc) hG w2]
    simp only [okB, decide_true]
    exact ⟨_, rfl, _, rfl, rfl⟩
end Law

open PySem PySem.W PySem.Calls PyProof.Rows
set_option maxRecDepth 100000 in
set_option maxHeartbeats 0 in
theorem PySem.Challenge.cw_fourway_k20_choices_of_words_holds : PySem.Challenge.rw_fourway_k20_choices_of_words.Holds := by
  w_on; o_law
  refine HandSHeadRun.head_any (r := OpenLaw.row PySem.Challenge.rw_fourway_k20_choices_of_words) (q := view (OpenLaw.row PySem.Challenge.rw_fourway_k20_choices_of_words).prog [27]) (H := Law.hk) (ob := Law.ob) (M := 4000) (loose := (["RoundError", "TooMany", "JOINS", "joined", "partner", "round_of", "rounds_of", "many_rounds", "SMALL", "letters_of", "NAMES", "place_order", "net_by", "choice_by", "_law_cell", "_law_ends", "_law_row", "_law_letters", "_law_other_place", "_law_next", "_law_many"] : List PySem.Str)) (d := HandSHeadRun.topDef (OpenLaw.row PySem.Challenge.rw_fourway_k20_choices_of_words).prog 27) (kwd := []) Law.ob_eq
    (by kernel_rfl) (fun s => by kernel_rfl) Law.run (by kernel_rfl) (by kernel_rfl) (by kernel_rfl) (by rfl) (by first | assumption | decide +kernel) (by decide +kernel) ⟨rfl, rfl, rfl, rfl, rfl, by decide +kernel⟩ ?hw ?hc
  case hw => w_witness2
  case hc =>
    refine L2.walk_ofE (l := PySem.Challenge.rw_fourway_k20_choices_of_words) (n := 63) (k := 6) (x := "_law_script") (CX := L2.CX0) rfl (by decide) (by kernel_rfl) ⟨rfl, by decide, by decide⟩ ?F (fun _ _ _ _ z => z)
    intro w mg fa h Y G hmg0
    obtain ⟨K, KX, c⟩ := Y
    have hmg : mg ("law" : PySem.Str) = some (.ref fa) := by
      have e : (HandSHeadRun.topDef (OpenLaw.row PySem.Challenge.rw_fourway_k20_choices_of_words).prog 27).name = ("law" : PySem.Str) := by kernel_rfl
      rw [← e]
      exact hmg0
    obtain ⟨fd, hb, hF⟩ := Law.facts (P := (PySem.Challenge.rw_fourway_k20_choices_of_words).prog) (w := w) KX G hmg c
    exact ⟨K, fd, Law.sp_law K, KX, hb, fun H a ns hl _ hS => Ty.law_start (Law.law_true ns hl) hS, hF⟩

