import PyProof.Rows.All
import Wide.All
import OpenK.AllK
import Wide.FinOn
import HandS.ForMost
import HandS.IsInst
import HandS.Wide
import HandS.Defaults
import HandS.More
import HandS.WordsExc
import HandS.Conv
import HandS.SortInts
import HandS.NoneIn
import HandS.HeadHook4
import HandS.TupLe
import HandS.Zip
import HandS.WordsDict
import HandS.Rev
import HandS.Exc
import HandS.ExcOwn
import HandS.ExcIs
import HandS.HeadHook1
import HandS.SetFor
import HandS.Strs
import HandS.Deep
import HandS.HotCalls
import HandS.StrMore
import HandS.ExcInit
import HandS.ExcField
import KE.KExcIs
import HandS.Head0
import HandS.Head1
import HandS.Head2
import HandS.HeadEnd
import HandS.HeadHook2
import HandS.HeadNt
import HandS.EndBits
import PyProof.ListStr
import KE.KRevSl
import HandS.Style
import KE.DatumOrd
import HandS.SetKeys
import HandS.RevTup
import PyProof.JoinWalk
import PyProof.Rows.CountFlat
import PyProof.CollectStr
import KE.KDictZip
import HandS.RevRange
import PyProof.FactsAll.range_iterator_1
import KE.KDictList
import KE.KDictSum
import KE.DataMinMax
import KE.SortData
import PyProof.TupleOfSeq
import KE.OsArith
import PySem.Challenge.RW_fourway_k52_swap_of_two_letters
set_option Elab.async false
set_option linter.all false
set_option maxRecDepth 100000
namespace Ty
open PySem L2

/-! ### the mirror's monad -/
inductive Err where
  | no
  | exc (c : Nat) (i : Int) (x : Str)
abbrev M := Except Err
def no {α : Type} : M α := .error .no
def gd (b : Bool) : M Unit := if b then .ok () else .error .no
def ofO {α : Type} : Option α → M α
  | some a => .ok a
  | none => .error .no
theorem bind_ok {α β : Type} {m : M α} {k : α → M β} {b : β} (h : (m >>= k) = .ok b) : ∃ a, m = .ok a ∧ k a = .ok b := by
  cases m with
  | error e => cases h
  | ok a => exact ⟨a, rfl, h⟩
theorem gd_ok {b : Bool} {u : Unit} (h : gd b = .ok u) : b = true := by
  cases b with
  | true => rfl
  | false => cases h
theorem ofO_ok {α : Type} {o : Option α} {a : α} (h : ofO o = .ok a) : o = some a := by
  cases o with
  | none => cases h
  | some x => cases h; rfl
theorem pure_ok {α : Type} {a b : α} (h : (pure a : M α) = .ok b) : a = b := by
  cases h; rfl

/-! ### what stands for a Lean value -/
class Rp (α : Type) where
  sh : PySem.W.Frag → Hp → V → α → Prop
  mono : ∀ {K : PySem.W.Frag} {H H' : Hp} {v : V} {a : α}, Same H H' → sh K H v a → sh K H' v a
/-- a value that needs no heap -/
class Fl (α : Type) extends Rp α where
  enc : α → V
  sh_iff : ∀ {K : PySem.W.Frag} {H : Hp} {v : V} {a : α}, sh K H v a ↔ v = enc a
@[reducible] def flOf {α : Type} (enc : α → V) : Fl α where
  sh _ _ v a := v = enc a
  mono _ h := h
  enc := enc
  sh_iff := Iff.rfl
instance : Fl Int := flOf V.int
instance : Fl Bool := flOf V.bl
instance : Fl Str := flOf V.str
instance : Fl Unit := flOf fun _ => V.non
instance : Fl (Option Int) := flOf fun o => match o with
  | some i => .int i
  | none => .non
instance : Fl (Option Str) := flOf fun o => match o with
  | some i => .str i
  | none => .non

def Fa {α : Type} (R : V → α → Prop) : List V → List α → Prop
  | [], [] => True
  | v :: vs, a :: as => R v a ∧ Fa R vs as
  | _, _ => False
theorem Fa.mono {α : Type} {R R' : V → α → Prop} (h : ∀ v a, R v a → R' v a) : ∀ {vs : List V} {as : List α}, Fa R vs as → Fa R' vs as
  | [], [], _ => True.intro
  | v :: vs, a :: as, ⟨x, y⟩ => ⟨h _ _ x, Fa.mono h y⟩
  | [], _ :: _, x => x.elim
  | _ :: _, [], x => x.elim
theorem Fa.len {α : Type} {R : V → α → Prop} : ∀ {vs : List V} {as : List α}, Fa R vs as → vs.length = as.length
  | [], [], _ => rfl
  | v :: vs, a :: as, ⟨_, y⟩ => congrArg (· + 1) (Fa.len y)
  | [], _ :: _, x => x.elim
  | _ :: _, [], x => x.elim
theorem Fa.get {α : Type} {R : V → α → Prop} : ∀ {vs : List V} {as : List α} {i : Nat} {v : V}, Fa R vs as → vs[i]? = some v → ∃ a, as[i]? = some a ∧ R v a
  | v :: vs, a :: as, 0, w, ⟨x, _⟩, e => by
    have e' : v = w := Option.some.inj e
    exact ⟨a, rfl, e' ▸ x⟩
  | v :: vs, a :: as, i + 1, w, ⟨_, y⟩, e => Fa.get (i := i) y e
  | [], _, _, _, _, e => by simp at e
  | _ :: _, [], _, _, x, _ => x.elim
theorem Fa.get' {α : Type} {R : V → α → Prop} : ∀ {vs : List V} {as : List α} {i : Nat} {a : α}, Fa R vs as → as[i]? = some a → ∃ v, vs[i]? = some v ∧ R v a
  | v :: vs, a :: as, 0, w, ⟨x, _⟩, e => by
    have e' : a = w := Option.some.inj e
    exact ⟨v, rfl, e' ▸ x⟩
  | v :: vs, a :: as, i + 1, w, ⟨_, y⟩, e => Fa.get' (i := i) y e
  | _, [], _, _, _, e => by simp at e
  | [], _ :: _, _, _, x, _ => x.elim
theorem Fa.append {α : Type} {R : V → α → Prop} : ∀ {vs ws : List V} {as bs : List α}, Fa R vs as → Fa R ws bs → Fa R (vs ++ ws) (as ++ bs)
  | [], _, [], _, _, h => h
  | v :: vs, _, a :: as, _, ⟨x, y⟩, h => ⟨x, Fa.append y h⟩
  | [], _, _ :: _, _, x, _ => x.elim
  | _ :: _, _, [], _, x, _ => x.elim
theorem Fa.take {α : Type} {R : V → α → Prop} : ∀ (n : Nat) {vs : List V} {as : List α}, Fa R vs as → Fa R (vs.take n) (as.take n)
  | 0, _, _, _ => by simp only [List.take_zero]; exact True.intro
  | n + 1, [], [], _ => True.intro
  | n + 1, v :: vs, a :: as, ⟨x, y⟩ => ⟨x, Fa.take n y⟩
  | _ + 1, [], _ :: _, x => x.elim
  | _ + 1, _ :: _, [], x => x.elim
theorem Fa.drop {α : Type} {R : V → α → Prop} : ∀ (n : Nat) {vs : List V} {as : List α}, Fa R vs as → Fa R (vs.drop n) (as.drop n)
  | 0, _, _, h => h
  | n + 1, [], [], _ => True.intro
  | n + 1, v :: vs, a :: as, ⟨_, y⟩ => Fa.drop n y
  | _ + 1, [], _ :: _, x => x.elim
  | _ + 1, _ :: _, [], x => x.elim
theorem Fa.set {α : Type} {R : V → α → Prop} {v : V} {a : α} (h : R v a) : ∀ {vs : List V} {as : List α} (i : Nat), Fa R vs as → Fa R (vs.set i v) (as.set i a)
  | [], [], _, _ => True.intro
  | w :: vs, b :: as, 0, ⟨_, y⟩ => ⟨h, y⟩
  | w :: vs, b :: as, i + 1, ⟨x, y⟩ => ⟨x, Fa.set h i y⟩
  | [], _ :: _, _, x => x.elim
  | _ :: _, [], _, x => x.elim
theorem Fa.reverse {α : Type} {R : V → α → Prop} : ∀ {vs : List V} {as : List α}, Fa R vs as → Fa R vs.reverse as.reverse
  | [], [], _ => True.intro
  | v :: vs, a :: as, ⟨x, y⟩ => by
    rw [List.reverse_cons, List.reverse_cons]
    exact Fa.append (Fa.reverse y) ⟨x, True.intro⟩
  | [], _ :: _, x => x.elim
  | _ :: _, [], x => x.elim
theorem Fa.rep {α : Type} {R : V → α → Prop} {vs : List V} {as : List α} (h : Fa R vs as) : ∀ k : Nat, Fa R (List.replicate k vs).flatten (List.replicate k as).flatten
  | 0 => True.intro
  | k + 1 => by
    rw [List.replicate_succ, List.replicate_succ, List.flatten_cons, List.flatten_cons]
    exact Fa.append h (Fa.rep h k)
theorem Fa.flat {α : Type} [Fl α] {K : PySem.W.Frag} {H : Hp} : ∀ {vs : List V} {as : List α}, Fa (Rp.sh K H) vs as ↔ vs = as.map Fl.enc
  | [], [] => ⟨fun _ => rfl, fun _ => True.intro⟩
  | v :: vs, a :: as => by
    show (Rp.sh K H v a ∧ Fa (Rp.sh K H) vs as) ↔ _
    rw [Fl.sh_iff, Fa.flat (vs := vs) (as := as)]
    simp
  | [], _ :: _ => ⟨fun x => x.elim, fun e => by simp at e⟩
  | _ :: _, [] => ⟨fun x => x.elim, fun e => by simp at e⟩

instance rpList {α : Type} [Rp α] : Rp (List α) where
  sh K H v as := ∃ p vs, v = .ref p ∧ H p = some (.lst vs) ∧ Fa (Rp.sh K H) vs as
  mono := fun {K H H' v a} e ⟨p, vs, h1, h2, h3⟩ => ⟨p, vs, h1, e _ _ h2, Fa.mono (fun _ _ h => Rp.mono e h) h3⟩
theorem sqT_mono {K : PySem.W.Frag} {H H' : Hp} {a : Addr} {xs : List V} (e : Same H H') (h : SqT K H a xs) : SqT K H' a xs := by
  rcases h with (h | ⟨o, h⟩) | h
  · exact .inl (.inl (e _ _ h))
  · exact .inl (.inr ⟨o, e _ _ h⟩)
  · exact .inr h
instance rpPair {α β : Type} [Rp α] [Rp β] : Rp (α × β) where
  sh K H v x := ∃ p va vb, v = .ref p ∧ SqT K H p [va, vb] ∧ Rp.sh K H va x.1 ∧ Rp.sh K H vb x.2
  mono := fun {K H H' v a} e ⟨p, va, vb, h1, h2, h3, h4⟩ => ⟨p, va, vb, h1, sqT_mono e h2, Rp.mono e h3, Rp.mono e h4⟩
structure T3 (α β γ : Type) where
  a : α
  b : β
  c : γ
  deriving DecidableEq
instance rpT3 {α β γ : Type} [Rp α] [Rp β] [Rp γ] : Rp (T3 α β γ) where
  sh K H v x := ∃ p va vb vc, v = .ref p ∧ SqT K H p [va, vb, vc] ∧ Rp.sh K H va x.a ∧ Rp.sh K H vb x.b ∧ Rp.sh K H vc x.c
  mono := fun {K H H' v a} e ⟨p, va, vb, vc, h1, h2, h3, h4, h5⟩ => ⟨p, va, vb, vc, h1, sqT_mono e h2, Rp.mono e h3, Rp.mono e h4, Rp.mono e h5⟩
/-- a tuple of things of one kind -/
structure Tu (α : Type) where
  l : List α
  deriving DecidableEq
instance rpTu {α : Type} [Rp α] : Rp (Tu α) where
  sh K H v x := ∃ p vs, v = .ref p ∧ SqT K H p vs ∧ Fa (Rp.sh K H) vs x.l
  mono := fun {K H H' v a} e ⟨p, vs, h1, h2, h3⟩ => ⟨p, vs, h1, sqT_mono e h2, Fa.mono (fun _ _ h => Rp.mono e h) h3⟩
/-- the script: a list of ints that is only read -/
structure Scr where
  l : List Int
instance : Rp Scr where
  sh K H v x := ∃ p, v = .ref p ∧ SqL K H p (x.l.map V.int)
  mono := fun e ⟨p, h1, h2⟩ => ⟨p, h1, e.seq h2⟩

/-! ### what is owned -/
structure Ow (α : Type) [Rp α] where
  rep : PySem.W.Frag → Hp → Hp → V → α → List Addr → Prop
  mono : ∀ {K : PySem.W.Frag} {HF HF' H H' : Hp} {v : V} {a : α} {fp : List Addr}, Same HF HF' → (∀ p ∈ fp, ∀ o, H p = some o → H' p = some o) → rep K HF H v a fp → rep K HF' H' v a fp
  dom : ∀ {K : PySem.W.Frag} {HF H : Hp} {v : V} {a : α} {fp : List Addr}, rep K HF H v a fp → ∀ p ∈ fp, ∃ o, H p = some o
  frz : ∀ {K : PySem.W.Frag} {HF HF' H : Hp} {v : V} {a : α} {fp : List Addr}, Same HF HF' → (∀ p ∈ fp, ∀ o, H p = some o → HF' p = some o) → rep K HF H v a fp → Rp.sh K HF' v a
  out : α → (V → Hp → Prop) → V → Hp → Prop := fun _ R v H => R v H
def Ow.v {α : Type} [Rp α] : Ow α where
  rep K HF _ v a fp := Rp.sh K HF v a ∧ fp = []
  mono := fun e _ ⟨h, f⟩ => ⟨Rp.mono e h, f⟩
  dom := fun ⟨_, f⟩ p hp => by subst f; cases hp
  frz := fun e _ ⟨h, _⟩ => Rp.mono e h
def Rl {α : Type} (R : V → α → List Addr → Prop) : List V → List α → List Addr → Prop
  | [], [], fp => fp = []
  | v :: vs, a :: as, fp => ∃ f1 f2, fp = f1 ++ f2 ∧ R v a f1 ∧ Rl R vs as f2
  | _, _, _ => False
theorem Rl.mono {α : Type} {R R' : V → α → List Addr → Prop} : ∀ {vs : List V} {as : List α} {fp : List Addr}, (∀ v a f, (∀ p ∈ f, p ∈ fp) → R v a f → R' v a f) → Rl R vs as fp → Rl R' vs as fp
  | [], [], _, _, e => e
  | v :: vs, a :: as, fp, h, ⟨f1, f2, e, x, y⟩ => ⟨f1, f2, e, h _ _ _ (fun p hp => by rw [e]; exact List.mem_append_left _ hp) x,
      Rl.mono (fun v a f hf => h v a f fun p hp => by rw [e]; exact List.mem_append_right _ (hf p hp)) y⟩
  | [], _ :: _, _, _, x => x.elim
  | _ :: _, [], _, _, x => x.elim
theorem Rl.fa {α : Type} {R : V → α → List Addr → Prop} {R' : V → α → Prop} : ∀ {vs : List V} {as : List α} {fp : List Addr}, (∀ v a f, (∀ p ∈ f, p ∈ fp) → R v a f → R' v a) → Rl R vs as fp → Fa R' vs as
  | [], [], _, _, _ => True.intro
  | v :: vs, a :: as, fp, h, ⟨f1, f2, e, x, y⟩ => ⟨h _ _ _ (fun p hp => by rw [e]; exact List.mem_append_left _ hp) x,
      Rl.fa (fun v a f hf => h v a f fun p hp => by rw [e]; exact List.mem_append_right _ (hf p hp)) y⟩
  | [], _ :: _, _, _, x => x.elim
  | _ :: _, [], _, _, x => x.elim
theorem Rl.dom {α : Type} {R : V → α → List Addr → Prop} {D : Addr → Prop} (h : ∀ v a f, R v a f → ∀ p ∈ f, D p) : ∀ {vs : List V} {as : List α} {fp : List Addr}, Rl R vs as fp → ∀ p ∈ fp, D p
  | [], [], fp, e, p, hp => by
    have e' : fp = [] := e
    subst e'; cases hp
  | v :: vs, a :: as, fp, ⟨f1, f2, e, x, y⟩, p, hp => by
    rw [e] at hp
    rcases List.mem_append.mp hp with hp | hp
    · exact h _ _ _ x p hp
    · exact Rl.dom h y p hp
  | [], _ :: _, _, x, _, _ => x.elim
  | _ :: _, [], _, x, _, _ => x.elim
theorem Rl.append {α : Type} {R : V → α → List Addr → Prop} : ∀ {vs ws : List V} {as bs : List α} {f g : List Addr}, Rl R vs as f → Rl R ws bs g → Rl R (vs ++ ws) (as ++ bs) (f ++ g)
  | [], _, [], _, f, g, e, h => by
    have e' : f = [] := e
    subst e'; exact h
  | v :: vs, _, a :: as, _, f, g, ⟨f1, f2, e, x, y⟩, h => ⟨f1, f2 ++ g, by rw [e, List.append_assoc], x, Rl.append y h⟩
  | [], _, _ :: _, _, _, _, x, _ => x.elim
  | _ :: _, _, [], _, _, _, x, _ => x.elim
theorem Rl.one {α : Type} {R : V → α → List Addr → Prop} {v : V} {a : α} {f : List Addr} (h : R v a f) : Rl R [v] [a] f := ⟨f, [], by simp, h, rfl⟩
theorem Rl.len {α : Type} {R : V → α → List Addr → Prop} : ∀ {vs : List V} {as : List α} {f : List Addr}, Rl R vs as f → vs.length = as.length
  | [], [], _, _ => rfl
  | v :: vs, a :: as, _, ⟨_, _, _, _, y⟩ => congrArg (· + 1) (Rl.len y)
  | [], _ :: _, _, x => x.elim
  | _ :: _, [], _, x => x.elim
/-- shared items -/
theorem Rl.ofFa {α : Type} [Rp α] {K : PySem.W.Frag} {HF H : Hp} : ∀ {vs : List V} {as : List α}, Fa (Rp.sh K HF) vs as → Rl (Ow.v.rep K HF H) vs as []
  | [], [], _ => rfl
  | v :: vs, a :: as, ⟨x, y⟩ => ⟨[], [], rfl, ⟨x, rfl⟩, Rl.ofFa y⟩
  | [], _ :: _, x => x.elim
  | _ :: _, [], x => x.elim
theorem Rl.toFa {α : Type} [Rp α] {K : PySem.W.Frag} {HF H : Hp} : ∀ {vs : List V} {as : List α} {fp : List Addr}, Rl (Ow.v.rep K HF H) vs as fp → Fa (Rp.sh K HF) vs as ∧ fp = []
  | [], [], _, e => ⟨True.intro, e⟩
  | v :: vs, a :: as, fp, ⟨f1, f2, e, ⟨x, e1⟩, y⟩ => by
    obtain ⟨y1, e2⟩ := Rl.toFa y
    exact ⟨⟨x, y1⟩, by rw [e, e1, e2]; rfl⟩
  | [], _ :: _, _, x => x.elim
  | _ :: _, [], _, x => x.elim
/-- an own list -/
def Ow.l {α : Type} [Rp α] (o : Ow α) : Ow (List α) where
  rep K HF H v as fp := ∃ p vs fq, v = .ref p ∧ fp = p :: fq ∧ H p = some (.lst vs) ∧ Rl (o.rep K HF H) vs as fq
  mono := fun e k ⟨p, vs, fq, h1, h2, h3, h4⟩ => by
    subst h2
    exact ⟨p, vs, fq, h1, rfl, k p (List.mem_cons_self ..) _ h3, Rl.mono (fun v a f hf h => o.mono e (fun q hq => k q (List.mem_cons_of_mem _ (hf q hq))) h) h4⟩
  dom := fun ⟨p, vs, fq, h1, h2, h3, h4⟩ q hq => by
    subst h2
    rcases List.mem_cons.mp hq with e | hq
    · exact ⟨_, e ▸ h3⟩
    · exact Rl.dom (fun v a f h => o.dom h) h4 q hq
  frz := fun e k ⟨p, vs, fq, h1, h2, h3, h4⟩ => by
    subst h2
    exact ⟨p, vs, h1, k p (List.mem_cons_self ..) _ h3, Rl.fa (fun v a f hf h => o.frz e (fun q hq => k q (List.mem_cons_of_mem _ (hf q hq))) h) h4⟩
def Ow.p {α β : Type} [Rp α] [Rp β] (o : Ow α) (u : Ow β) : Ow (α × β) where
  rep K HF H v x fp := ∃ p va vb f1 f2, v = .ref p ∧ fp = p :: (f1 ++ f2) ∧ H p = some (.tup [va, vb]) ∧ o.rep K HF H va x.1 f1 ∧ u.rep K HF H vb x.2 f2
  mono := fun e k ⟨p, va, vb, f1, f2, h1, h2, h3, h4, h5⟩ => by
    subst h2
    exact ⟨p, va, vb, f1, f2, h1, rfl, k p (List.mem_cons_self ..) _ h3, o.mono e (fun q hq => k q (List.mem_cons_of_mem _ (List.mem_append_left _ hq))) h4, u.mono e (fun q hq => k q (List.mem_cons_of_mem _ (List.mem_append_right _ hq))) h5⟩
  dom := fun ⟨p, va, vb, f1, f2, h1, h2, h3, h4, h5⟩ q hq => by
    subst h2
    rcases List.mem_cons.mp hq with e | hq
    · exact ⟨_, e ▸ h3⟩
    · rcases List.mem_append.mp hq with hq | hq
      · exact o.dom h4 q hq
      · exact u.dom h5 q hq
  frz := fun e k ⟨p, va, vb, f1, f2, h1, h2, h3, h4, h5⟩ => by
    subst h2
    exact ⟨p, va, vb, h1, .inl (.inl (k p (List.mem_cons_self ..) _ h3)), o.frz e (fun q hq => k q (List.mem_cons_of_mem _ (List.mem_append_left _ hq))) h4, u.frz e (fun q hq => k q (List.mem_cons_of_mem _ (List.mem_append_right _ hq))) h5⟩
def Ow.t3 {α β γ : Type} [Rp α] [Rp β] [Rp γ] (o : Ow α) (u : Ow β) (w : Ow γ) : Ow (T3 α β γ) where
  rep K HF H v x fp := ∃ p va vb vc f1 f2 f3, v = .ref p ∧ fp = p :: (f1 ++ (f2 ++ f3)) ∧ H p = some (.tup [va, vb, vc]) ∧ o.rep K HF H va x.a f1 ∧ u.rep K HF H vb x.b f2 ∧ w.rep K HF H vc x.c f3
  mono := fun e k ⟨p, va, vb, vc, f1, f2, f3, h1, h2, h3, h4, h5, h6⟩ => by
    subst h2
    exact ⟨p, va, vb, vc, f1, f2, f3, h1, rfl, k p (List.mem_cons_self ..) _ h3, o.mono e (fun q hq => k q (by simp [hq])) h4, u.mono e (fun q hq => k q (by simp [hq])) h5, w.mono e (fun q hq => k q (by simp [hq])) h6⟩
  dom := fun ⟨p, va, vb, vc, f1, f2, f3, h1, h2, h3, h4, h5, h6⟩ q hq => by
    subst h2
    rcases List.mem_cons.mp hq with e | hq
    · exact ⟨_, e ▸ h3⟩
    · rcases List.mem_append.mp hq with hq | hq
      · exact o.dom h4 q hq
      · rcases List.mem_append.mp hq with hq | hq
        · exact u.dom h5 q hq
        · exact w.dom h6 q hq
  frz := fun e k ⟨p, va, vb, vc, f1, f2, f3, h1, h2, h3, h4, h5, h6⟩ => by
    subst h2
    exact ⟨p, va, vb, vc, h1, .inl (.inl (k p (List.mem_cons_self ..) _ h3)), o.frz e (fun q hq => k q (by simp [hq])) h4, u.frz e (fun q hq => k q (by simp [hq])) h5, w.frz e (fun q hq => k q (by simp [hq])) h6⟩
/-- it leans on no shared object -/
class Ind {α : Type} [Rp α] (o : Ow α) : Prop where
  ind : ∀ {K : PySem.W.Frag} {HF HF' H : Hp} {v : V} {a : α} {fp : List Addr}, o.rep K HF H v a fp → o.rep K HF' H v a fp
instance indFl {α : Type} [Fl α] : Ind (Ow.v (α := α)) where
  ind := fun ⟨h, e⟩ => ⟨Fl.sh_iff.mpr (Fl.sh_iff.mp h), e⟩
instance indL {α : Type} [Rp α] {o : Ow α} [Ind o] : Ind o.l where
  ind := fun ⟨p, vs, fq, h1, h2, h3, h4⟩ => ⟨p, vs, fq, h1, h2, h3, Rl.mono (fun v a f _ h => Ind.ind h) h4⟩
instance indP {α β : Type} [Rp α] [Rp β] {o : Ow α} {u : Ow β} [Ind o] [Ind u] : Ind (o.p u) where
  ind := fun ⟨p, va, vb, f1, f2, h1, h2, h3, h4, h5⟩ => ⟨p, va, vb, f1, f2, h1, h2, h3, Ind.ind h4, Ind.ind h5⟩
instance indT3 {α β γ : Type} [Rp α] [Rp β] [Rp γ] {o : Ow α} {u : Ow β} {w : Ow γ} [Ind o] [Ind u] [Ind w] : Ind (o.t3 u w) where
  ind := fun ⟨p, va, vb, vc, f1, f2, f3, h1, h2, h3, h4, h5, h6⟩ => ⟨p, va, vb, vc, f1, f2, f3, h1, h2, h3, Ind.ind h4, Ind.ind h5, Ind.ind h6⟩

/-! ### the names at a place of the text -/
inductive Sl : Type 1 where
  | un
  | mk {α : Type} [i : Rp α] (o : Ow α) (a : α)
abbrev Ctx := List Sl
def look : Ctx → Nat → Sl
  | [], _ => .un
  | s :: _, 0 => s
  | _ :: Γ, i + 1 => look Γ i
def put : Ctx → Nat → Sl → Ctx
  | [], _, _ => []
  | _ :: Γ, 0, s => s :: Γ
  | t :: Γ, i + 1, s => t :: put Γ i s
def vw1 : Sl → Sl
  | .un => .un
  | .mk (α := α) (i := i) _ a => .mk (α := α) (i := i) .v a
def vw : Ctx → Ctx
  | [] => []
  | s :: Γ => vw1 s :: vw Γ
def HoldS (K : PySem.W.Frag) (HF H : Hp) : Sl → Option V → List Addr → Prop
  | .un, _, f => f = []
  | @Sl.mk α i o a, x, f => ∃ v, x = some v ∧ @Ow.rep α i o K HF H v a f
def Holds (K : PySem.W.Frag) (HF H : Hp) : Ctx → L2.St → List Addr → Prop
  | [], [], fs => fs = []
  | s :: Γ, x :: σ, fs => ∃ f1 f2, fs = f1 ++ f2 ∧ HoldS K HF H s x f1 ∧ Holds K HF H Γ σ f2
  | _, _, _ => False
/-- HF: what is shared; H: all; HF0, G: the same at the def's entry (G: what must stay) -/
structure Good (K : PySem.W.Frag) (HF0 G : Hp) (Γ : Ctx) (HF H : Hp) (σ : L2.St) : Prop where
  sub : Same HF H
  f0 : Same HF0 HF
  g0 : Same G H
  nf : ∀ p o, HF p = some o → HF0 p = none → G p = none
  held : ∃ fs, Holds K HF H Γ σ fs ∧ fs.Nodup ∧ ∀ p ∈ fs, HF p = none ∧ G p = none
/-- nothing that was there changes -/
structure Step (HF H HF' H' : Hp) : Prop where
  exF : Same HF HF'
  exH : Same H H'
  sub : Same HF' H'
  new : ∀ p o, HF' p = some o → HF p = none → H p = none
theorem Step.refl {HF H : Hp} (h : Same HF H) : Step HF H HF H := ⟨Same.refl _, Same.refl _, h, fun p o a b => by rw [a] at b; cases b⟩
theorem Step.trans {HF H HF1 H1 HF2 H2 : Hp} (a : Step HF H HF1 H1) (b : Step HF1 H1 HF2 H2) : Step HF H HF2 H2 :=
  ⟨a.exF.trans b.exF, a.exH.trans b.exH, b.sub, fun p o h n => by
    cases q : HF1 p with
    | some u => exact a.new p u q n
    | none => exact a.exH.free (b.new p o h q)⟩
/-- one new own object -/
theorem same_upd {H : Hp} {p : Addr} {o : HO} (h : H p = none) : Same H (upd H p o) := fun b x e => by
  rw [upd_ne (ne_of_none e h)]
  exact e
theorem Step.own {HF H : Hp} {p : Addr} {o : HO} (s : Same HF H) (h : H p = none) : Step HF H HF (upd H p o) :=
  ⟨Same.refl _, same_upd h, s.trans (same_upd h), fun p o a b => by rw [a] at b; cases b⟩
theorem HoldS.mono {K : PySem.W.Frag} {HF HF' H H' : Hp} (e : Same HF HF') : ∀ {s : Sl} {x : Option V} {f : List Addr}, (∀ p ∈ f, ∀ o, H p = some o → H' p = some o) → HoldS K HF H s x f → HoldS K HF' H' s x f
  | .un, _, _, _, h => h
  | @Sl.mk α i o a, _, _, k, ⟨v, h1, h2⟩ => ⟨v, h1, @Ow.mono α i o _ _ _ _ _ _ _ _ e k h2⟩
theorem HoldS.dom {K : PySem.W.Frag} {HF H : Hp} : ∀ {s : Sl} {x : Option V} {f : List Addr}, HoldS K HF H s x f → ∀ p ∈ f, ∃ o, H p = some o
  | .un, _, f, h, p, hp => by
    have e : f = [] := h
    subst e; cases hp
  | @Sl.mk α i o a, _, _, ⟨v, h1, h2⟩, p, hp => @Ow.dom α i o _ _ _ _ _ _ h2 p hp
theorem Holds.mono {K : PySem.W.Frag} {HF HF' H H' : Hp} (e : Same HF HF') : ∀ {Γ : Ctx} {σ : L2.St} {fs : List Addr}, (∀ p ∈ fs, ∀ o, H p = some o → H' p = some o) → Holds K HF H Γ σ fs → Holds K HF' H' Γ σ fs
  | [], [], _, _, h => h
  | s :: Γ, x :: σ, fs, k, ⟨f1, f2, h1, h2, h3⟩ => ⟨f1, f2, h1, HoldS.mono e (fun p hp => k p (by rw [h1]; exact List.mem_append_left _ hp)) h2, Holds.mono e (fun p hp => k p (by rw [h1]; exact List.mem_append_right _ hp)) h3⟩
  | [], _ :: _, _, _, h => h.elim
  | _ :: _, [], _, _, h => h.elim
theorem Holds.dom {K : PySem.W.Frag} {HF H : Hp} : ∀ {Γ : Ctx} {σ : L2.St} {fs : List Addr}, Holds K HF H Γ σ fs → ∀ p ∈ fs, ∃ o, H p = some o
  | [], [], fs, h, p, hp => by
    have e : fs = [] := h
    subst e; cases hp
  | s :: Γ, x :: σ, fs, ⟨f1, f2, h1, h2, h3⟩, p, hp => by
    rw [h1] at hp
    rcases List.mem_append.mp hp with hp | hp
    · exact h2.dom p hp
    · exact Holds.dom h3 p hp
  | [], _ :: _, _, h, _, _ => h.elim
  | _ :: _, [], _, h, _, _ => h.elim
theorem Holds.len {K : PySem.W.Frag} {HF H : Hp} : ∀ {Γ : Ctx} {σ : L2.St} {fs : List Addr}, Holds K HF H Γ σ fs → Γ.length = σ.length
  | [], [], _, _ => rfl
  | s :: Γ, x :: σ, _, ⟨_, _, _, _, h⟩ => congrArg (· + 1) (Holds.len h)
  | [], _ :: _, _, h => h.elim
  | _ :: _, [], _, h => h.elim
theorem Good.step {K : PySem.W.Frag} {HF0 G HF H HF' H' : Hp} {Γ : Ctx} {σ : L2.St} (g : Good K HF0 G Γ HF H σ) (s : Step HF H HF' H') : Good K HF0 G Γ HF' H' σ := by
  obtain ⟨fs, h1, h2, h3⟩ := g.held
  refine ⟨s.sub, g.f0.trans s.exF, g.g0.trans s.exH, fun p o a b => ?_, fs, h1.mono s.exF fun p _ o e => s.exH p o e, h2, fun p hp => ⟨?_, (h3 p hp).2⟩⟩
  · cases q : HF p with
    | some u => exact g.nf p u q b
    | none => exact g.g0.free (s.new p o a q)
  · cases q : HF' p with
    | none => rfl
    | some u =>
      have := s.new p u q (h3 p hp).1
      obtain ⟨o, ho⟩ := h1.dom p hp
      rw [ho] at this; cases this
theorem Holds.get {K : PySem.W.Frag} {HF H : Hp} {α : Type} [Rp α] {o : Ow α} {a : α} : ∀ {Γ : Ctx} {σ : L2.St} {fs : List Addr} {i : Nat}, Holds K HF H Γ σ fs → look Γ i = .mk o a → ∃ v f, σ[i]? = some (some v) ∧ o.rep K HF H v a f ∧ ∀ p ∈ f, p ∈ fs
  | [], [], _, _, _, e => by cases e
  | s :: Γ, x :: σ, fs, 0, ⟨f1, f2, h1, h2, h3⟩, e => by
    have e' : s = .mk o a := e
    subst e'
    obtain ⟨v, hv, r⟩ := h2
    exact ⟨v, f1, by rw [hv]; rfl, r, fun p hp => by rw [h1]; exact List.mem_append_left _ hp⟩
  | s :: Γ, x :: σ, fs, i + 1, ⟨f1, f2, h1, h2, h3⟩, e => by
    obtain ⟨v, f, q1, q2, q3⟩ := Holds.get (i := i) h3 e
    exact ⟨v, f, q1, q2, fun p hp => by rw [h1]; exact List.mem_append_right _ (q3 p hp)⟩
  | [], _ :: _, _, _, h, _ => h.elim
  | _ :: _, [], _, _, h, _ => h.elim
/-- the slot i without its things -/
theorem Holds.put {K : PySem.W.Frag} {HF H : Hp} : ∀ {Γ : Ctx} {σ : L2.St} {fs : List Addr} {i : Nat}, Holds K HF H Γ σ fs → i < Γ.length →
    ∃ fo fr : List Addr, HoldS K HF H (look Γ i) (σ.getD i none) fo ∧ (∀ p, p ∈ fs ↔ p ∈ fo ∨ p ∈ fr) ∧ (fs.Nodup → fr.Nodup ∧ fo.Nodup ∧ ∀ p ∈ fo, p ∉ fr) ∧
      ∀ {HF' H' : Hp} {s : Sl} {x : Option V} {f : List Addr}, (∀ {Γ : Ctx} {σ : L2.St} {f : List Addr}, (∀ p ∈ f, p ∈ fr) → Holds K HF H Γ σ f → Holds K HF' H' Γ σ f) → (∀ {s : Sl} {x : Option V} {f : List Addr}, (∀ p ∈ f, p ∈ fr) → HoldS K HF H s x f → HoldS K HF' H' s x f) → HoldS K HF' H' s x f →
        ∃ fs', Holds K HF' H' (put Γ i s) (σ.set i x) fs' ∧ (∀ p, p ∈ fs' ↔ p ∈ f ∨ p ∈ fr) ∧ (fr.Nodup → f.Nodup → (∀ p ∈ f, p ∉ fr) → fs'.Nodup)
  | [], [], _, i, _, hi => absurd hi (Nat.not_lt_zero _)
  | s :: Γ, x :: σ, fs, 0, ⟨f1, f2, h1, h2, h3⟩, _ => by
    refine ⟨f1, f2, h2, fun p => by rw [h1]; exact List.mem_append, fun nd => ?_, fun k1 k2 h => ?_⟩
    · rw [h1] at nd
      obtain ⟨a, b, c⟩ := List.nodup_append.mp nd
      exact ⟨b, a, fun p hp hq => c p hp p hq rfl⟩
    · rename_i f
      refine ⟨f ++ f2, ⟨f, f2, rfl, h, k1 (fun p hp => hp) h3⟩, fun p => List.mem_append, fun n1 n2 n3 => List.nodup_append.mpr ⟨n2, n1, fun p hp q hq e => n3 p hp (e ▸ hq)⟩⟩
  | s :: Γ, x :: σ, fs, i + 1, ⟨f1, f2, h1, h2, h3⟩, hi => by
    obtain ⟨fo, fr, q1, q2, q3, q4⟩ := Holds.put (i := i) h3 (Nat.lt_of_succ_lt_succ hi)
    refine ⟨fo, f1 ++ fr, q1, fun p => ?_, fun nd => ?_, fun k1 k2 h => ?_⟩
    · rw [h1, List.mem_append, q2, List.mem_append]
      constructor
      · rintro (a | a | a)
        · exact .inr (.inl a)
        · exact .inl a
        · exact .inr (.inr a)
      · rintro (a | a | a)
        · exact .inr (.inl a)
        · exact .inl a
        · exact .inr (.inr a)
    · rw [h1] at nd
      obtain ⟨a, b, c⟩ := List.nodup_append.mp nd
      obtain ⟨r1, r2, r3⟩ := q3 b
      refine ⟨List.nodup_append.mpr ⟨a, r1, fun p hp q hq e => c p hp q ((q2 q).mpr (.inr hq)) e⟩, r2, fun p hp hq => ?_⟩
      rcases List.mem_append.mp hq with hq | hq
      · exact c p hq p ((q2 p).mpr (.inl hp)) rfl
      · exact r3 p hp hq
    · rename_i f
      obtain ⟨fs', w1, w2, w3⟩ := q4 (f := f) (fun hp => k1 fun p z => List.mem_append_right _ (hp p z)) (fun hp => k2 fun p z => List.mem_append_right _ (hp p z)) h
      refine ⟨f1 ++ fs', ⟨f1, fs', rfl, k2 (fun p z => List.mem_append_left _ z) h2, w1⟩, fun p => ?_, fun n1 n2 n3 => ?_⟩
      · rw [List.mem_append, w2, List.mem_append]
        constructor
        · rintro (a | a | a)
          · exact .inr (.inl a)
          · exact .inl a
          · exact .inr (.inr a)
        · rintro (a | a | a)
          · exact .inr (.inl a)
          · exact .inl a
          · exact .inr (.inr a)
      · obtain ⟨a, b, c⟩ := List.nodup_append.mp n1
        refine List.nodup_append.mpr ⟨a, w3 b n2 fun p hp hq => n3 p hp (List.mem_append_right _ hq), fun p hp q hq e => ?_⟩
        subst e
        rcases (w2 p).mp hq with z | z
        · exact n3 p z (List.mem_append_left _ hp)
        · exact c p hp p z rfl
  | [], _ :: _, _, _, h, _ => h.elim
  | _ :: _, [], _, _, h, _ => h.elim
end Ty

namespace Ty
open PySem L2

/-- what a value of c, made of nothing that can change, is wanted to do -/
def RetK {α : Type} [Rp α] (K : PySem.W.Frag) (HF H : Hp) (o : Ow α) (c : α) (Q : VK) : Prop :=
  ∀ v HF' H' fp, Step HF H HF' H' → o.rep K HF' H' v c fp → fp.Nodup → (∀ p ∈ fp, H p = none ∧ HF' p = none) → Q v H'
theorem RetK.flat {α : Type} [Fl α] {K : PySem.W.Frag} {HF H : Hp} {c : α} {Q : VK} (k : RetK K HF H Ow.v c Q) (s : Same HF H) : Q (Fl.enc c) H :=
  k _ HF H [] (Step.refl s) ⟨Fl.sh_iff.mpr rfl, rfl⟩ List.nodup_nil (fun p hp => by cases hp)
theorem RetK.shv {α : Type} [Rp α] {K : PySem.W.Frag} {HF H : Hp} {c : α} {v : V} {Q : VK} (k : RetK K HF H Ow.v c Q) (s : Same HF H) (h : Rp.sh K HF v c) : Q v H :=
  k _ HF H [] (Step.refl s) ⟨h, rfl⟩ List.nodup_nil (fun p hp => by cases hp)
/-- a new list of shared things -/
theorem RetK.lst {α : Type} [Rp α] {K : PySem.W.Frag} {HF H : Hp} {c : List α} {vs : List V} {p : Addr} {Q : VK} (k : RetK K HF H (Ow.l Ow.v) c Q) (s : Same HF H) (h : Fa (Rp.sh K HF) vs c) (hp : H p = none) : Q (.ref p) (upd H p (.lst vs)) :=
  k _ HF _ [p] (Step.own s hp) ⟨p, vs, [], rfl, rfl, upd_same, Rl.ofFa h⟩ (by simp) (fun q hq => by
    have e : q = p := by simpa using hq
    subst e
    exact ⟨hp, s.free hp⟩)
def SemE {α : Type} [Rp α] (K : PySem.W.Frag) (Γ : Ctx) (t : TE) (o : Ow α) (m : M α) : Prop :=
  ∀ HF0 G HF H σ, Good K HF0 G Γ HF H σ → ∀ a, m = .ok a → ∀ Q : VK, RetK K HF H o a Q → t σ H Q
structure EX {α : Type} [Rp α] (X : Cx) (Γ : Ctx) (e : Expr) (o : Ow α) (m : M α) (t : TE) : Prop where
  pe : PE X e t
  sem : SemE X.K Γ t o m
def SemT (K : PySem.W.Frag) (Γ : Ctx) (t : TT) (m : M Bool) : Prop :=
  ∀ HF0 G HF H σ, Good K HF0 G Γ HF H σ → ∀ a, m = .ok a → ∀ Q : Bool → Hp → Prop, (∀ HF' H', Step HF H HF' H' → Q a H') → t σ H Q
structure ET (X : Cx) (Γ : Ctx) (e : Expr) (m : M Bool) (t : TT) : Prop where
  pt : PT X e t
  sem : SemT X.K Γ t m
structure EW (X : Cx) (Γ : Ctx) (e : Expr) (m : M Bool) (t : TT) : Prop where
  pw : PW X e t
  sem : SemT X.K Γ t m

section
variable {X : Cx} {Γ : Ctx} {α β γ : Type}

/-! ### names, constants -/
theorem ex_var [Rp α] (i : Nat) {x : Str} {pos : Pos} {a : α} (hl : look Γ i = .mk Ow.v a := by rfl) (hN : X.N[i]? = some x := by rfl) (hv : Vis X.env.scope x := by first | exact Or.inl rfl | exact Or.inr (Or.inl rfl) | exact Or.inr (Or.inr rfl)) (hd : (x == ("__debug__" : Str)) = false := by decide)
    (hcd : (x == ("__classdict__" : Str)) = false := by decide) : EX X Γ (.Name x pos) Ow.v (pure a) (tVar i) :=
  ⟨pe_var hN hv hd hcd, fun HF0 G HF H σ g c hc Q k => by
    cases pure_ok hc
    obtain ⟨fs, h1, _, _⟩ := g.held
    obtain ⟨v, f, h2, h3, _⟩ := h1.get hl
    exact ⟨v, h2, k.shv g.sub h3.1⟩⟩
theorem ex_int {i : Int} {j pos} : EX X Γ (.Constant (.int i) j pos) Ow.v (pure i) (tC (.int i)) :=
  ⟨pe_int, fun HF0 G HF H σ g c hc Q k => by cases pure_ok hc; exact k.flat g.sub⟩
theorem ex_bl {b : Bool} {j pos} : EX X Γ (.Constant (.bool b) j pos) Ow.v (pure b) (tC (.bl b)) :=
  ⟨pe_bl, fun HF0 G HF H σ g c hc Q k => by cases pure_ok hc; exact k.flat g.sub⟩
theorem ex_str {x : Str} {j pos} : EX X Γ (.Constant (.str x) j pos) Ow.v (pure x) (tC (.str x)) :=
  ⟨pe_str, fun HF0 G HF H σ g c hc Q k => by cases pure_ok hc; exact k.flat g.sub⟩
theorem ex_non {j pos} : EX X Γ (.Constant .none j pos) Ow.v (pure ()) (tC .non) :=
  ⟨pe_non, fun HF0 G HF H σ g c hc Q k => by cases pure_ok hc; exact k.flat g.sub⟩
/-- None as an optional thing -/
theorem ex_nonI {j pos} : EX X Γ (.Constant .none j pos) Ow.v (pure (none : Option Int)) (tC .non) :=
  ⟨pe_non, fun HF0 G HF H σ g c hc Q k => by cases pure_ok hc; exact k.flat (c := (none : Option Int)) g.sub⟩
theorem ex_someI {e : Expr} {m : M Int} {t : TE} (h : EX X Γ e Ow.v m t) : EX X Γ e Ow.v (do let i ← m; pure (some i)) t :=
  ⟨h.pe, fun HF0 G HF H σ g c hc Q k => by
    obtain ⟨i, e1, e2⟩ := bind_ok hc
    cases pure_ok e2
    exact h.sem HF0 G HF H σ g i e1 Q fun v HF' H' fp st r n f => k v HF' H' fp st ⟨r.1, r.2⟩ n f⟩
theorem ex_nonS {j pos} : EX X Γ (.Constant .none j pos) Ow.v (pure (none : Option Str)) (tC .non) :=
  ⟨pe_non, fun HF0 G HF H σ g c hc Q k => by cases pure_ok hc; exact k.flat (c := (none : Option Str)) g.sub⟩
theorem ex_someS {e : Expr} {m : M Str} {t : TE} (h : EX X Γ e Ow.v m t) : EX X Γ e Ow.v (do let i ← m; pure (some i)) t :=
  ⟨h.pe, fun HF0 G HF H σ g c hc Q k => by
    obtain ⟨i, e1, e2⟩ := bind_ok hc
    cases pure_ok e2
    exact h.sem HF0 G HF H σ g i e1 Q fun v HF' H' fp st r n f => k v HF' H' fp st ⟨r.1, r.2⟩ n f⟩

/-! ### own things looked at; own things made shared -/
theorem Holds.vw {K : PySem.W.Frag} {HF H : Hp} (s : Same HF H) : ∀ {Γ : Ctx} {σ : L2.St} {fs : List Addr}, Holds K HF H Γ σ fs → Holds K H H (vw Γ) σ []
  | [], [], _, _ => rfl
  | .un :: Γ, x :: σ, fs, ⟨f1, f2, h1, h2, h3⟩ => ⟨[], [], rfl, rfl, Holds.vw s h3⟩
  | @Sl.mk α i o a :: Γ, x :: σ, fs, ⟨f1, f2, h1, ⟨v, e, h2⟩, h3⟩ => ⟨[], [], rfl, ⟨v, e, @Ow.frz α i o _ _ _ _ _ _ _ s (fun p _ o e => e) h2, rfl⟩, Holds.vw s h3⟩
  | [], _ :: _, _, h => h.elim
  | _ :: _, [], _, h => h.elim
theorem Good.vw {K : PySem.W.Frag} {HF0 G HF H : Hp} {σ : L2.St} (g : Good K HF0 G Γ HF H σ) : Good K H H (vw Γ) H H σ := by
  obtain ⟨fs, h1, h2, h3⟩ := g.held
  exact ⟨Same.refl _, Same.refl _, Same.refl _, fun p o a b => b, [], h1.vw g.sub, List.nodup_nil, fun p hp => by cases hp⟩
theorem ex_view [Rp α] {o : Ow α} [Ind o] {e : Expr} {m : M α} {t : TE} (h : EX X (vw Γ) e o m t) : EX X Γ e o m t :=
  ⟨h.pe, fun HF0 G HF H σ g c hc Q k => h.sem H H H H σ g.vw c hc Q fun v HF' H' fp st r n f =>
    k v HF H' fp ⟨Same.refl _, st.exH, g.sub.trans st.exH, fun p o a b => by rw [a] at b; cases b⟩ (Ind.ind r) n fun p hp => ⟨(f p hp).1, g.sub.free (f p hp).1⟩⟩
theorem et_view {e : Expr} {m : M Bool} {t : TT} (h : ET X (vw Γ) e m t) : ET X Γ e m t :=
  ⟨h.pt, fun HF0 G HF H σ g c hc Q k => h.sem H H H H σ g.vw c hc Q fun HF' H' st =>
    k HF H' ⟨Same.refl _, st.exH, g.sub.trans st.exH, fun p o a b => by rw [a] at b; cases b⟩⟩
/-- HF and what stands at fp -/
def plus (HF H : Hp) (fp : List Addr) : Hp := fun p => if p ∈ fp then H p else HF p
theorem plus_same {HF H : Hp} {fp : List Addr} (h : ∀ p ∈ fp, HF p = none) : Same HF (plus HF H fp) := fun p o e => by
  unfold plus
  by_cases hp : p ∈ fp
  · rw [h p hp] at e; cases e
  · rw [if_neg hp]; exact e
theorem plus_sub {HF H : Hp} {fp : List Addr} (s : Same HF H) : Same (plus HF H fp) H := fun p o e => by
  unfold plus at e
  by_cases hp : p ∈ fp
  · rw [if_pos hp] at e; exact e
  · rw [if_neg hp] at e; exact s p o e
theorem plus_at {HF H : Hp} {fp : List Addr} : ∀ p ∈ fp, ∀ o, H p = some o → plus HF H fp p = some o := fun p hp o e => by
  unfold plus
  rw [if_pos hp]; exact e
theorem plus_out {HF H : Hp} {fp : List Addr} {p : Addr} (hp : p ∉ fp) : plus HF H fp p = HF p := by
  unfold plus
  rw [if_neg hp]
theorem ex_frz [Rp α] {o : Ow α} {e : Expr} {m : M α} {t : TE} (h : EX X Γ e o m t) : EX X Γ e Ow.v m t :=
  ⟨h.pe, fun HF0 G HF H σ g c hc Q k => h.sem HF0 G HF H σ g c hc Q fun v HF' H' fp st r n f =>
    k v (plus HF' H' fp) H' [] ⟨st.exF.trans (plus_same fun p hp => (f p hp).2), st.exH, plus_sub st.sub, fun p o a b => by
      by_cases hp : p ∈ fp
      · exact (f p hp).1
      · rw [plus_out hp] at a
        exact st.new p o a b⟩ ⟨o.frz (plus_same fun p hp => (f p hp).2) plus_at r, rfl⟩ List.nodup_nil fun p hp => by cases hp⟩

/-! ### operators on shared things -/
def SemR2 [Rp α] [Rp β] [Rp γ] (K : PySem.W.Frag) (r : R2) (o : Ow γ) (f : α → β → M γ) : Prop :=
  ∀ HF H v w a b c, Same HF H → Rp.sh K HF v a → Rp.sh K HF w b → f a b = .ok c → ∀ Q : VK, RetK K HF H o c Q → r v w H Q
def SemR1 [Rp α] [Rp γ] (K : PySem.W.Frag) (r : V → Hp → VK → Prop) (o : Ow γ) (f : α → M γ) : Prop :=
  ∀ HF H v a c, Same HF H → Rp.sh K HF v a → f a = .ok c → ∀ Q : VK, RetK K HF H o c Q → r v H Q
theorem RetK.back [Rp γ] {K : PySem.W.Frag} {HF H HF1 H1 : Hp} {o : Ow γ} {c : γ} {Q : VK} (k : RetK K HF H o c Q) (s : Step HF H HF1 H1) : RetK K HF1 H1 o c Q :=
  fun v HF' H' fp st r n f => k v HF' H' fp (s.trans st) r n fun p hp => ⟨s.exH.free (f p hp).1, (f p hp).2⟩
theorem sem_op [Rp α] [Rp β] [Rp γ] {K : PySem.W.Frag} {r : R2} {o : Ow γ} {f : α → β → M γ} {ta tb : TE} {ma : M α} {mb : M β} (hr : SemR2 K r o f) (ha : SemE K Γ ta Ow.v ma) (hb : SemE K Γ tb Ow.v mb) :
    SemE K Γ (tOp r ta tb) o (do let a ← ma; let b ← mb; f a b) := fun HF0 G HF H σ g c hc Q k => by
  obtain ⟨a, e1, hc⟩ := bind_ok hc
  obtain ⟨b, e2, hc⟩ := bind_ok hc
  refine ha HF0 G HF H σ g a e1 _ fun v HF1 H1 fp s1 r1 _ _ => ?_
  refine hb HF0 G HF1 H1 σ (g.step s1) b e2 _ fun w HF2 H2 fp2 s2 r2 _ _ => ?_
  exact hr HF2 H2 v w a b c s2.sub (Rp.mono s2.exF r1.1) r2.1 hc Q (k.back (s1.trans s2))
theorem sem_un [Rp α] [Rp γ] {K : PySem.W.Frag} {r : V → Hp → VK → Prop} {o : Ow γ} {f : α → M γ} {ta : TE} {ma : M α} (hr : SemR1 K r o f) (ha : SemE K Γ ta Ow.v ma) :
    SemE K Γ (tUn r ta) o (do let a ← ma; f a) := fun HF0 G HF H σ g c hc Q k => by
  obtain ⟨a, e1, hc⟩ := bind_ok hc
  refine ha HF0 G HF H σ g a e1 _ fun v HF1 H1 fp s1 r1 _ _ => ?_
  exact hr HF1 H1 v a c s1.sub r1.1 hc Q (k.back s1)
theorem ex_op [Rp α] [Rp β] [Rp γ] {op : Operator} {r : R2} {o : Ow γ} {f : α → β → M γ} {a b : Expr} {pos : Pos} {ta tb : TE} {ma : M α} {mb : M β} (ho : OpR X (binaryOp op) r) (hr : SemR2 X.K r o f) (ha : EX X Γ a Ow.v ma ta) (hb : EX X Γ b Ow.v mb tb) :
    EX X Γ (.BinOp a op b pos) o (do let a ← ma; let b ← mb; f a b) (tOp r ta tb) := ⟨pe_op ho ha.pe hb.pe, sem_op hr ha.sem hb.sem⟩
theorem ex_cmp [Rp α] [Rp β] {op : CmpOp} {r : R2} {f : α → β → M Bool} {a b : Expr} {pos : Pos} {ta tb : TE} {ma : M α} {mb : M β} (ho : OpR X (compareOp op) r) (hr : SemR2 X.K r Ow.v f) (ha : EX X Γ a Ow.v ma ta) (hb : EX X Γ b Ow.v mb tb)
    (hm : behindInMarks op b = false := by first | exact nomark _ | rfl) : EX X Γ (.Compare a [op] [b] pos) Ow.v (do let a ← ma; let b ← mb; f a b) (tOp r ta tb) := ⟨pe_cmpR ho ha.pe hb.pe hm, sem_op hr ha.sem hb.sem⟩
theorem ex_uop [Rp α] [Rp γ] {op : UnaryOp} {r : V → Hp → VK → Prop} {o : Ow γ} {f : α → M γ} {a : Expr} {pos : Pos} {ta : TE} {ma : M α} (ho : UnR X (unaryOp op) r) (hr : SemR1 X.K r o f) (ha : EX X Γ a Ow.v ma ta) :
    EX X Γ (.UnaryOp op a pos) o (do let a ← ma; f a) (tUn r ta) := ⟨pe_un ho ha.pe, sem_un hr ha.sem⟩
/-- ints -/
theorem sr_I0 [Fl γ] {K : PySem.W.Frag} {g : Int → Int → V} {f : Int → Int → γ} (h : ∀ i j, Fl.enc (f i j) = g i j) : SemR2 K (rI0 g) Ow.v (fun (a b : Int) => pure (f a b)) := fun HF H v w a b c s ra rb hc Q k => by
  cases pure_ok hc
  refine ⟨a, b, ra, rb, ?_⟩
  rw [← h]; exact k.flat s
theorem sr_I [Fl γ] {K : PySem.W.Frag} {C : Int → Int → Prop} {g : Int → Int → V} {f : Int → Int → γ} (B : Int → Int → Bool) (hB : ∀ i j, B i j = true → C i j) (h : ∀ i j, Fl.enc (f i j) = g i j) : SemR2 K (rI C g) Ow.v (fun (a b : Int) => do gd (B a b); pure (f a b)) := fun HF H v w a b c s ra rb hc Q k => by
  obtain ⟨u, e1, hc⟩ := bind_ok hc
  cases pure_ok hc
  refine ⟨a, b, ra, rb, hB _ _ (gd_ok e1), ?_⟩
  rw [← h]; exact k.flat s
theorem sr_U [Fl γ] {K : PySem.W.Frag} {g : Int → V} {f : Int → γ} (h : ∀ i, Fl.enc (f i) = g i) : SemR1 K (rU g) Ow.v (fun (a : Int) => pure (f a)) := fun HF H v a c s ra hc Q k => by
  cases pure_ok hc
  refine ⟨a, ra, ?_⟩
  rw [← h]; exact k.flat s
def CMul2 (i j : Int) : Prop := CMul i j ∨ CMulW i j
theorem op_mul2 {X : Cx} : OpR X (binaryOp .Mult) (rI CMul2 fun i j => .int (i * j)) := opI fun _ _ _ _ _ _ _ hc q => PyProof.Rows.mul_int q (hc.elim CMul.ok CMulW.ok)
def mulB (i j : Int) : Bool := ((decide (-(2 ^ 64) < i) && decide (i < 2 ^ 64)) || (decide (-(2 ^ 64) < j) && decide (j < 2 ^ 64))) || decide (i.natAbs.log2 + j.natAbs.log2 < 1000000)
def divB (_i j : Int) : Bool := decide (0 < j) && decide (j.natAbs.log2 < 9000)
def posB (_i j : Int) : Bool := decide (0 < j)
def powB (i j : Int) : Bool := decide (0 ≤ j) && decide (j ≤ 1000000) && decide (i.natAbs < 2 ^ 64)
def nnB (_i j : Int) : Bool := decide (0 ≤ j)
def mulM (a b : Int) : M Int := do gd (mulB a b); pure (a * b)
def divM (a b : Int) : M Int := do gd (divB a b); pure (a / b)
def modM (a b : Int) : M Int := do gd (posB a b); pure (a % b)
def powM (a b : Int) : M Int := do gd (powB a b); pure (a ^ b.toNat)
def shlM (a b : Int) : M Int := do gd (powB a b); pure (a * 2 ^ b.toNat)
def shrM (a b : Int) : M Int := do gd (nnB a b); pure (a / 2 ^ b.toNat)
variable {a b e : Expr} {pos : Pos} {ta tb : TE}
theorem ex_add {ma mb : M Int} (ha : EX X Γ a Ow.v ma ta) (hb : EX X Γ b Ow.v mb tb) : EX X Γ (.BinOp a .Add b pos) Ow.v (do let a ← ma; let b ← mb; pure (a + b)) (tOp (rI0 fun i j => .int (i + j)) ta tb) := ex_op op_add (sr_I0 fun _ _ => rfl) ha hb
theorem ex_sub {ma mb : M Int} (ha : EX X Γ a Ow.v ma ta) (hb : EX X Γ b Ow.v mb tb) : EX X Γ (.BinOp a .Sub b pos) Ow.v (do let a ← ma; let b ← mb; pure (a - b)) (tOp (rI0 fun i j => .int (i - j)) ta tb) := ex_op op_sub (sr_I0 fun _ _ => rfl) ha hb
theorem ex_mul {ma mb : M Int} (ha : EX X Γ a Ow.v ma ta) (hb : EX X Γ b Ow.v mb tb) : EX X Γ (.BinOp a .Mult b pos) Ow.v (do let a ← ma; let b ← mb; mulM a b) (tOp (rI CMul2 fun i j => .int (i * j)) ta tb) :=
  ex_op op_mul2 (sr_I mulB (fun i j h => by simpa [mulB, CMul2, CMul, CMulW] using h) fun _ _ => rfl) ha hb
theorem ex_fdiv {ma mb : M Int} (ha : EX X Γ a Ow.v ma ta) (hb : EX X Γ b Ow.v mb tb) : EX X Γ (.BinOp a .FloorDiv b pos) Ow.v (do let a ← ma; let b ← mb; divM a b) (tOp (rI CDivW fun i j => .int (i / j)) ta tb) :=
  ex_op op_fdivW (sr_I divB (fun i j h => by simpa [divB, CDivW] using h) fun _ _ => rfl) ha hb
theorem ex_mod {ma mb : M Int} (ha : EX X Γ a Ow.v ma ta) (hb : EX X Γ b Ow.v mb tb) : EX X Γ (.BinOp a .Mod b pos) Ow.v (do let a ← ma; let b ← mb; modM a b) (tOp (rI (fun _ j => 0 < j) fun i j => .int (i % j)) ta tb) :=
  ex_op op_mod (sr_I posB (fun i j h => by simpa [posB] using h) fun _ _ => rfl) ha hb
theorem ex_pow {ma mb : M Int} (ha : EX X Γ a Ow.v ma ta) (hb : EX X Γ b Ow.v mb tb) : EX X Γ (.BinOp a .Pow b pos) Ow.v (do let a ← ma; let b ← mb; powM a b) (tOp (rI CPow fun i j => .int (i ^ j.toNat)) ta tb) :=
  ex_op op_pow (sr_I powB (fun i j h => by simpa [powB, CPow, and_assoc] using h) fun _ _ => rfl) ha hb
theorem ex_shl {ma mb : M Int} (ha : EX X Γ a Ow.v ma ta) (hb : EX X Γ b Ow.v mb tb) : EX X Γ (.BinOp a .LShift b pos) Ow.v (do let a ← ma; let b ← mb; shlM a b) (tOp (rI CPow fun i j => .int (i * 2 ^ j.toNat)) ta tb) :=
  ex_op op_shl (sr_I powB (fun i j h => by simpa [powB, CPow, and_assoc] using h) fun _ _ => rfl) ha hb
theorem ex_shr {ma mb : M Int} (ha : EX X Γ a Ow.v ma ta) (hb : EX X Γ b Ow.v mb tb) : EX X Γ (.BinOp a .RShift b pos) Ow.v (do let a ← ma; let b ← mb; shrM a b) (tOp (rI (fun _ j => 0 ≤ j) fun i j => .int (i / 2 ^ j.toNat)) ta tb) :=
  ex_op op_shr (sr_I nnB (fun i j h => by simpa [nnB] using h) fun _ _ => rfl) ha hb
theorem ex_band {ma mb : M Int} (ha : EX X Γ a Ow.v ma ta) (hb : EX X Γ b Ow.v mb tb) : EX X Γ (.BinOp a .BitAnd b pos) Ow.v (do let a ← ma; let b ← mb; pure (Builtin.bitAnd a b)) (tOp (rI0 fun i j => .int (Builtin.bitAnd i j)) ta tb) := ex_op op_and (sr_I0 fun _ _ => rfl) ha hb
theorem ex_bor {ma mb : M Int} (ha : EX X Γ a Ow.v ma ta) (hb : EX X Γ b Ow.v mb tb) : EX X Γ (.BinOp a .BitOr b pos) Ow.v (do let a ← ma; let b ← mb; pure (Builtin.bitOr a b)) (tOp (rI0 fun i j => .int (Builtin.bitOr i j)) ta tb) := ex_op op_or (sr_I0 fun _ _ => rfl) ha hb
theorem ex_bxor {ma mb : M Int} (ha : EX X Γ a Ow.v ma ta) (hb : EX X Γ b Ow.v mb tb) : EX X Γ (.BinOp a .BitXor b pos) Ow.v (do let a ← ma; let b ← mb; pure (Builtin.bitXor a b)) (tOp (rI0 fun i j => .int (Builtin.bitXor i j)) ta tb) := ex_op op_xor (sr_I0 fun _ _ => rfl) ha hb
theorem ex_neg {ma : M Int} (ha : EX X Γ a Ow.v ma ta) : EX X Γ (.UnaryOp .USub a pos) Ow.v (do let a ← ma; pure (-a)) (tUn (rU fun i => .int (-i)) ta) := ex_uop un_neg (sr_U fun _ => rfl) ha
/-- by a written number: no guard is left -/
theorem sr_Ic [Fl γ] {K : PySem.W.Frag} {C : Int → Int → Prop} {g : Int → Int → V} {f : Int → Int → γ} {n : Int} {ta : TE} {ma : M Int} (hC : ∀ i, C i n) (h : ∀ i j, Fl.enc (f i j) = g i j) (ha : SemE K Γ ta Ow.v ma) :
    SemE K Γ (tOp (rI C g) ta (tC (.int n))) Ow.v (do let a ← ma; pure (f a n)) := fun HF0 G HF H σ gg c hc Q k => by
  obtain ⟨i, e1, hc⟩ := bind_ok hc
  cases pure_ok hc
  refine ha HF0 G HF H σ gg i e1 _ fun v HF1 H1 fp s1 r1 _ _ => ?_
  refine ⟨i, n, r1.1, rfl, hC i, ?_⟩
  rw [← h]; exact (k.back s1).flat s1.sub
theorem ex_mulc {ma : M Int} {n : Int} {j p2} (ha : EX X Γ a Ow.v ma ta) (hn : (decide (-(2 ^ 64) < n) && decide (n < 2 ^ 64)) = true := by rfl) : EX X Γ (.BinOp a .Mult (.Constant (.int n) j p2) pos) Ow.v (do let a ← ma; pure (a * n)) (tOp (rI CMul fun i j => .int (i * j)) ta (tC (.int n))) :=
  ⟨pe_op op_mul ha.pe pe_int, sr_Ic (f := fun i j : Int => i * j) (fun i => .inr (by simpa using hn)) (fun _ _ => rfl) ha.sem⟩
theorem ex_fdivc {ma : M Int} {n : Int} {j p2} (ha : EX X Γ a Ow.v ma ta) (hn : (decide (0 < n) && decide (n < 1073741824)) = true := by rfl) : EX X Γ (.BinOp a .FloorDiv (.Constant (.int n) j p2) pos) Ow.v (do let a ← ma; pure (a / n)) (tOp (rI CDiv fun i j => .int (i / j)) ta (tC (.int n))) :=
  ⟨pe_op op_fdiv ha.pe pe_int, sr_Ic (f := fun i j : Int => i / j) (fun i => by simpa [CDiv] using hn) (fun _ _ => rfl) ha.sem⟩
theorem ex_modc {ma : M Int} {n : Int} {j p2} (ha : EX X Γ a Ow.v ma ta) (hn : decide (0 < n) = true := by rfl) : EX X Γ (.BinOp a .Mod (.Constant (.int n) j p2) pos) Ow.v (do let a ← ma; pure (a % n)) (tOp (rI (fun _ j => 0 < j) fun i j => .int (i % j)) ta (tC (.int n))) :=
  ⟨pe_op op_mod ha.pe pe_int, sr_Ic (f := fun i j : Int => i % j) (fun i => by simpa using hn) (fun _ _ => rfl) ha.sem⟩
theorem ex_cmul {mb : M Int} {n : Int} {j p2} (hb : EX X Γ b Ow.v mb tb) (hn : (decide (-(2 ^ 64) < n) && decide (n < 2 ^ 64)) = true := by rfl) : EX X Γ (.BinOp (.Constant (.int n) j p2) .Mult b pos) Ow.v (do let b ← mb; pure (n * b)) (tOp (rI CMul fun i j => .int (i * j)) (tC (.int n)) tb) :=
  ⟨pe_op op_mul pe_int hb.pe, fun HF0 G HF H σ gg c hc Q k => by
    obtain ⟨i, e1, hc⟩ := bind_ok hc
    cases pure_ok hc
    refine hb.sem HF0 G HF H σ gg i e1 _ fun v HF1 H1 fp s1 r1 _ _ => ?_
    exact ⟨n, i, rfl, r1.1, .inl (by simpa using hn), (k.back s1).flat s1.sub⟩⟩
/-! ### comparisons -/
theorem ex_lt {ma mb : M Int} (ha : EX X Γ a Ow.v ma ta) (hb : EX X Γ b Ow.v mb tb) : EX X Γ (.Compare a [.Lt] [b] pos) Ow.v (do let a ← ma; let b ← mb; pure (decide (a < b))) (tOp (rI0 fun i j => .bl (decide (i < j))) ta tb) := ex_cmp op_lt (sr_I0 fun _ _ => rfl) ha hb
theorem ex_le {ma mb : M Int} (ha : EX X Γ a Ow.v ma ta) (hb : EX X Γ b Ow.v mb tb) : EX X Γ (.Compare a [.LtE] [b] pos) Ow.v (do let a ← ma; let b ← mb; pure (decide (a ≤ b))) (tOp (rI0 fun i j => .bl (decide (i ≤ j))) ta tb) := ex_cmp op_le (sr_I0 fun _ _ => rfl) ha hb
theorem ex_gt {ma mb : M Int} (ha : EX X Γ a Ow.v ma ta) (hb : EX X Γ b Ow.v mb tb) : EX X Γ (.Compare a [.Gt] [b] pos) Ow.v (do let a ← ma; let b ← mb; pure (decide (b < a))) (tOp (rI0 fun i j => .bl (decide (j < i))) ta tb) := ex_cmp op_gt (sr_I0 fun i j => rfl) ha hb
theorem ex_ge {ma mb : M Int} (ha : EX X Γ a Ow.v ma ta) (hb : EX X Γ b Ow.v mb tb) : EX X Γ (.Compare a [.GtE] [b] pos) Ow.v (do let a ← ma; let b ← mb; pure (decide (b ≤ a))) (tOp (rI0 fun i j => .bl (decide (j ≤ i))) ta tb) := ex_cmp op_ge (sr_I0 fun i j => rfl) ha hb
/-- scalars -/
class Sc (α : Type) [Fl α] [DecidableEq α] : Prop where
  sc : ∀ a b : α, scal (Fl.enc a) (Fl.enc b) = true
  inj : ∀ a b : α, Fl.enc a = Fl.enc b → a = b
instance : Sc Int := ⟨fun _ _ => rfl, fun _ _ h => by cases h; rfl⟩
instance : Sc Bool := ⟨fun _ _ => rfl, fun _ _ h => by cases h; rfl⟩
instance : Sc Str := ⟨fun _ _ => rfl, fun _ _ h => by cases h; rfl⟩
theorem sc_dec [Fl α] [DecidableEq α] [Sc α] (a b : α) : decide (Fl.enc a = Fl.enc b) = decide (a = b) := by
  by_cases h : a = b
  · subst h; simp
  · rw [decide_eq_false h, decide_eq_false fun e => h (Sc.inj a b e)]
theorem sr_eq [Fl α] [DecidableEq α] [Sc α] {K : PySem.W.Frag} : SemR2 K rEq Ow.v (fun (a b : α) => pure (decide (a = b))) := fun HF H v w a b c s ra rb hc Q k => by
  cases pure_ok hc
  rw [Fl.sh_iff.mp ra, Fl.sh_iff.mp rb]
  refine ⟨Sc.sc a b, ?_⟩
  rw [sc_dec]; exact k.flat s
theorem sr_ne [Fl α] [DecidableEq α] [Sc α] {K : PySem.W.Frag} : SemR2 K rNe Ow.v (fun (a b : α) => pure (!decide (a = b))) := fun HF H v w a b c s ra rb hc Q k => by
  cases pure_ok hc
  rw [Fl.sh_iff.mp ra, Fl.sh_iff.mp rb]
  refine ⟨Sc.sc a b, ?_⟩
  rw [sc_dec]; exact k.flat s
theorem ex_eq [Fl α] [DecidableEq α] [Sc α] {ma mb : M α} (ha : EX X Γ a Ow.v ma ta) (hb : EX X Γ b Ow.v mb tb) : EX X Γ (.Compare a [.Eq] [b] pos) Ow.v (do let a ← ma; let b ← mb; pure (decide (a = b))) (tOp (rEq) ta tb) := ex_cmp op_eq sr_eq ha hb
theorem ex_ne [Fl α] [DecidableEq α] [Sc α] {ma mb : M α} (ha : EX X Γ a Ow.v ma ta) (hb : EX X Γ b Ow.v mb tb) : EX X Γ (.Compare a [.NotEq] [b] pos) Ow.v (do let a ← ma; let b ← mb; pure (!decide (a = b))) (tOp (rNe) ta tb) := ex_cmp op_ne sr_ne ha hb
end

/-! ### data compared as a whole -/
class Eqv (α : Type) [Rp α] [DecidableEq α] where
  py : α → PyData
  ok : α → Bool
  dep : Nat
  dp : ∀ {K : PySem.W.Frag} {H : Hp} {v : V} {a : α}, Rp.sh K H v a → Dp K H v (py a)
  lay : ∀ a, ok a = true → (py a).canLay0 = true
  deep : ∀ a, (py a).depth ≤ dep
  eqv : ∀ a b, PyData.eqv (py a) (py b) = decide (a = b)
instance : Eqv Int := ⟨fun i => .int i, fun _ => true, 0, fun h => by cases h; exact .int _, fun _ _ => rfl, fun _ => by simp [PyData.depth], fun a b => by simp only [PyData.eqv]; by_cases h : a = b <;> simp [h]⟩
instance : Eqv Bool := ⟨fun i => .bool i, fun _ => true, 0, fun h => by cases h; exact .bl _, fun _ _ => rfl, fun _ => by simp [PyData.depth], fun a b => by simp only [PyData.eqv]; by_cases h : a = b <;> simp [h]⟩
instance : Eqv Str := ⟨fun i => .str i, fun x => PySem.PyData.strOk x, 0, fun h => by cases h; exact .str _, fun _ h => by simpa [PyData.canLay0] using h, fun _ => by simp [PyData.depth], fun a b => by simp only [PyData.eqv]; by_cases h : a = b <;> simp [h]⟩
theorem dpAll_of {α : Type} [Rp α] [DecidableEq α] [Eqv α] {K : PySem.W.Frag} {H : Hp} : ∀ {vs : List V} {as : List α}, Fa (Rp.sh K H) vs as → DpAll K H vs (as.map Eqv.py)
  | [], [], _ => .nil
  | v :: vs, a :: as, ⟨x, y⟩ => .cons (Eqv.dp x) (dpAll_of y)
  | [], _ :: _, x => x.elim
  | _ :: _, [], x => x.elim
theorem layAll_of {α : Type} [Rp α] [DecidableEq α] [Eqv α] : ∀ {as : List α}, as.all Eqv.ok = true → PyData.canLayAll0 (as.map Eqv.py) = true
  | [], _ => by simp [PyData.canLayAll0]
  | a :: as, h => by
    rw [List.all_cons, Bool.and_eq_true] at h
    simp [PyData.canLayAll0, Eqv.lay a h.1, layAll_of h.2]
theorem depAll_of {α : Type} [Rp α] [DecidableEq α] [Eqv α] : ∀ as : List α, PyData.depthAll (as.map Eqv.py) ≤ Eqv.dep α
  | [] => by simp [PyData.depthAll]
  | a :: as => by
    have h1 := Eqv.deep a
    have h2 := depAll_of as
    simp only [List.map_cons, PyData.depthAll]
    omega
theorem eqvAll_of {α : Type} [Rp α] [DecidableEq α] [Eqv α] : ∀ as bs : List α, PyData.eqvAll (as.map Eqv.py) (bs.map Eqv.py) = decide (as = bs)
  | [], [] => by simp [PyData.eqvAll]
  | a :: as, b :: bs => by
    simp only [List.map_cons, PyData.eqvAll, Eqv.eqv, eqvAll_of as bs]
    by_cases h1 : a = b <;> by_cases h2 : as = bs <;> simp [h1, h2]
  | [], b :: bs => by simp [PyData.eqvAll]
  | a :: as, [] => by simp [PyData.eqvAll]
instance eqvList {α : Type} [Rp α] [DecidableEq α] [Eqv α] : Eqv (List α) where
  py as := .list (as.map Eqv.py)
  ok as := as.all Eqv.ok
  dep := Eqv.dep α + 1
  dp := fun ⟨p, vs, h1, h2, h3⟩ => by subst h1; exact .lst (SqL.of h2) (dpAll_of h3)
  lay := fun as h => by simpa [PyData.canLay0] using layAll_of h
  deep := fun as => by simpa [PyData.depth] using depAll_of as
  eqv := fun as bs => by simpa [PyData.eqv] using eqvAll_of as bs
instance eqvTu {α : Type} [Rp α] [DecidableEq α] [Eqv α] : Eqv (Tu α) where
  py as := .tuple (as.l.map Eqv.py)
  ok as := as.l.all Eqv.ok
  dep := Eqv.dep α + 1
  dp := fun ⟨p, vs, h1, h2, h3⟩ => by subst h1; exact .tup h2 (dpAll_of h3)
  lay := fun as h => by simpa [PyData.canLay0] using layAll_of h
  deep := fun as => by simpa [PyData.depth] using depAll_of as.l
  eqv := fun ⟨as⟩ ⟨bs⟩ => by
    simp only [PyData.eqv, eqvAll_of as bs]
    simp
instance eqvPair {α β : Type} [Rp α] [Rp β] [DecidableEq α] [DecidableEq β] [Eqv α] [Eqv β] : Eqv (α × β) where
  py x := .tuple [Eqv.py x.1, Eqv.py x.2]
  ok x := Eqv.ok x.1 && Eqv.ok x.2
  dep := max (Eqv.dep α) (Eqv.dep β) + 1
  dp := fun ⟨p, va, vb, h1, h2, h3, h4⟩ => by subst h1; exact .tup h2 (.cons (Eqv.dp h3) (.cons (Eqv.dp h4) .nil))
  lay := fun x h => by
    rw [Bool.and_eq_true] at h
    simp [PyData.canLay0, PyData.canLayAll0, Eqv.lay x.1 h.1, Eqv.lay x.2 h.2]
  deep := fun x => by
    have h1 := Eqv.deep x.1
    have h2 := Eqv.deep x.2
    simp only [PyData.depth, PyData.depthAll]
    omega
  eqv := fun ⟨a, b⟩ ⟨c, d⟩ => by
    simp only [PyData.eqv, PyData.eqvAll, Eqv.eqv]
    by_cases h1 : a = c <;> by_cases h2 : b = d <;> simp [h1, h2]
def eqM {α : Type} [Rp α] [DecidableEq α] [Eqv α] (a b : α) : M Bool := do gd (Eqv.ok a && Eqv.ok b); pure (decide (a = b))
def neM {α : Type} [Rp α] [DecidableEq α] [Eqv α] (a b : α) : M Bool := do gd (Eqv.ok a && Eqv.ok b); pure (!decide (a = b))
section
variable {X : Cx} {Γ : Ctx} {α β γ : Type} {a b e : Expr} {pos : Pos} {ta tb : TE}
theorem eqv_shaped [Rp α] [DecidableEq α] [Eqv α] {a : α} (h : Eqv.ok a = true) (hd : Eqv.dep α ≤ 64) : SeqAt.shaped (Eqv.py a) = true := by
  show ((Eqv.py a).canLay0 && decide ((Eqv.py a).depth ≤ 64)) = true
  rw [Bool.and_eq_true]
  exact ⟨Eqv.lay a h, decide_eq_true (Nat.le_trans (Eqv.deep a) hd)⟩
theorem sr_eqD [Rp α] [DecidableEq α] [Eqv α] {K : PySem.W.Frag} (hd : Eqv.dep α ≤ 64) : SemR2 K (rEqD K) Ow.v (fun (a b : α) => eqM a b) := fun HF H v w a b c s ra rb hc Q k => by
  obtain ⟨u, e1, hc⟩ := bind_ok hc
  cases pure_ok hc
  have e2 := gd_ok e1
  rw [Bool.and_eq_true] at e2
  refine ⟨_, _, Eqv.dp (Rp.mono s ra), Eqv.dp (Rp.mono s rb), eqv_shaped e2.1 hd, eqv_shaped e2.2 hd, ?_⟩
  rw [Eqv.eqv]; exact k.flat s
theorem sr_neD [Rp α] [DecidableEq α] [Eqv α] {K : PySem.W.Frag} (hd : Eqv.dep α ≤ 64) : SemR2 K (rNeD K) Ow.v (fun (a b : α) => neM a b) := fun HF H v w a b c s ra rb hc Q k => by
  obtain ⟨u, e1, hc⟩ := bind_ok hc
  cases pure_ok hc
  have e2 := gd_ok e1
  rw [Bool.and_eq_true] at e2
  refine ⟨_, _, Eqv.dp (Rp.mono s ra), Eqv.dp (Rp.mono s rb), eqv_shaped e2.1 hd, eqv_shaped e2.2 hd, ?_⟩
  rw [Eqv.eqv]; exact k.flat s
theorem ex_eqD {K : PySem.W.Frag} [Rp α] [DecidableEq α] [Eqv α] {ma mb : M α} (hu : X.A.units + 64 < cLine) (ha : EX X Γ a Ow.v ma ta) (hb : EX X Γ b Ow.v mb tb) (hd : Eqv.dep α ≤ 64 := by decide) (hK : X.K = K := by rfl) : EX X Γ (.Compare a [.Eq] [b] pos) Ow.v (do let a ← ma; let b ← mb; eqM a b) (tOp (rEqD K) ta tb) := by
  subst hK
  exact ex_cmp (op_eqD hu) (sr_eqD hd) ha hb
theorem ex_neD {K : PySem.W.Frag} [Rp α] [DecidableEq α] [Eqv α] {ma mb : M α} (hu : X.A.units + 64 < cLine) (ha : EX X Γ a Ow.v ma ta) (hb : EX X Γ b Ow.v mb tb) (hd : Eqv.dep α ≤ 64 := by decide) (hK : X.K = K := by rfl) : EX X Γ (.Compare a [.NotEq] [b] pos) Ow.v (do let a ← ma; let b ← mb; neM a b) (tOp (rNeD K) ta tb) := by
  subst hK
  exact ex_cmp (op_neD hu) (sr_neD hd) ha hb
/-! ### truth -/
theorem et_val {m : M Bool} {t : TE} (h : EX X Γ e Ow.v m t) (he : ∀ whole, isTrue e X.env whole = (do let v ← whole; standAt e.pos; holding [v] (truthy v)) := by intro _; rfl) : ET X Γ e m (tB t) :=
  ⟨pt_val h.pe he, fun HF0 G HF H σ g c hc Q k => h.sem HF0 G HF H σ g c hc _ fun v HF' H' fp s r _ _ => ⟨c, r.1, k HF' H' s⟩⟩
theorem et_cmp {op : CmpOp} {m : M Bool} {t : TE} (h : EX X Γ (.Compare a [op] [b] pos) Ow.v m t) (hp : ∀ {t' : TE}, PE X (.Compare a [op] [b] pos) t' → PT X (.Compare a [op] [b] pos) (tB t')) : ET X Γ (.Compare a [op] [b] pos) m (tB t) :=
  ⟨hp h.pe, fun HF0 G HF H σ g c hc Q k => h.sem HF0 G HF H σ g c hc _ fun v HF' H' fp s r _ _ => ⟨c, r.1, k HF' H' s⟩⟩
def bNot (m : M Bool) : M Bool := do let a ← m; pure (!a)
def bAnd (m n : M Bool) : M Bool := do let a ← m; if a then n else pure false
def bOr (m n : M Bool) : M Bool := do let a ← m; if a then pure true else n
variable {m n : M Bool} {t u : TT} {rest : List Expr}
theorem et_not (h : ET X Γ e m t) : ET X Γ (.UnaryOp .Not e pos) (bNot m) (tNot t) :=
  ⟨pt_not h.pt, fun HF0 G HF H σ g c hc Q k => by
    obtain ⟨x, e1, hc⟩ := bind_ok hc
    cases pure_ok hc
    exact h.sem HF0 G HF H σ g x e1 _ fun HF' H' s => k HF' H' s⟩
theorem ew_pt (h : EW X Γ e m t) : ET X Γ e m t := ⟨h.pw.pt, h.sem⟩
theorem ew_and1 (h : ET X Γ a m t) : EW X Γ (.BoolOp .And [a] pos) m t := ⟨pw_and1 h.pt, h.sem⟩
theorem ew_or1 (h : ET X Γ a m t) : EW X Γ (.BoolOp .Or [a] pos) m t := ⟨pw_or1 h.pt, h.sem⟩
theorem semT_and {K : PySem.W.Frag} (h : SemT K Γ t m) (h' : SemT K Γ u n) : SemT K Γ (tAnd t u) (bAnd m n) := fun HF0 G HF H σ g c hc Q k => by
  obtain ⟨x, e1, hc⟩ := bind_ok hc
  refine h HF0 G HF H σ g x e1 _ fun HF' H' s => ?_
  cases x with
  | true => exact iteT (h' HF0 G HF' H' σ (g.step s) c hc Q fun HF2 H2 s2 => k HF2 H2 (s.trans s2))
  | false =>
    cases pure_ok (show (pure false : M Bool) = .ok c from hc)
    exact iteF (k HF' H' s)
theorem semT_or {K : PySem.W.Frag} (h : SemT K Γ t m) (h' : SemT K Γ u n) : SemT K Γ (tOr t u) (bOr m n) := fun HF0 G HF H σ g c hc Q k => by
  obtain ⟨x, e1, hc⟩ := bind_ok hc
  refine h HF0 G HF H σ g x e1 _ fun HF' H' s => ?_
  cases x with
  | false => exact iteF (h' HF0 G HF' H' σ (g.step s) c hc Q fun HF2 H2 s2 => k HF2 H2 (s.trans s2))
  | true =>
    cases pure_ok (show (pure true : M Bool) = .ok c from hc)
    exact iteT (k HF' H' s)
theorem ew_and (h : ET X Γ a m t) (h' : EW X Γ (.BoolOp .And (b :: rest) pos) n u) : EW X Γ (.BoolOp .And (a :: b :: rest) pos) (bAnd m n) (tAnd t u) := ⟨pw_and h.pt h'.pw, semT_and h.sem h'.sem⟩
theorem ew_or (h : ET X Γ a m t) (h' : EW X Γ (.BoolOp .Or (b :: rest) pos) n u) : EW X Γ (.BoolOp .Or (a :: b :: rest) pos) (bOr m n) (tOr t u) := ⟨pw_or h.pt h'.pw, semT_or h.sem h'.sem⟩
theorem ex_one {op} {m : M Bool} {t : TE} (h : EX X Γ a Ow.v m t) : EX X Γ (.BoolOp op [a] pos) Ow.v m t := ⟨pe_one h.pe, h.sem⟩
variable {t u : TE}
theorem ex_not (h : EX X Γ e Ow.v m t) : EX X Γ (.UnaryOp .Not e pos) Ow.v (bNot m) (tNotV t) :=
  ⟨pe_not h.pe, fun HF0 G HF H σ g c hc Q k => by
    obtain ⟨x, e1, hc⟩ := bind_ok hc
    cases pure_ok hc
    exact h.sem HF0 G HF H σ g x e1 _ fun v HF' H' fp s r _ _ => ⟨x, r.1, (k.back s).flat s.sub⟩⟩
theorem ex_and (h : EX X Γ a Ow.v m t) (h' : EX X Γ (.BoolOp .And (b :: rest) pos) Ow.v n u) : EX X Γ (.BoolOp .And (a :: b :: rest) pos) Ow.v (bAnd m n) (tAndV t u) :=
  ⟨pe_and h.pe h'.pe, fun HF0 G HF H σ g c hc Q k => by
    obtain ⟨x, e1, hc⟩ := bind_ok hc
    refine h.sem HF0 G HF H σ g x e1 _ fun v HF' H' fp s r _ _ => ⟨x, r.1, ?_⟩
    cases x with
    | true => exact iteT (h'.sem HF0 G HF' H' σ (g.step s) c hc Q (k.back s))
    | false =>
      cases pure_ok (show (pure false : M Bool) = .ok c from hc)
      exact iteF ((k.back s).flat s.sub)⟩
theorem ex_or (h : EX X Γ a Ow.v m t) (h' : EX X Γ (.BoolOp .Or (b :: rest) pos) Ow.v n u) : EX X Γ (.BoolOp .Or (a :: b :: rest) pos) Ow.v (bOr m n) (tOrV t u) :=
  ⟨pe_or h.pe h'.pe, fun HF0 G HF H σ g c hc Q k => by
    obtain ⟨x, e1, hc⟩ := bind_ok hc
    refine h.sem HF0 G HF H σ g x e1 _ fun v HF' H' fp s r _ _ => ⟨x, r.1, ?_⟩
    cases x with
    | false => exact iteF (h'.sem HF0 G HF' H' σ (g.step s) c hc Q (k.back s))
    | true =>
      cases pure_ok (show (pure true : M Bool) = .ok c from hc)
      exact iteT ((k.back s).flat s.sub)⟩
theorem ex_if [Rp α] {o : Ow α} {c : Expr} {tc : TT} {mc : M Bool} {ma mb : M α} (hc : ET X Γ c mc tc) (ha : EX X Γ a o ma t) (hb : EX X Γ b o mb u) : EX X Γ (.IfExp c a b pos) o (do let x ← mc; if x then ma else mb) (tIf tc t u) :=
  ⟨pe_ifExp hc.pt ha.pe hb.pe, fun HF0 G HF H σ g c hcc Q k => by
    obtain ⟨x, e1, h2⟩ := bind_ok hcc
    refine hc.sem HF0 G HF H σ g x e1 _ fun HF' H' s => ?_
    cases x with
    | true => exact iteT (ha.sem HF0 G HF' H' σ (g.step s) c h2 Q (k.back s))
    | false => exact iteF (hb.sem HF0 G HF' H' σ (g.step s) c h2 Q (k.back s))⟩
end
end Ty

namespace Ty
open PySem L2

/-! ### arguments -/
structure As (A : Type) where
  rep : PySem.W.Frag → Hp → List V → A → Prop
  mono : ∀ {K : PySem.W.Frag} {H H' : Hp} {vs : List V} {a : A}, Same H H' → rep K H vs a → rep K H' vs a
  n : Nat
  len : ∀ {K : PySem.W.Frag} {H : Hp} {vs : List V} {a : A}, rep K H vs a → vs.length = n
  ctx : A → Ctx
  held : ∀ {K : PySem.W.Frag} {HF H : Hp} {vs : List V} {a : A} (k : Nat), rep K HF vs a → Holds K HF H (ctx a ++ List.replicate k .un) (vs.map some ++ List.replicate k none) []
theorem held_un {K : PySem.W.Frag} {HF H : Hp} : ∀ k : Nat, Holds K HF H (List.replicate k .un) (List.replicate k none) []
  | 0 => rfl
  | k + 1 => ⟨[], [], rfl, rfl, held_un k⟩
def As.nil : As Unit where
  rep _ _ vs _ := vs = []
  mono _ h := h
  n := 0
  len h := by rw [h]; rfl
  ctx _ := []
  held k h := by rw [h]; exact held_un k
def As.cons {α B : Type} [Rp α] (r : As B) : As (α × B) where
  rep K H vs x := ∃ v ws, vs = v :: ws ∧ Rp.sh K H v x.1 ∧ r.rep K H ws x.2
  mono := fun e ⟨v, ws, h1, h2, h3⟩ => ⟨v, ws, h1, Rp.mono e h2, r.mono e h3⟩
  n := r.n + 1
  len := fun ⟨v, ws, h1, h2, h3⟩ => by rw [h1, List.length_cons, r.len h3]
  ctx x := .mk Ow.v x.1 :: r.ctx x.2
  held := fun k ⟨v, ws, h1, h2, h3⟩ => by
    subst h1
    exact ⟨[], [], rfl, ⟨v, rfl, h2, rfl⟩, r.held k h3⟩
def SemA {A : Type} (K : PySem.W.Frag) (Γ : Ctx) (t : TA) (r : As A) (m : M A) : Prop :=
  ∀ HF0 G HF H σ, Good K HF0 G Γ HF H σ → ∀ a, m = .ok a → ∀ Q : List V → Hp → Prop, (∀ vs HF' H', Step HF H HF' H' → r.rep K HF' vs a → Q vs H') → t σ H Q
structure EA {A : Type} (X : Cx) (Γ : Ctx) (es : List Expr) (r : As A) (m : M A) (t : TA) : Prop where
  pa : PA X es t
  sem : SemA X.K Γ t r m
section
variable {X : Cx} {Γ : Ctx} {α β γ A B : Type} {a b e : Expr} {es : List Expr} {pos p apos : Pos} {ta tb te : TE} {t : TA}
theorem ea_nil : EA X Γ [] As.nil (pure ()) tNil := ⟨pa_nil, fun HF0 G HF H σ g c hc Q k => k [] HF H (Step.refl g.sub) rfl⟩
theorem ea_cons [Rp α] {r : As B} {m : M α} {n : M B} (h : EX X Γ e Ow.v m te) (h' : EA X Γ es r n t) (hs : starEach (e :: es) X.env = (false, eval e X.env) :: starEach es X.env := by rfl) :
    EA X Γ (e :: es) (As.cons (α := α) r) (do let a ← m; let b ← n; pure (a, b)) (tCons te t) :=
  ⟨pa_cons h.pe h'.pa hs, fun HF0 G HF H σ g c hc Q k => by
    obtain ⟨x, e1, hc⟩ := bind_ok hc
    obtain ⟨y, e2, hc⟩ := bind_ok hc
    cases pure_ok hc
    refine h.sem HF0 G HF H σ g x e1 _ fun v HF1 H1 fp s1 r1 _ _ => ?_
    refine h'.sem HF0 G HF1 H1 σ (g.step s1) y e2 _ fun vs HF2 H2 s2 r2 => ?_
    exact k (v :: vs) HF2 H2 (s1.trans s2) ⟨v, vs, rfl, Rp.mono s2.exF r1.1, r2⟩⟩
/-! ### a builtin called -/
def SemC [Rp γ] (K : PySem.W.Frag) (r : List V → Hp → VK → Prop) (as : As A) (o : Ow γ) (f : A → M γ) : Prop :=
  ∀ HF H vs a c, Same HF H → as.rep K HF vs a → f a = .ok c → ∀ Q : VK, RetK K HF H o c Q → r vs H Q
theorem semC_run [Rp γ] {K : PySem.W.Frag} {r : List V → Hp → VK → Prop} {as : As A} {o : Ow γ} {f : A → M γ} {m : M A} (hr : SemC K r as o f) (ha : SemA K Γ t as m) : SemE K Γ (tCB r t) o (do let a ← m; f a) := fun HF0 G HF H σ g c hc Q k => by
  obtain ⟨x, e1, hc⟩ := bind_ok hc
  exact ha HF0 G HF H σ g x e1 _ fun vs HF1 H1 s1 r1 => hr HF1 H1 vs x c s1.sub r1 hc Q (k.back s1)
theorem ex_callB [Rp γ] {id : String} {x : Str} {r : List V → Hp → VK → Prop} {as : As A} {o : Ow γ} {f : A → M γ} {m : M A} (hc : CallR X (.builtin id) r) (hr : SemC X.K r as o f) (hg : Gl X x) (hm : X.mg x = none) (hv : bootBuiltins x = some (.builtin id)) (ha : EA X Γ (e :: es) as m t) (hn : x ≠ "__name__" := by decide) (hdb : (x == ("__debug__" : Str)) = false := by decide)
    (he : starEach (e :: es) X.env = (false, eval e X.env) :: starEach es X.env := by rfl) (hpl : (backTo pos (starEach es X.env)).any (·.1) = false := by rfl) : EX X Γ (.Call (.Name x p) (e :: es) [] pos) o (do let a ← m; f a) (tCB r t) :=
  ⟨by first | exact pe_callB hc hg hm hv ha.pa hn hdb he hpl | exact pe_callB hc hg hm hv ha.pa hn hdb he | exact pe_callB hc hg hm hv ha.pa hn hdb | exact pe_callB hc hg hm hv ha.pa, semC_run hr ha.sem⟩
theorem ex_callTy [Rp γ] {T : String} {x : Str} {r : List V → Hp → VK → Prop} {as : As A} {o : Ow γ} {f : A → M γ} {m : M A} (hc : CallR X (.type T) r) (hr : SemC X.K r as o f) (hg : Gl X x) (hm : X.mg x = none) (hv : bootBuiltins x = some (.type T)) (ha : EA X Γ (e :: es) as m t) (hn : x ≠ "__name__" := by decide) (hdb : (x == ("__debug__" : Str)) = false := by decide)
    (he : starEach (e :: es) X.env = (false, eval e X.env) :: starEach es X.env := by rfl) (hpl : (backTo pos (starEach es X.env)).any (·.1) = false := by rfl) : EX X Γ (.Call (.Name x p) (e :: es) [] pos) o (do let a ← m; f a) (tCB r t) :=
  ⟨pe_callTy hc hg hm hv ha.pa hn hdb he hpl, semC_run hr ha.sem⟩

def SemC1 [Rp α] [Rp γ] (K : PySem.W.Frag) (r : List V → Hp → VK → Prop) (o : Ow γ) (f : α → M γ) : Prop :=
  ∀ HF H v a c, Same HF H → Rp.sh K HF v a → f a = .ok c → ∀ Q : VK, RetK K HF H o c Q → r [v] H Q
def SemC2 [Rp α] [Rp β] [Rp γ] (K : PySem.W.Frag) (r : List V → Hp → VK → Prop) (o : Ow γ) (f : α → β → M γ) : Prop :=
  ∀ HF H v w a b c, Same HF H → Rp.sh K HF v a → Rp.sh K HF w b → f a b = .ok c → ∀ Q : VK, RetK K HF H o c Q → r [v, w] H Q
theorem semC1_run [Rp α] [Rp γ] {K : PySem.W.Frag} {r : List V → Hp → VK → Prop} {o : Ow γ} {f : α → M γ} {m : M α} (hr : SemC1 K r o f) (ha : SemE K Γ te Ow.v m) : SemE K Γ (tCB r (tCons te tNil)) o (do let a ← m; f a) := fun HF0 G HF H σ g c hc Q k => by
  obtain ⟨x, e1, hc⟩ := bind_ok hc
  exact ha HF0 G HF H σ g x e1 _ fun v HF1 H1 fp s1 r1 _ _ => hr HF1 H1 v x c s1.sub r1.1 hc Q (k.back s1)
theorem semC2_run [Rp α] [Rp β] [Rp γ] {K : PySem.W.Frag} {r : List V → Hp → VK → Prop} {o : Ow γ} {f : α → β → M γ} {m : M α} {n : M β} (hr : SemC2 K r o f) (ha : SemE K Γ ta Ow.v m) (hb : SemE K Γ tb Ow.v n) : SemE K Γ (tCB r (tCons ta (tCons tb tNil))) o (do let a ← m; let b ← n; f a b) := fun HF0 G HF H σ g c hc Q k => by
  obtain ⟨x, e1, hc⟩ := bind_ok hc
  obtain ⟨y, e2, hc⟩ := bind_ok hc
  refine ha HF0 G HF H σ g x e1 _ fun v HF1 H1 fp s1 r1 _ _ => ?_
  refine hb HF0 G HF1 H1 σ (g.step s1) y e2 _ fun w HF2 H2 fp2 s2 r2 _ _ => ?_
  exact hr HF2 H2 v w x y c s2.sub (Rp.mono s2.exF r1.1) r2.1 hc Q (k.back (s1.trans s2))
section
variable {id T : String} {x : Str} {r : List V → Hp → VK → Prop}
theorem ex_b1 [Rp α] [Rp γ] {o : Ow γ} {f : α → M γ} {m : M α} (hc : CallR X (.builtin id) r) (hr : SemC1 X.K r o f) (hv : bootBuiltins x = some (.builtin id)) (hm : X.mg x = none) (ha : EX X Γ a Ow.v m ta) (hg : Gl X x := by rfl) (hn : x ≠ "__name__" := by decide) (hdb : (x == ("__debug__" : Str)) = false := by decide)
    (h1 : starEach [a] X.env = (false, eval a X.env) :: starEach [] X.env := by rfl) (hpl : (backTo pos (starEach [] X.env)).any (·.1) = false := by rfl) : EX X Γ (.Call (.Name x p) [a] [] pos) o (do let a ← m; f a) (tCB r (tCons ta tNil)) :=
  ⟨pe_callB hc hg hm hv (pa_cons ha.pe pa_nil h1) hn hdb h1 hpl, semC1_run hr ha.sem⟩
theorem ex_t1 [Rp α] [Rp γ] {o : Ow γ} {f : α → M γ} {m : M α} (hc : CallR X (.type T) r) (hr : SemC1 X.K r o f) (hv : bootBuiltins x = some (.type T)) (hm : X.mg x = none) (ha : EX X Γ a Ow.v m ta) (hg : Gl X x := by rfl) (hn : x ≠ "__name__" := by decide) (hdb : (x == ("__debug__" : Str)) = false := by decide)
    (h1 : starEach [a] X.env = (false, eval a X.env) :: starEach [] X.env := by rfl) (hpl : (backTo pos (starEach [] X.env)).any (·.1) = false := by rfl) : EX X Γ (.Call (.Name x p) [a] [] pos) o (do let a ← m; f a) (tCB r (tCons ta tNil)) :=
  ⟨pe_callTy hc hg hm hv (pa_cons ha.pe pa_nil h1) hn hdb h1 hpl, semC1_run hr ha.sem⟩
theorem ex_b2 [Rp α] [Rp β] [Rp γ] {o : Ow γ} {f : α → β → M γ} {m : M α} {n : M β} (hc : CallR X (.builtin id) r) (hr : SemC2 X.K r o f) (hv : bootBuiltins x = some (.builtin id)) (hm : X.mg x = none) (ha : EX X Γ a Ow.v m ta) (hb : EX X Γ b Ow.v n tb) (hg : Gl X x := by rfl) (hn : x ≠ "__name__" := by decide) (hdb : (x == ("__debug__" : Str)) = false := by decide)
    (h1 : starEach [a, b] X.env = (false, eval a X.env) :: starEach [b] X.env := by rfl) (h2 : starEach [b] X.env = (false, eval b X.env) :: starEach [] X.env := by rfl) (hpl : (backTo pos (starEach [b] X.env)).any (·.1) = false := by rfl) : EX X Γ (.Call (.Name x p) [a, b] [] pos) o (do let a ← m; let b ← n; f a b) (tCB r (tCons ta (tCons tb tNil))) :=
  ⟨pe_callB hc hg hm hv (pa_cons ha.pe (pa_cons hb.pe pa_nil h2) h1) hn hdb h1 hpl, semC2_run hr ha.sem hb.sem⟩
end
/-! ### len -/
def rLenQ (K : PySem.W.Frag) : List V → Hp → VK → Prop := fun xs H Q => ∃ p ys, xs = [.ref p] ∧ (SqL K H p ys ∨ SqT K H p ys) ∧ Q (.int ys.length) H
def rLenSt : List V → Hp → VK → Prop := fun xs H Q => ∃ z, xs = [.str z] ∧ z.length ≤ sizeLine ∧ Q (.int z.length) H
theorem cr_lenQ : CallR X (.builtin "len") (rLenQ X.K) := call_len_seq
theorem cr_lenSt : CallR X (.builtin "len") rLenSt := call_len_str
def lenS (x : Str) : M Int := do gd (decide (x.length ≤ sizeLine)); pure (x.length : Int)
theorem sc_lenL [Rp α] {K : PySem.W.Frag} : SemC1 K (rLenQ K) Ow.v (fun (x : List α) => pure (x.length : Int)) := fun HF H v a c s ⟨q, us, e, h1, h2⟩ hc Q k => by
  cases pure_ok hc
  subst e
  refine ⟨q, us, rfl, .inl (SqL.of (s _ _ h1)), ?_⟩
  rw [h2.len]; exact k.flat s
theorem sc_lenScr {K : PySem.W.Frag} : SemC1 K (rLenQ K) Ow.v (fun (x : Scr) => pure (x.l.length : Int)) := fun HF H v a c s ⟨q, e, h1⟩ hc Q k => by
  cases pure_ok hc
  subst e
  refine ⟨q, _, rfl, .inl (s.seq h1), ?_⟩
  rw [List.length_map]; exact k.flat s
theorem sc_lenTu [Rp α] {K : PySem.W.Frag} : SemC1 K (rLenQ K) Ow.v (fun (x : Tu α) => pure (x.l.length : Int)) := fun HF H v a c s ⟨q, us, e, h1, h2⟩ hc Q k => by
  cases pure_ok hc
  subst e
  refine ⟨q, us, rfl, .inr (sqT_mono s h1), ?_⟩
  rw [h2.len]; exact k.flat s
theorem sc_lenS {K : PySem.W.Frag} : SemC1 K rLenSt Ow.v (fun (x : Str) => lenS x) := fun HF H v a c s h1 hc Q k => by
  obtain ⟨u, e1, hc⟩ := bind_ok hc
  cases pure_ok hc
  exact ⟨_, by rw [Fl.sh_iff.mp h1]; rfl, of_decide_eq_true (gd_ok e1), k.flat s⟩
theorem ex_lenL {K : PySem.W.Frag} [Rp α] {m : M (List α)} (ml : X.mg "len" = none) (h : EX X Γ e Ow.v m te) (hg : Gl X "len" := by rfl) (h1 : starEach [e] X.env = (false, eval e X.env) :: starEach [] X.env := by rfl) (hK : X.K = K := by rfl) : EX X Γ (.Call (.Name "len" p) [e] [] pos) Ow.v (do let a ← m; pure (a.length : Int)) (tCB (rLenQ K) (tCons te tNil)) := by
  subst hK
  exact ex_b1 cr_lenQ sc_lenL PySem.boot_len ml h hg (h1 := h1)
theorem ex_lenScr {K : PySem.W.Frag} {m : M Scr} (ml : X.mg "len" = none) (h : EX X Γ e Ow.v m te) (hg : Gl X "len" := by rfl) (h1 : starEach [e] X.env = (false, eval e X.env) :: starEach [] X.env := by rfl) (hK : X.K = K := by rfl) : EX X Γ (.Call (.Name "len" p) [e] [] pos) Ow.v (do let a ← m; pure (a.l.length : Int)) (tCB (rLenQ K) (tCons te tNil)) := by
  subst hK
  exact ex_b1 cr_lenQ sc_lenScr PySem.boot_len ml h hg (h1 := h1)
theorem ex_lenTu {K : PySem.W.Frag} [Rp α] {m : M (Tu α)} (ml : X.mg "len" = none) (h : EX X Γ e Ow.v m te) (hg : Gl X "len" := by rfl) (h1 : starEach [e] X.env = (false, eval e X.env) :: starEach [] X.env := by rfl) (hK : X.K = K := by rfl) : EX X Γ (.Call (.Name "len" p) [e] [] pos) Ow.v (do let a ← m; pure (a.l.length : Int)) (tCB (rLenQ K) (tCons te tNil)) := by
  subst hK
  exact ex_b1 cr_lenQ sc_lenTu PySem.boot_len ml h hg (h1 := h1)
theorem ex_lenS {m : M Str} (ml : X.mg "len" = none) (h : EX X Γ e Ow.v m te) (hg : Gl X "len" := by rfl) (h1 : starEach [e] X.env = (false, eval e X.env) :: starEach [] X.env := by rfl) : EX X Γ (.Call (.Name "len" p) [e] [] pos) Ow.v (do let a ← m; lenS a) (tCB rLenSt (tCons te tNil)) := ex_b1 cr_lenSt sc_lenS PySem.boot_len ml h hg (h1 := h1)

/-! ### items -/
def atM {α : Type} (xs : List α) (i : Int) : M α := ofO (atI xs i)
theorem ixN_of {α β : Type} {xs : List α} {ys : List β} (h : xs.length = ys.length) (i : Int) : ixN xs.length i = ixN ys.length i := by rw [h]
theorem atI_fa {α : Type} {R : V → α → Prop} {vs : List V} {as : List α} {i : Int} {a : α} (h : Fa R vs as) (e : atI as i = some a) : ∃ v, atI vs i = some v ∧ R v a := by
  unfold atI at e ⊢
  rw [h.len]
  cases q : ixN as.length i with
  | none => rw [q] at e; cases e
  | some j =>
    rw [q] at e
    exact Fa.get' h e
theorem sr_ixL [Rp α] {K : PySem.W.Frag} : SemR2 K (rIxL K) Ow.v (fun (x : List α) (i : Int) => atM x i) := fun HF H v w a b c s ⟨q, us, e, h1, h2⟩ rb hc Q k => by
  subst e
  cases rb
  obtain ⟨y, e1, r1⟩ := atI_fa h2 (ofO_ok hc)
  exact ⟨q, us, b, y, rfl, rfl, SqL.of (s _ _ h1), e1, k.shv s r1⟩
theorem sr_ixTu [Rp α] {K : PySem.W.Frag} : SemR2 K (rIxT K) Ow.v (fun (x : Tu α) (i : Int) => atM x.l i) := fun HF H v w a b c s ⟨q, us, e, h1, h2⟩ rb hc Q k => by
  subst e
  cases rb
  obtain ⟨y, e1, r1⟩ := atI_fa h2 (ofO_ok hc)
  exact ⟨q, us, b, y, rfl, rfl, sqT_mono s h1, e1, k.shv s r1⟩
theorem sr_ixScr {K : PySem.W.Frag} : SemR2 K (rIxL K) Ow.v (fun (x : Scr) (i : Int) => atM x.l i) := fun HF H v w a b c s ⟨q, e, h1⟩ rb hc Q k => by
  subst e
  cases rb
  obtain ⟨y, e1, r1⟩ := atI_fa (Fa.flat (K := K) (H := H).mpr rfl) (ofO_ok hc)
  exact ⟨q, _, b, y, rfl, rfl, s.seq h1, e1, by rw [Fl.sh_iff.mp r1]; exact k.flat s⟩
def sgS (c : Nat) : Str := ⟨#[c]⟩
def atS (x : Str) (i : Int) : M Str := do gd (decide (x.length ≤ sizeLine)); let c ← ofO (atI x.cps.toList i); pure (sgS c)
theorem sr_ixS {K : PySem.W.Frag} : SemR2 K rIxS Ow.v (fun (x : Str) (i : Int) => atS x i) := fun HF H v w a b c s ra rb hc Q k => by
  obtain ⟨u, e1, hc⟩ := bind_ok hc
  obtain ⟨d, e2, hc⟩ := bind_ok hc
  cases pure_ok hc
  cases rb
  exact ⟨a, b, d, Fl.sh_iff.mp ra, rfl, of_decide_eq_true (gd_ok e1), ofO_ok e2, k.flat s⟩
theorem sr_ixP1 [Rp α] [Rp β] {K : PySem.W.Frag} {n : M Int} : True := True.intro
theorem ex_ix [Rp α] [Rp β] [Rp γ] {r : R2} {f : α → β → M γ} {o : Ow γ} {m : M α} {n : M β} (hi : IxR X r) (hr : SemR2 X.K r o f) (ha : EX X Γ a Ow.v m ta) (hb : EX X Γ b Ow.v n tb) (hs : PlainIx b := by intro _ _; rfl) : EX X Γ (.Subscript a b pos) o (do let a ← m; let b ← n; f a b) (tOp r ta tb) := ⟨pe_ix hi ha.pe hb.pe hs, sem_op hr ha.sem hb.sem⟩
theorem ex_ixL {K : PySem.W.Frag} [Rp α] {m : M (List α)} {n : M Int} (ha : EX X Γ a Ow.v m ta) (hb : EX X Γ b Ow.v n tb) (hs : PlainIx b := by intro _ _; rfl) (hK : X.K = K := by rfl) : EX X Γ (.Subscript a b pos) Ow.v (do let a ← m; let b ← n; atM a b) (tOp (rIxL K) ta tb) := by
  subst hK
  exact ex_ix ix_list sr_ixL ha hb hs
theorem ex_ixTu {K : PySem.W.Frag} [Rp α] {m : M (Tu α)} {n : M Int} (ha : EX X Γ a Ow.v m ta) (hb : EX X Γ b Ow.v n tb) (hs : PlainIx b := by intro _ _; rfl) (hK : X.K = K := by rfl) : EX X Γ (.Subscript a b pos) Ow.v (do let a ← m; let b ← n; atM a.l b) (tOp (rIxT K) ta tb) := by
  subst hK
  exact ex_ix ix_tup sr_ixTu ha hb hs
theorem ex_ixScr {K : PySem.W.Frag} {m : M Scr} {n : M Int} (ha : EX X Γ a Ow.v m ta) (hb : EX X Γ b Ow.v n tb) (hs : PlainIx b := by intro _ _; rfl) (hK : X.K = K := by rfl) : EX X Γ (.Subscript a b pos) Ow.v (do let a ← m; let b ← n; atM a.l b) (tOp (rIxL K) ta tb) := by
  subst hK
  exact ex_ix ix_list sr_ixScr ha hb hs
theorem ex_ixS {m : M Str} {n : M Int} (ha : EX X Γ a Ow.v m ta) (hb : EX X Γ b Ow.v n tb) (hs : PlainIx b := by intro _ _; rfl) : EX X Γ (.Subscript a b pos) Ow.v (do let a ← m; let b ← n; atS a b) (tOp rIxS ta tb) := ex_ix ix_str sr_ixS ha hb hs
/-- a pair's first and second thing, by a written number -/
theorem ex_ixP0 {K : PySem.W.Frag} [Rp α] [Rp β] {m : M (α × β)} {j p2} (ha : EX X Γ a Ow.v m ta) (hs : PlainIx (.Constant (.int 0) j p2) := by intro _ _; rfl) (hK : X.K = K := by rfl) : EX X Γ (.Subscript a (.Constant (.int 0) j p2) pos) Ow.v (do let a ← m; pure a.1) (tOp (rIxT K) ta (tC (.int 0))) := by
  subst hK
  exact ⟨pe_ix ix_tup ha.pe pe_int hs, fun HF0 G HF H σ g c hc Q k => by
    obtain ⟨x, e1, hc⟩ := bind_ok hc
    cases pure_ok hc
    refine ha.sem HF0 G HF H σ g x e1 _ fun v HF1 H1 fp s1 r1 _ _ => ?_
    obtain ⟨⟨q, va, vb, h1, h2, h3, h4⟩, _⟩ := r1
    exact ⟨q, _, 0, va, h1, rfl, sqT_mono s1.sub h2, rfl, (k.back s1).shv s1.sub h3⟩⟩
theorem ex_ixP1 {K : PySem.W.Frag} [Rp α] [Rp β] {m : M (α × β)} {j p2} (ha : EX X Γ a Ow.v m ta) (hs : PlainIx (.Constant (.int 1) j p2) := by intro _ _; rfl) (hK : X.K = K := by rfl) : EX X Γ (.Subscript a (.Constant (.int 1) j p2) pos) Ow.v (do let a ← m; pure a.2) (tOp (rIxT K) ta (tC (.int 1))) := by
  subst hK
  exact ⟨pe_ix ix_tup ha.pe pe_int hs, fun HF0 G HF H σ g c hc Q k => by
    obtain ⟨x, e1, hc⟩ := bind_ok hc
    cases pure_ok hc
    refine ha.sem HF0 G HF H σ g x e1 _ fun v HF1 H1 fp s1 r1 _ _ => ?_
    obtain ⟨⟨q, va, vb, h1, h2, h3, h4⟩, _⟩ := r1
    exact ⟨q, _, 1, vb, h1, rfl, sqT_mono s1.sub h2, rfl, (k.back s1).shv s1.sub h4⟩⟩
/-! ### slices, +, *, list(..) -/
structure EO (X : Cx) (Γ : Ctx) (e : Option Expr) (m : M (Option Int)) (t : TO) : Prop where
  po : PO X e t
  sem : ∀ HF0 G HF H σ, Good X.K HF0 G Γ HF H σ → ∀ a, m = .ok a → ∀ Q : Option Int → Hp → Prop, (∀ HF' H', Step HF H HF' H' → Q a H') → t σ H Q
theorem eo_none : EO X Γ none (pure none) tNoPart := ⟨po_none, fun HF0 G HF H σ g c hc Q k => by cases pure_ok hc; exact k HF H (Step.refl g.sub)⟩
theorem eo_some {m : M Int} (h : EX X Γ e Ow.v m te) : EO X Γ (some e) (do let i ← m; pure (some i)) (tPart te) :=
  ⟨po_some h.pe, fun HF0 G HF H σ g c hc Q k => by
    obtain ⟨x, e1, hc⟩ := bind_ok hc
    cases pure_ok hc
    exact h.sem HF0 G HF H σ g x e1 _ fun v HF1 H1 fp s1 r1 _ _ => ⟨x, r1.1, k HF1 H1 s1⟩⟩
def cutL {α : Type} (xs : List α) (lo hi : Option Int) : List α := (xs.drop (HT.sIx xs.length 0 lo)).take (HT.sIx xs.length xs.length hi - HT.sIx xs.length 0 lo)
theorem Fa.cut {α : Type} {R : V → α → Prop} {vs : List V} {as : List α} (h : Fa R vs as) (lo hi : Option Int) : Fa R (cutV vs lo hi) (cutL as lo hi) := by
  unfold cutV cutL
  rw [h.len]
  exact Fa.take _ (Fa.drop _ h)
def SemSl [Rp α] [Rp γ] (K : PySem.W.Frag) (r : V → Option Int → Option Int → Hp → VK → Prop) (o : Ow γ) (f : α → Option Int → Option Int → M γ) : Prop :=
  ∀ HF H v a l u c, Same HF H → Rp.sh K HF v a → f a l u = .ok c → ∀ Q : VK, RetK K HF H o c Q → r v l u H Q
theorem ex_slice [Rp α] [Rp γ] {r : V → Option Int → Option Int → Hp → VK → Prop} {o : Ow γ} {f : α → Option Int → Option Int → M γ} {m : M α} {ml mu : M (Option Int)} {lo hi : Option Expr} {tl th : TO} {p2 : Pos} (hr : SlR X r) (hs : SemSl X.K r o f) (h : EX X Γ e Ow.v m te) (hl : EO X Γ lo ml tl) (hu : EO X Γ hi mu th) :
    EX X Γ (.Subscript e (.Slice lo hi none p2) pos) o (do let a ← m; let l ← ml; let u ← mu; f a l u) (tSl r te tl th) :=
  ⟨pe_slice hr h.pe hl.po hu.po, fun HF0 G HF H σ g c hc Q k => by
    obtain ⟨x, e1, hc⟩ := bind_ok hc
    obtain ⟨l, e2, hc⟩ := bind_ok hc
    obtain ⟨u, e3, hc⟩ := bind_ok hc
    refine h.sem HF0 G HF H σ g x e1 _ fun v HF1 H1 fp s1 r1 _ _ => ?_
    have g1 := g.step s1
    refine hl.sem HF0 G HF1 H1 σ g1 l e2 _ fun HF2 H2 s2 => ?_
    have g2 := g1.step s2
    refine hu.sem HF0 G HF2 H2 σ g2 u e3 _ fun HF3 H3 s3 => ?_
    exact hs HF3 H3 v x l u c s3.sub (Rp.mono (s2.exF.trans s3.exF) r1.1) hc Q (k.back ((s1.trans s2).trans s3))⟩
theorem ex_cutL {K : PySem.W.Frag} [Rp α] {m : M (List α)} {ml mu : M (Option Int)} {lo hi : Option Expr} {tl th : TO} {p2 : Pos} (h : EX X Γ e Ow.v m te) (hl : EO X Γ lo ml tl) (hu : EO X Γ hi mu th) (hK : X.K = K := by rfl) :
    EX X Γ (.Subscript e (.Slice lo hi none p2) pos) (Ow.l Ow.v) (do let a ← m; let l ← ml; let u ← mu; pure (cutL a l u)) (tSl (rSlL K) te tl th) := by
  subst hK
  exact ex_slice sl_list (show SemSl X.K (rSlL X.K) (Ow.l Ow.v) (fun (a : List α) l u => pure (cutL a l u)) from fun HF H v a l u c s ⟨q, us, e, h1, h2⟩ hc Q k => by
    cases pure_ok hc
    subst e
    exact ⟨q, us, rfl, SqL.of (s _ _ h1), fun p hp => k.lst s (h2.cut l u) hp⟩) h hl hu
theorem ex_cutScr {K : PySem.W.Frag} {m : M Scr} {ml mu : M (Option Int)} {lo hi : Option Expr} {tl th : TO} {p2 : Pos} (h : EX X Γ e Ow.v m te) (hl : EO X Γ lo ml tl) (hu : EO X Γ hi mu th) (hK : X.K = K := by rfl) :
    EX X Γ (.Subscript e (.Slice lo hi none p2) pos) (Ow.l Ow.v) (do let a ← m; let l ← ml; let u ← mu; pure (cutL a.l l u)) (tSl (rSlL K) te tl th) := by
  subst hK
  exact ex_slice sl_list (show SemSl X.K (rSlL X.K) (Ow.l Ow.v) (fun (a : Scr) l u => pure (cutL a.l l u)) from fun HF H v a l u c s ⟨q, e, h1⟩ hc Q k => by
    cases pure_ok hc
    subst e
    exact ⟨q, _, rfl, s.seq h1, fun p hp => k.lst s ((Fa.flat.mpr rfl : Fa (Rp.sh X.K HF) (a.l.map V.int) a.l).cut l u) hp⟩) h hl hu
def cutSM (x : Str) (l u : Option Int) : M Str := do gd (decide (x.length ≤ sizeLine)); pure (cutS x l u)
theorem ex_cutS {m : M Str} {ml mu : M (Option Int)} {lo hi : Option Expr} {tl th : TO} {p2 : Pos} (h : EX X Γ e Ow.v m te) (hl : EO X Γ lo ml tl) (hu : EO X Γ hi mu th) :
    EX X Γ (.Subscript e (.Slice lo hi none p2) pos) Ow.v (do let a ← m; let l ← ml; let u ← mu; cutSM a l u) (tSl rSlS te tl th) :=
  ex_slice (f := cutSM) sl_str (fun HF H v a l u c s ra hc Q k => by
    obtain ⟨w, e1, hc⟩ := bind_ok hc
    cases pure_ok hc
    exact ⟨a, Fl.sh_iff.mp ra, of_decide_eq_true (gd_ok e1), k.flat s⟩) h hl hu
def szB (n : Nat) : Bool := decide (n ≤ sizeLine)
def catM {α : Type} (a b : List α) : M (List α) := do gd (szB (a.length + b.length)); pure (a ++ b)
def repM {α : Type} (a : List α) (k : Int) : M (List α) := do gd (decide (-(2 ^ 63) ≤ k) && decide (k < 2 ^ 63) && szB (a.length * k.toNat)); pure (List.replicate k.toNat a).flatten
theorem ex_cat [Rp α] {m n : M (List α)} (ha : EX X Γ a Ow.v m ta) (hb : EX X Γ b Ow.v n tb) : EX X Γ (.BinOp a .Add b pos) (Ow.l Ow.v) (do let a ← m; let b ← n; catM a b) (tOp rCat ta tb) :=
  ex_op op_cat (show SemR2 X.K rCat (Ow.l Ow.v) (fun (a b : List α) => catM a b) from fun HF H v w a b c s ⟨q, us, e, h1, h2⟩ ⟨q', us', e', h1', h2'⟩ hc Q k => by
    obtain ⟨u, e1, hc⟩ := bind_ok hc
    cases pure_ok hc
    subst e e'
    exact ⟨q, q', us, us', rfl, rfl, s _ _ h1, s _ _ h1', by rw [h2.len, h2'.len]; exact of_decide_eq_true (gd_ok e1), fun p hp => k.lst s (h2.append h2') hp⟩) ha hb
theorem ex_rep [Rp α] {m : M (List α)} {n : M Int} (ha : EX X Γ a Ow.v m ta) (hb : EX X Γ b Ow.v n tb) : EX X Γ (.BinOp a .Mult b pos) (Ow.l Ow.v) (do let a ← m; let b ← n; repM a b) (tOp rRep ta tb) :=
  ex_op op_rep (show SemR2 X.K rRep (Ow.l Ow.v) (fun (a : List α) (b : Int) => repM a b) from fun HF H v w a b c s ⟨q, us, e, h1, h2⟩ rb hc Q k => by
    obtain ⟨u, e1, hc⟩ := bind_ok hc
    cases pure_ok hc
    subst e
    have e2 := gd_ok e1
    rw [Bool.and_eq_true, Bool.and_eq_true, decide_eq_true_eq, decide_eq_true_eq] at e2
    refine ⟨q, b, us, rfl, Fl.sh_iff.mp rb, s _ _ h1, e2.1.1, e2.1.2, by rw [h2.len]; exact of_decide_eq_true e2.2, fun p hp => k.lst s (h2.rep b.toNat) hp⟩) ha hb
def addSM (a b : Str) : M Str := do gd (szB (a.length + b.length)); pure (a ++ b)
def rAddSt : R2 := fun x y H Q => ∃ i j, x = .str i ∧ y = .str j ∧ i.length + j.length ≤ sizeLine ∧ Q (.str (i ++ j)) H
theorem ex_addS {m n : M Str} (ha : EX X Γ a Ow.v m ta) (hb : EX X Γ b Ow.v n tb) : EX X Γ (.BinOp a .Add b pos) Ow.v (do let a ← m; let b ← n; addSM a b) (tOp rAddSt ta tb) :=
  ex_op op_add_str (fun HF H v w a b c s ra rb hc Q k => by
    obtain ⟨u, e1, hc⟩ := bind_ok hc
    cases pure_ok hc
    exact ⟨a, b, Fl.sh_iff.mp ra, Fl.sh_iff.mp rb, of_decide_eq_true (gd_ok e1), k.flat s⟩) ha hb
def rListOf (K : PySem.W.Frag) : List V → Hp → VK → Prop := fun xs H Q => ∃ p ys, xs = [.ref p] ∧ (SqL K H p ys ∨ SqT K H p ys) ∧ ∀ l, H l = none → Q (.ref l) (upd H l (.lst ys))
theorem ex_listL {K : PySem.W.Frag} [Rp α] {m : M (List α)} (ml : X.mg "list" = none) (h : EX X Γ e Ow.v m te) (hg : Gl X "list" := by rfl) (h1 : starEach [e] X.env = (false, eval e X.env) :: starEach [] X.env := by rfl) (hK : X.K = K := by rfl) : EX X Γ (.Call (.Name "list" p) [e] [] pos) (Ow.l Ow.v) (m >>= fun a => pure a) (tCB (rListOf K) (tCons te tNil)) := by
  subst hK
  exact ex_t1 call_list_of (show SemC1 X.K (rListOf X.K) (Ow.l Ow.v) (fun (a : List α) => pure a) from fun HF H v a c s ⟨q, us, e, h1, h2⟩ hc Q k => by
      cases pure_ok hc
      subst e
      exact ⟨q, us, rfl, .inl (SqL.of (s _ _ h1)), fun l hl => k.lst s h2 hl⟩) (by decide +kernel) ml h hg (h1 := h1)
theorem ex_listTu {K : PySem.W.Frag} [Rp α] {m : M (Tu α)} (ml : X.mg "list" = none) (h : EX X Γ e Ow.v m te) (hg : Gl X "list" := by rfl) (h1 : starEach [e] X.env = (false, eval e X.env) :: starEach [] X.env := by rfl) (hK : X.K = K := by rfl) : EX X Γ (.Call (.Name "list" p) [e] [] pos) (Ow.l Ow.v) (do let a ← m; pure a.l) (tCB (rListOf K) (tCons te tNil)) := by
  subst hK
  exact ex_t1 call_list_of (show SemC1 X.K (rListOf X.K) (Ow.l Ow.v) (fun (a : Tu α) => pure a.l) from fun HF H v a c s ⟨q, us, e, h1, h2⟩ hc Q k => by
      cases pure_ok hc
      subst e
      exact ⟨q, us, rfl, .inr (sqT_mono s h1), fun l hl => k.lst s h2 hl⟩) (by decide +kernel) ml h hg (h1 := h1)
/-! ### displays -/
def SemL [Rp α] (K : PySem.W.Frag) (Γ : Ctx) (t : TA) (o : Ow α) (m : M (List α)) : Prop :=
  ∀ HF0 G HF H σ, Good K HF0 G Γ HF H σ → ∀ a, m = .ok a → ∀ Q : List V → Hp → Prop, (∀ vs HF' H' fp, Step HF H HF' H' → Rl (o.rep K HF' H') vs a fp → fp.Nodup → (∀ p ∈ fp, H p = none ∧ HF' p = none) → Q vs H') → t σ H Q
structure EL [Rp α] (X : Cx) (Γ : Ctx) (es : List Expr) (o : Ow α) (m : M (List α)) (t : TA) : Prop where
  pa : PA X es t
  sem : SemL X.K Γ t o m
theorem el_nil [Rp α] {o : Ow α} : EL X Γ [] o (pure []) tNil := ⟨pa_nil, fun HF0 G HF H σ g c hc Q k => by cases pure_ok hc; exact k [] HF H [] (Step.refl g.sub) rfl List.nodup_nil (fun p hp => by cases hp)⟩
theorem Rl.step [Rp α] {K : PySem.W.Frag} {o : Ow α} {HF H HF' H' : Hp} {vs : List V} {as : List α} {fp : List Addr} (h : Rl (o.rep K HF H) vs as fp) (s : Step HF H HF' H') : Rl (o.rep K HF' H') vs as fp := Rl.mono (fun v a f _ r => o.mono s.exF (fun p _ o e => s.exH p o e) r) h
theorem el_cons [Rp α] {o : Ow α} {m : M α} {n : M (List α)} (h : EX X Γ e o m te) (h' : EL X Γ es o n t) (hs : starEach (e :: es) X.env = (false, eval e X.env) :: starEach es X.env := by rfl) :
    EL X Γ (e :: es) o (do let a ← m; let b ← n; pure (a :: b)) (tCons te t) :=
  ⟨pa_cons h.pe h'.pa hs, fun HF0 G HF H σ g c hc Q k => by
    obtain ⟨x, e1, hc⟩ := bind_ok hc
    obtain ⟨y, e2, hc⟩ := bind_ok hc
    cases pure_ok hc
    refine h.sem HF0 G HF H σ g x e1 _ fun v HF1 H1 fp s1 r1 n1 f1 => ?_
    refine h'.sem HF0 G HF1 H1 σ (g.step s1) y e2 _ fun vs HF2 H2 fq s2 r2 n2 f2 => ?_
    have dm := o.dom r1
    refine k (v :: vs) HF2 H2 (fp ++ fq) (s1.trans s2) ⟨fp, fq, rfl, o.mono s2.exF (fun p _ o e => s2.exH p o e) r1, r2⟩ (List.nodup_append.mpr ⟨n1, n2, fun p hp q hq e => ?_⟩) fun p hp => ?_
    · subst e
      obtain ⟨u, hu⟩ := dm p hp
      rw [(f2 p hq).1] at hu; cases hu
    · rcases List.mem_append.mp hp with hp | hp
      · refine ⟨(f1 p hp).1, ?_⟩
        cases q : HF2 p with
        | none => rfl
        | some u =>
          have := s2.new p u q (f1 p hp).2
          obtain ⟨u', hu⟩ := dm p hp
          rw [this] at hu; cases hu
      · exact ⟨s1.exH.free (f2 p hp).1, (f2 p hp).2⟩⟩
/-- a new object over new things -/
theorem RetK.obj [Rp γ] {K : PySem.W.Frag} {HF0 H0 HF H : Hp} {o : Ow γ} {c : γ} {ho : HO} {p : Addr} {fp : List Addr} {Q : VK} (k : RetK K HF0 H0 o c Q) (s : Step HF0 H0 HF H) (hp : H p = none) (r : o.rep K HF (upd H p ho) (.ref p) c (p :: fp)) (n : fp.Nodup) (f : ∀ q ∈ fp, H0 q = none ∧ HF q = none) (hd : ∀ q ∈ fp, ∃ u, H q = some u) : Q (.ref p) (upd H p ho) :=
  k (.ref p) HF (upd H p ho) (p :: fp) (s.trans (Step.own s.sub hp)) r (List.nodup_cons.mpr ⟨fun hm => (by obtain ⟨u, hu⟩ := hd p hm; rw [hp] at hu; cases hu), n⟩) fun q hq => by
    rcases List.mem_cons.mp hq with e | hq
    · subst e; exact ⟨s.exH.free hp, s.sub.free hp⟩
    · exact f q hq
def lstM {α : Type} (as : List α) : M (List α) := do gd (szB as.length); pure as
theorem upd_keep {H : Hp} {p : Addr} {o : HO} (hp : H p = none) : ∀ q, ∀ u, H q = some u → upd H p o q = some u := fun q u e => by rw [upd_ne (ne_of_none e hp)]; exact e
theorem ex_lst [Rp α] {o : Ow α} {m : M (List α)} (h : EL X Γ es o m t) : EX X Γ (.List es pos) (Ow.l o) (do let a ← m; lstM a) (tLst t) :=
  ⟨pe_lst h.pa, fun HF0 G HF H σ g c hc Q k => by
    obtain ⟨x, e1, hc⟩ := bind_ok hc
    obtain ⟨u, e2, hc⟩ := bind_ok hc
    cases pure_ok hc
    refine h.sem HF0 G HF H σ g _ e1 _ fun vs HF1 H1 fp s1 r1 n1 f1 => ⟨by rw [r1.len]; exact of_decide_eq_true (gd_ok e2), fun p hp => ?_⟩
    exact k.obj s1 hp ⟨p, vs, fp, rfl, rfl, upd_same, Rl.mono (fun v a f _ r => o.mono (Same.refl _) (fun q _ u e => upd_keep hp q u e) r) r1⟩ n1 f1 (Rl.dom (fun v a f r => o.dom r) r1)⟩
theorem ex_tu [Rp α] {m : M (List α)} {k} (h : EL X Γ es Ow.v m t) : EX X Γ (.Tuple es k pos) Ow.v (do let a ← m; let b ← lstM a; pure (Tu.mk b)) (tTup t) :=
  ⟨pe_tup h.pa, fun HF0 G HF H σ g c hc Q kk => by
    obtain ⟨x, e1, hc⟩ := bind_ok hc
    obtain ⟨y, e2, hc⟩ := bind_ok hc
    obtain ⟨u, e3, hd⟩ := bind_ok e2
    cases pure_ok hd
    cases pure_ok hc
    refine h.sem HF0 G HF H σ g _ e1 _ fun vs HF1 H1 fp s1 r1 n1 f1 => ⟨by rw [r1.len]; exact of_decide_eq_true (gd_ok e3), fun p hp => ?_⟩
    have hF : HF1 p = none := s1.sub.free hp
    refine kk (.ref p) (upd HF1 p (.tup vs)) (upd H1 p (.tup vs)) [] ⟨s1.exF.trans (same_upd hF), s1.exH.trans (same_upd hp), fun q u e => ?_, fun q u e1 e2 => ?_⟩ ⟨⟨p, vs, rfl, SqT.of upd_same, Fa.mono (fun v a r => Rp.mono (same_upd hF) r) r1.toFa.1⟩, rfl⟩ List.nodup_nil fun q hq => by cases hq
    · by_cases hq : q = p
      · subst hq; rw [upd_same] at e ⊢; exact e
      · rw [upd_ne hq] at e ⊢; exact s1.sub q u e
    · by_cases hq : q = p
      · subst hq; exact s1.exH.free hp
      · rw [upd_ne hq] at e1; exact s1.new q u e1 e2⟩
theorem ex_pair [Rp α] [Rp β] {o : Ow α} {u : Ow β} {m : M α} {n : M β} {k} (ha : EX X Γ a o m ta) (hb : EX X Γ b u n tb) (h1 : starEach [a, b] X.env = (false, eval a X.env) :: starEach [b] X.env := by rfl) (h2 : starEach [b] X.env = (false, eval b X.env) :: starEach [] X.env := by rfl) :
    EX X Γ (.Tuple [a, b] k pos) (Ow.p o u) (do let a ← m; let b ← n; pure (a, b)) (tTup (tCons ta (tCons tb tNil))) :=
  ⟨pe_tup (pa_cons ha.pe (pa_cons hb.pe pa_nil h2) h1), fun HF0 G HF H σ g c hc Q kk => by
    obtain ⟨x, e1, hc⟩ := bind_ok hc
    obtain ⟨y, e2, hc⟩ := bind_ok hc
    cases pure_ok hc
    refine ha.sem HF0 G HF H σ g x e1 _ fun v HF1 H1 fp s1 r1 n1 f1 => ?_
    refine hb.sem HF0 G HF1 H1 σ (g.step s1) y e2 _ fun w HF2 H2 fq s2 r2 n2 f2 => ⟨by show 2 ≤ sizeLine; decide, fun p hp => ?_⟩
    have dm := o.dom r1
    have du := u.dom r2
    have r1' : o.rep X.K HF2 H2 v x fp := o.mono s2.exF (fun p _ o e => s2.exH p o e) r1
    refine kk.obj (s1.trans s2) hp (fp := fp ++ fq) ⟨p, v, w, fp, fq, rfl, rfl, upd_same, o.mono (Same.refl _) (fun q _ u e => upd_keep hp q u e) r1', u.mono (Same.refl _) (fun q _ u e => upd_keep hp q u e) r2⟩ (List.nodup_append.mpr ⟨n1, n2, fun p hp q hq e => ?_⟩) (fun p hp => ?_) fun p hp => ?_
    · subst e
      obtain ⟨u, hu⟩ := dm p hp
      rw [(f2 p hq).1] at hu; cases hu
    · rcases List.mem_append.mp hp with hp | hp
      · refine ⟨(f1 p hp).1, ?_⟩
        cases q : HF2 p with
        | none => rfl
        | some u =>
          have := s2.new p u q (f1 p hp).2
          obtain ⟨u', hu⟩ := dm p hp
          rw [this] at hu; cases hu
      · exact ⟨s1.exH.free (f2 p hp).1, (f2 p hp).2⟩
    · rcases List.mem_append.mp hp with hp | hp
      · obtain ⟨u, hu⟩ := dm p hp
        exact ⟨u, s2.exH p u hu⟩
      · exact du p hp⟩
end
end Ty

namespace Ty
open PySem L2

theorem of_blt {i n : Nat} (h : Nat.blt i n = true) : i < n := Nat.le_of_ble_eq_true h
/-! ### targets -/
/-- from a thing a, its value v, at Γ: behind the target stands Γ'; only the slots js change -/
def SemG {α : Type} [Rp α] (K : PySem.W.Frag) (Γ : Ctx) (g : TG) (a : α) (Γ' : Ctx) (js : List Nat) : Prop :=
  ∀ HF0 G HF H σ v, Good K HF0 G Γ HF H σ → Rp.sh K HF v a → ∀ Q : L2.St → Hp → Prop, (∀ σ', Good K HF0 G Γ' HF H σ' → σ'.length = σ.length → (∀ k, k ∉ js → σ'[k]? = σ[k]?) → Q σ' H) → g v σ H Q
structure EG {α : Type} [Rp α] (X : Cx) (Γ : Ctx) (tg : Expr) (g : TG) (a : α) (Γ' : Ctx) (js : List Nat) : Prop where
  pg : PG X tg g
  sem : SemG X.K Γ g a Γ' js
theorem Good.putO {α : Type} [Rp α] {K : PySem.W.Frag} {HF0 G HF H : Hp} {Γ : Ctx} {σ : L2.St} {i : Nat} {v : V} {a : α} {o : Ow α} {f : List Addr} (g : Good K HF0 G Γ HF H σ) (hi : i < Γ.length) (r : o.rep K HF H v a f) (nd : f.Nodup) (fr : ∀ fs, Holds K HF H Γ σ fs → ∀ p ∈ f, (HF p = none ∧ G p = none) ∧ p ∉ fs) : Good K HF0 G (put Γ i (.mk o a)) HF H (σ.set i (some v)) := by
  obtain ⟨fs, h1, h2, h3⟩ := g.held
  obtain ⟨fo, fr', q1, q2, q3, q4⟩ := h1.put hi
  obtain ⟨n1, n2, n3⟩ := q3 h2
  obtain ⟨fs', w1, w2, w3⟩ := q4 (HF' := HF) (H' := H) (s := .mk o a) (x := some v) (f := f) (fun _ h => h) (fun _ h => h) ⟨v, rfl, r⟩
  refine ⟨g.sub, g.f0, g.g0, g.nf, fs', w1, w3 n1 nd fun p hp hq => (fr fs h1 p hp).2 ((q2 p).mpr (.inr hq)), fun p hp => ?_⟩
  rcases (w2 p).mp hp with z | z
  · exact (fr fs h1 p z).1
  · exact h3 p ((q2 p).mpr (.inr z))
theorem Good.putv {α : Type} [Rp α] {K : PySem.W.Frag} {HF0 G HF H : Hp} {Γ : Ctx} {σ : L2.St} {i : Nat} {v : V} {a : α} (g : Good K HF0 G Γ HF H σ) (hi : i < Γ.length) (r : Rp.sh K HF v a) : Good K HF0 G (put Γ i (.mk Ow.v a)) HF H (σ.set i (some v)) :=
  g.putO hi (o := Ow.v) ⟨r, rfl⟩ List.nodup_nil fun _ _ p hp => by cases hp
theorem Good.len {K : PySem.W.Frag} {HF0 G HF H : Hp} {Γ : Ctx} {σ : L2.St} (g : Good K HF0 G Γ HF H σ) : Γ.length = σ.length := by
  obtain ⟨fs, h1, _, _⟩ := g.held
  exact h1.len
section
variable {X : Cx} {Γ : Ctx} {α β γ A B : Type} {a b e : Expr} {es : List Expr} {pos p apos : Pos} {ta tb te : TE} {t : TA}
theorem eg_name [Rp α] (i : Nat) {x : Str} {a : α} (hN : X.N.Nodup) (hlt : Nat.blt i Γ.length = true := by rfl) (hi : X.N[i]? = some x := by rfl) (hx : Loc X.env.scope x := by first | exact .inl rfl | exact .inr rfl) (hf : X.fn x = true ∨ X.env.scope.names.lookup x = some .local := by first | exact .inl rfl | exact .inr rfl) : EG X Γ (.Name x pos) (gName i) a (put Γ i (.mk Ow.v a)) [i] :=
  ⟨pg_name hN hi hx hf, fun HF0 G HF H σ v g r Q k => k _ (g.putv (of_blt hlt) r) (by rw [List.length_set]) fun j hj => by
    rw [List.getElem?_set_ne]
    intro e; subst e; exact hj (by simp)⟩
theorem eg_pair {K : PySem.W.Frag} [Rp α] [Rp β] {Γ1 Γ2 : Ctx} {js ks : List Nat} {x y : Expr} {kk : Nat} {g1 g2 : TG} {u : α × β} (hc : X.calm = true) (h1 : EG X Γ x g1 u.1 Γ1 js) (h2 : EG X Γ1 y g2 u.2 Γ2 ks)
    (hs : (assignEach [y] X.env).map (fun x => x.2) = assign y X.env :: (assignEach [] X.env).map (fun x => x.2) := by rfl) (hs2 : (assignEach [x, y] X.env).map (fun x => x.2) = assign x X.env :: (assignEach [y] X.env).map (fun x => x.2) := by rfl)
    (hpg : PGs X [x, y] (gCons g1 (gCons g2 gNil)) → PG X (.Tuple [x, y] kk pos) (gTup X.K 2 (gCons g1 (gCons g2 gNil))) := by exact fun h => pg_tup (by first | rfl | assumption) h) (hK : X.K = K := by rfl) : EG X Γ (.Tuple [x, y] kk pos) (gTup K 2 (gCons g1 (gCons g2 gNil))) u Γ2 (js ++ ks) := by
  subst hK
  exact ⟨hpg (pgs_cons h1.pg (pgs_cons h2.pg pgs_nil hs) hs2), fun HF0 G HF H σ v g ⟨q, va, vb, e1, e2, e3, e4⟩ Q k => by
    refine ⟨q, [va, vb], e1, sqT_mono g.sub e2, rfl, va, [vb], rfl, ?_⟩
    refine h1.sem HF0 G HF H σ va g e3 _ fun σ1 G1 l1 s1 => ⟨vb, [], rfl, ?_⟩
    refine h2.sem HF0 G HF H σ1 vb G1 e4 _ fun σ2 G2 l2 s2 => ⟨rfl, ?_⟩
    exact k σ2 G2 (l2.trans l1) fun j hj => (s2 j fun z => hj (List.mem_append_right _ z)).trans (s1 j fun z => hj (List.mem_append_left _ z))⟩
/-! ### what is walked -/
def Walks {α : Type} [Rp α] (K : PySem.W.Frag) (J : It) (HF1 : Hp) (xs : List α) : Prop :=
  ∀ HF2 H2 i, Same HF1 HF2 → Same HF2 H2 → (∀ x, xs[i]? = some x → J.go i H2 ∧ ∀ v H3, J.yld i H2 v H3 → ∃ HF3, Step HF2 H2 HF3 H3 ∧ Rp.sh K HF3 v x) ∧ (xs.length ≤ i → J.stop i H2)
def SemI {α : Type} [Rp α] (K : PySem.W.Frag) (Γ : Ctx) (wi : TI) (m : M (List α)) : Prop :=
  ∀ HF0 G HF H σ, Good K HF0 G Γ HF H σ → ∀ xs, m = .ok xs → ∀ R : It → Hp → Prop, (∀ J HF' H', Step HF H HF' H' → Walks K J HF' xs → R J H') → wi σ H R
structure EI {α : Type} [Rp α] (X : Cx) (Γ : Ctx) (tg iter : Expr) (m : M (List α)) (wi : TI) : Prop where
  pi : PI X tg iter wi
  sem : SemI X.K Γ wi m
variable {tg : Expr}
theorem walks_list [Rp α] {K : PySem.W.Frag} {HF : Hp} {q : Addr} {us : List V} {xs : List α} (h1 : HF q = some (.lst us)) (h2 : Fa (Rp.sh K HF) us xs) (s0 : ∀ H, Same HF H → ∀ ys, SqL K H q ys → ys = us) : Walks K (Itl K q) HF xs := fun HF2 H2 i s1 s2 => by
  have hq : SqL K H2 q us := SqL.of (s2 _ _ (s1 _ _ h1))
  refine ⟨fun x hx => ?_, fun hle => ⟨us, hq, by rw [h2.len]; exact hle⟩⟩
  obtain ⟨v, hv, r⟩ := h2.get' hx
  refine ⟨⟨us, v, hq, hv⟩, fun w H3 ⟨e, y⟩ => ?_⟩
  subst e
  have : us[i]? = some w := y us hq
  rw [hv] at this
  cases this
  exact ⟨HF2, Step.refl s2, Rp.mono s1 r⟩
theorem ei_list' [Rp α] {K : PySem.W.Frag} {HF2 H2 HF : Hp} {q : Addr} {us : List V} {xs : List α} {i : Nat} (h1 : SqL K H2 q us) (h2 : Fa (Rp.sh K HF) us xs) (s1 : Same HF HF2) (s2 : Same HF2 H2) : (∀ x, xs[i]? = some x → (Itl K q).go i H2 ∧ ∀ v H3, (Itl K q).yld i H2 v H3 → ∃ HF3, Step HF2 H2 HF3 H3 ∧ Rp.sh K HF3 v x) ∧ (xs.length ≤ i → (Itl K q).stop i H2) := by
  refine ⟨fun x hx => ?_, fun hle => ⟨us, h1, by rw [h2.len]; exact hle⟩⟩
  obtain ⟨v, hv, r⟩ := h2.get' hx
  refine ⟨⟨us, v, h1, hv⟩, fun w H3 ⟨e, y⟩ => ?_⟩
  subst e
  have : us[i]? = some w := y us h1
  rw [hv] at this
  cases this
  exact ⟨HF2, Step.refl s2, Rp.mono s1 r⟩
theorem ei_list {K : PySem.W.Frag} [Rp α] {m : M (List α)} (h : EX X Γ e Ow.v m te) (hK : X.K = K := by rfl) : EI X Γ tg e m (iList K te) := by
  subst hK
  exact ⟨pi_list h.pe, fun HF0 G HF H σ g xs hc R k => by
    refine h.sem HF0 G HF H σ g xs hc _ fun v HF1 H1 fp s1 r1 _ _ => ?_
    obtain ⟨⟨q, us, e, h1, h2⟩, _⟩ := r1
    exact ⟨q, e, ⟨us, SqL.of (s1.sub _ _ h1)⟩, k _ HF1 H1 s1 fun HF2 H2 i a b => ei_list' (SqL.of (b _ _ (a _ _ h1))) h2 a b⟩⟩
theorem ei_scr {K : PySem.W.Frag} {m : M Scr} (h : EX X Γ e Ow.v m te) (hK : X.K = K := by rfl) : EI X Γ tg e (do let a ← m; pure a.l) (iList K te) := by
  subst hK
  exact ⟨pi_list h.pe, fun HF0 G HF H σ g xs hc R k => by
    obtain ⟨x, e1, hc⟩ := bind_ok hc
    cases pure_ok hc
    refine h.sem HF0 G HF H σ g x e1 _ fun v HF1 H1 fp s1 r1 _ _ => ?_
    obtain ⟨⟨q, e, h1⟩, _⟩ := r1
    exact ⟨q, e, ⟨_, s1.sub.seq h1⟩, k _ HF1 H1 s1 fun HF2 H2 i a b => ei_list' (b.seq (a.seq h1)) (Fa.flat (K := X.K) (H := HF1).mpr rfl) a b⟩⟩
theorem ei_tu {K : PySem.W.Frag} [Rp α] {m : M (Tu α)} (h : EX X Γ e Ow.v m te) (hK : X.K = K := by rfl) : EI X Γ tg e (do let a ← m; pure a.l) (iTup K te) := by
  subst hK
  exact ⟨pi_tup h.pe, fun HF0 G HF H σ g xs hc R k => by
    obtain ⟨x, e1, hc⟩ := bind_ok hc
    cases pure_ok hc
    refine h.sem HF0 G HF H σ g x e1 _ fun v HF1 H1 fp s1 r1 _ _ => ?_
    obtain ⟨⟨q, us, e, h1, h2⟩, _⟩ := r1
    refine ⟨q, e, ⟨us, sqT_mono s1.sub h1⟩, k _ HF1 H1 s1 fun HF2 H2 i s1' s2 => ?_⟩
    have hq : SqT X.K H2 q us := sqT_mono s2 (sqT_mono s1' h1)
    refine ⟨fun x hx => ?_, fun hle => ⟨us, hq, by rw [h2.len]; exact hle⟩⟩
    obtain ⟨v, hv, r⟩ := h2.get' hx
    refine ⟨⟨us, v, hq, hv⟩, fun w H3 ⟨e, y⟩ => ?_⟩
    subst e
    have : us[i]? = some w := y us hq
    rw [hv] at this
    cases this
    exact ⟨HF2, Step.refl s2, Rp.mono s1' r⟩⟩
/-- lo, lo + 1, .. below hi -/
def rangeL (lo hi : Int) : List Int := (List.range (hi - lo).toNat).map fun (k : Nat) => lo + (k : Int)
theorem rangeL_len (lo hi : Int) : (rangeL lo hi).length = (hi - lo).toNat := by unfold rangeL; rw [List.length_map, List.length_range]
theorem rangeL_get {lo hi x : Int} {i : Nat} (h : (rangeL lo hi)[i]? = some x) : i < (hi - lo).toNat ∧ x = lo + i := by
  unfold rangeL at h
  rw [List.getElem?_map] at h
  cases q : (List.range (hi - lo).toNat)[i]? with
  | none => rw [q] at h; cases h
  | some j =>
    rw [q] at h
    obtain ⟨hlt, e⟩ := List.getElem?_eq_some_iff.mp q
    rw [List.getElem_range] at e
    rw [List.length_range] at hlt
    cases h
    subst e
    exact ⟨hlt, rfl⟩
theorem walks_range {K : PySem.W.Frag} {HF : Hp} (lo hi : Int) : Walks K (Itr lo (hi - lo).toNat) HF (rangeL lo hi) := fun HF2 H2 i s1 s2 => by
  refine ⟨fun x hx => ?_, fun hle => by rw [rangeL_len] at hle; exact hle⟩
  obtain ⟨h1, h2⟩ := rangeL_get hx
  refine ⟨h1, fun v H3 ⟨e, y⟩ => ?_⟩
  subst e
  exact ⟨HF2, Step.refl s2, by rw [y, h2]; rfl⟩
def rgB (j : Int) : Bool := decide (-(2 ^ 62) ≤ j) && decide (j < 2 ^ 62)
def range1 (j : Int) : M (List Int) := do gd (rgB j); pure (rangeL 0 j)
def range2 (i j : Int) : M (List Int) := do gd (rgB i && rgB j); pure (rangeL i j)
theorem ei_range1 {m : M Int} (hm : X.mg "range" = none) (h : EX X Γ a Ow.v m ta) (hg : Gl X "range" := by rfl) (hs : starEach [a] X.env = [(false, eval a X.env)] := by rfl) : EI X Γ tg (.Call (.Name "range" p) [a] [] pos) (do let a ← m; range1 a) (iRng1 (tCons ta tNil)) :=
  ⟨pi_range1 hg hm (pa_cons h.pe pa_nil (by exact hs)) hs, fun HF0 G HF H σ g xs hc R k => by
    obtain ⟨x, e1, hc⟩ := bind_ok hc
    obtain ⟨u, e2, hc⟩ := bind_ok hc
    cases pure_ok hc
    have e3 := gd_ok e2
    unfold rgB at e3
    rw [Bool.and_eq_true, decide_eq_true_eq, decide_eq_true_eq] at e3
    refine h.sem HF0 G HF H σ g x e1 _ fun v HF1 H1 fp s1 r1 _ _ => ⟨x, by rw [Fl.sh_iff.mp r1.1]; rfl, e3.1, e3.2, ?_⟩
    have w := walks_range (K := X.K) (HF := HF1) 0 x
    rw [Int.sub_zero] at w
    exact k _ HF1 H1 s1 w⟩
theorem ei_range2 {m n : M Int} (hm : X.mg "range" = none) (h : EX X Γ a Ow.v m ta) (h' : EX X Γ b Ow.v n tb) (hg : Gl X "range" := by rfl) (hs : starEach [a, b] X.env = [(false, eval a X.env), (false, eval b X.env)] := by rfl) (hs2 : starEach [b] X.env = [(false, eval b X.env)] := by rfl) : EI X Γ tg (.Call (.Name "range" p) [a, b] [] pos) (do let a ← m; let b ← n; range2 a b) (iRng2 (tCons ta (tCons tb tNil))) :=
  ⟨pi_range2 hg hm (pa_cons h.pe (pa_cons h'.pe pa_nil (by exact hs2)) (by rw [hs, hs2])) hs hs2, fun HF0 G HF H σ g xs hc R k => by
    obtain ⟨x, e1, hc⟩ := bind_ok hc
    obtain ⟨y, e2, hc⟩ := bind_ok hc
    obtain ⟨u, e3, hc⟩ := bind_ok hc
    cases pure_ok hc
    have e4 := gd_ok e3
    unfold rgB at e4
    simp only [Bool.and_eq_true, decide_eq_true_eq] at e4
    refine h.sem HF0 G HF H σ g x e1 _ fun v HF1 H1 fp s1 r1 _ _ => ?_
    refine h'.sem HF0 G HF1 H1 σ (g.step s1) y e2 _ fun w HF2 H2 fp s2 r2 _ _ => ⟨x, y, by rw [Fl.sh_iff.mp r1.1, Fl.sh_iff.mp r2.1]; rfl, ⟨e4.1.1, e4.1.2, e4.2.1, e4.2.2⟩, k _ HF2 H2 (s1.trans s2) (walks_range x y)⟩⟩
theorem ei_rev {K : PySem.W.Frag} [Rp α] {m : M (List α)} (hm : X.mg "reversed" = none) (h : EX X Γ a Ow.v m ta) (hg : Gl X "reversed" := by rfl) (hs : starEach [a] X.env = [(false, eval a X.env)] := by rfl) (hK : X.K = K := by rfl) : EI X Γ tg (.Call (.Name "reversed" p) [a] [] pos) (do let a ← m; pure a.reverse) (iRev K (tCons ta tNil)) := by
  subst hK
  exact ⟨pi_reversed hg hm (pa_cons h.pe pa_nil (by exact hs)) hs, fun HF0 G HF H σ g xs hc R k => by
    obtain ⟨x, e1, hc⟩ := bind_ok hc
    cases pure_ok hc
    refine h.sem HF0 G HF H σ g x e1 _ fun v HF1 H1 fp s1 r1 _ _ => ?_
    obtain ⟨⟨q, us, e, h1, h2⟩, _⟩ := r1
    subst e
    refine ⟨q, us, rfl, SqL.of (s1.sub _ _ h1), k _ HF1 H1 s1 fun HF2 H2 i a b => ?_⟩
    have hq : SqL X.K H2 q us := SqL.of (b _ _ (a _ _ h1))
    refine ⟨fun y hy => ?_, fun hle => by rw [List.length_reverse] at hle; show us.length ≤ i; rw [h2.len]; exact hle⟩
    obtain ⟨v, hv, r⟩ := h2.reverse.get' hy
    have hlt : i < us.length := by
      have := (List.getElem?_eq_some_iff.mp hv).1
      rwa [List.length_reverse] at this
    rw [List.getElem?_reverse hlt] at hv
    refine ⟨⟨hlt, us, v, hq, hv⟩, fun w H3 ⟨e, z⟩ => ?_⟩
    subst e
    have := z us hq
    rw [hv] at this
    cases this
    exact ⟨HF2, Step.refl b, Rp.mono a r⟩⟩
theorem ei_str {m : M Str} (h : EX X Γ e Ow.v m te) : EI X Γ tg e (do let a ← m; pure (a.cps.toList.map sgS)) (iStr te) :=
  ⟨pi_str h.pe, fun HF0 G HF H σ g xs hc R k => by
    obtain ⟨x, e1, hc⟩ := bind_ok hc
    cases pure_ok hc
    refine h.sem HF0 G HF H σ g x e1 _ fun v HF1 H1 fp s1 r1 _ _ => ⟨x, Fl.sh_iff.mp r1.1, k _ HF1 H1 s1 fun HF2 H2 i a b => ⟨fun y hy => ?_, fun hle => (by show x.cps.size ≤ i; simpa using hle)⟩⟩
    rw [List.getElem?_map] at hy
    cases q : x.cps.toList[i]? with
    | none => rw [q] at hy; cases hy
    | some c =>
      rw [q] at hy
      cases hy
      have q' : x.cps[i]? = some c := by simpa using q
      refine ⟨(Array.getElem?_eq_some_iff.mp q').1, fun w H3 ⟨e, d, hd, hw⟩ => ?_⟩
      subst e
      rw [q'] at hd
      cases hd
      exact ⟨HF2, Step.refl b, by rw [hw]; rfl⟩⟩
/-- a new tuple, shared at once -/
theorem Step.shr {HF H : Hp} {p : Addr} {o : HO} (s : Same HF H) (h : H p = none) : Step HF H (upd HF p o) (upd H p o) := by
  have hF : HF p = none := s.free h
  refine ⟨same_upd hF, same_upd h, fun q u e => ?_, fun q u e1 e2 => ?_⟩
  · by_cases hq : q = p
    · subst hq; rw [upd_same] at e ⊢; exact e
    · rw [upd_ne hq] at e ⊢; exact s q u e
  · by_cases hq : q = p
    · subst hq; exact h
    · rw [upd_ne hq] at e1; rw [e2] at e1; cases e1
def enumL {α : Type} (xs : List α) : List (Int × α) := (xs.zipIdx).map fun x => ((x.2 : Int), x.1)
theorem enumL_get {α : Type} {xs : List α} {i : Nat} {x : Int × α} (h : (enumL xs)[i]? = some x) : x.1 = i ∧ xs[i]? = some x.2 := by
  unfold enumL at h
  rw [List.getElem?_map, List.getElem?_zipIdx] at h
  cases q : xs[i]? with
  | none => rw [q] at h; cases h
  | some y =>
    rw [q] at h
    cases h
    exact ⟨by simp, rfl⟩
theorem enumL_len {α : Type} (xs : List α) : (enumL xs).length = xs.length := by unfold enumL; rw [List.length_map, List.length_zipIdx]
theorem ei_enum {K : PySem.W.Frag} [Rp α] {m : M (List α)} {elts : List Expr} {kk : Nat} {tpos : Pos} (hm : X.mg "enumerate" = none) (h : EX X Γ e Ow.v m te) (hg : Gl X "enumerate" := by rfl) (hs : starEach [e] X.env = [(false, eval e X.env)] := by rfl) (hK : X.K = K := by rfl) : EI X Γ (.Tuple elts kk tpos) (.Call (.Name "enumerate" p) [e] [] pos) (do let a ← m; pure (enumL a)) (iEnum K (tCons te tNil)) := by
  subst hK
  exact ⟨pi_enum hg hm (pa_cons h.pe pa_nil (by exact hs)) hs, fun HF0 G HF H σ g xs hc R k => by
    obtain ⟨x, e1, hc⟩ := bind_ok hc
    cases pure_ok hc
    refine h.sem HF0 G HF H σ g x e1 _ fun v HF1 H1 fp s1 r1 _ _ => ?_
    obtain ⟨⟨q, us, e, h1, h2⟩, _⟩ := r1
    subst e
    refine ⟨q, us, rfl, SqL.of (s1.sub _ _ h1), k _ HF1 H1 s1 fun HF2 H2 i a b => ?_⟩
    have hq : SqL X.K H2 q us := SqL.of (b _ _ (a _ _ h1))
    refine ⟨fun y hy => ?_, fun hle => ⟨us, hq, by rw [enumL_len] at hle; rw [h2.len]; exact hle⟩⟩
    obtain ⟨hy1, hy2⟩ := enumL_get hy
    obtain ⟨v, hv, r⟩ := h2.get' hy2
    refine ⟨⟨us, v, hq, hv⟩, fun w H3 ⟨T, z, e, hT, eH, y⟩ => ?_⟩
    subst e eH
    have : us[i]? = some z := y us hq
    rw [hv] at this
    cases this
    have st := Step.shr (o := .tup [.int (i : Nat), v]) b hT
    exact ⟨_, st, T, .int (i : Nat), v, rfl, SqT.of upd_same, by rw [hy1]; rfl, Rp.mono (a.trans st.exF) r⟩⟩
theorem zipL_get {α β : Type} {xs : List α} {ys : List β} {i : Nat} {x : α × β} (h : (xs.zip ys)[i]? = some x) : xs[i]? = some x.1 ∧ ys[i]? = some x.2 := by
  rw [List.getElem?_zip_eq_some] at h
  exact h
theorem ei_zip {K : PySem.W.Frag} [Rp α] [Rp β] {m : M (List α)} {n : M (List β)} {elts : List Expr} {kk : Nat} {tpos : Pos} (hm : X.mg "zip" = none) (h : EX X Γ a Ow.v m ta) (h' : EX X Γ b Ow.v n tb) (hg : Gl X "zip" := by rfl) (hs : starEach [a, b] X.env = (false, eval a X.env) :: starEach [b] X.env := by rfl) (hs2 : starEach [b] X.env = (false, eval b X.env) :: starEach [] X.env := by rfl)
    (hpi : ∀ {tz : TA}, Gl X "zip" → X.mg "zip" = none → PA X [a, b] tz → PI X (.Tuple elts kk tpos) (.Call (.Name "zip" p) [a, b] [] pos) (iZip X.K tz) := by exact fun h h' h'' => pi_zip h h' h'') (hK : X.K = K := by rfl) : EI X Γ (.Tuple elts kk tpos) (.Call (.Name "zip" p) [a, b] [] pos) (do let a ← m; let b ← n; pure (a.zip b)) (iZip K (tCons ta (tCons tb tNil))) := by
  subst hK
  exact ⟨hpi hg hm (pa_cons h.pe (pa_cons h'.pe pa_nil hs2) hs), fun HF0 G HF H σ g xs hc R k => by
    obtain ⟨x, e1, hc⟩ := bind_ok hc
    obtain ⟨y, e2, hc⟩ := bind_ok hc
    cases pure_ok hc
    refine h.sem HF0 G HF H σ g x e1 _ fun v HF1 H1 fp s1 r1 _ _ => ?_
    refine h'.sem HF0 G HF1 H1 σ (g.step s1) y e2 _ fun w HF2 H2 fp s2 r2 _ _ => ?_
    obtain ⟨⟨q, us, e, h1, h2⟩, _⟩ := r1
    obtain ⟨⟨q', us', e', h1', h2'⟩, _⟩ := r2
    subst e e'
    refine ⟨q, q', us, us', rfl, SqL.of (s2.sub _ _ (s2.exF _ _ h1)), SqL.of (s2.sub _ _ h1'), k _ HF2 H2 (s1.trans s2) fun HF3 H3 i a b => ?_⟩
    have hq : SqL X.K H3 q us := SqL.of (b _ _ (a _ _ (s2.exF _ _ h1)))
    have hq' : SqL X.K H3 q' us' := SqL.of (b _ _ (a _ _ h1'))
    refine ⟨fun z hz => ?_, fun hle => ⟨us, us', hq, hq', by rw [List.length_zip] at hle; rw [h2.len, h2'.len]; omega⟩⟩
    obtain ⟨z1, z2⟩ := zipL_get hz
    obtain ⟨v, hv, r⟩ := h2.get' z1
    obtain ⟨v', hv', r'⟩ := h2'.get' z2
    refine ⟨⟨us, us', v, v', hq, hq', hv, hv'⟩, fun w H4 ⟨T, z, z', e, hT, eH, y, y'⟩ => ?_⟩
    subst e eH
    have q1 : us[i]? = some z := y us hq
    rw [hv] at q1
    cases q1
    have q2 : us'[i]? = some z' := y' us' hq'
    rw [hv'] at q2
    cases q2
    have st := Step.shr (o := .tup [v, v']) b hT
    exact ⟨_, st, T, v, v', rfl, SqT.of upd_same, Rp.mono ((s2.exF.trans a).trans st.exF) r, Rp.mono (a.trans st.exF) r'⟩⟩
/-! ### list comprehensions -/
def compL {α β : Type} (t : α → M Bool) (f : α → M β) : List α → M (List β)
  | [] => pure []
  | x :: xs => do
    let b ← t x
    if b then do
      let y ← f x
      let ys ← compL t f xs
      pure (y :: ys)
    else compL t f xs
def compM {α β : Type} (xs : List α) (t : α → M Bool) (f : α → M β) : M (List β) := do gd (decide (xs.length ≤ sizeLine)); compL t f xs
def wipeC (Γ : Ctx) : List Nat → Ctx
  | [] => Γ
  | v :: vs => put (wipeC Γ vs) v .un
theorem Good.un {K : PySem.W.Frag} {HF0 G HF H : Hp} {Γ : Ctx} {σ : L2.St} (g : Good K HF0 G Γ HF H σ) (i : Nat) (x : Option V) (hi : i < Γ.length) : Good K HF0 G (put Γ i .un) HF H (σ.set i x) := by
  obtain ⟨fs, h1, h2, h3⟩ := g.held
  obtain ⟨fo, fr', q1, q2, q3, q4⟩ := h1.put hi
  obtain ⟨n1, n2, n3⟩ := q3 h2
  obtain ⟨fs', w1, w2, w3⟩ := q4 (HF' := HF) (H' := H) (s := .un) (x := x) (f := []) (fun _ h => h) (fun _ h => h) rfl
  exact ⟨g.sub, g.f0, g.g0, g.nf, fs', w1, w3 n1 List.nodup_nil (fun p hp => by cases hp), fun p hp => by
    rcases (w2 p).mp hp with z | z
    · cases z
    · exact h3 p ((q2 p).mpr (.inr z))⟩
theorem put_len : ∀ (Γ : Ctx) (i : Nat) (s : Sl), (put Γ i s).length = Γ.length
  | [], _, _ => rfl
  | _ :: _, 0, _ => rfl
  | _ :: Γ, i + 1, s => congrArg (· + 1) (put_len Γ i s)
theorem wipeC_len (Γ : Ctx) : ∀ vs : List Nat, (wipeC Γ vs).length = Γ.length
  | [] => rfl
  | v :: vs => by unfold wipeC; rw [put_len, wipeC_len Γ vs]
theorem Good.wipe {K : PySem.W.Frag} {HF0 G HF H : Hp} {Γ : Ctx} {σ : L2.St} (g : Good K HF0 G Γ HF H σ) : ∀ vs : List Nat, (∀ i ∈ vs, i < Γ.length) → Good K HF0 G (wipeC Γ vs) HF H (wipe σ vs)
  | [], _ => g
  | v :: vs, h => (Good.wipe g vs fun i hi => h i (List.mem_cons_of_mem _ hi)).un v none (by rw [wipeC_len]; exact h v (List.mem_cons_self ..))
theorem wipe_out' {σ : L2.St} {i : Nat} : ∀ {vs : List Nat}, i ∉ vs → (L2.wipe σ vs)[i]? = σ[i]?
  | [], _ => rfl
  | v :: vs, h => by
    unfold L2.wipe
    rw [List.getElem?_set_ne (fun e => h (by rw [e]; exact List.mem_cons_self ..))]
    exact wipe_out' fun z => h (List.mem_cons_of_mem _ z)
theorem wipe_in {σ : L2.St} {i : Nat} : ∀ {vs : List Nat}, i ∈ vs → i < σ.length → (L2.wipe σ vs)[i]? = some none
  | v :: vs, h, hl => by
    unfold L2.wipe
    by_cases e : v = i
    · subst e
      rw [List.getElem?_set_self (by rw [L2.wipe_length]; exact hl)]
    · rw [List.getElem?_set_ne e]
      exact wipe_in ((List.mem_cons.mp h).resolve_left fun z => e z.symm) hl
theorem wipe_ext {σ σ' : L2.St} {vs : List Nat} (hl : σ'.length = σ.length) (h : ∀ k, k ∉ vs → σ'[k]? = σ[k]?) : L2.wipe σ' vs = L2.wipe σ vs := by
  apply List.ext_getElem?
  intro i
  by_cases hi : i ∈ vs
  · by_cases hlt : i < σ.length
    · rw [wipe_in hi hlt, wipe_in hi (by rw [hl]; exact hlt)]
    · rw [List.getElem?_eq_none (by rw [L2.wipe_length]; omega), List.getElem?_eq_none (by rw [L2.wipe_length]; omega)]
  · rw [wipe_out' hi, wipe_out' hi, h i hi]
structure EF (X : Cx) (Γ : Ctx) (ifs : List Expr) (m : M Bool) (t : TT) : Prop where
  pts : PTs X ifs t
  sem : SemT X.K Γ t m
theorem ef_nil : EF X Γ [] (pure true) tYes := ⟨pts_nil, fun HF0 G HF H σ g c hc Q k => by cases pure_ok hc; exact k HF H (Step.refl g.sub)⟩
theorem ef_one {c : Expr} {m : M Bool} {t : TT} (h : ET X Γ c m t) : EF X Γ [c] m t := ⟨pts_one h.pt, h.sem⟩
theorem compL_le {α β : Type} {t : α → M Bool} {f : α → M β} : ∀ {xs : List α} {ys : List β}, compL t f xs = .ok ys → ys.length ≤ xs.length
  | [], ys, h => by cases pure_ok h; exact Nat.le_refl _
  | x :: xs, ys, h => by
    obtain ⟨b, e1, h⟩ := bind_ok h
    cases b with
    | false => exact Nat.le_succ_of_le (compL_le (xs := xs) h)
    | true =>
      obtain ⟨y, e2, h⟩ := bind_ok h
      obtain ⟨zs, e3, h⟩ := bind_ok h
      cases pure_ok h
      exact Nat.succ_le_succ (compL_le (xs := xs) e3)
/-- behind some turns: the items made, what is left -/
structure Cmp {α β : Type} [Rp α] [Rp β] (K : PySem.W.Frag) (HF1 H1 : Hp) (o : Ow β) (D : Addr) (tm : α → M Bool) (fm : α → M β) (xs : List α) (ys : List β) (i : Nat) (HF H : Hp) : Prop where
  st : Step HF1 H1 HF H
  fD : H1 D = none
  fF : HF D = none
  ex : ∃ vs fp zs rs, H D = some (.lst vs) ∧ Rl (o.rep K HF H) vs zs fp ∧ fp.Nodup ∧ (∀ p ∈ fp, H1 p = none ∧ HF p = none ∧ p ≠ D) ∧ zs.length ≤ i ∧ i ≤ xs.length ∧ compL tm fm (xs.drop i) = .ok rs ∧ zs ++ rs = ys
theorem Step.nn {HF1 H1 HF H : Hp} (s : Step HF1 H1 HF H) {p : Addr} {u : HO} (h : HF1 p = none) (e : H1 p = some u) : HF p = none := by
  cases q : HF p with
  | none => rfl
  | some w =>
    have := s.new p w q h
    rw [e] at this; cases this
theorem Rl.upd {α : Type} [Rp α] {K : PySem.W.Frag} {o : Ow α} {HF H : Hp} {vs : List V} {as : List α} {fp : List Addr} {p : Addr} {u : HO} (h : Rl (o.rep K HF H) vs as fp) (hp : p ∉ fp) : Rl (o.rep K HF (upd H p u)) vs as fp :=
  Rl.mono (fun v a f hf r => o.mono (Same.refl _) (fun q hq w e => by rw [upd_ne (fun z => hp (by rw [← z]; exact hf q hq))]; exact e) r) h
theorem Step.mutD {HF1 H1 HF H : Hp} {D : Addr} {u : HO} (s : Step HF1 H1 HF H) (h : H1 D = none) (hF : HF D = none) : Step HF1 H1 HF (upd H D u) :=
  ⟨s.exF, fun q w e => by rw [upd_ne (ne_of_none e h)]; exact s.exH q w e, fun q w e => by rw [upd_ne (ne_of_none e hF)]; exact s.sub q w e, s.new⟩
theorem ex_lc [Rp α] [Rp β] [Inhabited α] {o : Ow β} {elt iter : Expr} {ifs : List Expr} {scope : Scope} {own : List (Str × Nat)} {wi : TI} {g : TG} {tt : TT} {m : M (List α)} {tm : α → M Bool} {fm : α → M β} {Γt : α → Ctx} {js : List Nat} (hc : X.calm = true) (hN : X.N.Nodup)
    (hi : EI X Γ tg iter m wi) (ok : blkC X.N X.env.scope scope own = true) (hown : (own.map (·.2)).all (fun i => decide (i < Γ.length)) = true) (hjs : js.all (fun i => (own.map (·.2)).contains i) = true)
    (hg : ∀ (s : Shared) (H : Hp) (C : Addr) (cl : List (Str × Addr)) (fp : List Addr) (x : α), EG (X.blk s H scope (compEnvC scope cl C X.env) fp) (wipeC Γ (own.map (·.2))) tg g x (Γt x) js)
    (ht : ∀ (s : Shared) (H : Hp) (C : Addr) (cl : List (Str × Addr)) (fp : List Addr) (x : α), EF (X.blk s H scope (compEnvC scope cl C X.env) fp) (Γt x) ifs (tm x) tt)
    (he : ∀ (s : Shared) (H : Hp) (C : Addr) (cl : List (Str × Addr)) (fp : List Addr) (x : α), EX (X.blk s H scope (compEnvC scope cl C X.env) fp) (Γt x) elt o (fm x) te)
    (hs : ∀ x, foldedSetIterable iter X.env x = pure x := by intro _; rfl) :
    EX X Γ (.ListComp elt [⟨tg, iter, ifs, 0⟩] scope pos) (Ow.l o) (do let xs ← m; compM xs tm fm) (tLc wi g tt te (own.map (·.2))) :=
  ⟨pe_lc hc hN hi.pi (blkOk_by ok) (fun s H C cl fp => (hg s H C cl fp default).pg) (fun s H C cl fp => (ht s H C cl fp default).pts) (fun s H C cl fp => (he s H C cl fp default).pe) hs, fun HF0 G HF H σ gd' ys hys Q k => by
    obtain ⟨xs, e1, hys⟩ := bind_ok hys
    obtain ⟨u, e2, hys⟩ := bind_ok hys
    have hsz : xs.length ≤ sizeLine := of_decide_eq_true (gd_ok e2)
    have hown' : ∀ i ∈ own.map (·.2), i < Γ.length := fun i hi' => of_decide_eq_true (List.all_eq_true.mp hown i hi')
    have hjs' : ∀ k, k ∉ own.map (·.2) → k ∉ js := fun k hk z => hk (by simpa using List.all_eq_true.mp hjs k z)
    refine hi.sem HF0 G HF H σ gd' xs e1 _ fun J HF1 H1 s1 wk D hD => ?_
    have g1 := gd'.step s1
    refine ⟨fun i n H2 => n = xs.length - i ∧ ∃ HF2, Cmp X.K HF1 H1 o D tm fm xs ys i HF2 H2, ⟨xs.length, rfl, HF1, ?_⟩, ?_⟩
    · exact ⟨Step.own s1.sub hD, hD, s1.sub.free hD, [], [], [], ys, upd_same, rfl, List.nodup_nil, (fun p hp => by cases hp), Nat.le_refl _, Nat.zero_le _, hys, rfl⟩
    · rintro i n H2 ⟨rfl, HF2, st, fD, fF, vs, fp, zs, rs, eD, rl, nd, fr, hz, hix, hrs, hzr⟩
      have g2 := g1.step st
      have wk2 := wk HF2 H2 i st.exF st.sub
      have rdom := Rl.dom (fun v a f r => o.dom r) rl
      by_cases hlt : i < xs.length
      · refine .inr ?_
        have hx : xs[i]? = some xs[i] := List.getElem?_eq_getElem hlt
        obtain ⟨hgo, hy⟩ := wk2.1 _ hx
        rw [List.drop_eq_getElem_cons hlt] at hrs
        obtain ⟨b, eb, hrs⟩ := bind_ok hrs
        refine ⟨hgo, fun H' => ∃ HF', Cmp X.K HF1 H1 o D tm fm xs ys (i + 1) HF' H', fun H' h' => ⟨xs.length - (i + 1), by omega, rfl, h'⟩, fun x H3 hyl => ?_⟩
        obtain ⟨HF3, s3, rx⟩ := hy x H3 hyl
        have g3 := (g2.step s3).wipe (own.map (·.2)) hown'
        have hsem := (hg X.s_0 X.H_0 0 [] [] xs[i]).sem
        refine hsem HF0 G HF3 H3 (L2.wipe σ (own.map (·.2))) x g3 rx _ ?_
        intro σ' g4 hl hsame
        refine ⟨?_, ?_⟩
        · rw [wipe_ext (σ := L2.wipe σ (own.map (·.2))) hl fun k hk => hsame k (hjs' k hk)]
          exact wipe_ext (L2.wipe_length _ _) fun k hk => wipe_out' hk
        · have htsem := (ht X.s_0 X.H_0 0 [] [] xs[i]).sem
          refine htsem HF0 G HF3 H3 σ' g4 b eb _ fun HF4 H4 s4 => ?_
          have s34 := s3.trans s4
          have sT := st.trans s34
          cases b with
          | false =>
            refine iteF ⟨HF4, sT, fD, s34.nn fF eD, vs, fp, zs, rs, s34.exH _ _ eD, rl.step s34, nd, fun p hp => ?_, by omega, hlt, hrs, hzr⟩
            obtain ⟨f1, f2, f3⟩ := fr p hp
            obtain ⟨w, hw⟩ := rdom p hp
            exact ⟨f1, s34.nn f2 hw, f3⟩
          | true =>
            obtain ⟨y, ey, hrs⟩ := bind_ok hrs
            obtain ⟨rs', ers, hrs⟩ := bind_ok hrs
            have hr := pure_ok hrs
            have hesem := (he X.s_0 X.H_0 0 [] [] xs[i]).sem
            refine iteT (hesem HF0 G HF4 H4 σ' (g4.step s4) y ey _ fun v HF5 H5 fq s5 r5 n5 f5 => ?_)
            have s35 := s34.trans s5
            have sT5 := st.trans s35
            have eD5 := s35.exH _ _ eD
            have hDF : HF5 D = none := s35.nn fF eD
            have rl5 := rl.step s35
            have hDp : D ∉ fp := fun z => (fr D z).2.2 rfl
            have hDq : D ∉ fq := fun z => by
              have := (f5 D z).1
              rw [s34.exH _ _ eD] at this; cases this
            refine ⟨vs, eD5, ?_, HF5, sT5.mutD fD hDF, fD, hDF, vs ++ [v], fp ++ fq, zs ++ [y], rs', upd_same, ?_, ?_, fun p hp => ?_, ?_, hlt, ers, ?_⟩
            · rw [rl.len]; exact Nat.lt_of_le_of_lt hz (Nat.lt_of_lt_of_le hlt hsz)
            · exact Rl.append (rl5.upd hDp) (Rl.one (o.mono (Same.refl _) (fun q hq w e => by rw [upd_ne (fun z => hDq (by rw [← z]; exact hq))]; exact e) r5))
            · refine List.nodup_append.mpr ⟨nd, n5, fun p hp q hq e => ?_⟩
              subst e
              obtain ⟨w, hw⟩ := rdom p hp
              have := (f5 p hq).1
              rw [s34.exH _ _ hw] at this; cases this
            · rcases List.mem_append.mp hp with z | z
              · obtain ⟨f1, f2, f3⟩ := fr p z
                obtain ⟨w, hw⟩ := rdom p z
                exact ⟨f1, s35.nn f2 hw, f3⟩
              · exact ⟨(st.trans s34).exH.free (f5 p z).1, (f5 p z).2, fun e => hDq (e ▸ z)⟩
            · rw [List.length_append]; exact Nat.succ_le_succ hz
            · rw [List.append_assoc, ← hzr, ← hr]; rfl
      · refine .inl ⟨wk2.2 (by omega), ?_⟩
        have hnil : xs.drop i = [] := List.drop_eq_nil_of_le (by omega)
        rw [hnil] at hrs
        have hr := pure_ok hrs
        rw [← hr, List.append_nil] at hzr
        subst hzr
        exact k (.ref D) HF2 H2 (D :: fp) (s1.trans st) ⟨D, vs, fp, rfl, rfl, eD, rl⟩ (List.nodup_cons.mpr ⟨fun z => (fr D z).2.2 rfl, nd⟩) fun p hp => by
          rcases List.mem_cons.mp hp with e | z
          · subst e; exact ⟨s1.exH.free fD, fF⟩
          · exact ⟨s1.exH.free (fr p z).1, (fr p z).2.1⟩⟩
end
end Ty

namespace Ty
open PySem PySem.Spec PyProof.Rows L2

/-! ### statements -/
inductive Ctl (S L ρ : Type) where
  | nx (s : S)
  | bk (l : L)
  | ct (l : L)
  | rt (r : ρ)
/-- what is wanted of a block's ends: HFs: what was shared ahead of it -/
def EndsOk {S L ρ : Type} [Rp ρ] (K : PySem.W.Frag) (HF0 G HFs : Hp) (Γo : S → Ctx) (ΓL : L → Ctx) (o : Ow ρ) (D : Ends) : Ctl S L ρ → Prop
  | .nx s => ∀ HF H σ, Same HFs HF → Good K HF0 G (Γo s) HF H σ → D.nx σ H
  | .bk s => ∀ HF H σ, Same HFs HF → Good K HF0 G (ΓL s) HF H σ → D.bk σ H
  | .ct s => ∀ HF H σ, Same HFs HF → Good K HF0 G (ΓL s) HF H σ → D.ct σ H
  | .rt r => ∀ v HF H fp, Same HF H → Same HF0 HF → Same G H → (∀ p u, HF p = some u → HF0 p = none → G p = none) → o.rep K HF H v r fp → fp.Nodup → (∀ p ∈ fp, HF p = none ∧ G p = none) → o.out r D.rt v H
theorem EndsOk.mono {S L ρ : Type} [Rp ρ] {K : PySem.W.Frag} {HF0 G HFs HFt : Hp} {Γo : S → Ctx} {ΓL : L → Ctx} {o : Ow ρ} {D : Ends} {c : Ctl S L ρ} (e : Same HFs HFt) (h : EndsOk K HF0 G HFs Γo ΓL o D c) : EndsOk K HF0 G HFt Γo ΓL o D c := by
  cases c with
  | nx s => exact fun HF H σ a b => h HF H σ (e.trans a) b
  | bk s => exact fun HF H σ a b => h HF H σ (e.trans a) b
  | ct s => exact fun HF H σ a b => h HF H σ (e.trans a) b
  | rt r => exact h
def SemS {S L ρ : Type} [Rp ρ] (K : PySem.W.Frag) (Γ : Ctx) (t : TS) (Γo : S → Ctx) (ΓL : L → Ctx) (o : Ow ρ) (m : M (Ctl S L ρ)) : Prop :=
  ∀ HF0 G HF H σ, Good K HF0 G Γ HF H σ → ∀ c, m = .ok c → ∀ D : Ends, EndsOk K HF0 G HF Γo ΓL o D c → t D σ H
structure SS {S L ρ : Type} [Rp ρ] (X : Cx) (Γ : Ctx) (sts : List Stmt) (Γo : S → Ctx) (ΓL : L → Ctx) (o : Ow ρ) (m : M (Ctl S L ρ)) (t : TS) : Prop where
  pss : PSs X sts t
  sem : SemS X.K Γ t Γo ΓL o m
/-- Δ knows no more than Γ -/
inductive Sub : Ctx → Ctx → Prop where
  | n : Sub [] []
  | k {s : Sl} {Γ Δ : Ctx} : Sub Γ Δ → Sub (s :: Γ) (s :: Δ)
  | w {s : Sl} {Γ Δ : Ctx} : Sub Γ Δ → Sub (s :: Γ) (.un :: Δ)
theorem Sub.held {K : PySem.W.Frag} {HF H : Hp} {Γ Δ : Ctx} (h : Sub Γ Δ) : ∀ {σ : L2.St} {fs : List Addr}, Holds K HF H Γ σ fs → ∃ gs, Holds K HF H Δ σ gs ∧ (∀ p ∈ gs, p ∈ fs) ∧ (fs.Nodup → gs.Nodup) := by
  induction h with
  | n => exact fun {σ fs} h => ⟨fs, h, fun _ h => h, fun h => h⟩
  | @k s Γ Δ _ ih =>
    intro σ fs h
    cases σ with
    | nil => exact h.elim
    | cons x σ =>
      obtain ⟨f1, f2, h1, h2, h3⟩ := h
      obtain ⟨gs, q1, q2, q3⟩ := ih h3
      refine ⟨f1 ++ gs, ⟨f1, gs, rfl, h2, q1⟩, fun p hp => ?_, fun nd => ?_⟩
      · rw [h1]
        rcases List.mem_append.mp hp with z | z
        · exact List.mem_append_left _ z
        · exact List.mem_append_right _ (q2 p z)
      · rw [h1] at nd
        obtain ⟨a, b, c⟩ := List.nodup_append.mp nd
        exact List.nodup_append.mpr ⟨a, q3 b, fun p hp q hq e => c p hp q (q2 q hq) e⟩
  | @w s Γ Δ _ ih =>
    intro σ fs h
    cases σ with
    | nil => exact h.elim
    | cons x σ =>
      obtain ⟨f1, f2, h1, h2, h3⟩ := h
      obtain ⟨gs, q1, q2, q3⟩ := ih h3
      refine ⟨gs, ⟨[], gs, rfl, rfl, q1⟩, fun p hp => by rw [h1]; exact List.mem_append_right _ (q2 p hp), fun nd => ?_⟩
      rw [h1] at nd
      exact q3 (List.nodup_append.mp nd).2.1
theorem Sub.good {K : PySem.W.Frag} {HF0 G HF H : Hp} {Γ Δ : Ctx} {σ : L2.St} (h : Sub Γ Δ) (g : Good K HF0 G Γ HF H σ) : Good K HF0 G Δ HF H σ := by
  obtain ⟨fs, h1, h2, h3⟩ := g.held
  obtain ⟨gs, q1, q2, q3⟩ := h.held h1
  exact ⟨g.sub, g.f0, g.g0, g.nf, gs, q1, q3 h2, fun p hp => h3 p (q2 p hp)⟩
section
variable {X : Cx} {Γ : Ctx} {S L ρ α β γ A B S' : Type} [Rp ρ] {o : Ow ρ} {Γo : S → Ctx} {ΓL : L → Ctx} {a b e : Expr} {es : List Expr} {pos p apos : Pos} {ta tb te : TE} {t : TA} {sts : List Stmt} {tr tr' : TS}
theorem ss_nil (s : S) (h : Sub Γ (Γo s)) : SS X Γ [] Γo ΓL o (pure (.nx s)) tNext := ⟨pss_nil, fun HF0 G HF H σ g c hc D k => by cases pure_ok hc; exact k HF H σ (Same.refl _) (h.good g)⟩
theorem ss_pass {m : M (Ctl S L ρ)} (h : SS X Γ sts Γo ΓL o m tr) : SS X Γ (.Pass pos :: sts) Γo ΓL o m (tSeq tNext tr) :=
  ⟨pss_cons ps_pass h.pss, fun HF0 G HF H σ g c hc D k => h.sem HF0 G HF H σ g c hc D k⟩
theorem ss_break (s : L) (h : Sub Γ (ΓL s)) : SS X Γ [.Break pos] Γo ΓL o (pure (.bk s)) tBreak := ⟨pss_one ps_break, fun HF0 G HF H σ g c hc D k => by cases pure_ok hc; exact k HF H σ (Same.refl _) (h.good g)⟩
theorem ss_cont (s : L) (h : Sub Γ (ΓL s)) : SS X Γ [.Continue pos] Γo ΓL o (pure (.ct s)) tCont := ⟨pss_one ps_continue, fun HF0 G HF H σ g c hc D k => by cases pure_ok hc; exact k HF H σ (Same.refl _) (h.good g)⟩
theorem ss_ret {m : M ρ} (h : EX X Γ e o m te) (ho : ∀ r R v H, o.out r R v H → R v H := by exact fun _ _ _ _ h => h) : SS X Γ [.Return (some e) pos] Γo ΓL o (do let r ← m; pure (.rt r)) (tRet te) :=
  ⟨pss_one (ps_ret h.pe), fun HF0 G HF H σ g c hc D k => by
    obtain ⟨r, e1, hc⟩ := bind_ok hc
    cases pure_ok hc
    refine h.sem HF0 G HF H σ g r e1 _ fun v HF' H' fp st rr n f => ?_
    have g' := g.step st
    exact ho _ _ _ _ <| k v HF' H' fp st.sub g'.f0 g'.g0 g'.nf rr n fun p hp => ⟨(f p hp).2, g.g0.free (f p hp).1⟩⟩
/-- an own thing handed back -/
theorem ss_retO (i : Nat) {r : ρ} {x : Str} {pos' : Pos} (hl : look Γ i = .mk o r := by rfl) (hN : X.N[i]? = some x := by rfl) (hv : Vis X.env.scope x := by first | exact Or.inl rfl | exact Or.inr (Or.inl rfl) | exact Or.inr (Or.inr rfl)) (hd : (x == ("__debug__" : Str)) = false := by decide)
    (hcd : (x == ("__classdict__" : Str)) = false := by decide) (ho : ∀ r R v H, o.out r R v H → R v H := by exact fun _ _ _ _ h => h) : SS X Γ [.Return (some (.Name x pos')) pos] Γo ΓL o (pure (.rt r)) (tRet (tVar i)) :=
  ⟨pss_one (ps_ret (pe_var hN hv hd hcd)), fun HF0 G HF H σ g c hc D k => by
    cases pure_ok hc
    obtain ⟨fs, h1, h2, h3⟩ := g.held
    have hi : i < Γ.length := by
      by_cases z : i < Γ.length
      · exact z
      · exfalso
        have q : ∀ (Γ : Ctx) (i : Nat), ¬ i < Γ.length → look Γ i = .un := fun Γ => by
          induction Γ with
          | nil => intro i _; rfl
          | cons s Γ ih =>
            intro i h
            cases i with
            | zero => exact absurd (Nat.zero_lt_succ _) h
            | succ i => exact ih i fun z => h (Nat.succ_lt_succ z)
        rw [q Γ i z] at hl
        cases hl
    obtain ⟨fo, fr', q1, q2, q3, q4⟩ := h1.put hi
    rw [hl] at q1
    obtain ⟨v, e1, r1⟩ := q1
    refine ⟨v, ?_, ho _ _ _ _ <| k v HF H fo g.sub g.f0 g.g0 g.nf r1 (q3 h2).2.1 fun p hp => h3 p ((q2 p).mpr (.inl hp))⟩
    have hlen := h1.len
    rw [List.getElem?_eq_getElem (by omega)]
    rw [List.getD_eq_getElem?_getD, List.getElem?_eq_getElem (by omega)] at e1
    exact congrArg some e1⟩
theorem Good.set {K : PySem.W.Frag} {HF0 G HF H HF' H' : Hp} {σ : L2.St} {i : Nat} {v : V} [Rp α] {a : α} {u : Ow α} {fp : List Addr} (g : Good K HF0 G Γ HF H σ) (hi : i < Γ.length) (st : Step HF H HF' H') (r : u.rep K HF' H' v a fp) (n : fp.Nodup) (f : ∀ p ∈ fp, H p = none ∧ HF' p = none) : Good K HF0 G (put Γ i (.mk u a)) HF' H' (σ.set i (some v)) := by
  obtain ⟨fs, h1, h2, h3⟩ := g.held
  have g' := g.step st
  obtain ⟨fo, fr', q1, q2, q3, q4⟩ := h1.put hi
  obtain ⟨n1, n2, n3⟩ := q3 h2
  obtain ⟨fs', w1, w2, w3⟩ := q4 (HF' := HF') (H' := H') (s := .mk u a) (x := some v) (f := fp) (fun _ h => h.mono st.exF fun p _ o e => st.exH p o e) (fun _ h => h.mono st.exF fun p _ o e => st.exH p o e) ⟨v, rfl, r⟩
  refine ⟨g'.sub, g'.f0, g'.g0, g'.nf, fs', w1, w3 n1 n fun p hp hq => ?_, fun p hp => ?_⟩
  · obtain ⟨w, hw⟩ := h1.dom p ((q2 p).mpr (.inr hq))
    rw [(f p hp).1] at hw; cases hw
  · rcases (w2 p).mp hp with z | z
    · exact ⟨(f p z).2, g.g0.free (f p z).1⟩
    · obtain ⟨w, hw⟩ := h1.dom p ((q2 p).mpr (.inr z))
      exact ⟨st.nn (h3 p ((q2 p).mpr (.inr z))).1 hw, (h3 p ((q2 p).mpr (.inr z))).2⟩
/-- x = e -/
theorem ss_asg [Rp α] [Inhabited α] (i : Nat) {x : Str} {u : Ow α} {m : M α} {k : α → M (Ctl S L ρ)} {pos' : Pos} (hN : X.N.Nodup) (he : EX X Γ e u m te) (hr : ∀ a, SS X (put Γ i (.mk u a)) sts Γo ΓL o (k a) tr) (hlt : Nat.blt i Γ.length = true := by rfl) (hi : X.N[i]? = some x := by rfl) (hx : Loc X.env.scope x := by first | exact .inl rfl | exact .inr rfl)
    (hs : swapsWith e (some (.Name x pos')) pos.line X.env = pure false := by rfl) (hf : X.fn x = true ∨ X.env.scope.names.lookup x = some .local := by first | exact .inl rfl | exact .inr rfl) : SS X Γ (.Assign [.Name x pos'] e pos :: sts) Γo ΓL o (do let a ← m; k a) (tSeq (tAsg te (gName i)) tr) :=
  ⟨pss_cons (ps_set hN hi hx he.pe hs hf) (hr default).pss, fun HF0 G HF H σ g c hc D kk => by
    obtain ⟨y, e1, hc⟩ := bind_ok hc
    refine he.sem HF0 G HF H σ g y e1 _ fun v HF' H' fp st r n f => ?_
    exact (hr y).sem HF0 G HF' H' _ (g.set (of_blt hlt) st r n f) c hc D (kk.mono st.exF)⟩
/-- x = [..], x a local: the text's own way of storing -/
theorem ss_asgLc [Rp α] [Rp β] [Inhabited α] {o' : Ow β} (i : Nat) {y : Str} {py : Pos} {elt tg iter : Expr} {ifs : List Expr} {scope : Scope} {own : List (Str × Nat)} {wi : TI} {g : TG} {tt : TT} {m : M (List α)} {tm : α → M Bool} {fm : α → M β} {Γt : α → Ctx} {js : List Nat} {k : List β → M (Ctl S L ρ)} {cpos : Pos} (hc : X.calm = true) (hN : X.N.Nodup)
    (hi : EI X Γ tg iter m wi) (ok : blkC X.N X.env.scope scope own = true) (hown : (own.map (·.2)).all (fun i => decide (i < Γ.length)) = true) (hjs : js.all (fun i => (own.map (·.2)).contains i) = true)
    (hg : ∀ (s : Shared) (H : Hp) (C : Addr) (cl : List (Str × Addr)) (fp : List Addr) (x : α), EG (X.blk s H scope (compEnvC scope cl C X.env) fp) (wipeC Γ (own.map (·.2))) tg g x (Γt x) js)
    (ht : ∀ (s : Shared) (H : Hp) (C : Addr) (cl : List (Str × Addr)) (fp : List Addr) (x : α), EF (X.blk s H scope (compEnvC scope cl C X.env) fp) (Γt x) ifs (tm x) tt)
    (he : ∀ (s : Shared) (H : Hp) (C : Addr) (cl : List (Str × Addr)) (fp : List Addr) (x : α), EX (X.blk s H scope (compEnvC scope cl C X.env) fp) (Γt x) elt o' (fm x) te)
    (hr : ∀ a, SS X (put Γ i (.mk (Ow.l o') a)) sts Γo ΓL o (k a) tr)
    (hlt : Nat.blt i Γ.length = true := by rfl) (hy : X.N[i]? = some y := by rfl) (hyl : X.env.scope.names.lookup y = some .local := by rfl)
    (hsw : swapsWith (.ListComp elt [⟨tg, iter, ifs, 0⟩] scope cpos) (some (.Name y py)) pos.line X.env = pure true := by exact sw_true rfl rfl rfl (by decide +kernel))
    (hs : ∀ x, foldedSetIterable iter X.env x = pure x := by intro _; rfl) :
    SS X Γ (.Assign [.Name y py] (.ListComp elt [⟨tg, iter, ifs, 0⟩] scope cpos) pos :: sts) Γo ΓL o (do let a ← (do let xs ← m; compM xs tm fm); k a) (tSeq (tAsg (tLc wi g tt te (own.map (·.2))) (gName i)) tr) := by
  have q : EX X Γ (.ListComp elt [⟨tg, iter, ifs, 0⟩] scope cpos) (Ow.l o') (do let xs ← m; compM xs tm fm) (tLc wi g tt te (own.map (·.2))) := ex_lc hc hN hi ok hown hjs hg ht he hs
  exact ⟨pss_cons (ps_setLc hc hN hy hyl hsw hi.pi (blkOk_by ok) (fun s H C cl fp => (hg s H C cl fp default).pg) (fun s H C cl fp => (ht s H C cl fp default).pts) (fun s H C cl fp => (he s H C cl fp default).pe) hs) (hr default).pss, fun HF0 G HF H σ gd c hcc D kk => by
    obtain ⟨z, e1, hcc⟩ := bind_ok hcc
    show tLc wi g tt te (own.map (·.2)) σ H (fun x H1 => tr D (σ.set i (some x)) H1)
    refine q.sem HF0 G HF H σ gd z e1 _ fun v HF' H' fp st r n f => ?_
    exact (hr z).sem HF0 G HF' H' _ (gd.set (of_blt hlt) st r n f) c hcc D (kk.mono st.exF)⟩
/-- e alone, its value dropped -/
theorem ss_drop [Rp α] [Inhabited α] {u : Ow α} {m : M α} {k : M (Ctl S L ρ)} (he : EX X Γ e u m te) (hr : SS X Γ sts Γo ΓL o k tr) (hs : swapsWith e none pos.line X.env = pure false := by rfl) : SS X Γ (.Expr e pos :: sts) Γo ΓL o (do let _ ← m; k) (tSeq (tDrop te) tr) :=
  ⟨pss_cons (ps_expr he.pe hs) hr.pss, fun HF0 G HF H σ g c hc D kk => by
    obtain ⟨y, e1, hc⟩ := bind_ok hc
    refine he.sem HF0 G HF H σ g y e1 _ fun v HF' H' fp st r n f => ?_
    exact hr.sem HF0 G HF' H' σ (g.step st) c hc D (kk.mono st.exF)⟩
/-- if with an else or not, then the rest -/
def thenC {S1 : Type} (c : Ctl S1 L ρ) (k : S1 → M (Ctl S L ρ)) : M (Ctl S L ρ) := match c with
  | .nx s => k s
  | .bk l => pure (.bk l)
  | .ct l => pure (.ct l)
  | .rt r => pure (.rt r)
theorem ss_if {S1 : Type} [Inhabited S1] {c : Expr} {sa sb : List Stmt} {tc : TT} {t1 t2 : TS} {mc : M Bool} {ma mb : M (Ctl S1 L ρ)} {Γ1 : S1 → Ctx} {k : S1 → M (Ctl S L ρ)} (hc : ET X Γ c mc tc) (ha : SS X Γ sa Γ1 ΓL o ma t1) (hb : SS X Γ sb Γ1 ΓL o mb t2) (hr : ∀ s, SS X (Γ1 s) sts Γo ΓL o (k s) tr) :
    SS X Γ (.If c sa sb pos :: sts) Γo ΓL o (do let x ← mc; let y ← (if x then ma else mb); thenC y k) (tSeq (tIfS tc t1 t2) tr) :=
  ⟨pss_cons (ps_if hc.pt ha.pss hb.pss) (hr default).pss, fun HF0 G HF H σ g cc hcc D kk => by
    obtain ⟨x, e1, hcc⟩ := bind_ok hcc
    obtain ⟨y, e2, hcc⟩ := bind_ok hcc
    refine hc.sem HF0 G HF H σ g x e1 _ fun HF' H' st => ?_
    have kk' := kk.mono st.exF
    have fin : EndsOk X.K HF0 G HF' Γ1 ΓL o { D with nx := tr D } y := by
      cases y with
      | nx s => exact fun HF2 H2 σ2 a g2 => (hr s).sem HF0 G HF2 H2 σ2 g2 cc hcc D (kk'.mono a)
      | bk l => cases pure_ok (show (pure (.bk l) : M (Ctl S L ρ)) = .ok cc from hcc); exact kk'
      | ct l => cases pure_ok (show (pure (.ct l) : M (Ctl S L ρ)) = .ok cc from hcc); exact kk'
      | rt r => cases pure_ok (show (pure (.rt r) : M (Ctl S L ρ)) = .ok cc from hcc); exact kk'
    cases x with
    | true => exact iteT (ha.sem HF0 G HF' H' σ (g.step st) y e2 _ fin)
    | false => exact iteF (hb.sem HF0 G HF' H' σ (g.step st) y e2 _ fin)⟩
/-- if whose first branch leaves: nothing is joined -/
theorem ss_ifR {c : Expr} {sa : List Stmt} {tc : TT} {t1 : TS} {mc : M Bool} {ma : M (Ctl Empty L ρ)} {k : M (Ctl S L ρ)} (hc : ET X Γ c mc tc) (ha : SS X Γ sa (fun (_ : Empty) => []) ΓL o ma t1) (hr : SS X Γ sts Γo ΓL o k tr) :
    SS X Γ (.If c sa [] pos :: sts) Γo ΓL o (do let x ← mc; if x then (do let y ← ma; thenC y nofun) else k) (tSeq (tIfS tc t1 tNext) tr) :=
  ⟨pss_cons (ps_if hc.pt ha.pss pss_nil) hr.pss, fun HF0 G HF H σ g cc hcc D kk => by
    obtain ⟨x, e1, hcc⟩ := bind_ok hcc
    refine hc.sem HF0 G HF H σ g x e1 _ fun HF' H' st => ?_
    have kk' := kk.mono st.exF
    cases x with
    | true =>
      obtain ⟨y, e2, hcc⟩ := bind_ok hcc
      refine iteT (ha.sem HF0 G HF' H' σ (g.step st) y e2 _ ?_)
      cases y with
      | nx s => exact nomatch s
      | bk l => cases pure_ok (show (pure (.bk l) : M (Ctl S L ρ)) = .ok cc from hcc); exact kk'
      | ct l => cases pure_ok (show (pure (.ct l) : M (Ctl S L ρ)) = .ok cc from hcc); exact kk'
      | rt r => cases pure_ok (show (pure (.rt r) : M (Ctl S L ρ)) = .ok cc from hcc); exact kk'
    | false => exact iteF (hr.sem HF0 G HF' H' σ (g.step st) cc hcc D kk')⟩
/-- if at a block's end -/
theorem ss_ifE {c : Expr} {sa sb : List Stmt} {tc : TT} {t1 t2 : TS} {mc : M Bool} {ma mb : M (Ctl S L ρ)} (hc : ET X Γ c mc tc) (ha : SS X Γ sa Γo ΓL o ma t1) (hb : SS X Γ sb Γo ΓL o mb t2) :
    SS X Γ [.If c sa sb pos] Γo ΓL o (do let x ← mc; if x then ma else mb) (tIfS tc t1 t2) :=
  ⟨pss_one (ps_if hc.pt ha.pss hb.pss), fun HF0 G HF H σ g cc hcc D kk => by
    obtain ⟨x, e1, hcc⟩ := bind_ok hcc
    refine hc.sem HF0 G HF H σ g x e1 _ fun HF' H' st => ?_
    cases x with
    | true => exact iteT (ha.sem HF0 G HF' H' σ (g.step st) cc hcc _ (kk.mono st.exF))
    | false => exact iteF (hb.sem HF0 G HF' H' σ (g.step st) cc hcc _ (kk.mono st.exF))⟩

/-! ### loops -/
def loopM {α S ρ : Type} (f : α → S → M (Ctl S S ρ)) : List α → S → M (S ⊕ ρ)
  | [], s => pure (.inl s)
  | x :: xs, s => do
    let c ← f x s
    match c with
    | .nx s' => loopM f xs s'
    | .ct s' => loopM f xs s'
    | .bk s' => pure (.inl s')
    | .rt r => pure (.inr r)
def thenL (c : S' ⊕ ρ) (k : S' → M (Ctl S L ρ)) : M (Ctl S L ρ) := match c with
  | .inl s => k s
  | .inr r => pure (.rt r)
theorem ss_for [Rp α] [Inhabited α] {tg iter : Expr} {body : List Stmt} {wi : TI} {g : TG} {tb : TS} {js : List Nat} {m : M (List α)} {Γs : S' → Ctx} {Γt : S' → α → Ctx} {f : α → S' → M (Ctl S' S' ρ)} {k : S' → M (Ctl S L ρ)} (s0 : S') (hc : X.calm = true) (hxe : PassesOwn (model X.prog X.w) X.A X.env X.xe) (hi : EI X Γ tg iter m wi) (h0 : Sub Γ (Γs s0))
    (hg : ∀ s x, EG X (Γs s) tg g x (Γt s x) js) (hb : ∀ s x, SS X (Γt s x) body Γs Γs o (f x s) tb) (hr : ∀ s, SS X (Γs s) sts Γo ΓL o (k s) tr)
    (hs : ∀ x, foldedSetIterable iter X.env x = pure x := by intro _; rfl) : SS X Γ (.For tg iter body [] pos :: sts) Γo ΓL o (do let xs ← m; let c ← loopM f xs s0; thenL c k) (tSeq (tFor wi g tb) tr) :=
  ⟨pss_cons (ps_for hxe hc hi.pi (hg s0 default).pg (hb s0 default).pss hs) (hr s0).pss, fun HF0 G HF H σ gd cc hcc D kk => by
    obtain ⟨xs, e1, hcc⟩ := bind_ok hcc
    obtain ⟨c1, e2, hcc⟩ := bind_ok hcc
    refine hi.sem HF0 G HF H σ gd xs e1 _ fun J HF1 H1 st wk => ?_
    have kk' := kk.mono st.exF
    have nxt : ∀ s HF2 H2 σ2, c1 = .inl s → Same HF1 HF2 → Good X.K HF0 G (Γs s) HF2 H2 σ2 → tr D σ2 H2 := fun s HF2 H2 σ2 e a g2 => by
      subst e
      exact (hr s).sem HF0 G HF2 H2 σ2 g2 cc hcc D (kk'.mono a)
    refine ⟨fun i n σ2 H2 => n = xs.length - i ∧ i ≤ xs.length ∧ ∃ s HF2, Same HF1 HF2 ∧ Good X.K HF0 G (Γs s) HF2 H2 σ2 ∧ loopM f (xs.drop i) s = .ok c1, ⟨xs.length, rfl, Nat.zero_le _, s0, HF1, Same.refl _, h0.good (gd.step st), e2⟩, ?_⟩
    rintro i n σ2 H2 ⟨rfl, hix, s, HF2, a, g2, hl⟩
    have wk2 := wk HF2 H2 i a g2.sub
    by_cases hlt : i < xs.length
    · have hx : xs[i]? = some xs[i] := List.getElem?_eq_getElem hlt
      obtain ⟨hgo, hy⟩ := wk2.1 _ hx
      rw [List.drop_eq_getElem_cons hlt] at hl
      obtain ⟨c2, e3, hl⟩ := bind_ok hl
      refine .inr ⟨hgo, fun σ' H' => ∃ s' HF', Same HF1 HF' ∧ Good X.K HF0 G (Γs s') HF' H' σ' ∧ loopM f (xs.drop (i + 1)) s' = .ok c1, fun σ' H' h' => ⟨xs.length - (i + 1), by omega, rfl, hlt, h'⟩, fun x H3 hyl => ?_⟩
      obtain ⟨HF3, s3, rx⟩ := hy x H3 hyl
      refine (hg s xs[i]).sem HF0 G HF3 H3 σ2 x (g2.step s3) rx _ fun σ' g4 _ _ => ?_
      refine (hb s xs[i]).sem HF0 G HF3 H3 σ' g4 c2 e3 _ ?_
      have a3 := a.trans s3.exF
      cases c2 with
      | nx s' => exact fun HF5 H5 σ5 b g5 => ⟨s', HF5, a3.trans b, g5, hl⟩
      | ct s' => exact fun HF5 H5 σ5 b g5 => ⟨s', HF5, a3.trans b, g5, hl⟩
      | bk s' =>
        have e4 := pure_ok (show (pure (.inl s') : M (S' ⊕ ρ)) = .ok c1 from hl)
        exact fun HF5 H5 σ5 b g5 => nxt s' HF5 H5 σ5 e4.symm (a3.trans b) g5
      | rt r =>
        have e4 := pure_ok (show (pure (.inr r) : M (S' ⊕ ρ)) = .ok c1 from hl)
        subst e4
        cases pure_ok (show (pure (.rt r) : M (Ctl S L ρ)) = .ok cc from hcc)
        exact kk'
    · have hnil : xs.drop i = [] := List.drop_eq_nil_of_le (by omega)
      rw [hnil] at hl
      exact .inl ⟨wk2.2 (by omega), nxt s HF2 H2 σ2 (pure_ok hl).symm a g2⟩⟩
def whileM {S ρ : Type} (c : S → M Bool) (f : S → M (Ctl S S ρ)) : Nat → S → M (S ⊕ ρ)
  | 0, _ => no
  | n + 1, s => do
    let b ← c s
    if b then do
      let y ← f s
      match y with
      | .nx s' => whileM c f n s'
      | .ct s' => whileM c f n s'
      | .bk s' => pure (.inl s')
      | .rt r => pure (.inr r)
    else pure (.inl s)
theorem ss_while {c : Expr} {body : List Stmt} {tc : TT} {tb : TS} {Γs : S' → Ctx} {mc : S' → M Bool} {f : S' → M (Ctl S' S' ρ)} {k : S' → M (Ctl S L ρ)} (n : Nat) (s0 : S') (hxe : PassesOwn (model X.prog X.w) X.A X.env X.xe) (h0 : Sub Γ (Γs s0))
    (hc : ∀ s, ET X (Γs s) c (mc s) tc) (hb : ∀ s, SS X (Γs s) body Γs Γs o (f s) tb) (hr : ∀ s, SS X (Γs s) sts Γo ΓL o (k s) tr) : SS X Γ (.While c body [] pos :: sts) Γo ΓL o (do let y ← whileM mc f n s0; thenL y k) (tSeq (tWhile tc tb) tr) :=
  ⟨pss_cons (ps_while hxe (hc s0).pt (hb s0).pss) (hr s0).pss, fun HF0 G HF H σ gd cc hcc D kk => by
    obtain ⟨c1, e2, hcc⟩ := bind_ok hcc
    have nxt : ∀ s HF2 H2 σ2, c1 = .inl s → Same HF HF2 → Good X.K HF0 G (Γs s) HF2 H2 σ2 → tr D σ2 H2 := fun s HF2 H2 σ2 e a g2 => by
      subst e
      exact (hr s).sem HF0 G HF2 H2 σ2 g2 cc hcc D (kk.mono a)
    refine ⟨fun n σ2 H2 => ∃ s HF2, Same HF HF2 ∧ Good X.K HF0 G (Γs s) HF2 H2 σ2 ∧ whileM mc f n s = .ok c1, ⟨n, s0, HF, Same.refl _, h0.good gd, e2⟩, ?_⟩
    rintro n σ2 H2 ⟨s, HF2, a, g2, hl⟩
    cases n with
    | zero => cases hl
    | succ n =>
      obtain ⟨b, e3, hl⟩ := bind_ok hl
      refine (hc s).sem HF0 G HF2 H2 σ2 g2 b e3 _ fun HF3 H3 s3 => ?_
      have a3 := a.trans s3.exF
      cases b with
      | false =>
        have e4 := pure_ok (show (pure (.inl s) : M (S' ⊕ ρ)) = .ok c1 from hl)
        exact iteF (nxt s HF3 H3 σ2 e4.symm a3 (g2.step s3))
      | true =>
        obtain ⟨c2, e4, hl⟩ := bind_ok hl
        refine iteT ⟨fun σ' H' => ∃ s' HF', Same HF HF' ∧ Good X.K HF0 G (Γs s') HF' H' σ' ∧ whileM mc f n s' = .ok c1, fun σ' H' h' => ⟨n, Nat.lt_succ_self n, h'⟩, ?_⟩
        refine (hb s).sem HF0 G HF3 H3 σ2 (g2.step s3) c2 e4 _ ?_
        cases c2 with
        | nx s' => exact fun HF5 H5 σ5 b g5 => ⟨s', HF5, a3.trans b, g5, hl⟩
        | ct s' => exact fun HF5 H5 σ5 b g5 => ⟨s', HF5, a3.trans b, g5, hl⟩
        | bk s' =>
          have e5 := pure_ok (show (pure (.inl s') : M (S' ⊕ ρ)) = .ok c1 from hl)
          exact fun HF5 H5 σ5 b g5 => nxt s' HF5 H5 σ5 e5.symm (a3.trans b) g5
        | rt r =>
          have e5 := pure_ok (show (pure (.inr r) : M (S' ⊕ ρ)) = .ok c1 from hl)
          subst e5
          cases pure_ok (show (pure (.rt r) : M (Ctl S L ρ)) = .ok cc from hcc)
          exact kk⟩
/-- an own thing made shared from here on -/
theorem ss_frz [Rp α] (i : Nat) {u : Ow α} {x : α} {m : M (Ctl S L ρ)} (hl : look Γ i = .mk u x) (h : SS X (put Γ i (.mk Ow.v x)) sts Γo ΓL o m tr) (hlt : Nat.blt i Γ.length = true := by rfl) : SS X Γ sts Γo ΓL o m tr :=
  ⟨h.pss, fun HF0 G HF H σ g c hc D k => by
    obtain ⟨fs, h1, h2, h3⟩ := g.held
    obtain ⟨fo, fr', q1, q2, q3, q4⟩ := h1.put (of_blt hlt)
    obtain ⟨n1, n2, n3⟩ := q3 h2
    rw [hl] at q1
    obtain ⟨v, e1, r1⟩ := q1
    have hF : ∀ p ∈ fo, HF p = none := fun p hp => (h3 p ((q2 p).mpr (.inl hp))).1
    have sF : Same HF (plus HF H fo) := plus_same hF
    obtain ⟨fs', w1, w2, w3⟩ := q4 (HF' := plus HF H fo) (H' := H) (s := .mk Ow.v x) (x := some v) (f := []) (fun _ h => h.mono sF fun p _ o e => e) (fun _ h => h.mono sF fun p _ o e => e) ⟨v, rfl, u.frz sF plus_at r1, rfl⟩
    have eσ : σ.set i (some v) = σ := by
      have hlen := h1.len
      have hlt := of_blt hlt
      apply List.ext_getElem?
      intro j
      by_cases hj : i = j
      · subst hj
        rw [List.getElem?_set_self (by omega), List.getElem?_eq_getElem (by omega)]
        rw [List.getD_eq_getElem?_getD, List.getElem?_eq_getElem (by omega)] at e1
        exact congrArg some e1.symm
      · rw [List.getElem?_set_ne hj]
    refine h.sem HF0 G (plus HF H fo) H σ ⟨plus_sub g.sub, g.f0.trans sF, g.g0, fun p w e en => ?_, fs', by rw [← eσ]; exact w1, w3 n1 List.nodup_nil (fun p hp => by cases hp), fun p hp => ?_⟩ c hc D (k.mono sF)
    · by_cases hp : p ∈ fo
      · exact (h3 p ((q2 p).mpr (.inl hp))).2
      · rw [plus_out hp] at e; exact g.nf p w e en
    · rcases (w2 p).mp hp with z | z
      · cases z
      · rw [plus_out fun z' => n3 p z' z]
        exact h3 p ((q2 p).mpr (.inr z))⟩
end

/-! ### a def -/
def runC {ρ : Type} (m : M (Ctl Unit Empty ρ)) : M ρ := do
  let c ← m
  match c with
  | .rt r => pure r
  | _ => no
def spF {A ρ : Type} [Rp ρ] (K : PySem.W.Frag) (r : As A) (o : Ow ρ) (f : A → M ρ) : Sp := fun vs H Q _ =>
  ∃ HF a c, Same HF H ∧ r.rep K HF vs a ∧ f a = .ok c ∧ RetK K HF H o c Q
section
variable {P : Program} {w : World} {K : PySem.W.Frag} {mg : Str → Option Value} {base : Heap}
theorem fn_ok {A ρ : Type} [Rp ρ] {x qual : Str} {st : Stmt} {f : Addr} {fd : FuncData} {N ps : List Str} {k : Nat} {r : As A} {o : Ow ρ} {m : A → M (Ctl Unit Empty ρ)} {t : A → TS} (F : Fun K x qual st f fd) (S : FnScope N ps (defScope st)) (hn : r.n = ps.length) (hN : N.length = r.n + (N.length - r.n))
    (body : ∀ (cdv : Value) (A' : Around) (outer : List Env) (s : Shared) (H : Hp) (E : XK), Room k (A'.deeper (envOfC qual (defScope st) s.heap.objs.size f cdv)) → ∀ a : A,
      SS (cxOf CX0 P w K mg base N qual (defScope st) f cdv A' outer s H E).nox (r.ctx a ++ List.replicate (N.length - r.n) .un) (defBody st) (fun (_ : Unit) => []) (fun (_ : Empty) => []) o (m a) (t a))
    (ho : ∀ r R v H, R v H → o.out r R v H := by exact fun _ _ _ _ h => h) :
    FnOk P w K mg base CX0 (k + 1) f fd ps (spF K r o fun a => runC (m a)) := by
  refine F.ok S (fun vs H Q E h => ?_) (fun cdv A' outer s H vs Q E hr h => ?_)
  · obtain ⟨HF, a, c, h1, h2, h3, h4⟩ := h
    rw [r.len h2, hn]
  · obtain ⟨HF, a, c, h1, h2, h3, h4⟩ := h
    have q := body cdv A' outer s H E hr a
    refine ⟨t a, q.pss, ?_⟩
    obtain ⟨c', e1, h3⟩ := bind_ok h3
    have hl := r.len h2
    have hd := r.held (HF := HF) (H := H) (N.length - r.n) h2
    have es : L2.start N vs = vs.map some ++ List.replicate (N.length - r.n) none := by unfold L2.start; rw [hl]
    refine q.sem HF H HF H (L2.start N vs) ⟨h1, Same.refl _, Same.refl _, (fun p u a b => by rw [a] at b; cases b), [], by rw [es]; exact hd, List.nodup_nil, fun p hp => by cases hp⟩ c' e1 _ ?_
    cases c' with
    | nx s => cases h3
    | bk l => exact nomatch l
    | ct l => exact nomatch l
    | rt r' =>
      cases pure_ok (show (pure r' : M ρ) = .ok c from h3)
      exact fun v HF' H' fp a b c' d rr n ff => ho _ _ _ _ <| h4 v HF' H' fp ⟨b, c', a, d⟩ rr n fun p hp => ⟨(ff p hp).2, (ff p hp).1⟩
theorem spF_eq {A ρ : Type} [Rp ρ] {K : PySem.W.Frag} {r : As A} {o : Ow ρ} {f g : A → M ρ} (h : ∀ a, f a = g a) : spF K r o f = spF K r o g := by
  have e : f = g := funext h
  rw [e]
end
section
variable {X : Cx} {Γ : Ctx} {A ρ : Type} {e : Expr} {es : List Expr} {p pos : Pos} {t : TA}
theorem ex_call [Rp ρ] {K : PySem.W.Frag} {k : Nat} {f : Addr} {fd : FuncData} {ps : List Str} {x : Str} {r : As A} {o : Ow ρ} {fm : A → M ρ} {m : M A} (F : FnOk X.prog X.w X.K X.mg X.base CX0 k f fd ps (spF K r o fm)) (hr : Room k X.A) (hm : X.mg x = some (.ref f)) (hk : PySem.W.keepIn X.K (.ref f) = true) (hb : Binds X.K fd ps [])
    (ha : EA X Γ (e :: es) r m t) (hg : Gl X x := by rfl) (hdb : (x == ("__debug__" : Str)) = false := by decide) (he : starEach (e :: es) X.env = (false, eval e X.env) :: starEach es X.env := by rfl) (hpl : (backTo pos (starEach es X.env)).any (·.1) = false := by rfl) (hK : X.K = K := by rfl) :
    EX X Γ (.Call (.Name x p) (e :: es) [] pos) o (do let a ← m; fm a) (tCall (spF K r o fm) [] E0 t) := by
  subst hK
  exact ⟨pe_call F hr hg hm hk hb .nil pass0 ha.pa hdb he hpl, fun HF0 G HF H σ g c hc Q kk => by
    obtain ⟨x, e1, hc⟩ := bind_ok hc
    refine ha.sem HF0 G HF H σ g x e1 _ fun vs HF1 H1 s1 r1 => ?_
    show spF X.K r o fm (vs ++ []) H1 Q E0
    rw [List.append_nil]
    exact ⟨HF1, x, c, s1.sub, r1, hc, kk.back s1⟩⟩
end
end Ty

namespace Ty
open PySem PySem.Spec PyProof.Rows L2

instance : Inhabited Str := ⟨Str.empty⟩
instance : Inhabited Scr := ⟨⟨[]⟩⟩
instance {α : Type} : Inhabited (Tu α) := ⟨⟨[]⟩⟩
instance {α β γ : Type} [Inhabited α] [Inhabited β] [Inhabited γ] : Inhabited (T3 α β γ) := ⟨⟨default, default, default⟩⟩
theorem look_lt : ∀ {Γ : Ctx} {i : Nat}, look Γ i ≠ .un → i < Γ.length
  | [], _, h => absurd rfl h
  | _ :: _, 0, _ => Nat.zero_lt_succ _
  | _ :: Γ, i + 1, h => Nat.succ_lt_succ (look_lt (Γ := Γ) (i := i) h)
theorem look_lt' {α : Type} [Rp α] {Γ : Ctx} {i : Nat} {u : Ow α} {a : α} (h : look Γ i = .mk u a) : i < Γ.length := look_lt (by rw [h]; exact fun e => nomatch e)
theorem set_self {σ : L2.St} {i : Nat} {v : V} (h : σ[i]? = some (some v)) : σ.set i (some v) = σ := by
  apply List.ext_getElem?
  intro j
  by_cases hj : i = j
  · subst hj
    rw [List.getElem?_set_self (List.getElem?_eq_some_iff.mp h).1, h]
  · rw [List.getElem?_set_ne hj]
/-- an own thing, taken out and put back changed -/
theorem Good.take {K : PySem.W.Frag} {HF0 G HF H : Hp} {Γ : Ctx} {σ : L2.St} {i : Nat} {α : Type} [Rp α] {u : Ow α} {a : α} (g : Good K HF0 G Γ HF H σ) (hl : look Γ i = .mk u a) :
    ∃ v fo, σ[i]? = some (some v) ∧ u.rep K HF H v a fo ∧ fo.Nodup ∧ (∀ p ∈ fo, HF p = none ∧ G p = none) ∧
      ∀ {HF1 H1 H' : Hp} {β : Type} [Rp β] {u' : Ow β} {b : β} {v' : V} {f' : List Addr}, Step HF H HF1 H1 → (∀ p w, p ∉ fo → H1 p = some w → H' p = some w) → u'.rep K HF1 H' v' b f' → f'.Nodup → (∀ p ∈ f', p ∈ fo ∨ (H p = none ∧ HF1 p = none)) →
        Good K HF0 G (put Γ i (.mk u' b)) HF1 H' (σ.set i (some v')) := by
  have hi := look_lt' hl
  obtain ⟨fs, h1, h2, h3⟩ := g.held
  obtain ⟨fo, fr', q1, q2, q3, q4⟩ := h1.put hi
  obtain ⟨n1, n2, n3⟩ := q3 h2
  rw [hl] at q1
  obtain ⟨v, e1, r1⟩ := q1
  have hlen := h1.len
  have hσ : σ[i]? = some (some v) := by
    rw [List.getElem?_eq_getElem (by omega)]
    rw [List.getD_eq_getElem?_getD, List.getElem?_eq_getElem (by omega)] at e1
    exact congrArg some e1
  have hfo : ∀ p ∈ fo, HF p = none ∧ G p = none := fun p hp => h3 p ((q2 p).mpr (.inl hp))
  have hfr : ∀ p ∈ fr', HF p = none ∧ G p = none := fun p hp => h3 p ((q2 p).mpr (.inr hp))
  refine ⟨v, fo, hσ, r1, n2, hfo, ?_⟩
  intro HF1 H1 H' β _ u' b v' f' st hk hr hnd hf
  have g' := g.step st
  have kp : ∀ {f : List Addr}, (∀ p ∈ f, p ∈ fr') → ∀ p ∈ f, ∀ o, H p = some o → H' p = some o := fun hp p hm o e => hk p o (fun z => n3 p z (hp p hm)) (st.exH p o e)
  obtain ⟨fs', w1, w2, w3⟩ := q4 (HF' := HF1) (H' := H') (s := .mk u' b) (x := some v') (f := f') (fun hp h => h.mono st.exF (kp hp)) (fun hp h => h.mono st.exF (kp hp)) ⟨v', rfl, hr⟩
  have dm := h1.dom
  refine ⟨fun p w e => hk p w (fun z => ?_) (st.sub p w e), g'.f0, fun p w e => hk p w (fun z => ?_) (g'.g0 p w e), g'.nf, fs', w1, w3 n1 hnd fun p hp hq => ?_, fun p hp => ?_⟩
  · obtain ⟨w', hw⟩ := dm p ((q2 p).mpr (.inl z))
    rw [st.nn (hfo p z).1 hw] at e; cases e
  · rw [(hfo p z).2] at e; cases e
  · rcases hf p hp with z | z
    · exact n3 p z hq
    · obtain ⟨w', hw⟩ := dm p ((q2 p).mpr (.inr hq))
      rw [z.1] at hw; cases hw
  · rcases (w2 p).mp hp with z | z
    · rcases hf p z with z | z
      · obtain ⟨w', hw⟩ := dm p ((q2 p).mpr (.inl z))
        exact ⟨st.nn (hfo p z).1 hw, (hfo p z).2⟩
      · exact ⟨z.2, g.g0.free z.1⟩
    · obtain ⟨w', hw⟩ := dm p ((q2 p).mpr (.inr z))
      exact ⟨st.nn (hfr p z).1 hw, (hfr p z).2⟩
def appM {α : Type} (as : List α) (a : α) : M (List α) := do gd (decide (as.length < sizeLine)); pure (as ++ [a])
section
variable {X : Cx} {Γ : Ctx} {S L ρ α β γ A B S' : Type} [Rp ρ] {o : Ow ρ} {Γo : S → Ctx} {ΓL : L → Ctx} {a b e : Expr} {es : List Expr} {pos p apos cpos : Pos} {ta tb te : TE} {t : TA} {sts : List Stmt} {tr tr' : TS}
/-- x.append(e) -/
theorem ss_app [Rp α] (i : Nat) {u : Ow α} {as : List α} {x : Str} {m : M α} {k : List α → M (Ctl S L ρ)} (he : EX X Γ e u m te) (hr : ∀ l, SS X (put Γ i (.mk (Ow.l u) l)) sts Γo ΓL o (k l) tr) (hl : look Γ i = .mk (Ow.l u) as := by rfl) (hN : X.N[i]? = some x := by rfl) (hv : Vis X.env.scope x := by first | exact Or.inl rfl | exact Or.inr (Or.inl rfl) | exact Or.inr (Or.inr rfl)) (hd : (x == ("__debug__" : Str)) = false := by decide)
    (hcd : (x == ("__classdict__" : Str)) = false := by decide)
    (hpe : ∀ {to : TE} {tt : TA}, PE X (.Name x p) to → PA X [e] tt → PE X (.Call (.Attribute (.Name x p) "append" apos) [e] [] cpos) (tBM X.K "list" rAppend to tt) := by exact fun h h' => pe_bm PySem.F.plainAttrs_list PySem.F.slot_list_append PySem.F.type_list_append mt_append h h')
    (h1 : starEach [e] X.env = (false, eval e X.env) :: starEach [] X.env := by rfl)
    (hs : swapsWith (.Call (.Attribute (.Name x p) "append" apos) [e] [] cpos) none pos.line X.env = pure false := by rfl) :
    SS X Γ (.Expr (.Call (.Attribute (.Name x p) "append" apos) [e] [] cpos) pos :: sts) Γo ΓL o (do let a ← m; let l ← appM as a; k l) (tSeq (tDrop (tBM X.K "list" rAppend (tVar i) (tCons te tNil))) tr) :=
  ⟨pss_cons (ps_expr (hpe (pe_var hN hv hd hcd) (pa_cons he.pe pa_nil h1)) hs) (hr []).pss, fun HF0 G HF H σ g c hc D kk => by
    obtain ⟨y, e1, hc⟩ := bind_ok hc
    obtain ⟨l, e2, hc⟩ := bind_ok hc
    obtain ⟨w, e3, e2⟩ := bind_ok e2
    have e4 := pure_ok e2
    subst e4
    obtain ⟨v, fo, hσ, ⟨q, vs, fq, h1, h2, h3, h4⟩, nd, hfo, back⟩ := g.take hl
    subst h1 h2
    refine ⟨.ref q, hσ, .inl ⟨rfl, vs, SqL.of h3⟩, ?_⟩
    refine he.sem HF0 G HF H σ g y e1 _ fun v' HF1 H1 fp st r n f => ?_
    refine ⟨q, vs, v', rfl, rfl, st.exH _ _ h3, by rw [h4.len]; exact of_decide_eq_true (gd_ok e3), ?_⟩
    have hqn : q ∉ fq := (List.nodup_cons.mp nd).1
    have hqp : q ∉ fp := fun z => by
      have := (f q z).1
      rw [h3] at this; cases this
    have gg := back (u' := Ow.l u) (b := as ++ [y]) (v' := .ref q) (f' := q :: (fq ++ fp)) (H' := upd H1 q (.lst (vs ++ [v']))) st (fun p w hp e => by rw [upd_ne (fun z => hp (by rw [z]; exact List.mem_cons_self ..))]; exact e)
      ⟨q, vs ++ [v'], fq ++ fp, rfl, rfl, upd_same, Rl.append ((Rl.step h4 st).upd hqn) (Rl.one (u.mono (Same.refl _) (fun p hp w e => by rw [upd_ne (fun z => hqp (by rw [← z]; exact hp))]; exact e) r))⟩
      (List.nodup_cons.mpr ⟨fun z => (List.mem_append.mp z).elim hqn hqp, List.nodup_append.mpr ⟨(List.nodup_cons.mp nd).2, n, fun p hp p' hp' e => by
        subst e
        obtain ⟨w', hw⟩ := Rl.dom (fun v a f r => u.dom r) h4 p hp
        rw [(f p hp').1] at hw; cases hw⟩⟩)
      (fun p hp => by
        rcases List.mem_cons.mp hp with z | z
        · exact .inl (by rw [z]; exact List.mem_cons_self ..)
        · rcases List.mem_append.mp z with z | z
          · exact .inl (List.mem_cons_of_mem _ z)
          · exact .inr (f p z))
    rw [set_self hσ] at gg
    exact (hr (as ++ [y])).sem HF0 G HF1 _ σ gg c hc D (kk.mono st.exF)⟩
/-- from two own things: the one at j is given away -/
theorem Good.give {K : PySem.W.Frag} {HF0 G HF H : Hp} {σ : L2.St} {i j : Nat} [Rp α] [Rp β] {u : Ow α} {w : Ow β} {x : α} {y : β} (g : Good K HF0 G Γ HF H σ) (hj : look Γ j = .mk w y) :
    ∃ v fj, σ[j]? = some (some v) ∧ w.rep K HF H v y fj ∧ fj.Nodup ∧ (∀ p ∈ fj, HF p = none ∧ G p = none) ∧
      ∀ {Γ' : Ctx}, Γ' = put Γ j .un → look Γ' i = .mk u x → ∃ v' fo, σ[i]? = some (some v') ∧ u.rep K HF H v' x fo ∧ fo.Nodup ∧ (∀ p ∈ fo, HF p = none ∧ G p = none) ∧ (∀ p ∈ fo, p ∉ fj) ∧
        ∀ {H' : Hp} {γ : Type} [Rp γ] {u' : Ow γ} {b : γ} {v'' : V} {f' : List Addr}, (∀ p w, p ∉ fo → p ∉ fj → H p = some w → H' p = some w) → u'.rep K HF H' v'' b f' → f'.Nodup → (∀ p ∈ f', p ∈ fo ∨ p ∈ fj) →
          Good K HF0 G (put Γ' i (.mk u' b)) HF H' (σ.set i (some v'')) := by
  have hjl := look_lt' hj
  obtain ⟨fs, h1, h2, h3⟩ := g.held
  obtain ⟨fo, fr', q1, q2, q3, q4⟩ := h1.put hjl
  obtain ⟨n1, n2, n3⟩ := q3 h2
  rw [hj] at q1
  obtain ⟨v, e1, r1⟩ := q1
  have hlen := h1.len
  have hσ : σ[j]? = some (some v) := by
    rw [List.getElem?_eq_getElem (by omega)]
    rw [List.getD_eq_getElem?_getD, List.getElem?_eq_getElem (by omega)] at e1
    exact congrArg some e1
  refine ⟨v, fo, hσ, r1, n2, fun p hp => h3 p ((q2 p).mpr (.inl hp)), ?_⟩
  intro Γ' eΓ hl
  subst eΓ
  obtain ⟨fs', w1, w2, w3⟩ := q4 (HF' := HF) (H' := H) (s := .un) (x := some v) (f := []) (fun _ h => h) (fun _ h => h) rfl
  rw [set_self hσ] at w1
  have hi := look_lt' hl
  obtain ⟨fi, fr2, p1, p2, p3, p4⟩ := w1.put hi
  have nd' := w3 n1 List.nodup_nil (fun p hp => by cases hp)
  obtain ⟨m1, m2, m3⟩ := p3 nd'
  rw [hl] at p1
  obtain ⟨v', e2, r2⟩ := p1
  have hlen' := w1.len
  have hσ' : σ[i]? = some (some v') := by
    rw [List.getElem?_eq_getElem (by omega)]
    rw [List.getD_eq_getElem?_getD, List.getElem?_eq_getElem (by omega)] at e2
    exact congrArg some e2
  have inr : ∀ p, p ∈ fs' → p ∈ fr' := fun p hp => ((w2 p).mp hp).elim (fun z => by cases z) id
  have hfi : ∀ p ∈ fi, p ∈ fr' := fun p hp => inr p ((p2 p).mpr (.inl hp))
  have hfr2 : ∀ p ∈ fr2, p ∈ fr' := fun p hp => inr p ((p2 p).mpr (.inr hp))
  refine ⟨v', fi, hσ', r2, m2, fun p hp => h3 p ((q2 p).mpr (.inr (hfi p hp))), fun p hp z => n3 p z (hfi p hp), ?_⟩
  intro H' γ _ u' b v'' f' hk hr hnd hf
  have kp : ∀ {f : List Addr}, (∀ p ∈ f, p ∈ fr2) → ∀ p ∈ f, ∀ o, H p = some o → H' p = some o := fun hp p hm o e => hk p o (fun z => m3 p z (hp p hm)) (fun z => n3 p z (hfr2 p (hp p hm))) e
  obtain ⟨gs, x1, x2, x3⟩ := p4 (HF' := HF) (H' := H') (s := .mk u' b) (x := some v'') (f := f') (fun hp h => h.mono (Same.refl _) (kp hp)) (fun hp h => h.mono (Same.refl _) (kp hp)) ⟨v'', rfl, hr⟩
  have hF : ∀ p, p ∈ fi ∨ p ∈ fo → HF p = none ∧ G p = none := fun p hp => hp.elim (fun z => h3 p ((q2 p).mpr (.inr (hfi p z)))) fun z => h3 p ((q2 p).mpr (.inl z))
  refine ⟨fun p w e => hk p w (fun z => ?_) (fun z => ?_) (g.sub p w e), g.f0, fun p w e => hk p w (fun z => ?_) (fun z => ?_) (g.g0 p w e), g.nf, gs, x1, x3 m1 hnd fun p hp hq => ?_, fun p hp => ?_⟩
  · rw [(hF p (.inl z)).1] at e; cases e
  · rw [(hF p (.inr z)).1] at e; cases e
  · rw [(hF p (.inl z)).2] at e; cases e
  · rw [(hF p (.inr z)).2] at e; cases e
  · rcases hf p hp with z | z
    · exact m3 p z hq
    · exact n3 p z (hfr2 p hq)
  · rcases (x2 p).mp hp with z | z
    · exact hF p (hf p z)
    · exact h3 p ((q2 p).mpr (.inr (hfr2 p z)))
/-- x.append(y), y an own thing that is given away -/
theorem ss_appO [Rp α] (i j : Nat) {u : Ow α} {as : List α} {y0 : α} {x y : Str} {py : Pos} {k : List α → M (Ctl S L ρ)} (hr : ∀ l, SS X (put (put Γ j .un) i (.mk (Ow.l u) l)) sts Γo ΓL o (k l) tr) (hl : look (put Γ j .un) i = .mk (Ow.l u) as := by rfl) (hj : look Γ j = .mk u y0 := by rfl) (hN : X.N[i]? = some x := by rfl) (hv : Vis X.env.scope x := by first | exact Or.inl rfl | exact Or.inr (Or.inl rfl) | exact Or.inr (Or.inr rfl)) (hd : (x == ("__debug__" : Str)) = false := by decide)
    (hcd : (x == ("__classdict__" : Str)) = false := by decide) (hNy : X.N[j]? = some y := by rfl) (hvy : Vis X.env.scope y := by first | exact Or.inl rfl | exact Or.inr (Or.inl rfl) | exact Or.inr (Or.inr rfl)) (hdy : (y == ("__debug__" : Str)) = false := by decide)
    (hcdy : (y == ("__classdict__" : Str)) = false := by decide)
    (hpe : ∀ {to : TE} {tt : TA}, PE X (.Name x p) to → PA X [.Name y py] tt → PE X (.Call (.Attribute (.Name x p) "append" apos) [.Name y py] [] cpos) (tBM X.K "list" rAppend to tt) := by exact fun h h' => pe_bm PySem.F.plainAttrs_list PySem.F.slot_list_append PySem.F.type_list_append mt_append h h')
    (h1 : starEach [.Name y py] X.env = (false, eval (.Name y py) X.env) :: starEach [] X.env := by rfl)
    (hs : swapsWith (.Call (.Attribute (.Name x p) "append" apos) [.Name y py] [] cpos) none pos.line X.env = pure false := by rfl) :
    SS X Γ (.Expr (.Call (.Attribute (.Name x p) "append" apos) [.Name y py] [] cpos) pos :: sts) Γo ΓL o (do let l ← appM as y0; k l) (tSeq (tDrop (tBM X.K "list" rAppend (tVar i) (tCons (tVar j) tNil))) tr) :=
  ⟨pss_cons (ps_expr (hpe (pe_var hN hv hd hcd) (pa_cons (pe_var hNy hvy hdy hcdy) pa_nil h1)) hs) (hr []).pss, fun HF0 G HF H σ g c hc D kk => by
    obtain ⟨l, e2, hc⟩ := bind_ok hc
    obtain ⟨w, e3, e2⟩ := bind_ok e2
    have e4 := pure_ok e2
    subst e4
    obtain ⟨v', fj, hσj, rj, nj, hfj, giv⟩ := g.give (i := i) (u := Ow.l u) (x := as) hj
    obtain ⟨v, fo, hσ, ⟨q, vs, fq, h1, h2, h3, h4⟩, nd, hfo, hdis, back⟩ := giv rfl hl
    subst h1 h2
    refine ⟨.ref q, hσ, .inl ⟨rfl, vs, SqL.of h3⟩, v', hσj, ?_⟩
    refine ⟨q, vs, v', rfl, rfl, h3, by rw [h4.len]; exact of_decide_eq_true (gd_ok e3), ?_⟩
    have hqn : q ∉ fq := (List.nodup_cons.mp nd).1
    have hqp : q ∉ fj := hdis q (List.mem_cons_self ..)
    have gg := back (u' := Ow.l u) (b := as ++ [y0]) (v'' := .ref q) (f' := q :: (fq ++ fj)) (H' := upd H q (.lst (vs ++ [v']))) (fun p w hp _ e => by rw [upd_ne (fun z => hp (by rw [z]; exact List.mem_cons_self ..))]; exact e)
      ⟨q, vs ++ [v'], fq ++ fj, rfl, rfl, upd_same, Rl.append (h4.upd hqn) (Rl.one (u.mono (Same.refl _) (fun p hp w e => by rw [upd_ne (fun z => hqp (by rw [← z]; exact hp))]; exact e) rj))⟩
      (List.nodup_cons.mpr ⟨fun z => (List.mem_append.mp z).elim hqn hqp, List.nodup_append.mpr ⟨(List.nodup_cons.mp nd).2, nj, fun p hp p' hp' e => by
        subst e
        exact hdis p (List.mem_cons_of_mem _ hp) hp'⟩⟩)
      (fun p hp => by
        rcases List.mem_cons.mp hp with z | z
        · exact .inl (by rw [z]; exact List.mem_cons_self ..)
        · rcases List.mem_append.mp z with z | z
          · exact .inl (List.mem_cons_of_mem _ z)
          · exact .inr z)
    rw [set_self hσ] at gg
    exact (hr (as ++ [y0])).sem HF0 G HF _ σ gg c hc D kk⟩
/-- x = y, y an own thing that is given away -/
theorem ss_mov [Rp α] [Inhabited α] (i j : Nat) {u : Ow α} {y0 : α} {x y : Str} {py pos' : Pos} {m : M (Ctl S L ρ)} (hN : X.N.Nodup) (hr : SS X (put (put Γ j .un) i (.mk u y0)) sts Γo ΓL o m tr) (hlt : Nat.blt i Γ.length = true := by rfl) (hj : look Γ j = .mk u y0 := by rfl) (hi : X.N[i]? = some x := by rfl) (hx : Loc X.env.scope x := by first | exact .inl rfl | exact .inr rfl)
    (hf : X.fn x = true ∨ X.env.scope.names.lookup x = some .local := by first | exact .inl rfl | exact .inr rfl) (hNy : X.N[j]? = some y := by rfl) (hvy : Vis X.env.scope y := by first | exact Or.inl rfl | exact Or.inr (Or.inl rfl) | exact Or.inr (Or.inr rfl)) (hdy : (y == ("__debug__" : Str)) = false := by decide)
    (hcdy : (y == ("__classdict__" : Str)) = false := by decide) (hs : swapsWith (.Name y py) (some (.Name x pos')) pos.line X.env = pure false := by rfl) :
    SS X Γ (.Assign [.Name x pos'] (.Name y py) pos :: sts) Γo ΓL o m (tSeq (tAsg (tVar j) (gName i)) tr) :=
  ⟨pss_cons (ps_set hN hi hx (pe_var hNy hvy hdy hcdy) hs hf) hr.pss, fun HF0 G HF H σ g c hc D kk => by
    have hjl := look_lt' hj
    obtain ⟨fs, h1, h2, h3⟩ := g.held
    obtain ⟨fo, fr', q1, q2, q3, q4⟩ := h1.put hjl
    obtain ⟨n1, n2, n3⟩ := q3 h2
    rw [hj] at q1
    obtain ⟨v, e1, r1⟩ := q1
    have hlen := h1.len
    have hσ : σ[j]? = some (some v) := by
      rw [List.getElem?_eq_getElem (by omega)]
      rw [List.getD_eq_getElem?_getD, List.getElem?_eq_getElem (by omega)] at e1
      exact congrArg some e1
    refine ⟨v, hσ, ?_⟩
    obtain ⟨fs', w1, w2, w3⟩ := q4 (HF' := HF) (H' := H) (s := .un) (x := some v) (f := []) (fun _ h => h) (fun _ h => h) rfl
    rw [set_self hσ] at w1
    have nd' := w3 n1 List.nodup_nil (fun p hp => by cases hp)
    have inr : ∀ p, p ∈ fs' → p ∈ fr' := fun p hp => ((w2 p).mp hp).elim (fun z => by cases z) id
    obtain ⟨fi, fr2, p1, p2, p3, p4⟩ := w1.put (i := i) (by rw [put_len]; exact of_blt hlt)
    obtain ⟨m1, m2, m3⟩ := p3 nd'
    obtain ⟨gs, x1, x2, x3⟩ := p4 (HF' := HF) (H' := H) (s := .mk u y0) (x := some v) (f := fo) (fun _ h => h) (fun _ h => h) ⟨v, rfl, r1⟩
    refine hr.sem HF0 G HF H _ ⟨g.sub, g.f0, g.g0, g.nf, gs, x1, x3 m1 n2 fun p hp hq => n3 p hp (inr p ((p2 p).mpr (.inr hq))), fun p hp => ?_⟩ c hc D kk
    rcases (x2 p).mp hp with z | z
    · exact h3 p ((q2 p).mpr (.inl z))
    · exact h3 p ((q2 p).mpr (.inr (inr p ((p2 p).mpr (.inr z)))))⟩
end

/-! ### isinstance by the kind -/
class Kd (α : Type) [Rp α] where
  nm : String
  ok : ∀ {K : PySem.W.Frag} {H : Hp} {v : V} {a : α}, Rp.sh K H v a → TyX K H v (.type nm)
instance : Kd Int := ⟨"int", fun h => by cases h; exact .base (.int _)⟩
instance : Kd Bool := ⟨"bool", fun h => by cases h; exact .base (.bl _)⟩
instance : Kd Str := ⟨"str", fun h => by cases h; exact .base (.str _)⟩
instance : Kd Unit := ⟨"NoneType", fun h => by cases h; exact .base .non⟩
instance kdL {α : Type} [Rp α] : Kd (List α) := ⟨"list", fun ⟨p, vs, e, h, _⟩ => by subst e; exact .base (.lst h)⟩
section
variable {X : Cx} {Γ : Ctx} {S L ρ α β γ A B S' : Type} {a b e : Expr} {es : List Expr} {pos p apos cpos p1 p2 : Pos} {ta tb te : TE} {t : TA}
theorem ex_isi {K : PySem.W.Frag} [Rp α] [Kd α] {m : M α} {T : Str} {n : String} {r : Bool} (hm : X.mg "isinstance" = none) (hmT : X.mg T = none) (hT : bootBuiltins T = some (.type n)) (h : EX X Γ e Ow.v m te) (hk : kitB (Kd.nm α) n = some r) (hg : Gl X "isinstance" := by rfl) (hgT : Gl X T := by rfl) (hn : T ≠ "__name__" := by decide) (hdb : (T == ("__debug__" : Str)) = false := by decide)
    (h1 : starEach [e, .Name T p1] X.env = (false, eval e X.env) :: starEach [.Name T p1] X.env := by rfl) (h2 : starEach [.Name T p1] X.env = (false, eval (.Name T p1) X.env) :: starEach [] X.env := by rfl) (hpl : (backTo pos (starEach [.Name T p1] X.env)).any (·.1) = false := by rfl) (hK : X.K = K := by rfl) :
    EX X Γ (.Call (.Name "isinstance" p) [e, .Name T p1] [] pos) Ow.v (do let _ ← m; pure r) (tCB (rIsi K) (tCons te (tCons (tC (.ty n)) tNil))) := by
  subst hK
  exact ⟨pe_callB call_isi hg hm (by decide +kernel) (pa_cons h.pe (pa_cons (pe_bltn (v := .ty n) hgT hmT hT rfl hn hdb) pa_nil h2) h1) (by decide) (by decide) h1 hpl, fun HF0 G HF H σ g c hc Q k => by
    obtain ⟨x, e1, hc⟩ := bind_ok hc
    cases pure_ok hc
    refine h.sem HF0 G HF H σ g x e1 _ fun v HF1 H1 fp s1 r1 _ _ => ?_
    exact ⟨v, .ty n, .type (Kd.nm α), .type n, r, rfl, .ty n, Kd.ok (Rp.mono s1.sub r1.1), kit_ty hk, (k.back s1).flat s1.sub⟩⟩
theorem ex_max2 {m n : M Int} (hc : X.calm = true) (hm : X.mg "max" = none) (h : EX X Γ a Ow.v m ta) (h' : EX X Γ b Ow.v n tb) (hg : Gl X "max" := by rfl)
    (h1 : starEach [a, b] X.env = (false, eval a X.env) :: starEach [b] X.env := by rfl) (h2 : starEach [b] X.env = (false, eval b X.env) :: starEach [] X.env := by rfl) (hpl : (backTo pos (starEach [b] X.env)).any (·.1) = false := by rfl) :
    EX X Γ (.Call (.Name "max" p) [a, b] [] pos) Ow.v (do let a ← m; let b ← n; pure (if b > a then b else a)) (tCB (fun xs H Q => ∃ i j, xs = [.int i, .int j] ∧ Q (.int (if j > i then j else i)) H) (tCons ta (tCons tb tNil))) :=
  ex_b2 (call_max2 hc) (show SemC2 X.K _ Ow.v (fun (a b : Int) => pure (if b > a then b else a)) from fun HF H v w a b c s ra rb hc Q k => by
    cases pure_ok hc
    cases ra
    cases rb
    exact ⟨a, b, rfl, k.flat s⟩) boot_max hm h h' hg (h1 := h1) (h2 := h2) (hpl := hpl)
theorem ex_min2 {m n : M Int} (hc : X.calm = true) (hm : X.mg "min" = none) (h : EX X Γ a Ow.v m ta) (h' : EX X Γ b Ow.v n tb) (hg : Gl X "min" := by rfl)
    (h1 : starEach [a, b] X.env = (false, eval a X.env) :: starEach [b] X.env := by rfl) (h2 : starEach [b] X.env = (false, eval b X.env) :: starEach [] X.env := by rfl) (hpl : (backTo pos (starEach [b] X.env)).any (·.1) = false := by rfl) :
    EX X Γ (.Call (.Name "min" p) [a, b] [] pos) Ow.v (do let a ← m; let b ← n; pure (if b < a then b else a)) (tCB (fun xs H Q => ∃ i j, xs = [.int i, .int j] ∧ Q (.int (if j < i then j else i)) H) (tCons ta (tCons tb tNil))) :=
  ex_b2 (call_min2 hc) (show SemC2 X.K _ Ow.v (fun (a b : Int) => pure (if b < a then b else a)) from fun HF H v w a b c s ra rb hc Q k => by
    cases pure_ok hc
    cases ra
    cases rb
    exact ⟨a, b, rfl, k.flat s⟩) boot_min hm h h' hg (h1 := h1) (h2 := h2) (hpl := hpl)
end
end Ty

namespace Ty
open PySem PySem.Spec PyProof.Rows L2
section
variable {P : Program} {w : World} {K : PySem.W.Frag} {mg : Str → Option Value} {base : Heap}
theorem fn_okD {A ρ : Type} [Rp ρ] {x qual : Str} {params : Arguments} {bd : List Stmt} {scope : Scope} {dvs : List V} {kws : List (Str × V)} {f : Addr} {fd : FuncData} {N ps : List Str} {k : Nat} {r : As A} {o : Ow ρ} {m : A → M (Ctl Unit Empty ρ)} (F : FunD K x qual params bd scope dvs kws f fd) (S : FnScope N ps scope) (hn : r.n = ps.length) (hN : N.length = r.n + (N.length - r.n))
    (body : ∀ (cdv : Value) (A' : Around) (outer : List Env) (s : Shared) (H : Hp) (E : XK), Room k (A'.deeper (envOfC qual scope s.heap.objs.size f cdv)) → ∀ a : A, ∃ t : TS,
      SS (cxOf CX0 P w K mg base N qual scope f cdv A' outer s H E).nox (r.ctx a ++ List.replicate (N.length - r.n) .un) bd (fun (_ : Unit) => []) (fun (_ : Empty) => []) o (m a) t)
    (ho : ∀ r R v H, R v H → o.out r R v H := by exact fun _ _ _ _ h => h) :
    FnOk P w K mg base CX0 (k + 1) f fd ps (spF K r o fun a => runC (m a)) := by
  refine F.ok S (fun vs H Q E h => ?_) (fun cdv A' outer s H vs Q E hr h => ?_)
  · obtain ⟨HF, a, c, h1, h2, h3, h4⟩ := h
    rw [r.len h2, hn]
  · obtain ⟨HF, a, c, h1, h2, h3, h4⟩ := h
    obtain ⟨t, q⟩ := body cdv A' outer s H E hr a
    refine ⟨t, q.pss.nox, ?_⟩
    obtain ⟨c', e1, h3⟩ := bind_ok h3
    have hl := r.len h2
    have hd := r.held (HF := HF) (H := H) (N.length - r.n) h2
    have es : L2.start N vs = vs.map some ++ List.replicate (N.length - r.n) none := by unfold L2.start; rw [hl]
    refine q.sem HF H HF H (L2.start N vs) ⟨h1, Same.refl _, Same.refl _, (fun p u a b => by rw [a] at b; cases b), [], by rw [es]; exact hd, List.nodup_nil, fun p hp => by cases hp⟩ c' e1 _ ?_
    cases c' with
    | nx s => cases h3
    | bk l => exact nomatch l
    | ct l => exact nomatch l
    | rt r' =>
      cases pure_ok (show (pure r' : M ρ) = .ok c from h3)
      exact fun v HF' H' fp a b c' d rr n ff => ho _ _ _ _ <| h4 v HF' H' fp ⟨b, c', a, d⟩ rr n fun p hp => ⟨(ff p hp).2, (ff p hp).1⟩
/-- a def of the text that keeps its promise -/
def Has (P : Program) (w : World) (K : PySem.W.Frag) (mg : Str → Option Value) (base : Heap) (x : Str) (k : Nat) (ps : List Str) (sp : Sp) : Prop :=
  ∃ f fd, FnOk P w K mg base CX0 k f fd ps sp ∧ mg x = some (.ref f) ∧ PySem.W.keepIn K (.ref f) = true ∧ Binds K fd ps []
end
theorem law_start {K : PySem.W.Frag} {mir : Scr → M Bool} {ns : List Int} {a : Addr} {H : Hp} {E : XK} (e : mir ⟨ns⟩ = .ok true) (hS : SqL K H a (ns.map V.int)) : spF K (As.cons (α := Scr) As.nil) (Ow.v : Ow Bool) (fun a => mir a.1) [.ref a] H (fun v _ => v = .bl true) E :=
  ⟨H, (⟨ns⟩, ()), true, Same.refl _, ⟨.ref a, [], rfl, ⟨a, rfl, hS⟩, rfl⟩, e, fun v HF' H' fp st r n f => r.1⟩
/-! ### comparisons, as a value or a test -/
structure EC (X : Cx) (Γ : Ctx) (op : CmpOp) (a b : Expr) (m : M Bool) (r : R2) (ta tb : TE) : Prop where
  ho : OpR X (compareOp op) r
  pa : PE X a ta
  pb : PE X b tb
  hm : behindInMarks op b = false
  sem : SemE X.K Γ (tOp r ta tb) Ow.v m
section
variable {X : Cx} {Γ : Ctx} {α β : Type} {a b c e : Expr} {es : List Expr} {pos p : Pos} {ta tb tc te : TE} {op : CmpOp} {r : R2} {m : M Bool} {t : TE}
theorem ex_c (h : EC X Γ op a b m r ta tb) : EX X Γ (.Compare a [op] [b] pos) Ow.v m (tOp r ta tb) := ⟨pe_cmpR h.ho h.pa h.pb h.hm, h.sem⟩
theorem et_c (h : EC X Γ op a b m r ta tb) : ET X Γ (.Compare a [op] [b] pos) m (tTest (tOp r ta tb)) :=
  ⟨pt_cmpR h.ho h.pa h.pb h.hm, fun HF0 G HF H σ g c hc Q k => h.sem HF0 G HF H σ g c hc _ fun v HF' H' fp s r _ _ => ⟨c, r.1, k HF' H' s⟩⟩
theorem ec_of [Rp α] [Rp β] {f : α → β → M Bool} {ma : M α} {mb : M β} (ho : OpR X (compareOp op) r) (hr : SemR2 X.K r Ow.v f) (ha : EX X Γ a Ow.v ma ta) (hb : EX X Γ b Ow.v mb tb) (hm : behindInMarks op b = false) : EC X Γ op a b (do let a ← ma; let b ← mb; f a b) r ta tb :=
  ⟨ho, ha.pe, hb.pe, hm, sem_op hr ha.sem hb.sem⟩
theorem ec_lt {ma mb : M Int} (ha : EX X Γ a Ow.v ma ta) (hb : EX X Γ b Ow.v mb tb) : EC X Γ .Lt a b (do let a ← ma; let b ← mb; pure (decide (a < b))) (rI0 fun i j => .bl (decide (i < j))) ta tb := ec_of op_lt (sr_I0 fun _ _ => rfl) ha hb (nomark _)
theorem ec_le {ma mb : M Int} (ha : EX X Γ a Ow.v ma ta) (hb : EX X Γ b Ow.v mb tb) : EC X Γ .LtE a b (do let a ← ma; let b ← mb; pure (decide (a ≤ b))) (rI0 fun i j => .bl (decide (i ≤ j))) ta tb := ec_of op_le (sr_I0 fun _ _ => rfl) ha hb (nomark _)
theorem ec_gt {ma mb : M Int} (ha : EX X Γ a Ow.v ma ta) (hb : EX X Γ b Ow.v mb tb) : EC X Γ .Gt a b (do let a ← ma; let b ← mb; pure (decide (b < a))) (rI0 fun i j => .bl (decide (j < i))) ta tb := ec_of op_gt (sr_I0 fun _ _ => rfl) ha hb (nomark _)
theorem ec_ge {ma mb : M Int} (ha : EX X Γ a Ow.v ma ta) (hb : EX X Γ b Ow.v mb tb) : EC X Γ .GtE a b (do let a ← ma; let b ← mb; pure (decide (b ≤ a))) (rI0 fun i j => .bl (decide (j ≤ i))) ta tb := ec_of op_ge (sr_I0 fun _ _ => rfl) ha hb (nomark _)
theorem ec_eq [Fl α] [DecidableEq α] [Sc α] {ma mb : M α} (ha : EX X Γ a Ow.v ma ta) (hb : EX X Γ b Ow.v mb tb) : EC X Γ .Eq a b (do let a ← ma; let b ← mb; pure (decide (a = b))) rEq ta tb := ec_of op_eq sr_eq ha hb (nomark _)
theorem ec_ne [Fl α] [DecidableEq α] [Sc α] {ma mb : M α} (ha : EX X Γ a Ow.v ma ta) (hb : EX X Γ b Ow.v mb tb) : EC X Γ .NotEq a b (do let a ← ma; let b ← mb; pure (!decide (a = b))) rNe ta tb := ec_of op_ne sr_ne ha hb (nomark _)
theorem ec_eqD {K : PySem.W.Frag} [Rp α] [DecidableEq α] [Eqv α] {ma mb : M α} (hu : X.A.units + 64 < cLine) (ha : EX X Γ a Ow.v ma ta) (hb : EX X Γ b Ow.v mb tb) (hd : Eqv.dep α ≤ 64 := by decide) (hK : X.K = K := by rfl) : EC X Γ .Eq a b (do let a ← ma; let b ← mb; eqM a b) (rEqD K) ta tb := by
  subst hK
  exact ec_of (op_eqD hu) (sr_eqD hd) ha hb (nomark _)
theorem ec_neD {K : PySem.W.Frag} [Rp α] [DecidableEq α] [Eqv α] {ma mb : M α} (hu : X.A.units + 64 < cLine) (ha : EX X Γ a Ow.v ma ta) (hb : EX X Γ b Ow.v mb tb) (hd : Eqv.dep α ≤ 64 := by decide) (hK : X.K = K := by rfl) : EC X Γ .NotEq a b (do let a ← ma; let b ← mb; neM a b) (rNeD K) ta tb := by
  subst hK
  exact ec_of (op_neD hu) (sr_neD hd) ha hb (nomark _)
def rIsNo : R2 := fun x y H Q => y = .non ∧ Q (.bl (decide (x = .non))) H
def rNotNo : R2 := fun x y H Q => y = .non ∧ Q (.bl (!decide (x = .non))) H
class OpN (α : Type) [Fl (Option α)] : Prop where
  no : Fl.enc (none : Option α) = V.non
  so : ∀ a : α, Fl.enc (some a) ≠ V.non
instance : OpN Int := ⟨rfl, fun _ h => nomatch h⟩
instance : OpN Str := ⟨rfl, fun _ h => nomatch h⟩
theorem opN_dec [Fl (Option α)] [OpN α] (a : Option α) : decide (Fl.enc a = V.non) = a.isNone := by
  cases a with
  | none => simp [OpN.no]
  | some a => simp [OpN.so]
theorem ec_isN [Fl (Option α)] [OpN α] {j p2} {ma : M (Option α)} (ha : EX X Γ a Ow.v ma ta) : EC X Γ .Is a (.Constant .none j p2) (do let a ← ma; pure a.isNone) rIsNo ta (tC .non) :=
  ⟨op_isN, ha.pe, pe_non, nomark _, fun HF0 G HF H σ g c hc Q k => by
    obtain ⟨x, e1, hc⟩ := bind_ok hc
    cases pure_ok hc
    refine ha.sem HF0 G HF H σ g x e1 _ fun v HF1 H1 fp s1 r1 _ _ => ⟨rfl, ?_⟩
    rw [Fl.sh_iff.mp r1.1, opN_dec]
    exact (k.back s1).flat s1.sub⟩
theorem ec_notN [Fl (Option α)] [OpN α] {j p2} {ma : M (Option α)} (ha : EX X Γ a Ow.v ma ta) : EC X Γ .IsNot a (.Constant .none j p2) (do let a ← ma; pure a.isSome) rNotNo ta (tC .non) :=
  ⟨op_notN, ha.pe, pe_non, nomark _, fun HF0 G HF H σ g c hc Q k => by
    obtain ⟨x, e1, hc⟩ := bind_ok hc
    cases pure_ok hc
    refine ha.sem HF0 G HF H σ g x e1 _ fun v HF1 H1 fp s1 r1 _ _ => ⟨rfl, ?_⟩
    rw [Fl.sh_iff.mp r1.1, opN_dec]
    have e : (!x.isNone) = x.isSome := by cases x <;> rfl
    rw [e]
    exact (k.back s1).flat s1.sub⟩
/-- in, not in -/
class Mem (α : Type) [Fl α] [DecidableEq α] : Prop where
  fl : ∀ a : α, flatV (Fl.enc a) = true
  ev : ∀ a b : α, eqV (Fl.enc a) (Fl.enc b) = decide (a = b)
instance : Mem Int := ⟨fun _ => rfl, fun a b => by
  show (a == b) = decide (a = b)
  by_cases h : a = b <;> simp [h]⟩
instance : Mem Str := ⟨fun _ => rfl, fun a b => by
  show (a == b) = decide (a = b)
  by_cases h : a = b <;> simp [h]⟩
theorem mem_flat [Fl α] [DecidableEq α] [Mem α] : ∀ as : List α, (as.map Fl.enc).all flatV = true
  | [] => rfl
  | a :: as => by rw [List.map_cons, List.all_cons, Mem.fl, mem_flat as]; rfl
theorem mem_in [Fl α] [DecidableEq α] [Mem α] (a : α) : ∀ as : List α, inV (Fl.enc a) (as.map Fl.enc) = decide (a ∈ as)
  | [] => by simp [inV]
  | b :: as => by
    have ih := mem_in a as
    unfold inV at ih ⊢
    rw [List.map_cons, List.any_cons, ih, Mem.ev]
    by_cases h1 : b = a <;> by_cases h2 : a ∈ as <;> simp [h1, h2, eq_comm]
    · intro h; exact h1 h.symm
theorem sr_inL [Fl α] [DecidableEq α] [Mem α] {K : PySem.W.Frag} (neg : Bool) : SemR2 K (rIn K neg) Ow.v (fun (a : α) (b : List α) => pure (if neg then !decide (a ∈ b) else decide (a ∈ b))) := fun HF H v w a b c s ra ⟨q, us, e, h1, h2⟩ hc Q k => by
  cases pure_ok hc
  subst e
  have e2 := Fa.flat.mp h2
  subst e2
  rw [Fl.sh_iff.mp ra]
  refine ⟨q, _, rfl, .inl (SqL.of (s _ _ h1)), Mem.fl a, mem_flat b, ?_⟩
  rw [mem_in]; exact k.flat s
theorem sr_inT [Fl α] [DecidableEq α] [Mem α] {K : PySem.W.Frag} (neg : Bool) : SemR2 K (rIn K neg) Ow.v (fun (a : α) (b : Tu α) => pure (if neg then !decide (a ∈ b.l) else decide (a ∈ b.l))) := fun HF H v w a b c s ra ⟨q, us, e, h1, h2⟩ hc Q k => by
  cases pure_ok hc
  subst e
  have e2 := Fa.flat.mp h2
  subst e2
  rw [Fl.sh_iff.mp ra]
  refine ⟨q, _, rfl, .inr (sqT_mono s h1), Mem.fl a, mem_flat b.l, ?_⟩
  rw [mem_in]; exact k.flat s
theorem ec_inL {K : PySem.W.Frag} [Fl α] [DecidableEq α] [Mem α] {ma : M α} {mb : M (List α)} (ha : EX X Γ a Ow.v ma ta) (hb : EX X Γ b Ow.v mb tb) (hm : behindInMarks .In b = false := by rfl) (hK : X.K = K := by rfl) : EC X Γ .In a b (do let a ← ma; let b ← mb; pure (decide (a ∈ b))) (rIn K false) ta tb := by
  subst hK
  exact ec_of op_in_seq (sr_inL false) ha hb hm
theorem ec_ninL {K : PySem.W.Frag} [Fl α] [DecidableEq α] [Mem α] {ma : M α} {mb : M (List α)} (ha : EX X Γ a Ow.v ma ta) (hb : EX X Γ b Ow.v mb tb) (hm : behindInMarks .NotIn b = false := by rfl) (hK : X.K = K := by rfl) : EC X Γ .NotIn a b (do let a ← ma; let b ← mb; pure (!decide (a ∈ b))) (rIn K true) ta tb := by
  subst hK
  exact ec_of op_notIn_seq (sr_inL true) ha hb hm
theorem ec_inT {K : PySem.W.Frag} [Fl α] [DecidableEq α] [Mem α] {ma : M α} {mb : M (Tu α)} (ha : EX X Γ a Ow.v ma ta) (hb : EX X Γ b Ow.v mb tb) (hm : behindInMarks .In b = false := by rfl) (hK : X.K = K := by rfl) : EC X Γ .In a b (do let a ← ma; let b ← mb; pure (decide (a ∈ b.l))) (rIn K false) ta tb := by
  subst hK
  exact ec_of op_in_seq (sr_inT false) ha hb hm
theorem ec_ninT {K : PySem.W.Frag} [Fl α] [DecidableEq α] [Mem α] {ma : M α} {mb : M (Tu α)} (ha : EX X Γ a Ow.v ma ta) (hb : EX X Γ b Ow.v mb tb) (hm : behindInMarks .NotIn b = false := by rfl) (hK : X.K = K := by rfl) : EC X Γ .NotIn a b (do let a ← ma; let b ← mb; pure (!decide (a ∈ b.l))) (rIn K true) ta tb := by
  subst hK
  exact ec_of op_notIn_seq (sr_inT true) ha hb hm
def inS (a b : Str) : Bool := !(Builtin.Str.occurrences b a 0 b.length 1).isEmpty
def rInSt : R2 := fun x y H Q => ∃ i j, x = .str i ∧ y = .str j ∧ Q (.bl (!(Builtin.Str.occurrences j i 0 j.length 1).isEmpty)) H
def rNinSt : R2 := fun x y H Q => ∃ i j, x = .str i ∧ y = .str j ∧ Q (.bl (!(!(Builtin.Str.occurrences j i 0 j.length 1).isEmpty))) H
theorem ec_inS {ma mb : M Str} (ha : EX X Γ a Ow.v ma ta) (hb : EX X Γ b Ow.v mb tb) (hm : behindInMarks .In b = false := by rfl) : EC X Γ .In a b (do let a ← ma; let b ← mb; pure (inS a b)) rInSt ta tb :=
  ec_of op_in_str (show SemR2 X.K rInSt Ow.v (fun (a b : Str) => pure (inS a b)) from fun HF H v w a b c s ra rb hc Q k => by
    cases pure_ok hc
    exact ⟨a, b, Fl.sh_iff.mp ra, Fl.sh_iff.mp rb, k.flat s⟩) ha hb hm
theorem ec_ninS {ma mb : M Str} (ha : EX X Γ a Ow.v ma ta) (hb : EX X Γ b Ow.v mb tb) (hm : behindInMarks .NotIn b = false := by rfl) : EC X Γ .NotIn a b (do let a ← ma; let b ← mb; pure (!inS a b)) rNinSt ta tb :=
  ec_of op_notIn_str (show SemR2 X.K rNinSt Ow.v (fun (a b : Str) => pure (!inS a b)) from fun HF H v w a b c s ra rb hc Q k => by
    cases pure_ok hc
    exact ⟨a, b, Fl.sh_iff.mp ra, Fl.sh_iff.mp rb, k.flat s⟩) ha hb hm
/-- a < b < c -/
def chainM (p q : Int → Int → Bool) (ma mb mc : M Int) : M Bool := do
  let a ← ma
  let b ← mb
  if p a b then do
    let c ← mc
    pure (q b c)
  else pure false
theorem semChain {K : PySem.W.Frag} {p q : Int → Int → Bool} {ma mb mc : M Int} (ha : SemE K Γ ta Ow.v ma) (hb : SemE K Γ tb Ow.v mb) (hc : SemE K Γ tc Ow.v mc) : SemE K Γ (tChain (rI0 fun i j => .bl (p i j)) (rI0 fun i j => .bl (q i j)) ta tb tc) Ow.v (chainM p q ma mb mc) := fun HF0 G HF H σ g c hcc Q k => by
  obtain ⟨x, e1, hcc⟩ := bind_ok hcc
  obtain ⟨y, e2, hcc⟩ := bind_ok hcc
  refine ha HF0 G HF H σ g x e1 _ fun v HF1 H1 fp s1 r1 _ _ => ?_
  refine hb HF0 G HF1 H1 σ (g.step s1) y e2 _ fun w HF2 H2 fp2 s2 r2 _ _ => ?_
  have s12 := s1.trans s2
  refine ⟨x, y, r1.1, r2.1, p x y, rfl, ?_⟩
  by_cases h : p x y = true
  · rw [if_pos h] at hcc ⊢
    obtain ⟨z, e3, hcc⟩ := bind_ok hcc
    cases pure_ok hcc
    refine hc HF0 G HF2 H2 σ (g.step s12) z e3 _ fun u HF3 H3 fp3 s3 r3 _ _ => ?_
    exact ⟨y, z, r2.1, r3.1, (k.back (s12.trans s3)).flat s3.sub⟩
  · rw [if_neg h] at hcc ⊢
    cases pure_ok hcc
    exact (k.back s12).flat s2.sub
theorem ex_chain {op op' : CmpOp} {p q : Int → Int → Bool} {ma mb mc : M Int} (ho : OpR X (compareOp op) (rI0 fun i j => .bl (p i j))) (ho' : OpR X (compareOp op') (rI0 fun i j => .bl (q i j))) (ha : EX X Γ a Ow.v ma ta) (hb : EX X Γ b Ow.v mb tb) (hc : EX X Γ c Ow.v mc tc) (hm : lastMarks [op, op'] [b, c] = false := by with_unfolding_all rfl) : EX X Γ (.Compare a [op, op'] [b, c] pos) Ow.v (chainM p q ma mb mc) (tChain (rI0 fun i j => .bl (p i j)) (rI0 fun i j => .bl (q i j)) ta tb tc) :=
  ⟨pe_chain ho ho' ha.pe hb.pe hc.pe hm, semChain ha.sem hb.sem hc.sem⟩
theorem et_chain {op op' : CmpOp} {p q : Int → Int → Bool} {ma mb mc : M Int} (ho : OpR X (compareOp op) (rI0 fun i j => .bl (p i j))) (ho' : OpR X (compareOp op') (rI0 fun i j => .bl (q i j))) (ha : EX X Γ a Ow.v ma ta) (hb : EX X Γ b Ow.v mb tb) (hc : EX X Γ c Ow.v mc tc) (hm : lastMarks [op, op'] [b, c] = false := by with_unfolding_all rfl) : ET X Γ (.Compare a [op, op'] [b, c] pos) (chainM p q ma mb mc) (tTest (tChain (rI0 fun i j => .bl (p i j)) (rI0 fun i j => .bl (q i j)) ta tb tc)) :=
  ⟨pt_chain ho ho' ha.pe hb.pe hc.pe hm, fun HF0 G HF H σ g c hc' Q k => semChain ha.sem hb.sem hc.sem HF0 G HF H σ g c hc' _ fun v HF' H' fp s r _ _ => ⟨c, r.1, k HF' H' s⟩⟩

/-! ### sum, any, all, int -/
theorem ex_sum {K : PySem.W.Frag} {m : M (List Int)} (hc : X.calm = true) (hm : X.mg "sum" = none) (h : EX X Γ e Ow.v m te) (hg : Gl X "sum" := by rfl) (h1 : starEach [e] X.env = (false, eval e X.env) :: starEach [] X.env := by rfl) (hK : X.K = K := by rfl) : EX X Γ (.Call (.Name "sum" p) [e] [] pos) Ow.v (do let a ← m; pure a.sum) (tCB (rSum K) (tCons te tNil)) := by
  subst hK
  exact ex_b1 (cr_sum hc) (show SemC1 X.K (rSum X.K) Ow.v (fun (a : List Int) => pure a.sum) from fun HF H v a c s ⟨q, us, e, h1, h2⟩ hc Q k => by
    cases pure_ok hc
    subst e
    have e2 := Fa.flat.mp h2
    subst e2
    exact ⟨q, a, rfl, SqL.of (s _ _ h1), k.flat s⟩) boot_sum hm h hg (h1 := h1)
theorem ex_all {K : PySem.W.Frag} {m : M (List Bool)} (hc : X.calm = true) (hm : X.mg "all" = none) (h : EX X Γ e Ow.v m te) (hg : Gl X "all" := by rfl) (h1 : starEach [e] X.env = (false, eval e X.env) :: starEach [] X.env := by rfl) (hK : X.K = K := by rfl) : EX X Γ (.Call (.Name "all" p) [e] [] pos) Ow.v (do let a ← m; pure (a.all id)) (tCB (rAll K) (tCons te tNil)) := by
  subst hK
  exact ex_b1 (cr_all hc) (show SemC1 X.K (rAll X.K) Ow.v (fun (a : List Bool) => pure (a.all id)) from fun HF H v a c s ⟨q, us, e, h1, h2⟩ hc Q k => by
    cases pure_ok hc
    subst e
    have e2 := Fa.flat.mp h2
    subst e2
    exact ⟨q, a, rfl, SqL.of (s _ _ h1), k.flat s⟩) boot_all hm h hg (h1 := h1)
theorem ex_any {K : PySem.W.Frag} {m : M (List Bool)} (hc : X.calm = true) (hm : X.mg "any" = none) (h : EX X Γ e Ow.v m te) (hg : Gl X "any" := by rfl) (h1 : starEach [e] X.env = (false, eval e X.env) :: starEach [] X.env := by rfl) (hK : X.K = K := by rfl) : EX X Γ (.Call (.Name "any" p) [e] [] pos) Ow.v (do let a ← m; pure (a.any id)) (tCB (rAny K) (tCons te tNil)) := by
  subst hK
  exact ex_b1 (cr_any hc) (show SemC1 X.K (rAny X.K) Ow.v (fun (a : List Bool) => pure (a.any id)) from fun HF H v a c s ⟨q, us, e, h1, h2⟩ hc Q k => by
    cases pure_ok hc
    subst e
    have e2 := Fa.flat.mp h2
    subst e2
    exact ⟨q, a, rfl, SqL.of (s _ _ h1), k.flat s⟩) boot_any hm h hg (h1 := h1)
def rInt1 : List V → Hp → VK → Prop := fun xs H Q => (∃ i, xs = [.int i] ∧ Q (.int i) H) ∨ ∃ k, xs = [.bl k] ∧ Q (.int (if k then 1 else 0)) H
theorem ex_intB {m : M Bool} (hm : X.mg "int" = none) (h : EX X Γ e Ow.v m te) (hg : Gl X "int" := by rfl) (h1 : starEach [e] X.env = (false, eval e X.env) :: starEach [] X.env := by rfl) : EX X Γ (.Call (.Name "int" p) [e] [] pos) Ow.v (do let a ← m; pure (if a then (1 : Int) else 0)) (tCB rInt1 (tCons te tNil)) :=
  ex_t1 call_int1 (show SemC1 X.K rInt1 Ow.v (fun (a : Bool) => pure (if a then (1 : Int) else 0)) from fun HF H v a c s ra hc Q k => by
    cases pure_ok hc
    cases ra
    exact .inr ⟨a, rfl, k.flat s⟩) boot_int hm h hg (h1 := h1)
theorem ex_intI {m : M Int} (hm : X.mg "int" = none) (h : EX X Γ e Ow.v m te) (hg : Gl X "int" := by rfl) (h1 : starEach [e] X.env = (false, eval e X.env) :: starEach [] X.env := by rfl) : EX X Γ (.Call (.Name "int" p) [e] [] pos) Ow.v (m >>= fun a => pure a) (tCB rInt1 (tCons te tNil)) :=
  ex_t1 call_int1 (show SemC1 X.K rInt1 Ow.v (fun (a : Int) => pure a) from fun HF H v a c s ra hc Q k => by
    cases pure_ok hc
    cases ra
    exact .inl ⟨a, rfl, k.flat s⟩) boot_int hm h hg (h1 := h1)
/-- a module's text -/
theorem ex_gstr {x z : Str} {pos : Pos} (hm : ∃ t, X.mg x = some (.str z t)) (hg : Gl X x := by rfl) (hd : (x == ("__debug__" : Str)) = false := by decide) : EX X Γ (.Name x pos) Ow.v (pure z) (tC (.str z)) := by
  obtain ⟨t, h⟩ := hm
  exact ⟨pe_glob hg h ⟨t, rfl⟩ hd, fun HF0 G HF H σ g c hc Q k => by cases pure_ok hc; exact k.flat g.sub⟩
theorem Has.at {P : Program} {w : World} {K : PySem.W.Frag} {mg : Str → Option Value} {base : Heap} {x : Str} {k : Nat} {ps : List Str} {sp : Sp} {f : Addr} (h : Has P w K mg base x k ps sp) (hm : mg x = some (.ref f)) : ∃ fd, FnOk P w K mg base CX0 k f fd ps sp := by
  obtain ⟨f', fd, F, m, _, _⟩ := h
  rw [hm] at m
  cases m
  exact ⟨fd, F⟩
end
/-! ### stores -/
def setM {α : Type} (as : List α) (k : Int) (a : α) : M (List α) := do let j ← ofO (ixN as.length k); pure (as.set j a)
def set2M {α : Type} (as : List (List α)) (k l : Int) (a : α) : M (List (List α)) := do
  let j ← ofO (ixN as.length k)
  let r ← ofO as[j]?
  let i ← ofO (ixN r.length l)
  pure (as.set j (r.set i a))
theorem Rl.get {α : Type} {R : V → α → List Addr → Prop} : ∀ {vs : List V} {as : List α} {fp : List Addr} {j : Nat} {a : α}, Rl R vs as fp → as[j]? = some a → ∃ v f, vs[j]? = some v ∧ R v a f ∧ (∀ p ∈ f, p ∈ fp) ∧
    ∀ {v' : V} {a' : α} {f' : List Addr}, R v' a' f' → (∀ p ∈ f', p ∈ f ∨ p ∉ fp) → f'.Nodup → fp.Nodup → ∃ fp', Rl R (vs.set j v') (as.set j a') fp' ∧ fp'.Nodup ∧ (∀ p ∈ fp', p ∈ fp ∨ p ∈ f') ∧ ∀ p ∈ fp, p ∈ fp' ∨ p ∈ f
  | [], [], _, j, a, _, e => by simp at e
  | v :: vs, b :: as, fp, 0, a, ⟨f1, f2, e1, h1, h2⟩, e => by
    have e' : b = a := Option.some.inj e
    subst e'
    refine ⟨v, f1, rfl, h1, fun p hp => by rw [e1]; exact List.mem_append_left _ hp, fun {v' a' f'} r hf nd nf => ?_⟩
    rw [e1] at nf
    obtain ⟨n1, n2, n3⟩ := List.nodup_append.mp nf
    refine ⟨f' ++ f2, ⟨f', f2, rfl, r, h2⟩, List.nodup_append.mpr ⟨nd, n2, fun p hp q hq e => ?_⟩, fun p hp => ?_, fun p hp => ?_⟩
    · subst e
      rcases hf p hp with z | z
      · exact n3 p z p hq rfl
      · exact z (by rw [e1]; exact List.mem_append_right _ hq)
    · rcases List.mem_append.mp hp with z | z
      · exact .inr z
      · exact .inl (by rw [e1]; exact List.mem_append_right _ z)
    · rw [e1] at hp
      rcases List.mem_append.mp hp with z | z
      · exact .inr z
      · exact .inl (List.mem_append_right _ z)
  | v :: vs, b :: as, fp, j + 1, a, ⟨f1, f2, e1, h1, h2⟩, e => by
    obtain ⟨w, f, q1, q2, q3, q4⟩ := Rl.get (j := j) h2 e
    refine ⟨w, f, q1, q2, fun p hp => by rw [e1]; exact List.mem_append_right _ (q3 p hp), fun {v' a' f'} r hf nd nf => ?_⟩
    have nf' := nf
    rw [e1] at nf'
    obtain ⟨n1, n2, n3⟩ := List.nodup_append.mp nf'
    obtain ⟨fp', w1, w2, w3, w4⟩ := q4 r (fun p hp => (hf p hp).imp id fun z y => z (by rw [e1]; exact List.mem_append_right _ y)) nd n2
    refine ⟨f1 ++ fp', ⟨f1, fp', rfl, h1, w1⟩, List.nodup_append.mpr ⟨n1, w2, fun p hp q hq e => ?_⟩, fun p hp => ?_, fun p hp => ?_⟩
    · subst e
      rcases w3 p hq with z | z
      · exact n3 p hp p z rfl
      · rcases hf p z with y | y
        · exact n3 p hp p (q3 p y) rfl
        · exact y (by rw [e1]; exact List.mem_append_left _ hp)
    · rcases List.mem_append.mp hp with z | z
      · exact .inl (by rw [e1]; exact List.mem_append_left _ z)
      · exact (w3 p z).imp (fun y => by rw [e1]; exact List.mem_append_right _ y) id
    · rw [e1] at hp
      rcases List.mem_append.mp hp with z | z
      · exact .inl (List.mem_append_left _ z)
      · exact (w4 p z).imp (fun y => List.mem_append_right _ y) id
  | [], _ :: _, _, _, _, x, _ => x.elim
  | _ :: _, [], _, _, _, x, _ => x.elim
end Ty

namespace Ty
open PySem
/-! ### plain lemmas about the mirror's words -/
/-- a proof that the simplifier does not take for a definition's own -/
theorem nd {p : Prop} (h : p) : p := h
@[simp] theorem okB {α β : Type} (a : α) (k : α → M β) : ((Except.ok a : M α) >>= k) = k a := nd rfl
@[simp] theorem pureB {α β : Type} (a : α) (k : α → M β) : ((pure a : M α) >>= k) = k a := nd rfl
theorem bindA {α β γ : Type} (m : M α) (f : α → M β) (g : β → M γ) : ((m >>= f) >>= g) = m >>= fun a => f a >>= g := by cases m <;> rfl
theorem pureE {α : Type} (a : α) : (pure a : M α) = .ok a := rfl
@[simp] theorem gdT : gd true = .ok () := nd rfl
@[simp] theorem ofOs {α : Type} (a : α) : ofO (some a) = .ok a := nd rfl
@[simp] theorem runRt {ρ : Type} (r : ρ) : runC (.ok (.rt r) : M (Ctl Unit Empty ρ)) = .ok r := nd rfl
@[simp] theorem runRt' {ρ : Type} (r : ρ) : runC (pure (.rt r) : M (Ctl Unit Empty ρ)) = .ok r := nd rfl
@[simp] theorem thenLi {S' S L ρ : Type} (s : S') (k : S' → M (Ctl S L ρ)) : thenL (.inl s : S' ⊕ ρ) k = k s := nd rfl
@[simp] theorem thenLr {S' S L ρ : Type} (r : ρ) (k : S' → M (Ctl S L ρ)) : thenL (.inr r : S' ⊕ ρ) k = .ok (.rt r) := nd rfl
@[simp] theorem thenCn {S' S L ρ : Type} (s : S') (k : S' → M (Ctl S L ρ)) : thenC (.nx s : Ctl S' L ρ) k = k s := nd rfl
@[simp] theorem thenCr {S' S L ρ : Type} (r : ρ) (k : S' → M (Ctl S L ρ)) : thenC (.rt r : Ctl S' L ρ) k = .ok (.rt r) := nd rfl
@[simp] theorem thenCb {S' S L ρ : Type} (r : L) (k : S' → M (Ctl S L ρ)) : thenC (.bk r : Ctl S' L ρ) k = .ok (.bk r) := nd rfl
@[simp] theorem thenCc {S' S L ρ : Type} (r : L) (k : S' → M (Ctl S L ρ)) : thenC (.ct r : Ctl S' L ρ) k = .ok (.ct r) := nd rfl
/-- join points told by an if -/
@[simp] theorem iteB {α β : Type} (c : Prop) [Decidable c] (a b : M α) (k : α → M β) : ((if c then a else b) >>= k) = if c then a >>= k else b >>= k := by by_cases h : c <;> simp [h]
theorem ok_ite {α : Type} (c : Prop) [Decidable c] (a b : α) : (if c then (.ok a : M α) else .ok b) = .ok (if c then a else b) := by by_cases h : c <;> simp [h]
/-- a loop that goes through, by an invariant -/
theorem loop_inv {α S ρ : Type} {f : α → S → M (Ctl S S ρ)} (g : S → α → S) (Inv : S → Prop) : ∀ {xs : List α} {s : S}, Inv s → (∀ x ∈ xs, ∀ s, Inv s → f x s = .ok (.nx (g s x)) ∧ Inv (g s x)) → loopM f xs s = .ok (.inl (xs.foldl g s)) ∧ Inv (xs.foldl g s)
  | [], s, h0, _ => ⟨rfl, h0⟩
  | x :: xs, s, h0, h => by
    obtain ⟨e, i⟩ := h x (List.mem_cons_self ..) s h0
    obtain ⟨e2, i2⟩ := loop_inv g Inv (xs := xs) i fun y hy => h y (List.mem_cons_of_mem _ hy)
    refine ⟨?_, i2⟩
    show (f x s >>= _) = _
    rw [e]
    exact e2
theorem loop_all {α S ρ : Type} {f : α → S → M (Ctl S S ρ)} (g : S → α → S) {xs : List α} {s : S} (h : ∀ x ∈ xs, ∀ s, f x s = .ok (.nx (g s x))) : loopM f xs s = .ok (.inl (xs.foldl g s)) :=
  (loop_inv g (fun _ => True) True.intro fun x hx s _ => ⟨h x hx s, True.intro⟩).1
/-- a loop, by what holds behind each turn -/
theorem loop_ind {α S ρ : Type} {f : α → S → M (Ctl S S ρ)} (P : List α → S → Prop) {xs : List α} {s : S} (h0 : P [] s) (h : ∀ pre x post s, xs = pre ++ x :: post → P pre s → ∃ s', f x s = .ok (.nx s') ∧ P (pre ++ [x]) s') : ∃ s', loopM f xs s = .ok (.inl s') ∧ P xs s' := by
  have q : ∀ (post pre : List α) (s : S), xs = pre ++ post → P pre s → ∃ s', loopM f post s = .ok (.inl s') ∧ P xs s' := by
    intro post
    induction post with
    | nil =>
      intro pre s e p
      rw [List.append_nil] at e
      subst e
      exact ⟨s, rfl, p⟩
    | cons x post ih =>
      intro pre s e p
      obtain ⟨s1, e1, p1⟩ := h pre x post s e p
      obtain ⟨s2, e2, p2⟩ := ih (pre ++ [x]) s1 (by rw [e]; simp) p1
      refine ⟨s2, ?_, p2⟩
      show (f x s >>= _) = _
      rw [e1]
      exact e2
  exact q xs [] s rfl h0
/-- comprehensions -/
theorem comp_map {α β : Type} {f : α → M β} (g : α → β) : ∀ {xs : List α}, (∀ x ∈ xs, f x = .ok (g x)) → compL (fun _ => pure true) f xs = .ok (xs.map g)
  | [], _ => rfl
  | x :: xs, h => by
    have ih := comp_map g (xs := xs) fun y hy => h y (List.mem_cons_of_mem _ hy)
    show (f x >>= _) = _
    rw [h x (List.mem_cons_self ..)]
    show (compL (fun _ => pure true) f xs >>= _) = _
    rw [ih]
    rfl
theorem compM_map {α β : Type} {f : α → M β} (g : α → β) {xs : List α} (hl : xs.length ≤ 16777216) (h : ∀ x ∈ xs, f x = .ok (g x)) : compM xs (fun _ => pure true) f = .ok (xs.map g) := by
  unfold compM
  rw [sizeLine_eq, decide_eq_true hl]
  exact comp_map g h
theorem comp_fm {α β : Type} {t : α → M Bool} {f : α → M β} (p : α → Bool) (g : α → β) : ∀ {xs : List α}, (∀ x ∈ xs, t x = .ok (p x)) → (∀ x ∈ xs, p x = true → f x = .ok (g x)) → compL t f xs = .ok ((xs.filter p).map g)
  | [], _, _ => rfl
  | x :: xs, ht, h => by
    have ih := comp_fm p g (xs := xs) (fun y hy => ht y (List.mem_cons_of_mem _ hy)) fun y hy => h y (List.mem_cons_of_mem _ hy)
    show (t x >>= _) = _
    rw [ht x (List.mem_cons_self ..)]
    cases q : p x with
    | false =>
      rw [List.filter_cons_of_neg (by rw [q]; decide)]
      exact ih
    | true =>
      rw [List.filter_cons_of_pos q]
      show (f x >>= _) = _
      rw [h x (List.mem_cons_self ..) q]
      show (compL t f xs >>= _) = _
      rw [ih]
      rfl
theorem compM_fm {α β : Type} {t : α → M Bool} {f : α → M β} (p : α → Bool) (g : α → β) {xs : List α} (hl : xs.length ≤ 16777216) (ht : ∀ x ∈ xs, t x = .ok (p x)) (h : ∀ x ∈ xs, p x = true → f x = .ok (g x)) : compM xs t f = .ok ((xs.filter p).map g) := by
  unfold compM
  rw [sizeLine_eq, decide_eq_true hl]
  exact comp_fm p g ht h
/-- bounds -/
theorem atI_ok {α : Type} {xs : List α} {i : Int} (h0 : 0 ≤ i) (h1 : i < xs.length) : L2.atI xs i = xs[i.toNat]? := by
  unfold L2.atI L2.ixN
  rw [if_pos h0, if_pos h1]
  rfl
theorem atM_ok {α : Type} [Inhabited α] {xs : List α} {i : Int} (h0 : 0 ≤ i) (h1 : i < xs.length) : atM xs i = .ok (xs.getD i.toNat default) := by
  unfold atM
  rw [atI_ok h0 h1, List.getElem?_eq_getElem (by omega), List.getD_eq_getElem?_getD, List.getElem?_eq_getElem (by omega)]
  rfl
theorem mulM_ok {a b : Int} (h : mulB a b = true) : mulM a b = .ok (a * b) := by
  unfold mulM
  rw [h]
  rfl
theorem mulB_r {a b : Int} (h1 : -18446744073709551616 < b) (h2 : b < 18446744073709551616) : mulB a b = true := by simp [mulB, h1, h2]
theorem mulB_l {a b : Int} (h1 : -18446744073709551616 < a) (h2 : a < 18446744073709551616) : mulB a b = true := by simp [mulB, h1, h2]
theorem mulB_w {i j : Int} {a b : Nat} (ha : i.natAbs < 2 ^ a) (hb : j.natAbs < 2 ^ b) (h0 : 0 < a) (h1 : 0 < b) (h : a + b ≤ 1000000) : mulB i j = true := by
  have := L2.wide_mul ha hb h0 h1 h
  unfold L2.CMulW at this
  simp [mulB, this]
theorem modM_ok {a b : Int} (h : 0 < b) : modM a b = .ok (a % b) := by simp [modM, posB, h]; rfl
theorem powM_ok {a b : Int} (h : powB a b = true) : powM a b = .ok (a ^ b.toNat) := by simp [powM, h]; rfl
theorem range1_ok {n : Int} (h0 : 0 ≤ n) (h1 : n < 4611686018427387904) : range1 n = .ok (rangeL 0 n) := by
  have e : rgB n = true := by
    unfold rgB
    rw [Bool.and_eq_true, decide_eq_true_eq, decide_eq_true_eq]
    omega
  unfold range1
  rw [e]; rfl
theorem mem_range1 {n x : Int} (h : x ∈ rangeL 0 n) : 0 ≤ x ∧ x < n := by
  unfold rangeL at h
  simp only [List.mem_map, List.mem_range] at h
  obtain ⟨k, hk, e⟩ := h
  omega
theorem lstM_ok {α : Type} {as : List α} (h : as.length ≤ 1000) : lstM as = .ok as := by
  unfold lstM szB
  rw [sizeLine_eq, decide_eq_true (by omega)]
  rfl
theorem appM_ok {α : Type} {as : List α} {a : α} (h : as.length ≤ 1000000) : appM as a = .ok (as ++ [a]) := by
  unfold appM
  rw [sizeLine_eq, decide_eq_true (by omega)]
  rfl
theorem catM_ok {α : Type} {as bs : List α} (h : as.length + bs.length ≤ 1000000) : catM as bs = .ok (as ++ bs) := by
  unfold catM szB
  rw [sizeLine_eq, decide_eq_true (by omega)]
  rfl

/-! ### what a mirror yields -/
def Ev {α : Type} (m : M α) (Q : α → Prop) : Prop := ∃ a, m = .ok a ∧ Q a
theorem Ev.ok {α : Type} {a : α} {Q : α → Prop} (h : Q a) : Ev (.ok a) Q := ⟨a, rfl, h⟩
theorem Ev.pure {α : Type} {a : α} {Q : α → Prop} (h : Q a) : Ev (Pure.pure a) Q := ⟨a, rfl, h⟩
theorem Ev.of {α : Type} {m : M α} {a : α} {Q : α → Prop} (e : m = .ok a) (h : Q a) : Ev m Q := ⟨a, e, h⟩
theorem Ev.eq {α : Type} {m : M α} {a : α} (h : Ev m (· = a)) : m = .ok a := by
  obtain ⟨b, e, h⟩ := h
  rw [e, h]
theorem Ev.mono {α : Type} {m : M α} {P Q : α → Prop} (h : Ev m P) (k : ∀ a, P a → Q a) : Ev m Q := by
  obtain ⟨a, e, h⟩ := h
  exact ⟨a, e, k a h⟩
theorem Ev.bind {α β : Type} {m : M α} {k : α → M β} {P : α → Prop} {Q : β → Prop} (h : Ev m P) (hk : ∀ a, P a → Ev (k a) Q) : Ev (m >>= k) Q := by
  obtain ⟨a, e, h⟩ := h
  rw [e]
  exact hk a h
theorem Ev.run {ρ : Type} {m : M (Ctl Unit Empty ρ)} {Q : ρ → Prop} (h : Ev m fun c => ∃ r, c = .rt r ∧ Q r) : Ev (runC m) Q := by
  obtain ⟨c, e, r, e2, h⟩ := h
  subst e e2
  exact ⟨r, rfl, h⟩
theorem Ev.loop {α S ρ : Type} {f : α → S → M (Ctl S S ρ)} {xs : List α} {s : S} (P : List α → S → Prop) (h0 : P [] s) (h : ∀ pre x post s, xs = pre ++ x :: post → P pre s → Ev (f x s) fun c => ∃ s', c = .nx s' ∧ P (pre ++ [x]) s') : Ev (loopM f xs s) fun c => ∃ s', c = .inl s' ∧ P xs s' := by
  obtain ⟨s', e, p⟩ := loop_ind P h0 fun pre x post s e p => by
    obtain ⟨c, e1, s', e2, q⟩ := h pre x post s e p
    subst e2
    exact ⟨s', e1, q⟩
  exact ⟨_, e, s', rfl, p⟩
/-- a loop, then the rest -/
theorem Ev.loopL {α S S' L ρ : Type} {f : α → S → M (Ctl S S ρ)} {xs : List α} {s : S} {k : S → M (Ctl S' L ρ)} {Q : Ctl S' L ρ → Prop} (P : List α → S → Prop) (h0 : P [] s) (h : ∀ pre x post s, xs = pre ++ x :: post → P pre s → Ev (f x s) fun c => ∃ s', c = .nx s' ∧ P (pre ++ [x]) s') (hk : ∀ s', P xs s' → Ev (k s') Q) : Ev (loopM f xs s >>= fun c => thenL c k) Q :=
  Ev.bind (Ev.loop P h0 h) fun c ⟨s', e, p⟩ => by subst e; exact hk s' p
/-- a loop that may return: P ahead of each turn; a return is as wanted -/
theorem Ev.loopR {α S S' L ρ : Type} {f : α → S → M (Ctl S S ρ)} {xs : List α} {s : S} {k : S → M (Ctl S' L ρ)} {Q : Ctl S' L ρ → Prop} (P : List α → S → Prop) (h0 : P [] s)
    (h : ∀ pre x post s, xs = pre ++ x :: post → P pre s → Ev (f x s) fun c => (∃ s', (c = .nx s' ∨ c = .ct s') ∧ P (pre ++ [x]) s') ∨ (∃ r, c = .rt r ∧ Q (.rt r)) ∨ (∃ s', c = .bk s' ∧ Ev (k s') Q)) (hk : ∀ s', P xs s' → Ev (k s') Q) : Ev (loopM f xs s >>= fun c => thenL c k) Q := by
  have q : ∀ (post pre : List α) (s : S), xs = pre ++ post → P pre s → Ev (loopM f post s >>= fun c => thenL c k) Q := by
    intro post
    induction post with
    | nil =>
      intro pre s e p
      rw [List.append_nil] at e
      subst e
      exact hk s p
    | cons x post ih =>
      intro pre s e p
      obtain ⟨c, e1, h1⟩ := h pre x post s e p
      have e2 : loopM f (x :: post) s = (f x s >>= fun c => match c with
        | .nx s' => loopM f post s'
        | .ct s' => loopM f post s'
        | .bk s' => (Except.ok (Sum.inl s') : M (S ⊕ ρ))
        | .rt r => (Except.ok (Sum.inr r) : M (S ⊕ ρ))) := rfl
      rw [e2, e1]
      rcases h1 with ⟨s', e3, p'⟩ | ⟨r, e3, p'⟩ | ⟨s', e3, p'⟩
      · rcases e3 with e3 | e3 <;> subst e3 <;> exact ih (pre ++ [x]) s' (by rw [e]; simp) p'
      · subst e3; exact ⟨_, rfl, p'⟩
      · subst e3; exact p'
  exact q xs [] s rfl h0
theorem Ev.ite {α : Type} {c : Prop} [Decidable c] {a b : M α} {Q : α → Prop} (h1 : c → Ev a Q) (h2 : ¬ c → Ev b Q) : Ev (if c then a else b) Q := by
  by_cases h : c
  · rw [if_pos h]; exact h1 h
  · rw [if_neg h]; exact h2 h
theorem Ev.bif {α : Type} {c : Bool} {a b : M α} {Q : α → Prop} (h1 : c = true → Ev a Q) (h2 : c = false → Ev b Q) : Ev (if c then a else b) Q := Ev.ite h1 fun h => h2 (by simpa using h)
theorem Ev.comp {α β : Type} {t : α → M Bool} {f : α → M β} (P : α → β → Prop) {xs : List α} (hl : xs.length ≤ 16777216) (ht : ∀ x ∈ xs, t x = .ok true) (h : ∀ x ∈ xs, Ev (f x) (P x)) : Ev (compM xs t f) fun ys => ys.length = xs.length ∧ ∀ i (h1 : i < xs.length) (h2 : i < ys.length), P xs[i] ys[i] := by
  unfold compM
  rw [sizeLine_eq, decide_eq_true hl]
  show Ev (compL t f xs) _
  clear hl
  induction xs with
  | nil => exact ⟨[], rfl, rfl, fun i h1 => absurd h1 (Nat.not_lt_zero i)⟩
  | cons x xs ih =>
    obtain ⟨y, ey, py⟩ := h x (List.mem_cons_self ..)
    obtain ⟨ys, eys, hl, pys⟩ := ih (fun z hz => ht z (List.mem_cons_of_mem _ hz)) fun z hz => h z (List.mem_cons_of_mem _ hz)
    refine ⟨y :: ys, ?_, by simp [hl], ?_⟩
    · show (t x >>= _) = _
      rw [ht x (List.mem_cons_self ..)]
      show (f x >>= _) = _
      rw [ey]
      show (compL t f xs >>= _) = _
      rw [eys]
      rfl
    · intro i h1 h2
      cases i with
      | zero => exact py
      | succ i => exact pys i _ _
theorem pre_lt {α : Type} {xs pre post : List α} {x : α} (e : xs = pre ++ x :: post) : pre.length < xs.length := by
  have := congrArg List.length e
  simp at this; omega
theorem pre_mem {α : Type} {xs pre post : List α} {x : α} (e : xs = pre ++ x :: post) : x ∈ xs := by rw [e]; simp
/-- data without texts can always be compared -/
class EqvT (α : Type) [Rp α] [DecidableEq α] [Eqv α] : Prop where
  all : ∀ a : α, Eqv.ok a = true
instance : EqvT Int := ⟨fun _ => rfl⟩
instance : EqvT Bool := ⟨fun _ => rfl⟩
instance {α : Type} [Rp α] [DecidableEq α] [Eqv α] [EqvT α] : EqvT (List α) := ⟨fun as => List.all_eq_true.mpr fun a _ => EqvT.all a⟩
instance {α : Type} [Rp α] [DecidableEq α] [Eqv α] [EqvT α] : EqvT (Tu α) := ⟨fun as => List.all_eq_true.mpr fun a _ => EqvT.all a⟩
instance {α β : Type} [Rp α] [Rp β] [DecidableEq α] [DecidableEq β] [Eqv α] [Eqv β] [EqvT α] [EqvT β] : EqvT (α × β) := ⟨fun a => by
  show (Eqv.ok a.1 && Eqv.ok a.2) = true
  rw [EqvT.all, EqvT.all]; rfl⟩
theorem eqM_ok {α : Type} [Rp α] [DecidableEq α] [Eqv α] [EqvT α] (a b : α) : eqM a b = .ok (decide (a = b)) := by
  unfold eqM
  rw [EqvT.all, EqvT.all]; rfl
theorem neM_ok {α : Type} [Rp α] [DecidableEq α] [Eqv α] [EqvT α] (a b : α) : neM a b = .ok (!decide (a = b)) := by
  unfold neM
  rw [EqvT.all, EqvT.all]; rfl
end Ty

namespace Ty
open PySem PySem.Spec PyProof.Rows L2
section
variable {X : Cx} {Γ : Ctx} {S L ρ α β γ A B S' : Type} [Rp ρ] {o : Ow ρ} {Γo : S → Ctx} {ΓL : L → Ctx} {a b e : Expr} {es : List Expr} {pos p p1 p2 apos cpos : Pos} {ta tb tc te : TE} {t : TA} {sts : List Stmt} {tr tr' : TS}
theorem Step.none2 {HF H HF1 H1 : Hp} {fo : List Addr} (st : Step HF H HF1 H1) (hfo : ∀ p ∈ fo, HF p = none) (dm : ∀ p ∈ fo, ∃ w, H p = some w) : ∀ p ∈ fo, HF1 p = none := fun p hp => by
  obtain ⟨w, hw⟩ := dm p hp
  exact st.nn (hfo p hp) hw
/-- x[i] = e -/
theorem ss_set [Rp α] (i : Nat) {u : Ow α} {as : List α} {x : Str} {m : M α} {mi : M Int} {k : List α → M (Ctl S L ρ)} (he : EX X Γ e u m te) (hi : EX X Γ b Ow.v mi tb) (hr : ∀ l, SS X (put Γ i (.mk (Ow.l u) l)) sts Γo ΓL o (k l) tr) (hl : look Γ i = .mk (Ow.l u) as := by rfl) (hN : X.N[i]? = some x := by rfl) (hv : Vis X.env.scope x := by first | exact Or.inl rfl | exact Or.inr (Or.inl rfl) | exact Or.inr (Or.inr rfl)) (hd : (x == ("__debug__" : Str)) = false := by decide)
    (hcd : (x == ("__classdict__" : Str)) = false := by decide)
    (hps : PE X e te → PG X (.Subscript (.Name x p) b p1) (gSub (tVar i) tb rSetL) → PS X (.Assign [.Subscript (.Name x p) b p1] e pos) (tAsg te (gSub (tVar i) tb rSetL)) := by exact fun h h' => ps_asg h h')
    (hpg : PE X (.Name x p) (tVar i) → PE X b tb → PG X (.Subscript (.Name x p) b p1) (gSub (tVar i) tb rSetL) := by exact fun h h' => pg_sub h h' set_list) :
    SS X Γ (.Assign [.Subscript (.Name x p) b p1] e pos :: sts) Γo ΓL o (do let a ← m; let b ← mi; let l ← setM as b a; k l) (tSeq (tAsg te (gSub (tVar i) tb rSetL)) tr) :=
  ⟨pss_cons (hps he.pe (hpg (pe_var hN hv hd hcd) hi.pe)) (hr []).pss, fun HF0 G HF H σ g c hc D kk => by
    obtain ⟨y, e1, hc⟩ := bind_ok hc
    obtain ⟨ix, e2, hc⟩ := bind_ok hc
    obtain ⟨l, e3, hc⟩ := bind_ok hc
    obtain ⟨j, e4, e3⟩ := bind_ok e3
    have e5 := pure_ok e3
    subst e5
    have e6 := ofO_ok e4
    obtain ⟨v, fo, hσ, ⟨q, vs, fq, h1, h2, h3, h4⟩, nd, hfo, back⟩ := g.take hl
    subst h1 h2
    refine he.sem HF0 G HF H σ g y e1 _ fun v' HF1 H1 fp st r n f => ?_
    refine ⟨.ref q, hσ, ?_⟩
    refine hi.sem HF0 G HF1 H1 σ (g.step st) ix e2 _ fun w HF2 H2 fp2 st2 r2 _ _ => ?_
    have st12 := st.trans st2
    refine ⟨q, vs, ix, j, rfl, r2.1, st12.exH _ _ h3, by rw [h4.len]; exact e6, ?_⟩
    have hqn : q ∉ fq := (List.nodup_cons.mp nd).1
    have hqp : q ∉ fp := fun z => by
      have := (f q z).1
      rw [h3] at this; cases this
    have hj : j < as.length := (ixN_seq e6).2.1
    obtain ⟨v0, f0, _, _, s1, s2⟩ := Rl.get (j := j) (Rl.step h4 st12) (List.getElem?_eq_getElem hj)
    have r' : u.rep X.K HF2 H2 v' y fp := u.mono st2.exF (fun p _ o e => st2.exH p o e) r
    have dmq := Rl.dom (fun v a f r => u.dom r) h4
    obtain ⟨fp', w1, w2, w3, w4⟩ := s2 r' (fun p hp => .inr fun z => by
      obtain ⟨w', hw⟩ := dmq p z
      rw [(f p hp).1] at hw; cases hw) n (List.nodup_cons.mp nd).2
    have hq' : q ∉ fp' := fun z => (w3 q z).elim hqn hqp
    have gg := back (u' := Ow.l u) (b := as.set j y) (v' := .ref q) (f' := q :: fp') (H' := upd H2 q (.lst (vs.set j v'))) st12 (fun p w hp e => by rw [upd_ne (fun z => hp (by rw [z]; exact List.mem_cons_self ..))]; exact e)
      ⟨q, vs.set j v', fp', rfl, rfl, upd_same, w1.upd hq'⟩ (List.nodup_cons.mpr ⟨hq', w2⟩) (fun p hp => by
        rcases List.mem_cons.mp hp with z | z
        · exact .inl (by rw [z]; exact List.mem_cons_self ..)
        · rcases w3 p z with z | z
          · exact .inl (List.mem_cons_of_mem _ z)
          · exact .inr ⟨(f p z).1, by
              obtain ⟨w', hw⟩ := u.dom r p z
              exact st2.nn (f p z).2 hw⟩)
    rw [set_self hσ] at gg
    exact (hr (as.set j y)).sem HF0 G HF2 _ σ gg c hc D (kk.mono st12.exF)⟩
theorem Rl.mut {α : Type} {R : V → α → List Addr → Prop} : ∀ {vs : List V} {as : List α} {fp : List Addr} {j : Nat} {a : α}, Rl R vs as fp → fp.Nodup → as[j]? = some a → ∃ v f, vs[j]? = some v ∧ R v a f ∧ f.Nodup ∧ (∀ p ∈ f, p ∈ fp) ∧
    ∀ {a' : α} {f' : List Addr} {R' : V → α → List Addr → Prop}, (∀ v a f0, (∀ p ∈ f0, p ∈ fp ∧ p ∉ f) → R v a f0 → R' v a f0) → R' v a' f' → f'.Nodup → (∀ p ∈ f', p ∈ f ∨ p ∉ fp) → ∃ fp', Rl R' vs (as.set j a') fp' ∧ fp'.Nodup ∧ ∀ p ∈ fp', p ∈ fp ∨ p ∈ f'
  | [], [], _, j, a, _, _, e => by simp at e
  | v :: vs, b :: as, fp, 0, a, ⟨f1, f2, e1, h1, h2⟩, nd, e => by
    have e' : b = a := Option.some.inj e
    subst e'
    rw [e1] at nd
    obtain ⟨n1, n2, n3⟩ := List.nodup_append.mp nd
    refine ⟨v, f1, rfl, h1, n1, fun p hp => by rw [e1]; exact List.mem_append_left _ hp, fun {a' f' R'} k r nf hf => ?_⟩
    refine ⟨f' ++ f2, ⟨f', f2, rfl, r, Rl.mono (fun v a f0 h0 r0 => k v a f0 (fun p hp => ⟨by rw [e1]; exact List.mem_append_right _ (h0 p hp), fun z => n3 p z p (h0 p hp) rfl⟩) r0) h2⟩, List.nodup_append.mpr ⟨nf, n2, fun p hp q hq e => ?_⟩, fun p hp => ?_⟩
    · subst e
      rcases hf p hp with z | z
      · exact n3 p z p hq rfl
      · exact z (by rw [e1]; exact List.mem_append_right _ hq)
    · rcases List.mem_append.mp hp with z | z
      · exact .inr z
      · exact .inl (by rw [e1]; exact List.mem_append_right _ z)
  | v :: vs, b :: as, fp, j + 1, a, ⟨f1, f2, e1, h1, h2⟩, nd, e => by
    have nd' := nd
    rw [e1] at nd'
    obtain ⟨n1, n2, n3⟩ := List.nodup_append.mp nd'
    obtain ⟨w, f, q1, q2, q3, q4, q5⟩ := Rl.mut (j := j) h2 n2 e
    refine ⟨w, f, q1, q2, q3, fun p hp => by rw [e1]; exact List.mem_append_right _ (q4 p hp), fun {a' f' R'} k r nf hf => ?_⟩
    obtain ⟨fp', w1, w2, w3⟩ := q5 (R' := R') (fun v a f0 h0 r0 => k v a f0 (fun p hp => ⟨by rw [e1]; exact List.mem_append_right _ (h0 p hp).1, (h0 p hp).2⟩) r0) r nf fun p hp => (hf p hp).imp id fun z y => z (by rw [e1]; exact List.mem_append_right _ y)
    refine ⟨f1 ++ fp', ⟨f1, fp', rfl, k v b f1 (fun p hp => ⟨by rw [e1]; exact List.mem_append_left _ hp, fun z => n3 p hp p (q4 p z) rfl⟩) h1, w1⟩, List.nodup_append.mpr ⟨n1, w2, fun p hp q hq e => ?_⟩, fun p hp => ?_⟩
    · subst e
      rcases w3 p hq with z | z
      · exact n3 p hp p z rfl
      · rcases hf p z with y | y
        · exact n3 p hp p (q4 p y) rfl
        · exact y (by rw [e1]; exact List.mem_append_left _ hp)
    · rcases List.mem_append.mp hp with z | z
      · exact .inl (by rw [e1]; exact List.mem_append_left _ z)
      · exact (w3 p z).imp (fun y => by rw [e1]; exact List.mem_append_right _ y) id
  | [], _ :: _, _, _, _, x, _, _ => x.elim
  | _ :: _, [], _, _, _, x, _, _ => x.elim
/-- the j-th of an own list of own lists, changed in place -/
theorem Good.take2 {K : PySem.W.Frag} {HF0 G HF H HF1 H1 : Hp} {σ : L2.St} {i j : Nat} [Rp α] {u : Ow α} {as : List (List α)} {r : List α} (g : Good K HF0 G Γ HF H σ) (hl : look Γ i = .mk (Ow.l (Ow.l u)) as) (st : Step HF H HF1 H1) (hj : as[j]? = some r) :
    ∃ p vs q ws fq, σ[i]? = some (some (.ref p)) ∧ H p = some (.lst vs) ∧ vs.length = as.length ∧ vs[j]? = some (.ref q) ∧ H1 q = some (.lst ws) ∧ Rl (u.rep K HF1 H1) ws r fq ∧ fq.Nodup ∧ q ∉ fq ∧ H1 p = some (.lst vs) ∧ (∀ p' ∈ fq, ∃ w, H p' = some w) ∧ (∃ w, H q = some w) ∧ p ≠ q ∧
      ∀ {HF2 H2 : Hp} {ws' : List V} {r' : List α} {fq' : List Addr}, Step HF1 H1 HF2 H2 → Rl (u.rep K HF2 (upd H2 q (.lst ws'))) ws' r' fq' → fq'.Nodup → q ∉ fq' → (∀ p' ∈ fq', p' ∈ fq ∨ (H p' = none ∧ HF2 p' = none)) →
        Good K HF0 G (put Γ i (.mk (Ow.l (Ow.l u)) (as.set j r'))) HF2 (upd H2 q (.lst ws')) σ := by
  obtain ⟨v, fo, hσ, ⟨p, vs, fp, h1, h2, h3, h4⟩, nd, hfo, back⟩ := g.take hl
  subst h1 h2
  have hp := (List.nodup_cons.mp nd).1
  have nfp := (List.nodup_cons.mp nd).2
  have dmf := Rl.dom (fun v a f r => (Ow.l u).dom r) h4
  obtain ⟨v, f, e1, ⟨q, ws, fq, e2, e3, h5, h6⟩, nf, hf, mk⟩ := Rl.mut (Rl.step h4 st) nfp hj
  subst e2 e3
  have hq : q ∉ fq := (List.nodup_cons.mp nf).1
  have hqp : q ∈ fp := hf q (List.mem_cons_self ..)
  have hpq : p ≠ q := fun z => hp (by rw [z]; exact hqp)
  refine ⟨p, vs, q, ws, fq, hσ, h3, h4.len, e1, h5, h6, (List.nodup_cons.mp nf).2, hq, st.exH _ _ h3, fun p' hp' => dmf p' (hf p' (List.mem_cons_of_mem _ hp')), dmf q hqp, hpq, ?_⟩
  intro HF2 H2 ws' r' fq' st2 hr nq hnq hsub
  have st12 := st.trans st2
  obtain ⟨fp', w1, w2, w3⟩ := mk (a' := r') (f' := q :: fq') (R' := (Ow.l u).rep K HF2 (upd H2 q (.lst ws'))) (fun v a f0 h0 r0 => (Ow.l u).mono st2.exF (fun p' hp' o e => by
      rw [upd_ne (fun z => (h0 p' hp').2 (by rw [z]; exact List.mem_cons_self ..))]
      exact st2.exH _ _ e) r0) ⟨q, ws', fq', rfl, rfl, upd_same, hr⟩ (List.nodup_cons.mpr ⟨hnq, nq⟩) (fun p' hp' => by
      rcases List.mem_cons.mp hp' with z | z
      · exact .inl (by rw [z]; exact List.mem_cons_self ..)
      · rcases hsub p' z with y | y
        · exact .inl (List.mem_cons_of_mem _ y)
        · exact .inr fun y' => by
            obtain ⟨w, hw⟩ := dmf p' y'
            rw [y.1] at hw; cases hw)
  have hp' : p ∉ fp' := fun z => by
    rcases w3 p z with y | y
    · exact hp y
    · rcases List.mem_cons.mp y with y | y
      · exact hpq y
      · rcases hsub p y with x | x
        · exact hp (hf p (List.mem_cons_of_mem _ x))
        · rw [h3] at x; cases x.1
  have gg := back (u' := Ow.l (Ow.l u)) (b := as.set j r') (v' := .ref p) (f' := p :: fp') (H' := upd H2 q (.lst ws')) st12 (fun p' w hn e => by rw [upd_ne (fun z => hn (by rw [z]; exact List.mem_cons_of_mem _ hqp))]; exact e)
    ⟨p, vs, fp', rfl, rfl, by rw [upd_ne hpq]; exact st12.exH _ _ h3, w1⟩ (List.nodup_cons.mpr ⟨hp', w2⟩) (fun p' hp' => by
      rcases List.mem_cons.mp hp' with z | z
      · exact .inl (by rw [z]; exact List.mem_cons_self ..)
      · rcases w3 p' z with y | y
        · exact .inl (List.mem_cons_of_mem _ y)
        · rcases List.mem_cons.mp y with y | y
          · exact .inl (by rw [y]; exact List.mem_cons_of_mem _ hqp)
          · rcases hsub p' y with x | x
            · exact .inl (List.mem_cons_of_mem _ (hf p' (List.mem_cons_of_mem _ x)))
            · exact .inr x)
  rw [set_self hσ] at gg
  exact gg
/-- x[i][j] = e -/
theorem ss_set2 {K : PySem.W.Frag} [Fl α] (i : Nat) {as : List (List α)} {x : Str} {m : M α} {ma mb : M Int} {k : List (List α) → M (Ctl S L ρ)} (he : EX X Γ e Ow.v m te) (ha : EX X Γ a Ow.v ma ta) (hb : EX X Γ b Ow.v mb tb) (hr : ∀ l, SS X (put Γ i (.mk (Ow.l (Ow.l (Ow.v : Ow α))) l)) sts Γo ΓL o (k l) tr) (hl : look Γ i = .mk (Ow.l (Ow.l (Ow.v : Ow α))) as := by rfl) (hN : X.N[i]? = some x := by rfl) (hv : Vis X.env.scope x := by first | exact Or.inl rfl | exact Or.inr (Or.inl rfl) | exact Or.inr (Or.inr rfl)) (hd : (x == ("__debug__" : Str)) = false := by decide)
    (hcd : (x == ("__classdict__" : Str)) = false := by decide) (hK : X.K = K := by rfl)
    (hps : PE X e te → PG X (.Subscript (.Subscript (.Name x p) a p2) b p1) (gSub (tOp (rIxL K) (tVar i) ta) tb rSetL) → PS X (.Assign [.Subscript (.Subscript (.Name x p) a p2) b p1] e pos) (tAsg te (gSub (tOp (rIxL K) (tVar i) ta) tb rSetL)) := by exact fun h h' => ps_asg h h')
    (hpg : PE X (.Name x p) (tVar i) → PE X a ta → PE X b tb → PG X (.Subscript (.Subscript (.Name x p) a p2) b p1) (gSub (tOp (rIxL K) (tVar i) ta) tb rSetL) := by exact fun h h' h'' => pg_sub (pe_ix ix_list h h' (fun _ _ => rfl)) h'' set_list) :
    SS X Γ (.Assign [.Subscript (.Subscript (.Name x p) a p2) b p1] e pos :: sts) Γo ΓL o (do let a ← m; let b ← ma; let c ← mb; let l ← set2M as b c a; k l) (tSeq (tAsg te (gSub (tOp (rIxL K) (tVar i) ta) tb rSetL)) tr) := by
  subst hK
  exact ⟨pss_cons (hps he.pe (hpg (pe_var hN hv hd hcd) ha.pe hb.pe)) (hr []).pss, fun HF0 G HF H σ g c hc D kk => by
    obtain ⟨y, e1, hc⟩ := bind_ok hc
    obtain ⟨ix, e2, hc⟩ := bind_ok hc
    obtain ⟨iy, e3, hc⟩ := bind_ok hc
    obtain ⟨l, e4, hc⟩ := bind_ok hc
    obtain ⟨j, e5, e4⟩ := bind_ok e4
    obtain ⟨r, e6, e4⟩ := bind_ok e4
    obtain ⟨n, e7, e4⟩ := bind_ok e4
    have e8 := pure_ok e4
    subst e8
    have e5 := ofO_ok e5
    have e6 := ofO_ok e6
    have e7 := ofO_ok e7
    refine he.sem HF0 G HF H σ g y e1 _ fun v' HF1 H1 fp st1 r1 _ _ => ?_
    obtain ⟨p, vs, q, ws, fq, hσ, h3, hlen, hvq, _, _, _, _, _, _, _, _, _⟩ := g.take2 (u := Ow.v) hl (Step.refl g.sub) e6
    refine ⟨.ref p, hσ, ?_⟩
    refine ha.sem HF0 G HF1 H1 σ (g.step st1) ix e2 _ fun w2 HF2 H2 fp2 st2 r2 _ _ => ?_
    have st12 := st1.trans st2
    refine ⟨p, vs, ix, .ref q, rfl, r2.1, SqL.of (st12.exH _ _ h3), ?_, ?_⟩
    · unfold atI
      rw [hlen, e5]
      exact hvq
    refine hb.sem HF0 G HF2 H2 σ (g.step st12) iy e3 _ fun w3 HF3 H3 fp3 st3 r3 _ _ => ?_
    have st123 := st12.trans st3
    obtain ⟨p', vs', q', ws', fq', hσ', h3', _, hvq', hq1, hr1, nq, hnq, _, _, _, _, back⟩ := g.take2 (u := Ow.v) hl st123 e6
    rw [hσ] at hσ'
    cases hσ'
    rw [h3] at h3'
    cases h3'
    rw [hvq] at hvq'
    cases hvq'
    obtain ⟨hfa, hnil⟩ := Rl.toFa hr1
    refine ⟨q, ws', iy, n, rfl, r3.1, hq1, by rw [hr1.len]; exact e7, ?_⟩
    have gg := back (HF2 := HF3) (H2 := H3) (ws' := ws'.set n v') (r' := r.set n y) (fq' := []) (Step.refl st123.sub) (Rl.ofFa (Fa.set (Rp.mono (st2.exF.trans st3.exF) r1.1) n hfa)) List.nodup_nil (by simp) (by simp)
    exact (hr (as.set j (r.set n y))).sem HF0 G HF3 _ σ gg c hc D (kk.mono st123.exF)⟩
/-- x[i].append(e) -/
def app2M {α : Type} (as : List (List α)) (k : Int) (a : α) : M (List (List α)) := do
  let j ← ofO (ixN as.length k)
  let r ← ofO as[j]?
  gd (decide (r.length < sizeLine))
  pure (as.set j (r ++ [a]))
theorem ss_app2 {K : PySem.W.Frag} [Fl α] (i : Nat) {as : List (List α)} {x : Str} {m : M α} {ma : M Int} {k : List (List α) → M (Ctl S L ρ)} (ha : EX X Γ a Ow.v ma ta) (he : EX X Γ e Ow.v m te) (hr : ∀ l, SS X (put Γ i (.mk (Ow.l (Ow.l (Ow.v : Ow α))) l)) sts Γo ΓL o (k l) tr) (hl : look Γ i = .mk (Ow.l (Ow.l (Ow.v : Ow α))) as := by rfl) (hN : X.N[i]? = some x := by rfl) (hv : Vis X.env.scope x := by first | exact Or.inl rfl | exact Or.inr (Or.inl rfl) | exact Or.inr (Or.inr rfl)) (hd : (x == ("__debug__" : Str)) = false := by decide)
    (hcd : (x == ("__classdict__" : Str)) = false := by decide) (hK : X.K = K := by rfl)
    (hpe : ∀ {tt : TA}, PE X (.Name x p) (tVar i) → PE X a ta → PA X [e] tt → PE X (.Call (.Attribute (.Subscript (.Name x p) a p2) "append" apos) [e] [] cpos) (tBM K "list" rAppend (tOp (rIxL K) (tVar i) ta) tt) := by exact fun h h' h'' => pe_bm PySem.F.plainAttrs_list PySem.F.slot_list_append PySem.F.type_list_append mt_append (pe_ix ix_list h h' (fun _ _ => rfl)) h'')
    (h1 : starEach [e] X.env = (false, eval e X.env) :: starEach [] X.env := by rfl)
    (hs : swapsWith (.Call (.Attribute (.Subscript (.Name x p) a p2) "append" apos) [e] [] cpos) none pos.line X.env = pure false := by rfl) :
    SS X Γ (.Expr (.Call (.Attribute (.Subscript (.Name x p) a p2) "append" apos) [e] [] cpos) pos :: sts) Γo ΓL o (do let b ← ma; let a ← m; let l ← app2M as b a; k l) (tSeq (tDrop (tBM K "list" rAppend (tOp (rIxL K) (tVar i) ta) (tCons te tNil))) tr) := by
  subst hK
  exact ⟨pss_cons (ps_expr (hpe (pe_var hN hv hd hcd) ha.pe (pa_cons he.pe pa_nil h1)) hs) (hr []).pss, fun HF0 G HF H σ g c hc D kk => by
    obtain ⟨ix, e2, hc⟩ := bind_ok hc
    obtain ⟨y, e1, hc⟩ := bind_ok hc
    obtain ⟨l, e4, hc⟩ := bind_ok hc
    obtain ⟨j, e5, e4⟩ := bind_ok e4
    obtain ⟨r, e6, e4⟩ := bind_ok e4
    obtain ⟨n, e7, e4⟩ := bind_ok e4
    have e8 := pure_ok e4
    subst e8
    have e5 := ofO_ok e5
    have e6 := ofO_ok e6
    have e7 := gd_ok e7
    obtain ⟨p, vs, q, ws, fq, hσ, h3, hlen, hvq, hq0, _, _, _, _, _, _, _, _⟩ := g.take2 (u := Ow.v) hl (Step.refl g.sub) e6
    refine ⟨.ref p, hσ, ?_⟩
    refine ha.sem HF0 G HF H σ g ix e2 _ fun w2 HF1 H1 fp2 st1 r2 _ _ => ?_
    refine ⟨p, vs, ix, .ref q, rfl, r2.1, SqL.of (st1.exH _ _ h3), ?_, .inl ⟨rfl, ws, SqL.of (st1.exH _ _ hq0)⟩, ?_⟩
    · unfold atI
      rw [hlen, e5]
      exact hvq
    refine he.sem HF0 G HF1 H1 σ (g.step st1) y e1 _ fun v' HF2 H2 fp st2 r1 _ _ => ?_
    have st12 := st1.trans st2
    obtain ⟨p', vs', q', ws', fq', hσ', h3', _, hvq', hq1, hr1, nq, hnq, _, _, _, _, back⟩ := g.take2 (u := Ow.v) hl st12 e6
    rw [hσ] at hσ'
    cases hσ'
    rw [h3] at h3'
    cases h3'
    rw [hvq] at hvq'
    cases hvq'
    obtain ⟨hfa, hnil⟩ := Rl.toFa hr1
    refine ⟨q, ws', v', rfl, rfl, hq1, by rw [hr1.len]; exact of_decide_eq_true e7, ?_⟩
    have gg := back (HF2 := HF2) (H2 := H2) (ws' := ws' ++ [v']) (r' := r ++ [y]) (fq' := []) (Step.refl st12.sub) (Rl.ofFa (Fa.append hfa ⟨r1.1, True.intro⟩)) List.nodup_nil (by simp) (by simp)
    exact (hr (as.set j (r ++ [y]))).sem HF0 G HF2 _ σ gg c hc D (kk.mono st12.exF)⟩
theorem put_put : ∀ (Γ : Ctx) (r : Nat) (s t : Sl), put (put Γ r s) r t = put Γ r t
  | [], _, _, _ => rfl
  | _ :: _, 0, _, _ => rfl
  | u :: Γ, r + 1, s, t => congrArg (u :: ·) (put_put Γ r s t)
theorem put_un : ∀ (Γ : Ctx) (i r : Nat) (s : Sl), i ≠ r → put (put (put Γ r .un) i s) r .un = put (put Γ r .un) i s
  | [], _, _, _, _ => rfl
  | _ :: _, 0, 0, _, h => absurd rfl h
  | t :: Γ, 0, r + 1, s, _ => congrArg (s :: ·) (put_put Γ r .un .un)
  | _ :: _, _ + 1, 0, _, _ => rfl
  | t :: Γ, i + 1, r + 1, s, h => congrArg (t :: ·) (put_un Γ i r s fun e => h (congrArg (· + 1) e))
theorem look_put : ∀ (Γ : Ctx) (i : Nat) (s : Sl), i < Γ.length → look (put Γ i s) i = s
  | [], _, _, h => absurd h (Nat.not_lt_zero _)
  | _ :: _, 0, _, _ => rfl
  | _ :: Γ, i + 1, s, h => look_put Γ i s (Nat.lt_of_succ_lt_succ h)
theorem take_set {α : Type} (f : α → α) {as : List α} {n : Nat} (h : n < as.length) : ((as.take n).map f ++ as.drop n).set n (f as[n]) = (as.take (n + 1)).map f ++ as.drop (n + 1) := by
  have hl : ((as.take n).map f).length = n := by rw [List.length_map, List.length_take]; omega
  rw [List.set_append_right _ _ (by omega), hl, Nat.sub_self, List.drop_eq_getElem_cons h, List.set_cons_zero, List.take_succ_eq_append_getElem h, List.map_append, List.append_assoc]
  rfl
theorem take_at {α : Type} (f : α → α) {as : List α} {n : Nat} (h : n < as.length) : ((as.take n).map f ++ as.drop n)[n]? = some as[n] := by
  have hl : ((as.take n).map f).length = n := by rw [List.length_map, List.length_take]; omega
  rw [List.getElem?_append_right (by omega), hl, Nat.sub_self, List.drop_eq_getElem_cons h]
  rfl
/-- for r in x: r.append(e) -/
def appAllM {α : Type} (as : List (List α)) (a : α) : M (List (List α)) := do gd (as.all fun r => decide (r.length < sizeLine)); pure (as.map (· ++ [a]))
theorem ss_forApp {K : PySem.W.Frag} [Fl α] (i r : Nat) {as : List (List α)} {x y : Str} {m : M α} {k : List (List α) → M (Ctl S L ρ)} {py p4 : Pos} (hN : X.N.Nodup) (hc : X.calm = true) (hxe : PassesOwn (model X.prog X.w) X.A X.env X.xe) (he : ∀ l, EX X (put (put Γ r .un) i (.mk (Ow.l (Ow.l (Ow.v : Ow α))) l)) e Ow.v m te) (hr : ∀ l, SS X (put (put Γ r .un) i (.mk (Ow.l (Ow.l (Ow.v : Ow α))) l)) sts Γo ΓL o (k l) tr) (hl : look (put Γ r .un) i = .mk (Ow.l (Ow.l (Ow.v : Ow α))) as := by rfl) (hir : i ≠ r := by decide) (hrl : Nat.blt r Γ.length = true := by rfl) (hN1 : X.N[i]? = some x := by rfl) (hv : Vis X.env.scope x := by first | exact Or.inl rfl | exact Or.inr (Or.inl rfl) | exact Or.inr (Or.inr rfl)) (hd : (x == ("__debug__" : Str)) = false := by decide)
    (hcd : (x == ("__classdict__" : Str)) = false := by decide) (hN2 : X.N[r]? = some y := by rfl) (hv2 : Vis X.env.scope y := by first | exact Or.inl rfl | exact Or.inr (Or.inl rfl) | exact Or.inr (Or.inr rfl)) (hd2 : (y == ("__debug__" : Str)) = false := by decide)
    (hcd2 : (y == ("__classdict__" : Str)) = false := by decide) (hx : Loc X.env.scope y := by first | exact .inl rfl | exact .inr rfl) (hf : X.fn y = true ∨ X.env.scope.names.lookup y = some .local := by first | exact .inl rfl | exact .inr rfl) (hK : X.K = K := by rfl)
    (hpe : ∀ {tt : TA}, PE X (.Name y py) (tVar r) → PA X [e] tt → PE X (.Call (.Attribute (.Name y py) "append" apos) [e] [] cpos) (tBM K "list" rAppend (tVar r) tt) := by exact fun h h' => pe_bm PySem.F.plainAttrs_list PySem.F.slot_list_append PySem.F.type_list_append mt_append h h')
    (h1 : starEach [e] X.env = (false, eval e X.env) :: starEach [] X.env := by rfl)
    (hs : swapsWith (.Call (.Attribute (.Name y py) "append" apos) [e] [] cpos) none p4.line X.env = pure false := by rfl) (hs2 : ∀ z, foldedSetIterable (.Name x p) X.env z = pure z := by intro _; rfl) :
    SS X Γ (.For (.Name y p1) (.Name x p) [.Expr (.Call (.Attribute (.Name y py) "append" apos) [e] [] cpos) p4] [] pos :: sts) Γo ΓL o (do let a ← m; let l ← appAllM as a; k l) (tSeq (tFor (iList K (tVar i)) (gName r) (tDrop (tBM K "list" rAppend (tVar r) (tCons te tNil)))) tr) := by
  subst hK
  exact ⟨pss_cons (ps_for hxe hc (pi_list (pe_var hN1 hv hd hcd)) (pg_name hN hN2 hx hf) (pss_one (ps_expr (hpe (pe_var hN2 hv2 hd2 hcd2) (pa_cons (he []).pe pa_nil h1)) hs)) hs2) (hr []).pss, fun HF0 G HF H σ g cc hcc D kk => by
    obtain ⟨y, e1, hcc⟩ := bind_ok hcc
    obtain ⟨l, e2, hcc⟩ := bind_ok hcc
    obtain ⟨w, e3, e2⟩ := bind_ok e2
    have e4 := pure_ok e2
    subst e4
    have e5 := List.all_eq_true.mp (gd_ok e3)
    have hlen := g.len
    have g0 : Good X.K HF0 G (put Γ r .un) HF H σ := by
      have q := g.un r (σ.getD r none) (of_blt hrl)
      have eσ : σ.set r (σ.getD r none) = σ := by
        apply List.ext_getElem?
        intro j
        by_cases hj : r = j
        · subst hj
          have := of_blt hrl
          rw [List.getElem?_set_self (by omega), List.getD_eq_getElem?_getD, List.getElem?_eq_getElem (by omega)]
          rfl
        · rw [List.getElem?_set_ne hj]
      rw [eσ] at q
      exact q
    obtain ⟨v, fo, hσ, ⟨p, vs, fp, h1, h2, h3, h4⟩, nd, hfo, back⟩ := g0.take hl
    subst h1
    have vl := h4.len
    have gput : Good X.K HF0 G (put (put Γ r .un) i (.mk (Ow.l (Ow.l (Ow.v : Ow α))) as)) HF H σ := by
      have := back (u' := Ow.l (Ow.l (Ow.v : Ow α))) (b := as) (v' := .ref p) (f' := fo) (H' := H) (Step.refl g.sub) (fun _ _ _ e => e) ⟨p, vs, fp, rfl, h2, h3, h4⟩ nd (fun p hp => .inl hp)
      rw [set_self hσ] at this
      exact this
    refine ⟨.ref p, hσ, p, rfl, ⟨vs, SqL.of h3⟩, ?_⟩
    refine ⟨fun n c σ2 H2 => c = as.length - n ∧ n ≤ as.length ∧ ∃ HF2, Same HF HF2 ∧ H2 p = some (.lst vs) ∧ σ2[i]? = some (some (.ref p)) ∧ Good X.K HF0 G (put (put Γ r .un) i (.mk (Ow.l (Ow.l (Ow.v : Ow α))) ((as.take n).map (· ++ [y]) ++ as.drop n))) HF2 H2 σ2, ⟨as.length, rfl, Nat.zero_le _, HF, Same.refl _, h3, hσ, gput⟩, ?_⟩
    rintro n c σ2 H2 ⟨rfl, hn, HF2, a, hp2, hσp, g2⟩
    by_cases hlt : n < as.length
    · refine .inr ⟨⟨vs, vs[n]'(by omega), SqL.of hp2, List.getElem?_eq_getElem (by omega)⟩, fun σ' H' => ∃ HF', Same HF HF' ∧ H' p = some (.lst vs) ∧ σ'[i]? = some (some (.ref p)) ∧ Good X.K HF0 G (put (put Γ r .un) i (.mk (Ow.l (Ow.l (Ow.v : Ow α))) ((as.take (n + 1)).map (· ++ [y]) ++ as.drop (n + 1)))) HF' H' σ', fun σ' H' h' => ⟨as.length - (n + 1), by omega, rfl, hlt, h'⟩, fun z H3 hz => ?_⟩
      obtain ⟨rfl, hz⟩ := hz
      have hz := hz vs (SqL.of hp2)
      have hil : i < (put Γ r .un).length := look_lt' hl
      have hrow := take_at (· ++ [y]) hlt
      -- the target
      have hgu : Good X.K HF0 G (put (put Γ r .un) i (.mk (Ow.l (Ow.l (Ow.v : Ow α))) ((as.take n).map (· ++ [y]) ++ as.drop n))) HF2 H3 (σ2.set r (some z)) := by
        have q := g2.un r (some z) (by rw [put_len, put_len]; exact of_blt hrl)
        rw [put_un Γ i r _ hir] at q
        exact q
      have hlen2 := hgu.len
      rw [put_len, put_len, List.length_set] at hlen2
      have hrs : (σ2.set r (some z))[r]? = some (some z) := List.getElem?_set_self (by have := of_blt hrl; omega)
      have hip : (σ2.set r (some z))[i]? = some (some (.ref p)) := by rw [List.getElem?_set_ne (fun e => hir e.symm)]; exact hσp
      obtain ⟨p0, vs0, q0, ws0, fq0, hσ0, h30, _, hvq0, hq0, _, _, _, _, _, _, _, _⟩ := hgu.take2 (u := Ow.v) (look_put _ _ _ hil) (Step.refl hgu.sub) hrow
      rw [hip] at hσ0
      cases hσ0
      rw [hp2] at h30
      cases h30
      rw [hz] at hvq0
      cases hvq0
      refine ⟨.ref q0, hrs, .inl ⟨rfl, ws0, SqL.of hq0⟩, ?_⟩
      refine (he _).sem HF0 G HF2 H3 _ hgu y e1 _ fun v' HF3 H4 fp3 st r1 _ _ => ?_
      obtain ⟨p', vs', q', ws', fq', hσ', h3', _, hvq', hq1, hr1, nq, hnq, hp1, _, _, hne, bk⟩ := hgu.take2 (u := Ow.v) (look_put _ _ _ hil) st hrow
      rw [hip] at hσ'
      cases hσ'
      rw [hp2] at h3'
      cases h3'
      rw [hz] at hvq'
      cases hvq'
      obtain ⟨hfa, hnil⟩ := Rl.toFa hr1
      have hsz := of_decide_eq_true (e5 as[n] (List.getElem_mem hlt))
      refine ⟨q0, ws', v', rfl, rfl, hq1, by rw [hr1.len]; exact hsz, ?_⟩
      have gg := bk (HF2 := HF3) (H2 := H4) (ws' := ws' ++ [v']) (r' := as[n] ++ [y]) (fq' := []) (Step.refl st.sub) (Rl.ofFa (Fa.append hfa ⟨r1.1, True.intro⟩)) List.nodup_nil (by intro h; cases h) (by intro _ h; cases h)
      rw [put_put, take_set (· ++ [y]) hlt] at gg
      refine ⟨HF3, a.trans st.exF, ?_, hip, gg⟩
      rw [upd_ne hne]
      exact st.exH _ _ hp2
    · have en : n = as.length := by omega
      subst en
      refine .inl ⟨⟨vs, SqL.of hp2, by omega⟩, ?_⟩
      rw [List.take_length, List.drop_length, List.append_nil] at g2
      exact (hr _).sem HF0 G HF2 H2 σ2 g2 cc hcc D (kk.mono a)⟩
/-- a, b = e -/
theorem ss_asgT [Rp α] [Inhabited α] {tg : Expr} {g : TG} {Γt : α → Ctx} {js : List Nat} {m : M α} {k : α → M (Ctl S L ρ)} (he : EX X Γ e Ow.v m te) (hg : ∀ x, EG X Γ tg g x (Γt x) js) (hr : ∀ x, SS X (Γt x) sts Γo ΓL o (k x) tr) (hs : swapsWithSole [tg] e pos.line X.env = pure false := by rfl) (hw : swappedStores [tg] e X.env = pure none := by rfl)
    (h1 : (assignEach [tg] X.env).map (·.2) = [assign tg X.env] := by rfl) : SS X Γ (.Assign [tg] e pos :: sts) Γo ΓL o (do let a ← m; k a) (tSeq (tAsg te g) tr) :=
  ⟨pss_cons (ps_asg he.pe (hg default).pg hs hw h1) (hr default).pss, fun HF0 G HF H σ gd c hc D kk => by
    obtain ⟨y, e1, hc⟩ := bind_ok hc
    refine he.sem HF0 G HF H σ gd y e1 _ fun v HF1 H1 fp st r n f => ?_
    refine (hg y).sem HF0 G HF1 H1 σ v (gd.step st) r.1 _ fun σ' g' _ _ => ?_
    exact (hr y).sem HF0 G HF1 H1 σ' g' c hc D (kk.mono st.exF)⟩
/-- what is never come to -/
theorem ss_never : SS X Γ sts Γo ΓL o no tNever := ⟨pss_never, fun HF0 G HF H σ g c hc D kk => by cases hc⟩
end
end Ty

namespace Ty
open PySem
/-! ### rows, tables, ranges -/
def row {α : Type} (n : Nat) (g : Nat → α) : List α := (List.range n).map g
theorem row_len {α : Type} (n : Nat) (g : Nat → α) : (row n g).length = n := by simp [row]
theorem row_get {α : Type} {n : Nat} {g : Nat → α} {i : Nat} (h : i < n) : (row n g)[i]? = some (g i) := by
  simp [row, h]
theorem row_congr {α : Type} {n : Nat} {g g' : Nat → α} (h : ∀ i, i < n → g i = g' i) : row n g = row n g' := List.map_congr_left fun i hi => h i (List.mem_range.mp hi)
theorem row_inj {α : Type} {n : Nat} {g g' : Nat → α} (h : row n g = row n g') {i : Nat} (hi : i < n) : g i = g' i := by
  have e := congrArg (·[i]?) h
  simp only [row_get hi] at e
  exact Option.some.inj e
theorem row_ext {α : Type} {n : Nat} {g : Nat → α} {l : List α} (hl : l.length = n) (h : ∀ i, i < n → l[i]? = some (g i)) : l = row n g := by
  apply List.ext_getElem?
  intro i
  by_cases hi : i < n
  · rw [h i hi, row_get hi]
  · rw [List.getElem?_eq_none (by omega), List.getElem?_eq_none (by rw [row_len]; omega)]
theorem row_of {α : Type} [Inhabited α] (l : List α) : l = row l.length fun i => l.getD i default := row_ext rfl fun i hi => by rw [List.getElem?_eq_getElem hi, List.getD_eq_getElem?_getD, List.getElem?_eq_getElem hi]; rfl
theorem atM_row {α : Type} {n : Nat} {g : Nat → α} {i : Int} (h0 : 0 ≤ i) (h1 : i < n) : atM (row n g) i = .ok (g i.toNat) := by
  unfold atM
  rw [atI_ok h0 (by rw [row_len]; exact h1), row_get (by omega)]
  rfl
theorem atM_rowN {α : Type} {n : Nat} {g : Nat → α} {i : Nat} (h1 : i < n) : atM (row n g) (i : Int) = .ok (g i) := by
  rw [atM_row (by omega) (by omega)]; rfl
theorem row_set {α : Type} {n : Nat} {g : Nat → α} {i : Nat} {v : α} (h : i < n) : (row n g).set i v = row n (fun j => if j = i then v else g j) := by
  apply row_ext (by rw [List.length_set, row_len])
  intro j hj
  by_cases e : j = i
  · subst e
    rw [if_pos rfl, List.getElem?_set_self (by rw [row_len]; exact hj)]
  · rw [if_neg e, List.getElem?_set_ne (fun z => e z.symm), row_get hj]
theorem setM_row {α : Type} {n : Nat} {g : Nat → α} {i : Int} {v : α} (h0 : 0 ≤ i) (h1 : i < n) : setM (row n g) i v = .ok (row n fun j => if j = i.toNat then v else g j) := by
  unfold setM
  rw [show L2.ixN (row n g).length i = some i.toNat from by unfold L2.ixN; rw [if_pos h0, if_pos (by rw [row_len]; exact h1)]]
  show (Except.ok _ : M _) = _
  rw [row_set (by omega)]
def tab (n : Nat) (f : Nat → Nat → Int) : List (List Int) := row n fun i => row n (f i)
theorem tab_len (n : Nat) (f : Nat → Nat → Int) : (tab n f).length = n := row_len _ _
theorem tab_congr {n : Nat} {f g : Nat → Nat → Int} (h : ∀ i j, i < n → j < n → f i j = g i j) : tab n f = tab n g := row_congr fun i hi => row_congr fun j hj => h i j hi hj
theorem tab_inj {n : Nat} {f g : Nat → Nat → Int} (h : tab n f = tab n g) {i j : Nat} (hi : i < n) (hj : j < n) : f i j = g i j := row_inj (row_inj h hi) hj
theorem atM_tab {n : Nat} {f : Nat → Nat → Int} {i : Int} (h0 : 0 ≤ i) (h1 : i < n) : atM (tab n f) i = .ok (row n (f i.toNat)) := atM_row h0 h1
theorem atM_tabN {n : Nat} {f : Nat → Nat → Int} {i : Nat} (h1 : i < n) : atM (tab n f) (i : Int) = .ok (row n (f i)) := atM_rowN h1
theorem set2M_tab {n : Nat} {f : Nat → Nat → Int} {i j v : Int} (h0 : 0 ≤ i) (h1 : i < n) (h2 : 0 ≤ j) (h3 : j < n) : set2M (tab n f) i j v = .ok (tab n fun a b => if a = i.toNat ∧ b = j.toNat then v else f a b) := by
  unfold set2M
  rw [show L2.ixN (tab n f).length i = some i.toNat from by unfold L2.ixN; rw [if_pos h0, if_pos (by rw [tab_len]; exact h1)]]
  simp only [ofOs, okB]
  rw [show (tab n f)[i.toNat]? = some (row n (f i.toNat)) from row_get (by omega)]
  simp only [ofOs, okB]
  rw [show L2.ixN (row n (f i.toNat)).length j = some j.toNat from by unfold L2.ixN; rw [if_pos h2, if_pos (by rw [row_len]; exact h3)]]
  simp only [ofOs, okB]
  show (Except.ok _ : M _) = _
  unfold tab
  rw [row_set (by omega), row_set (by omega)]
  congr 1
  apply row_congr
  intro a ha
  by_cases e : a = i.toNat
  · subst e
    rw [if_pos rfl]
    apply row_congr
    intro b hb
    by_cases e2 : b = j.toNat <;> simp [e2]
  · rw [if_neg e]
    apply row_congr
    intro b hb
    simp [e]
theorem range_row (m : Int) : rangeL 0 m = row m.toNat (fun k => (k : Int)) := by
  unfold rangeL row
  rw [Int.sub_zero]
  exact List.map_congr_left fun k _ => by omega
theorem range_row2 (a m : Int) : rangeL a m = row (m - a).toNat (fun k => a + (k : Int)) := rfl
theorem comp_row {α : Type} {m : Int} {f : Int → M α} (g : Nat → α) (hm : m ≤ 1000000) (h : ∀ k : Nat, (k : Int) < m → f k = .ok (g k)) : compM (rangeL 0 m) (fun _ => pure true) f = .ok (row m.toNat g) := by
  rw [range_row, compM_map (fun x : Int => g x.toNat) (by rw [row_len]; omega)]
  · unfold row
    rw [List.map_map]
    rfl
  · intro x hx
    unfold row at hx
    simp only [List.mem_map, List.mem_range] at hx
    obtain ⟨k, hk, rfl⟩ := hx
    exact h k (by omega)
theorem comp_rows {α β : Type} {n : Nat} {r : Nat → α} {f : α → M β} (g : Nat → β) (hn : n ≤ 1000000) (h : ∀ k, k < n → f (r k) = .ok (g k)) : compM (row n r) (fun _ => pure true) f = .ok (row n g) := by
  unfold compM
  rw [sizeLine_eq, decide_eq_true (by rw [row_len]; omega)]
  show compL _ _ _ = _
  unfold row
  have q : ∀ l : List Nat, (∀ k ∈ l, f (r k) = .ok (g k)) → compL (fun _ => pure true) f (l.map r) = .ok (l.map g) := by
    intro l
    induction l with
    | nil => intro _; rfl
    | cons k l ih =>
      intro hl
      show (f (r k) >>= _) = _
      rw [hl k (List.mem_cons_self ..)]
      show (compL _ f (l.map r) >>= _) = _
      rw [ih fun z hz => hl z (List.mem_cons_of_mem _ hz)]
      rfl
  exact q _ fun k hk => h k (List.mem_range.mp hk)
/-- a loop over range(m), by the number of turns -/
theorem Ev.loopN {S S' L ρ : Type} {f : Int → S → M (Ctl S S ρ)} {m : Int} {s : S} {k : S → M (Ctl S' L ρ)} {Q : Ctl S' L ρ → Prop} (P : Nat → S → Prop) (h0 : P 0 s) (h : ∀ (i : Nat) s, (i : Int) < m → P i s → Ev (f (i : Int) s) fun c => ∃ s', c = .nx s' ∧ P (i + 1) s') (hk : ∀ s', P m.toNat s' → Ev (k s') Q) : Ev (loopM f (rangeL 0 m) s >>= fun c => thenL c k) Q := by
  rw [range_row]
  refine Ev.loopL (fun pre s => P pre.length s) h0 ?_ fun s' p => hk s' (by rw [row_len] at p; exact p)
  intro pre x post s e p
  have hl := pre_lt e
  rw [row_len] at hl
  have hx : x = (pre.length : Int) := by
    have := congrArg (·[pre.length]?) e
    simp only [row_get hl] at this
    rw [List.getElem?_append_right (Nat.le_refl _), Nat.sub_self] at this
    exact (Option.some.inj this).symm
  subst hx
  refine (h pre.length s (by omega) p).mono ?_
  rintro c ⟨s', e, p'⟩
  exact ⟨s', e, by rw [List.length_append]; exact p'⟩
/-- the same, a turn may hand back -/
theorem Ev.loopNR {S S' L ρ : Type} {f : Int → S → M (Ctl S S ρ)} {m : Int} {s : S} {k : S → M (Ctl S' L ρ)} {Q : Ctl S' L ρ → Prop} (P : Nat → S → Prop) (h0 : P 0 s) (h : ∀ (i : Nat) s, (i : Int) < m → P i s → Ev (f (i : Int) s) fun c => (∃ s', (c = .nx s' ∨ c = .ct s') ∧ P (i + 1) s') ∨ (∃ r, c = .rt r ∧ Q (.rt r)) ∨ (∃ s', c = .bk s' ∧ Ev (k s') Q)) (hk : ∀ s', P m.toNat s' → Ev (k s') Q) : Ev (loopM f (rangeL 0 m) s >>= fun c => thenL c k) Q := by
  rw [range_row]
  refine Ev.loopR (fun pre s => P pre.length s) h0 ?_ fun s' p => hk s' (by rw [row_len] at p; exact p)
  intro pre x post s e p
  have hl := pre_lt e
  rw [row_len] at hl
  have hx : x = (pre.length : Int) := by
    have := congrArg (·[pre.length]?) e
    simp only [row_get hl] at this
    rw [List.getElem?_append_right (Nat.le_refl _), Nat.sub_self] at this
    exact (Option.some.inj this).symm
  subst hx
  refine (h pre.length s (by omega) p).mono ?_
  rintro c h1
  rw [List.length_append]
  exact h1
theorem ixN_ok {n : Nat} {k : Int} (h0 : 0 ≤ k) (h1 : k < n) : L2.ixN n k = some k.toNat := by unfold L2.ixN; rw [if_pos h0, if_pos h1]
theorem app2M_ok {α : Type} {as : List (List α)} {k : Int} {a : α} (h0 : 0 ≤ k) (h1 : k < as.length) (hr : (as.getD k.toNat []).length ≤ 1000) : app2M as k a = .ok (as.set k.toNat (as.getD k.toNat [] ++ [a])) := by
  have e : as[k.toNat]? = some (as.getD k.toNat []) := by
    rw [List.getD_eq_getElem?_getD, List.getElem?_eq_getElem (by omega)]; rfl
  unfold app2M
  rw [ixN_ok h0 h1]
  simp only [ofOs, okB]
  rw [e]
  simp only [ofOs, okB]
  rw [sizeLine_eq, decide_eq_true (by omega)]
  rfl
theorem set2M_ok {α : Type} {as : List (List α)} {k l : Int} {a : α} (h0 : 0 ≤ k) (h1 : k < as.length) (h2 : 0 ≤ l) (h3 : l < (as.getD k.toNat []).length) : set2M as k l a = .ok (as.set k.toNat ((as.getD k.toNat []).set l.toNat a)) := by
  have e : as[k.toNat]? = some (as.getD k.toNat []) := by
    rw [List.getD_eq_getElem?_getD, List.getElem?_eq_getElem (by omega)]; rfl
  unfold set2M
  rw [ixN_ok h0 h1]
  simp only [ofOs, okB]
  rw [e]
  simp only [ofOs, okB]
  rw [ixN_ok h2 h3]
  rfl
theorem tab_getD {n : Nat} {f : Nat → Nat → Int} {i : Nat} (h : i < n) : (tab n f).getD i [] = row n (f i) := by
  rw [List.getD_eq_getElem?_getD, show (tab n f)[i]? = some (row n (f i)) from row_get h]; rfl
end Ty

namespace Ty
open PySem PySem.Spec PyProof.Rows L2
/-! ### dicts with keys that are ints or texts -/
class Ky (κ : Type) extends Fl κ where
  key : κ → Key
  kv : ∀ k, kV (key k) = Fl.enc k
  inj : ∀ a b, key a = key b → a = b
instance : Ky Int := { toFl := inferInstanceAs (Fl Int), key := Sum.inl, kv := fun _ => rfl, inj := fun _ _ h => Sum.inl.inj h }
instance : Ky Str := { toFl := inferInstanceAs (Fl Str), key := Sum.inr, kv := fun _ => rfl, inj := fun _ _ h => Sum.inr.inj h }
structure Dc (κ β : Type) where
  l : List (κ × β)
instance {κ β : Type} : Inhabited (Dc κ β) := ⟨⟨[]⟩⟩
def Fk {κ β : Type} [Ky κ] (R : V → β → Prop) : List (Key × V) → List (κ × β) → Prop
  | [], [] => True
  | p :: ps, q :: qs => (p.1 = Ky.key q.1 ∧ R p.2 q.2) ∧ Fk R ps qs
  | _, _ => False
theorem Fk.mono {κ β : Type} [Ky κ] {R R' : V → β → Prop} (h : ∀ v b, R v b → R' v b) : ∀ {ps : List (Key × V)} {qs : List (κ × β)}, Fk R ps qs → Fk R' ps qs
  | [], [], _ => True.intro
  | _ :: _, _ :: _, ⟨⟨x, y⟩, z⟩ => ⟨⟨x, h _ _ y⟩, Fk.mono h z⟩
  | [], _ :: _, x => x.elim
  | _ :: _, [], x => x.elim
theorem Fk.len {κ β : Type} [Ky κ] {R : V → β → Prop} : ∀ {ps : List (Key × V)} {qs : List (κ × β)}, Fk R ps qs → ps.length = qs.length
  | [], [], _ => rfl
  | _ :: _, _ :: _, ⟨_, z⟩ => congrArg (· + 1) (Fk.len z)
  | [], _ :: _, x => x.elim
  | _ :: _, [], x => x.elim
instance rpDc {κ β : Type} [Ky κ] [Rp β] : Rp (Dc κ β) where
  sh K H v d := ∃ p kvs, v = .ref p ∧ H p = some (.dK kvs) ∧ Fk (Rp.sh K H) kvs d.l
  mono := fun e ⟨p, kvs, h1, h2, h3⟩ => ⟨p, kvs, h1, e _ _ h2, Fk.mono (fun _ _ h => Rp.mono e h) h3⟩
/-- an own dict, its values shared -/
def Ow.d {κ β : Type} [Ky κ] [Rp β] : Ow (Dc κ β) where
  rep K HF H v d fp := ∃ p kvs, v = .ref p ∧ fp = [p] ∧ H p = some (.dK kvs) ∧ Fk (Rp.sh K HF) kvs d.l
  mono := fun e k ⟨p, kvs, h1, h2, h3, h4⟩ => by
    subst h2
    exact ⟨p, kvs, h1, rfl, k p (List.mem_singleton.mpr rfl) _ h3, Fk.mono (fun _ _ h => Rp.mono e h) h4⟩
  dom := fun ⟨p, kvs, h1, h2, h3, h4⟩ q hq => by
    subst h2
    rw [List.mem_singleton.mp hq]
    exact ⟨_, h3⟩
  frz := fun e k ⟨p, kvs, h1, h2, h3, h4⟩ => by
    subst h2
    exact ⟨p, kvs, h1, k p (List.mem_singleton.mpr rfl) _ h3, Fk.mono (fun _ _ h => Rp.mono e h) h4⟩
instance indD {κ β : Type} [Ky κ] [Fl β] : Ind (Ow.d (κ := κ) (β := β)) where
  ind := fun ⟨p, kvs, h1, h2, h3, h4⟩ => ⟨p, kvs, h1, h2, h3, Fk.mono (fun _ _ h => Fl.sh_iff.mpr (Fl.sh_iff.mp h)) h4⟩
/-- the value of a key; a key's value put; a key dropped -/
def dget {κ β : Type} [DecidableEq κ] (l : List (κ × β)) (k : κ) : Option β := (l.find? fun p => decide (p.1 = k)).map (·.2)
def dput {κ β : Type} [DecidableEq κ] (l : List (κ × β)) (k : κ) (v : β) : List (κ × β) := if (l.any fun p => decide (p.1 = k)) = true then l.map fun p => if p.1 = k then (k, v) else p else l ++ [(k, v)]
def ddrop {κ β : Type} [DecidableEq κ] (l : List (κ × β)) (k : κ) : List (κ × β) := l.filter fun p => decide (p.1 ≠ k)
section
variable {κ β : Type} [Ky κ] [DecidableEq κ] {R : V → β → Prop}
theorem key_dec (a b : κ) : decide (Ky.key a = Ky.key b) = decide (a = b) := by
  by_cases h : a = b
  · subst h; simp
  · rw [decide_eq_false h, decide_eq_false fun e => h (Ky.inj a b e)]
theorem Fk.get (k : κ) : ∀ {ps : List (Key × V)} {qs : List (κ × β)}, Fk R ps qs → (∀ b, dget qs k = some b → ∃ v, valV ps (Ky.key k) = some v ∧ R v b) ∧ (dget qs k = none → valV ps (Ky.key k) = none)
  | [], [], _ => ⟨fun b h => by simp [dget] at h, fun _ => rfl⟩
  | p :: ps, q :: qs, ⟨⟨x, y⟩, z⟩ => by
    have ih := Fk.get k z
    by_cases h : q.1 = k
    · have e1 : dget (q :: qs) k = some q.2 := by simp [dget, h]
      have e2 : valV (p :: ps) (Ky.key k) = some p.2 := valV_pos (by rw [x, h])
      rw [e1, e2]
      exact ⟨fun b e => ⟨p.2, rfl, by rw [← Option.some.inj e]; exact y⟩, fun e => by cases e⟩
    · have e1 : dget (q :: qs) k = dget qs k := by simp [dget, h]
      have e2 : valV (p :: ps) (Ky.key k) = valV ps (Ky.key k) := valV_neg fun e => h (Ky.inj _ _ (by rw [← x, e]))
      rw [e1, e2]
      exact ih
  | [], _ :: _, x => x.elim
  | _ :: _, [], x => x.elim
theorem Fk.any (k : κ) : ∀ {ps : List (Key × V)} {qs : List (κ × β)}, Fk R ps qs → (ps.any fun p => decide (p.1 = Ky.key k)) = qs.any fun p => decide (p.1 = k)
  | [], [], _ => rfl
  | p :: ps, q :: qs, ⟨⟨x, y⟩, z⟩ => by rw [List.any_cons, List.any_cons, Fk.any k z, x, key_dec]
  | [], _ :: _, x => x.elim
  | _ :: _, [], x => x.elim
theorem Fk.app : ∀ {ps ps' : List (Key × V)} {qs qs' : List (κ × β)}, Fk R ps qs → Fk R ps' qs' → Fk R (ps ++ ps') (qs ++ qs')
  | [], _, [], _, _, h => h
  | _ :: _, _, _ :: _, _, ⟨x, y⟩, h => ⟨x, Fk.app y h⟩
  | [], _, _ :: _, _, x, _ => x.elim
  | _ :: _, _, [], _, x, _ => x.elim
theorem Fk.upd (k : κ) {v : V} {b : β} (h : R v b) : ∀ {ps : List (Key × V)} {qs : List (κ × β)}, Fk R ps qs → Fk R (ps.map fun p => if p.1 = Ky.key k then (p.1, v) else p) (qs.map fun p => if p.1 = k then (k, b) else p)
  | [], [], _ => True.intro
  | p :: ps, q :: qs, ⟨⟨x, y⟩, z⟩ => by
    refine ⟨?_, Fk.upd k h z⟩
    show (if p.1 = Ky.key k then (p.1, v) else p).1 = Ky.key (if q.1 = k then (k, b) else q).1 ∧ R (if p.1 = Ky.key k then (p.1, v) else p).2 (if q.1 = k then (k, b) else q).2
    by_cases e : q.1 = k
    · rw [if_pos (by rw [x, e]), if_pos e]
      exact ⟨by rw [x, e], h⟩
    · rw [if_neg (fun w => e (Ky.inj _ _ (by rw [← x, w]))), if_neg e]
      exact ⟨x, y⟩
  | [], _ :: _, x => x.elim
  | _ :: _, [], x => x.elim
theorem Fk.drop (k : κ) : ∀ {ps : List (Key × V)} {qs : List (κ × β)}, Fk R ps qs → Fk R (dropK ps (Ky.key k)) (ddrop qs k)
  | [], [], _ => True.intro
  | p :: ps, q :: qs, ⟨⟨x, y⟩, z⟩ => by
    have ih := Fk.drop k z
    unfold dropK ddrop at ih ⊢
    by_cases e : q.1 = k
    · rw [List.filter_cons_of_neg (by simp [x, e]), List.filter_cons_of_neg (by simp [e])]
      exact ih
    · rw [List.filter_cons_of_pos (by simp [x]; exact fun w => e (Ky.inj _ _ w)), List.filter_cons_of_pos (by simp [e])]
      exact ⟨⟨x, y⟩, ih⟩
  | [], _ :: _, x => x.elim
  | _ :: _, [], x => x.elim
end
theorem Fk.put {κ β : Type} [Ky κ] [DecidableEq κ] {R : V → β → Prop} (k : κ) {v : V} {b : β} (h : R v b) {ps : List (Key × V)} {qs : List (κ × β)} (f : Fk R ps qs) : Fk R (putK ps (Ky.key k) v) (dput qs k b) := by
  unfold putK dput
  rw [f.any k]
  by_cases c : (qs.any fun p => decide (p.1 = k)) = true
  · rw [if_pos c, if_pos c]; exact f.upd k h
  · rw [if_neg c, if_neg c]
    exact f.app ⟨⟨rfl, h⟩, True.intro⟩
section
variable {X : Cx} {Γ : Ctx} {S L ρ α β κ γ A B S' : Type} [Rp ρ] {o : Ow ρ} {Γo : S → Ctx} {ΓL : L → Ctx} {a b c e : Expr} {es : List Expr} {pos p p1 p2 apos cpos : Pos} {ta tb tc te : TE} {t : TA} {sts : List Stmt} {tr tr' : TS}
theorem hu1 {A : Around} (h : A.units + 64 < cLine) : A.units + 1 < cLine := by omega
theorem ex_dnew [Ky κ] [Rp β] : EX X Γ (.Dict [] [] pos) (Ow.d (κ := κ) (β := β)) (pure ⟨[]⟩) tDNewK :=
  ⟨pe_dnewK, fun HF0 G HF H σ g c hc Q k => by
    cases pure_ok hc
    intro p hp
    exact k (.ref p) HF _ [p] (Step.own g.sub hp) ⟨p, [], rfl, rfl, upd_same, True.intro⟩ (by simp) (fun q hq => by
      rw [List.mem_singleton.mp hq]; exact ⟨hp, g.sub.free hp⟩)⟩
def dgetM {κ β : Type} [DecidableEq κ] (d : Dc κ β) (k : κ) : M β := ofO (dget d.l k)
theorem ex_dget [Ky κ] [DecidableEq κ] [Rp β] {m : M (Dc κ β)} {n : M κ} (hu : X.A.units + 64 < cLine) (ha : EX X Γ a Ow.v m ta) (hb : EX X Γ b Ow.v n tb) (hs : NoSl b := by intro _ _; rfl) : EX X Γ (.Subscript a b pos) Ow.v (do let a ← m; let b ← n; dgetM a b) (tDGet ta tb) :=
  ⟨pe_dget (hu1 hu) ha.pe hb.pe hs, fun HF0 G HF H σ g c hc Q k => by
    obtain ⟨x, e1, hc⟩ := bind_ok hc
    obtain ⟨y, e2, hc⟩ := bind_ok hc
    refine ha.sem HF0 G HF H σ g x e1 _ fun v HF1 H1 fp s1 r1 _ _ => ?_
    refine hb.sem HF0 G HF1 H1 σ (g.step s1) y e2 _ fun w HF2 H2 fp2 s2 r2 _ _ => ?_
    obtain ⟨⟨q, kvs, rfl, h2, h3⟩, _⟩ := r1
    obtain ⟨v, hv, r⟩ := (h3.get y).1 c (ofO_ok hc)
    refine ⟨q, v, rfl, ?_, (k.back (s1.trans s2)).shv s2.sub (Rp.mono s2.exF r)⟩
    rw [Fl.sh_iff.mp r2.1, ← Ky.kv, ← hv]
    exact DGet.k (s2.sub _ _ (s2.exF _ _ h2))⟩
def dhas {κ β : Type} [DecidableEq κ] (d : Dc κ β) (k : κ) : Bool := (dget d.l k).isSome
theorem dhas_of [Ky κ] [DecidableEq κ] {R : V → β → Prop} {ps : List (Key × V)} {d : Dc κ β} (h : Fk R ps d.l) (k : κ) : (valV ps (Ky.key k)).isSome = dhas d k := by
  unfold dhas
  cases q : dget d.l k with
  | none => rw [(h.get k).2 q]; rfl
  | some b =>
    obtain ⟨v, hv, _⟩ := (h.get k).1 b q
    rw [hv]; rfl
structure EK (X : Cx) (Γ : Ctx) (op : CmpOp) (a b : Expr) (m : M Bool) (t : TE) : Prop where
  pc : PC X op a b t
  hm : behindInMarks op b = false
  sem : SemE X.K Γ t Ow.v m
theorem ex_k {op : CmpOp} {m : M Bool} {t : TE} (h : EK X Γ op a b m t) : EX X Γ (.Compare a [op] [b] pos) Ow.v m t := ⟨pe_cmp h.pc h.hm, h.sem⟩
theorem et_k {op : CmpOp} {m : M Bool} {t : TE} (h : EK X Γ op a b m t) : ET X Γ (.Compare a [op] [b] pos) m (tB t) :=
  ⟨pt_cmp h.pc h.hm, fun HF0 G HF H σ g c hc Q k => h.sem HF0 G HF H σ g c hc _ fun v HF' H' fp s r _ _ => ⟨c, r.1, k HF' H' s⟩⟩
theorem ek_din [Ky κ] [DecidableEq κ] [Rp β] {m : M κ} {n : M (Dc κ β)} (hu : X.A.units + 64 < cLine) (ha : EX X Γ a Ow.v m ta) (hb : EX X Γ b Ow.v n tb) (hm : behindInMarks .In b = false := by rfl) : EK X Γ .In a b (do let a ← m; let b ← n; pure (dhas b a)) (tDIn ta tb) :=
  ⟨pc_din (hu1 hu) ha.pe hb.pe, hm, fun HF0 G HF H σ g c hc Q k => by
    obtain ⟨x, e1, hc⟩ := bind_ok hc
    obtain ⟨y, e2, hc⟩ := bind_ok hc
    cases pure_ok hc
    refine ha.sem HF0 G HF H σ g x e1 _ fun v HF1 H1 fp s1 r1 _ _ => ?_
    refine hb.sem HF0 G HF1 H1 σ (g.step s1) y e2 _ fun w HF2 H2 fp2 s2 r2 _ _ => ?_
    obtain ⟨⟨q, kvs, rfl, h2, h3⟩, _⟩ := r2
    refine ⟨q, valV kvs (Ky.key x), rfl, ?_, ?_⟩
    · rw [Fl.sh_iff.mp r1.1, ← Ky.kv]
      exact DGet.k (s2.sub _ _ h2)
    · rw [dhas_of h3]
      exact (k.back (s1.trans s2)).flat s2.sub⟩
theorem ek_dnin [Ky κ] [DecidableEq κ] [Rp β] {m : M κ} {n : M (Dc κ β)} (hu : X.A.units + 64 < cLine) (ha : EX X Γ a Ow.v m ta) (hb : EX X Γ b Ow.v n tb) (hm : behindInMarks .NotIn b = false := by rfl) : EK X Γ .NotIn a b (do let a ← m; let b ← n; pure (!dhas b a)) (tDNotIn ta tb) :=
  ⟨pc_dnotin (hu1 hu) ha.pe hb.pe, hm, fun HF0 G HF H σ g c hc Q k => by
    obtain ⟨x, e1, hc⟩ := bind_ok hc
    obtain ⟨y, e2, hc⟩ := bind_ok hc
    cases pure_ok hc
    refine ha.sem HF0 G HF H σ g x e1 _ fun v HF1 H1 fp s1 r1 _ _ => ?_
    refine hb.sem HF0 G HF1 H1 σ (g.step s1) y e2 _ fun w HF2 H2 fp2 s2 r2 _ _ => ?_
    obtain ⟨⟨q, kvs, rfl, h2, h3⟩, _⟩ := r2
    refine ⟨q, valV kvs (Ky.key x), rfl, ?_, ?_⟩
    · rw [Fl.sh_iff.mp r1.1, ← Ky.kv]
      exact DGet.k (s2.sub _ _ h2)
    · rw [dhas_of h3]
      exact (k.back (s1.trans s2)).flat s2.sub⟩
def dputM {κ β : Type} [DecidableEq κ] (d : Dc κ β) (k : κ) (v : β) : M (Dc κ β) := do gd (decide (d.l.length < sizeLine)); pure ⟨dput d.l k v⟩
/-- d[k] = e -/
theorem ss_dput [Ky κ] [DecidableEq κ] [Rp β] (i : Nat) {d : Dc κ β} {x : Str} {m : M β} {mk : M κ} {k : Dc κ β → M (Ctl S L ρ)} (hu : X.A.units + 64 < cLine) (he : EX X Γ e Ow.v m te) (hk : EX X Γ b Ow.v mk tb) (hr : ∀ l, SS X (put Γ i (.mk (Ow.d (κ := κ) (β := β)) l)) sts Γo ΓL o (k l) tr) (hl : look Γ i = .mk (Ow.d (κ := κ) (β := β)) d := by rfl) (hN : X.N[i]? = some x := by rfl) (hv : Vis X.env.scope x := by first | exact Or.inl rfl | exact Or.inr (Or.inl rfl) | exact Or.inr (Or.inr rfl)) (hd : (x == ("__debug__" : Str)) = false := by decide)
    (hcd : (x == ("__classdict__" : Str)) = false := by decide) (hs : swapsWith e (some (.Subscript (.Name x p) b p1)) pos.line X.env = pure false := by rfl) :
    SS X Γ (.Assign [.Subscript (.Name x p) b p1] e pos :: sts) Γo ΓL o (do let a ← m; let b ← mk; let l ← dputM d b a; k l) (tSeq (sDPut (tVar i) tb te) tr) :=
  ⟨pss_cons (ps_dput (hu1 hu) (pe_var hN hv hd hcd) hk.pe he.pe hs) (hr default).pss, fun HF0 G HF H σ g c hc D kk => by
    obtain ⟨y, e1, hc⟩ := bind_ok hc
    obtain ⟨ix, e2, hc⟩ := bind_ok hc
    obtain ⟨l, e3, hc⟩ := bind_ok hc
    obtain ⟨w, e4, e3⟩ := bind_ok e3
    have e5 := pure_ok e3
    subst e5
    have e6 := of_decide_eq_true (gd_ok e4)
    obtain ⟨v, fo, hσ, ⟨q, kvs, h1, h2, h3, h4⟩, nd, hfo, back⟩ := g.take hl
    subst h1 h2
    refine he.sem HF0 G HF H σ g y e1 _ fun v' HF1 H1 fp st r n f => ?_
    refine ⟨.ref q, hσ, ?_⟩
    refine hk.sem HF0 G HF1 H1 σ (g.step st) ix e2 _ fun w HF2 H2 fp2 st2 r2 _ _ => ?_
    have st12 := st.trans st2
    have h3' := st12.exH _ _ h3
    refine ⟨q, upd H2 q (.dK (putK kvs (Ky.key ix) v')), rfl, ?_, ?_⟩
    · rw [Fl.sh_iff.mp r2.1, ← Ky.kv]
      exact DPut.k h3' (by rw [h4.len]; exact e6)
    · have gg := back (u' := Ow.d (κ := κ) (β := β)) (b := ⟨dput d.l ix y⟩) (v' := .ref q) (f' := [q]) (H' := upd H2 q (.dK (putK kvs (Ky.key ix) v'))) st12 (fun p w hp e => by rw [upd_ne (fun z => hp (by rw [z]; exact List.mem_singleton.mpr rfl))]; exact e)
        ⟨q, _, rfl, rfl, upd_same, Fk.put ix (Rp.mono st2.exF r.1) (Fk.mono (fun _ _ h => Rp.mono st12.exF h) h4)⟩ (by simp) (fun p hp => .inl hp)
      rw [set_self hσ] at gg
      exact (hr ⟨dput d.l ix y⟩).sem HF0 G HF2 _ σ gg c hc D (kk.mono st12.exF)⟩
end
end Ty

namespace Ty
open PySem
/-! maths lemmas, second part -/
theorem divM_ok {a b : Int} (h : 0 < b) (h2 : b < 2 ^ 8999) : divM a b = .ok (a / b) := by
  have : b.natAbs.log2 < 9000 := by
    have hb : b.natAbs ≠ 0 := by omega
    rw [Nat.log2_lt hb]
    have : (b.natAbs : Int) < 2 ^ 8999 := by omega
    have h3 : b.natAbs < 2 ^ 8999 := by exact_mod_cast this
    exact Nat.lt_trans h3 (Nat.pow_lt_pow_right (by decide) (by decide))
  simp only [divM, divB, decide_eq_true h, decide_eq_true this, Bool.and_self, gdT, okB]
  rfl
theorem divM_s {a b : Int} (h : 0 < b) (h2 : b < 18446744073709551616) : divM a b = .ok (a / b) :=
  divM_ok h (by
    have e : (18446744073709551616 : Int) = 2 ^ 64 := by decide
    have : (2 : Int) ^ 64 ≤ 2 ^ 8999 := by exact_mod_cast Nat.pow_le_pow_right (by decide) (by decide)
    rw [e] at h2
    exact Int.lt_of_lt_of_le h2 this)
theorem cutL_to {α : Type} (xs : List α) (n : Int) (h : 0 ≤ n) : cutL xs none (some n) = xs.take n.toNat := by
  unfold cutL
  show (xs.drop 0).take ((if n < 0 then _ else min n.toNat xs.length) - 0) = _
  rw [if_neg (by omega), List.drop_zero, Nat.sub_zero, ← List.take_eq_take_min]
theorem cutL_all {α : Type} (xs : List α) : cutL xs none none = xs := by
  unfold cutL
  show (xs.drop 0).take (xs.length - 0) = _
  simp
theorem cutL_from {α : Type} (xs : List α) (n : Int) (h : 0 ≤ n) : cutL xs (some n) none = xs.drop n.toNat := by
  unfold cutL
  show (xs.drop (if n < 0 then _ else min n.toNat xs.length)).take (xs.length - (if n < 0 then _ else min n.toNat xs.length)) = _
  rw [if_neg (by omega)]
  by_cases hk : n.toNat ≤ xs.length
  · rw [Nat.min_eq_left hk, List.take_of_length_le (by simp)]
  · rw [Nat.min_eq_right (by omega), List.drop_of_length_le (by omega : xs.length ≤ n.toNat), List.drop_of_length_le (Nat.le_refl _)]
    simp
/-- a while that keeps P and lessens the measure -/
theorem Ev.whileR {S ρ S' L : Type} {c : S → M Bool} {f : S → M (Ctl S S ρ)} {k : S → M (Ctl S' L ρ)} {Q : Ctl S' L ρ → Prop} (P : S → Prop) (μ : S → Nat)
    (hf : ∀ s, P s → Ev (c s) fun b => if b then Ev (f s) fun y => (∃ s', (y = .nx s' ∨ y = .ct s') ∧ P s' ∧ μ s' < μ s) ∨ (∃ r, y = .rt r ∧ Q (.rt r)) ∨ (∃ s', y = .bk s' ∧ Ev (k s') Q) else Ev (k s) Q) :
    ∀ n s, P s → μ s < n → Ev (whileM c f n s >>= fun c => thenL c k) Q
  | 0, s, _, h => absurd h (by omega)
  | n + 1, s, hp, hm => by
    obtain ⟨b, eb, hb⟩ := hf s hp
    unfold whileM
    rw [bindA, eb, okB]
    cases b with
    | false =>
      simp only [Bool.false_eq_true, if_false, pureB, thenLi] at hb ⊢
      exact hb
    | true =>
      simp only [if_true] at hb ⊢
      obtain ⟨y, ey, hy⟩ := hb
      rw [bindA, ey, okB]
      rcases hy with ⟨s', h | h, hp', hm'⟩ | ⟨r, rfl, hq⟩ | ⟨s', rfl, hk⟩
      · subst h
        exact Ev.whileR P μ hf n s' hp' (by omega)
      · subst h
        exact Ev.whileR P μ hf n s' hp' (by omega)
      · exact ⟨_, rfl, hq⟩
      · simp only [pureB, thenLi]
        exact hk
/-- a comprehension over numbers, each element found with a fact -/
theorem Ev.compR {α : Type} [Inhabited α] {m : Int} {f : Int → M α} (P : Nat → α → Prop) (hm : m ≤ 1000000) (h : ∀ k : Nat, (k : Int) < m → Ev (f k) (P k)) : Ev (compM (rangeL 0 m) (fun _ => Pure.pure true) f) fun ys => ∃ g, ys = row m.toNat g ∧ ∀ k : Nat, (k : Int) < m → P k (g k) := by
  have hlen : (rangeL 0 m).length = m.toNat := by simp [rangeL]
  refine Ev.mono (Ev.comp (fun x y => P x.toNat y) (by omega) (fun _ _ => rfl) fun x hx => ?_) ?_
  · have hx := mem_range1 hx
    have := h x.toNat (by omega)
    rwa [show ((x.toNat : Nat) : Int) = x by omega] at this
  · rintro ys ⟨hl, hy⟩
    refine ⟨fun i => ys.getD i default, by conv => lhs; rw [row_of ys, hl, hlen], fun k hk => ?_⟩
    have h1 : k < (rangeL 0 m).length := by omega
    have h2 : k < ys.length := by omega
    have := hy k h1 h2
    have e : (rangeL 0 m)[k] = (k : Int) := by simp [rangeL]
    rw [e, Int.toNat_natCast] at this
    show P k (ys.getD k default)
    rw [List.getD_eq_getElem?_getD, List.getElem?_eq_getElem h2]
    exact this
theorem row_succ {α : Type} (n : Nat) (g : Nat → α) : row (n + 1) g = row n g ++ [g n] := by
  unfold row
  rw [List.range_succ, List.map_append]
  rfl
theorem row_zip {α β : Type} (n : Nat) (f : Nat → α) (g : Nat → β) : (row n f).zip (row n g) = row n fun k => (f k, g k) := by
  unfold row
  rw [List.zip_map']
theorem take_row {α : Type} {n m : Nat} {g : Nat → α} (h : m ≤ n) : (row n g).take m = row m g := row_ext (by rw [List.length_take, row_len]; omega) fun i hi => by rw [List.getElem?_take, if_pos hi, row_get (by omega)]
/-- the element that a loop over a row has reached -/
theorem row_pre {α : Type} {n : Nat} {g : Nat → α} {pre post : List α} {x : α} (e : row n g = pre ++ x :: post) : pre.length < n ∧ x = g pre.length ∧ pre = row pre.length g := by
  have hlt := pre_lt e
  rw [row_len] at hlt
  have h := row_get (g := g) hlt
  rw [e] at h
  refine ⟨hlt, by simpa using h, row_ext rfl fun i hi => ?_⟩
  have h := row_get (g := g) (show i < n by omega)
  rw [e, List.getElem?_append_left hi] at h
  exact h
theorem appAllM_ok {α : Type} {as : List (List α)} {a : α} (h : ∀ r ∈ as, r.length < 1000000) : appAllM as a = .ok (as.map (· ++ [a])) := by
  unfold appAllM
  have : (as.all fun r => decide (r.length < sizeLine)) = true := List.all_eq_true.mpr fun r hr => decide_eq_true (by have := h r hr; rw [sizeLine_eq]; omega)
  rw [this]; rfl
end Ty

namespace Ty
open PySem PySem.Spec PyProof.Rows L2
/-! ## Ty13: sorted, list(range), pop, insert -/
def isort (a : List Int) : List Int := a.mergeSort (fun x y => decide (x ≤ y))
theorem isort_eq {a b : List Int} (h : b.Perm a) (hs : b.Pairwise (· ≤ ·)) : b = isort a := by
  have h1 : List.Pairwise (fun a b : Int => decide (a ≤ b) = true) (isort a) := List.pairwise_mergeSort (fun a b c h1 h2 => by simp at *; omega) (fun a b => by simp; omega) a
  have h1 : List.Pairwise (· ≤ ·) (isort a) := h1.imp fun h => by simpa using h
  exact List.Perm.eq_of_pairwise (fun a b _ _ h1 h2 => by omega) hs h1 (h.trans (List.mergeSort_perm a _).symm)
section
variable {X : Cx} {Γ : Ctx} {S L ρ α β γ A B S' : Type} [Rp ρ] {o : Ow ρ} {Γo : S → Ctx} {ΓL : L → Ctx} {a b e f : Expr} {es : List Expr} {pos p apos cpos pos2 : Pos} {ta tb te tf : TE} {t : TA} {sts : List Stmt} {tr tr' : TS} {tg : Expr}
theorem ex_sorted {K : PySem.W.Frag} {m : M (List Int)} (hm : X.mg "sorted" = none) (h : EX X Γ e Ow.v m te) (hg : Gl X "sorted" := by rfl) (h1 : starEach [e] X.env = (false, eval e X.env) :: starEach [] X.env := by rfl) (hK : X.K = K := by rfl) : EX X Γ (.Call (.Name "sorted" p) [e] [] pos) (Ow.l Ow.v) (do let a ← m; pure (isort a)) (tCB (rSortedI K) (tCons te tNil)) := by
  subst hK
  exact ex_b1 cr_sortedI (show SemC1 X.K (rSortedI X.K) (Ow.l Ow.v) (fun (a : List Int) => pure (isort a)) from fun HF H v a c s ⟨q, us, e, h1, h2⟩ hc Q k => by
    cases pure_ok hc
    subst e
    have e2 := Fa.flat.mp h2
    subst e2
    exact ⟨q, a, rfl, SqL.of (s _ _ h1), fun ns' p hp hs hn => by
      have e3 := isort_eq hp hs
      subst e3
      exact k.lst s (Fa.flat.mpr rfl) hn⟩) (by decide +kernel) hm h hg (h1 := h1)
def rgB2 (i j : Int) : Bool := decide (-(2 ^ 62) ≤ i) && decide (i < 2 ^ 62) && decide (-(2 ^ 62) ≤ j) && decide (j < 2 ^ 62) && decide ((j - i).toNat ≤ 2 ^ 24)
def lrange (i j : Int) : M (List Int) := do gd (rgB2 i j); pure (rangeL i j)
theorem rgB2_ok {i j : Int} (h : rgB2 i j = true) : RgOk i j := by
  simp only [rgB2, Bool.and_eq_true, decide_eq_true_eq] at h
  exact ⟨h.1.1.1.1, h.1.1.1.2, h.1.1.2, h.1.2, h.2⟩
theorem rgV_enc (i j : Int) : rgV i j = (rangeL i j).map Fl.enc := by
  unfold rgV rangeL
  rw [List.map_map]
  rfl
theorem ex_listRg1 {m : M Int} (hc : X.calm = true) (ml : X.mg "list" = none) (mr : X.mg "range" = none) (h : EX X Γ e Ow.v m te) (hg : Gl X "list" := by rfl) (hg2 : Gl X "range" := by rfl) (h1 : starEach [e] X.env = (false, eval e X.env) :: starEach [] X.env := by rfl)
    (h2 : starEach [.Call (.Name "range" p) [e] [] pos] X.env = (false, eval (.Call (.Name "range" p) [e] [] pos) X.env) :: starEach [] X.env := by rfl) : EX X Γ (.Call (.Name "list" apos) [.Call (.Name "range" p) [e] [] pos] [] cpos) (Ow.l Ow.v) (do let a ← m; lrange 0 a) (tLstRg (tRg1 te)) :=
  ⟨pe_listRg hc hg ml (prg_1 hg2 mr h.pe h1) h2, fun HF0 G HF H σ g c hc' Q k => by
    obtain ⟨i, e1, hc'⟩ := bind_ok hc'
    obtain ⟨u, e2, hc'⟩ := bind_ok hc'
    cases pure_ok hc'
    refine h.sem HF0 G HF H σ g i e1 _ fun v HF1 H1 fp st r n f => ⟨i, Fl.sh_iff.mp r.1, rgB2_ok (gd_ok e2), fun q hq => ?_⟩
    rw [rgV_enc]
    exact (show RetK X.K HF1 H1 (Ow.l Ow.v) (rangeL 0 i) Q from fun v' HF' H' fp' st' r' n' f' => k v' HF' H' fp' (st.trans st') r' n' (fun p hp => ⟨st.exH.free (f' p hp).1, (f' p hp).2⟩)).lst st.sub (Fa.flat.mpr rfl) hq⟩
theorem ex_listRg2 {m n : M Int} (hc : X.calm = true) (ml : X.mg "list" = none) (mr : X.mg "range" = none) (h : EX X Γ e Ow.v m te) (h' : EX X Γ f Ow.v n tf) (hg : Gl X "list" := by rfl) (hg2 : Gl X "range" := by rfl) (h1 : starEach [e, f] X.env = (false, eval e X.env) :: starEach [f] X.env := by rfl) (h1' : starEach [f] X.env = (false, eval f X.env) :: starEach [] X.env := by rfl) (hp : (backTo pos (starEach [f] X.env)).any (·.1) = false := by rfl)
    (h2 : starEach [.Call (.Name "range" p) [e, f] [] pos] X.env = (false, eval (.Call (.Name "range" p) [e, f] [] pos) X.env) :: starEach [] X.env := by rfl) : EX X Γ (.Call (.Name "list" apos) [.Call (.Name "range" p) [e, f] [] pos] [] cpos) (Ow.l Ow.v) (do let a ← m; let b ← n; lrange a b) (tLstRg (tRg2 te tf)) :=
  ⟨pe_listRg hc hg ml (prg_2 hg2 mr h.pe h'.pe h1 h1' hp) h2, fun HF0 G HF H σ g c hc' Q k => by
    obtain ⟨i, e1, hc'⟩ := bind_ok hc'
    obtain ⟨j, e3, hc'⟩ := bind_ok hc'
    obtain ⟨u, e2, hc'⟩ := bind_ok hc'
    cases pure_ok hc'
    refine h.sem HF0 G HF H σ g i e1 _ fun v HF1 H1 fp st r n f => ?_
    refine h'.sem HF0 G HF1 H1 σ (g.step st) j e3 _ fun v2 HF2 H2 fp2 st2 r2 n2 f2 => ⟨i, j, Fl.sh_iff.mp r.1, Fl.sh_iff.mp r2.1, rgB2_ok (gd_ok e2), fun q hq => ?_⟩
    rw [rgV_enc]
    have st := st.trans st2
    exact (show RetK X.K HF2 H2 (Ow.l Ow.v) (rangeL i j) Q from fun v' HF' H' fp' st' r' n' f' => k v' HF' H' fp' (st.trans st') r' n' (fun p hp => ⟨st.exH.free (f' p hp).1, (f' p hp).2⟩)).lst st.sub (Fa.flat.mpr rfl) hq⟩
/-! ### an expression that takes from a list at slot i -/
structure EP [Rp α] [Rp β] (X : Cx) (Γ : Ctx) (i : Nat) (e : Expr) (m : M (β × List α)) (t : TE) : Prop where
  pe : PE X e t
  sem : ∀ HF0 G HF H σ, Good X.K HF0 G Γ HF H σ → ∀ c l, m = .ok (c, l) → ∀ Q : VK, (∀ v HF1 H1, Same HF HF1 → Rp.sh X.K HF1 v c → Good X.K HF0 G (put Γ i (.mk (Ow.l (Ow.v : Ow α)) l)) HF1 H1 σ → Q v H1) → t σ H Q
def popM {α : Type} (as : List α) : M (α × List α) := do let y ← ofO as[as.length - 1]?; pure (y, as.dropLast)
def popAtM {α : Type} (as : List α) (i : Int) : M (α × List α) := do gd (decide (-(2 ^ 63) ≤ i) && decide (i < 2 ^ 63)); let k ← ofO (seqIndex? i as.length); let y ← ofO as[k]?; pure (y, as.eraseIdx k)
theorem Fa.dropLast' {R : V → α → Prop} {vs : List V} {as : List α} (h : Fa R vs as) : Fa R vs.dropLast as.dropLast := by
  rw [List.dropLast_eq_take, List.dropLast_eq_take, h.len]
  exact h.take _
theorem Fa.eraseIdx' {R : V → α → Prop} : ∀ {vs : List V} {as : List α} (i : Nat), Fa R vs as → Fa R (vs.eraseIdx i) (as.eraseIdx i)
  | [], [], _, h => h
  | v :: vs, a :: as, 0, h => h.2
  | v :: vs, a :: as, i + 1, h => ⟨h.1, Fa.eraseIdx' i h.2⟩
  | [], _ :: _, _, h => h.elim
  | _ :: _, [], _, h => h.elim
theorem ep_pop [Rp α] (i : Nat) {as : List α} {x : Str} (hl : look Γ i = .mk (Ow.l (Ow.v : Ow α)) as := by rfl) (hN : X.N[i]? = some x := by rfl) (hv : Vis X.env.scope x := by first | exact Or.inl rfl | exact Or.inr (Or.inl rfl) | exact Or.inr (Or.inr rfl)) (hd : (x == ("__debug__" : Str)) = false := by decide)
    (hcd : (x == ("__classdict__" : Str)) = false := by decide)
    (hpe : ∀ {to : TE}, PE X (.Name x p) to → PE X (.Call (.Attribute (.Name x p) "pop" apos) [] [] cpos) (tBM0 X.K "list" rPop to) := by exact fun h => pe_bm0 PySem.F.plainAttrs_list PySem.F.slot_list_pop PySem.F.type_list_pop mt_pop h) :
    EP X Γ i (.Call (.Attribute (.Name x p) "pop" apos) [] [] cpos) (popM as) (tBM0 X.K "list" rPop (tVar i)) :=
  ⟨hpe (pe_var hN hv hd hcd), fun HF0 G HF H σ g c l hc Q k => by
    obtain ⟨y, e1, hc⟩ := bind_ok hc
    cases pure_ok hc
    obtain ⟨v, fo, hσ, ⟨q, vs, fq, h1, h2, h3, h4⟩, nd, hfo, back⟩ := g.take hl
    subst h1 h2
    obtain ⟨fa, e5⟩ := h4.toFa
    subst e5
    obtain ⟨w, e6, e7⟩ := fa.get' (ofO_ok e1)
    refine ⟨.ref q, hσ, .inl ⟨rfl, vs, SqL.of h3⟩, q, vs, w, rfl, rfl, h3, by rw [fa.len]; exact e6, ?_⟩
    have gg := back (Step.refl g.sub) (H' := upd H q (.lst vs.dropLast)) (u' := Ow.l (Ow.v : Ow α)) (b := as.dropLast) (v' := .ref q) (f' := [q]) (fun p w hp e => by rw [upd_ne (fun z => hp (by rw [z]; exact List.mem_cons_self ..))]; exact e)
      ⟨q, vs.dropLast, [], rfl, rfl, upd_same, Rl.ofFa fa.dropLast'⟩ (by simp) (fun p hp => .inl hp)
    rw [set_self hσ] at gg
    exact k w HF _ (Same.refl _) e7 gg⟩
theorem ep_popAt [Rp α] (i : Nat) {as : List α} {x : Str} {m : M Int} (he : EX X Γ e Ow.v m te) (hl : look Γ i = .mk (Ow.l (Ow.v : Ow α)) as := by rfl) (hN : X.N[i]? = some x := by rfl) (hv : Vis X.env.scope x := by first | exact Or.inl rfl | exact Or.inr (Or.inl rfl) | exact Or.inr (Or.inr rfl)) (hd : (x == ("__debug__" : Str)) = false := by decide)
    (hcd : (x == ("__classdict__" : Str)) = false := by decide)
    (hpe : ∀ {to : TE} {tt : TA}, PE X (.Name x p) to → PA X [e] tt → PE X (.Call (.Attribute (.Name x p) "pop" apos) [e] [] cpos) (tBM X.K "list" rPopAt to tt) := by exact fun h h' => pe_bm PySem.F.plainAttrs_list PySem.F.slot_list_pop PySem.F.type_list_pop mt_popAt h h')
    (h1 : starEach [e] X.env = (false, eval e X.env) :: starEach [] X.env := by rfl) :
    EP X Γ i (.Call (.Attribute (.Name x p) "pop" apos) [e] [] cpos) (do let j ← m; popAtM as j) (tBM X.K "list" rPopAt (tVar i) (tCons te tNil)) :=
  ⟨hpe (pe_var hN hv hd hcd) (pa_cons he.pe pa_nil h1), fun HF0 G HF H σ g c l hc Q k => by
    obtain ⟨j, e0, hc⟩ := bind_ok hc
    obtain ⟨u, e8, hc⟩ := bind_ok hc
    obtain ⟨n, e9, hc⟩ := bind_ok hc
    obtain ⟨y, e1, hc⟩ := bind_ok hc
    cases pure_ok hc
    obtain ⟨v, fo, hσ, ⟨q, vs, fq, h1, h2, h3, h4⟩, nd, hfo, back⟩ := g.take hl
    subst h1 h2
    obtain ⟨fa, e5⟩ := h4.toFa
    subst e5
    obtain ⟨w, e6, e7⟩ := fa.get' (ofO_ok e1)
    refine ⟨.ref q, hσ, .inl ⟨rfl, vs, SqL.of h3⟩, ?_⟩
    refine he.sem HF0 G HF H σ g j e0 _ fun v' HF1 H1 fp st r n' f => ?_
    have e10 := gd_ok e8
    rw [Bool.and_eq_true, decide_eq_true_eq, decide_eq_true_eq] at e10
    refine ⟨q, vs, j, n, w, rfl, by rw [Fl.sh_iff.mp r.1]; rfl, st.exH _ _ h3, e10.1, e10.2, by rw [fa.len]; exact ofO_ok e9, e6, ?_⟩
    have fa1 := fa.mono (fun v a h => Rp.mono st.exF h)
    have gg := back st (H' := upd H1 q (.lst (vs.eraseIdx n))) (u' := Ow.l (Ow.v : Ow α)) (b := as.eraseIdx n) (v' := .ref q) (f' := [q]) (fun p w hp e => by rw [upd_ne (fun z => hp (by rw [z]; exact List.mem_cons_self ..))]; exact e)
      ⟨q, vs.eraseIdx n, [], rfl, rfl, upd_same, Rl.ofFa (Fa.eraseIdx' n fa1)⟩ (by simp) (fun p hp => .inl hp)
    rw [set_self hσ] at gg
    exact k w HF1 _ st.exF (Rp.mono st.exF e7) gg⟩
/-- z = ..pop.. -/
theorem ss_asgP [Rp α] [Rp β] [Inhabited α] [Inhabited β] (i j : Nat) {x : Str} {m : M (β × List α)} {k : β × List α → M (Ctl S L ρ)} {pos' : Pos} (hN : X.N.Nodup) (he : EP X Γ i e m te) (hr : ∀ q : β × List α, SS X (put (put Γ i (.mk (Ow.l (Ow.v : Ow α)) q.2)) j (.mk (Ow.v : Ow β) q.1)) sts Γo ΓL o (k q) tr) (hlt : Nat.blt j Γ.length = true := by rfl) (hi : X.N[j]? = some x := by rfl) (hx : Loc X.env.scope x := by first | exact .inl rfl | exact .inr rfl)
    (hs : swapsWith e (some (.Name x pos')) pos.line X.env = pure false := by rfl) (hf : X.fn x = true ∨ X.env.scope.names.lookup x = some .local := by first | exact .inl rfl | exact .inr rfl) : SS X Γ (.Assign [.Name x pos'] e pos :: sts) Γo ΓL o (do let a ← m; k a) (tSeq (tAsg te (gName j)) tr) :=
  ⟨pss_cons (ps_set hN hi hx he.pe hs hf) (hr default).pss, fun HF0 G HF H σ g c hc D kk => by
    obtain ⟨⟨y, l⟩, e1, hc⟩ := bind_ok hc
    refine he.sem HF0 G HF H σ g y l e1 _ fun v HF' H' st r gg => ?_
    exact (hr (y, l)).sem HF0 G HF' H' _ (gg.putv (by rw [put_len]; exact of_blt hlt) r) c hc D (kk.mono st)⟩
/-- ..pop.. -/
theorem ss_dropP [Rp α] [Rp β] [Inhabited β] (i : Nat) {m : M (β × List α)} {k : β × List α → M (Ctl S L ρ)} (he : EP X Γ i e m te) (hr : ∀ q : β × List α, SS X (put Γ i (.mk (Ow.l (Ow.v : Ow α)) q.2)) sts Γo ΓL o (k q) tr)
    (hs : swapsWith e none pos.line X.env = pure false := by rfl) : SS X Γ (.Expr e pos :: sts) Γo ΓL o (do let a ← m; k a) (tSeq (tDrop te) tr) :=
  ⟨pss_cons (ps_expr he.pe hs) (hr default).pss, fun HF0 G HF H σ g c hc D kk => by
    obtain ⟨⟨y, l⟩, e1, hc⟩ := bind_ok hc
    refine he.sem HF0 G HF H σ g y l e1 _ fun v HF' H' st r gg => ?_
    exact (hr (y, l)).sem HF0 G HF' H' _ gg c hc D (kk.mono st)⟩
/-- x.append(..pop..) -/
theorem ss_appP [Rp α] [Rp β] [Inhabited β] (i j : Nat) {bs : List β} {x : Str} {m : M (β × List α)} {k : β × List α → List β → M (Ctl S L ρ)} (he : EP X Γ i e m te) (hr : ∀ (q : β × List α) y, SS X (put (put Γ i (.mk (Ow.l (Ow.v : Ow α)) q.2)) j (.mk (Ow.l (Ow.v : Ow β)) y)) sts Γo ΓL o (k q y) tr) (hl0 : look Γ j = .mk (Ow.l (Ow.v : Ow β)) bs := by rfl) (hl : ∀ l, look (put Γ i (.mk (Ow.l (Ow.v : Ow α)) l)) j = .mk (Ow.l (Ow.v : Ow β)) bs := by intro; rfl) (hN : X.N[j]? = some x := by rfl) (hv : Vis X.env.scope x := by first | exact Or.inl rfl | exact Or.inr (Or.inl rfl) | exact Or.inr (Or.inr rfl)) (hd : (x == ("__debug__" : Str)) = false := by decide)
    (hcd : (x == ("__classdict__" : Str)) = false := by decide)
    (hpe : ∀ {to : TE} {tt : TA}, PE X (.Name x p) to → PA X [e] tt → PE X (.Call (.Attribute (.Name x p) "append" apos) [e] [] cpos) (tBM X.K "list" rAppend to tt) := by exact fun h h' => pe_bm PySem.F.plainAttrs_list PySem.F.slot_list_append PySem.F.type_list_append mt_append h h')
    (h1 : starEach [e] X.env = (false, eval e X.env) :: starEach [] X.env := by rfl)
    (hs : swapsWith (.Call (.Attribute (.Name x p) "append" apos) [e] [] cpos) none pos.line X.env = pure false := by rfl) :
    SS X Γ (.Expr (.Call (.Attribute (.Name x p) "append" apos) [e] [] cpos) pos :: sts) Γo ΓL o (do let a ← m; let y ← appM bs a.1; k a y) (tSeq (tDrop (tBM X.K "list" rAppend (tVar j) (tCons te tNil))) tr) :=
  ⟨pss_cons (ps_expr (hpe (pe_var hN hv hd hcd) (pa_cons he.pe pa_nil h1)) hs) (hr default default).pss, fun HF0 G HF H σ g c hc D kk => by
    obtain ⟨⟨y, l⟩, e1, hc⟩ := bind_ok hc
    obtain ⟨l2, e2, hc⟩ := bind_ok hc
    obtain ⟨w, e3, e2⟩ := bind_ok e2
    have e4 := pure_ok e2
    subst e4
    obtain ⟨v0, fo0, hσ0, ⟨q0, vs0, fq0, h01, h02, h03, h04⟩, _⟩ := g.take hl0
    subst h01
    refine ⟨.ref q0, hσ0, .inl ⟨rfl, vs0, SqL.of h03⟩, ?_⟩
    refine he.sem HF0 G HF H σ g y l e1 _ fun v' HF1 H1 st r gg => ?_
    obtain ⟨v, fo, hσ, ⟨q, vs, fq, h1, h2, h3, h4⟩, nd, hfo, back⟩ := gg.take (hl l)
    rw [hσ0] at hσ
    cases hσ
    cases h1
    subst h2
    obtain ⟨fa, e5⟩ := h4.toFa
    subst e5
    refine ⟨q0, vs, v', rfl, rfl, h3, by rw [fa.len]; exact of_decide_eq_true (gd_ok e3), ?_⟩
    have g2 := back (Step.refl gg.sub) (H' := upd H1 q0 (.lst (vs ++ [v']))) (u' := Ow.l (Ow.v : Ow β)) (b := bs ++ [y]) (v' := .ref q0) (f' := [q0]) (fun p w hp e => by rw [upd_ne (fun z => hp (by rw [z]; exact List.mem_cons_self ..))]; exact e)
      ⟨q0, vs ++ [v'], [], rfl, rfl, upd_same, Rl.ofFa (fa.append ⟨r, True.intro⟩)⟩ (by simp) (fun p hp => .inl hp)
    rw [set_self hσ0] at g2
    exact (hr (y, l) (bs ++ [y])).sem HF0 G HF1 _ σ g2 c hc D (kk.mono st)⟩
/-- w + ..pop.., texts -/
theorem ep_catS [Rp α] (i : Nat) {m : M Str} {n : M (Str × List α)} (ha : EX X Γ a Ow.v m ta) (hb : EP X Γ i b n tb) : EP X Γ i (.BinOp a .Add b pos) (do let a ← m; let b ← n; let c ← addSM a b.1; pure (c, b.2)) (tOp rAddSt ta tb) :=
  ⟨pe_op op_add_str ha.pe hb.pe, fun HF0 G HF H σ g c l hc Q k => by
    obtain ⟨x, e1, hc⟩ := bind_ok hc
    obtain ⟨⟨y, l'⟩, e2, hc⟩ := bind_ok hc
    obtain ⟨z, e3, hc⟩ := bind_ok hc
    cases pure_ok hc
    obtain ⟨u, e4, e3⟩ := bind_ok e3
    cases pure_ok e3
    refine ha.sem HF0 G HF H σ g x e1 _ fun v HF1 H1 fp st r n f => ?_
    refine hb.sem HF0 G HF1 H1 σ (g.step st) y l' e2 _ fun v2 HF2 H2 st2 r2 gg => ?_
    exact ⟨x, y, Fl.sh_iff.mp r.1, Fl.sh_iff.mp r2, of_decide_eq_true (gd_ok e4), k _ HF2 H2 (st.exF.trans st2) (Fl.sh_iff.mpr rfl) gg⟩⟩
/-- a, b = a list of two -/
def twoM {α : Type} : List α → M (α × α)
  | [x, y] => pure (x, y)
  | _ => no
theorem twoM_ok {as : List α} {u : α × α} (h : twoM as = .ok u) : as = [u.1, u.2] := by
  match as, h with
  | [x, y], h => cases h; rfl
theorem ss_asgU {K : PySem.W.Frag} [Rp α] [Inhabited α] {x y : Expr} {kk : Nat} {g1 g2 : TG} {Γ1 : α → Ctx} {Γ2 : α → α → Ctx} {js ks : List Nat} {m : M (List α)} {k : α × α → M (Ctl S L ρ)} (hcm : X.calm = true) (he : EX X Γ e Ow.v m te) (hg1 : ∀ u, EG X Γ x g1 u (Γ1 u) js) (hg2 : ∀ u v, EG X (Γ1 u) y g2 v (Γ2 u v) ks) (hr : ∀ u : α × α, SS X (Γ2 u.1 u.2) sts Γo ΓL o (k u) tr)
    (hs1 : (assignEach [y] X.env).map (fun x => x.2) = assign y X.env :: (assignEach [] X.env).map (fun x => x.2) := by rfl) (hs2 : (assignEach [x, y] X.env).map (fun x => x.2) = assign x X.env :: (assignEach [y] X.env).map (fun x => x.2) := by rfl)
    (hpg : PGs X [x, y] (gCons g1 (gCons g2 gNil)) → PG X (.Tuple [x, y] kk pos2) (gUnl X.K 2 (gCons g1 (gCons g2 gNil))) := by exact fun h => pg_unl (by first | rfl | assumption) h)
    (hs : swapsWithSole [.Tuple [x, y] kk pos2] e pos.line X.env = pure false := by rfl) (hw : swappedStores [.Tuple [x, y] kk pos2] e X.env = pure none := by rfl)
    (h1 : (assignEach [.Tuple [x, y] kk pos2] X.env).map (·.2) = [assign (.Tuple [x, y] kk pos2) X.env] := by rfl) (hK : X.K = K := by rfl) :
    SS X Γ (.Assign [.Tuple [x, y] kk pos2] e pos :: sts) Γo ΓL o (do let a ← m; let u ← twoM a; k u) (tSeq (tAsg te (gUnl K 2 (gCons g1 (gCons g2 gNil)))) tr) := by
  subst hK
  exact ⟨pss_cons (ps_asg he.pe (hpg (pgs_cons (hg1 default).pg (pgs_cons (hg2 default default).pg pgs_nil hs1) hs2)) hs hw h1) (hr default).pss, fun HF0 G HF H σ gd c hc D kk => by
    obtain ⟨a, e1, hc⟩ := bind_ok hc
    obtain ⟨u, e2, hc⟩ := bind_ok hc
    have e3 := twoM_ok e2
    subst e3
    refine he.sem HF0 G HF H σ gd _ e1 _ fun v HF1 H1 fp st r n f => ?_
    obtain ⟨q, us, e4, e5, e6⟩ := r.1
    match us, e6 with
    | [va, vb], ⟨e7, e8, _⟩ =>
      refine ⟨q, [va, vb], e4, SqL.of (st.sub _ _ e5), rfl, va, [vb], rfl, ?_⟩
      refine (hg1 u.1).sem HF0 G HF1 H1 σ va (gd.step st) e7 _ fun σ1 G1 l1 s1 => ⟨vb, [], rfl, ?_⟩
      refine (hg2 u.1 u.2).sem HF0 G HF1 H1 σ1 vb G1 e8 _ fun σ2 G2 l2 s2 => ⟨rfl, ?_⟩
      exact (hr u).sem HF0 G HF1 H1 σ2 G2 c hc D (kk.mono st.exF)⟩
end
end Ty

namespace Ty
open PySem PySem.Spec PyProof.Rows L2
/-! ## Ty14: divmod, module tuples, dict.get -/
/-- a tuple of ints -/
def intsB (K : PySem.W.Frag) (v : Value) (ns : List Int) : Bool := match v with
  | .ref b => (match K.lookup b with
    | some ⟨.type c, _, .seq its _, _⟩ => decide (c = "tuple") && (decide (its.size ≤ sizeLine) && He.relAll (ns.map V.int) its.toList)
    | _ => false)
  | _ => false
theorem intsB_ok {K : PySem.W.Frag} {v : Value} {ns : List Int} (h : intsB K v ns = true) : ∃ b, v = .ref b ∧ ∀ H, SqT K H b (ns.map V.int) := by
  cases v with
  | ref b =>
    refine ⟨b, rfl, fun H => ?_⟩
    unfold intsB at h
    simp only at h
    cases q : K.lookup b with
    | none => rw [q] at h; cases h
    | some o =>
      obtain ⟨oc, od, dt, osl⟩ := o
      rw [q] at h
      cases oc with
      | type c =>
        cases dt with
        | seq its n =>
          obtain ⟨h1, h2⟩ := He.ba (show (decide (c = "tuple") && (decide (its.size ≤ sizeLine) && He.relAll (ns.map V.int) its.toList)) = true from h)
          obtain ⟨h3, h4⟩ := He.ba h2
          exact .inr ⟨_, its, n, q, congrArg Value.type (of_decide_eq_true h1), rfl, of_decide_eq_true h3, He.relAll_ok h4⟩
        | _ => cases h
      | _ => cases dt <;> cases h
  | _ => cases h
def allB (K : PySem.W.Frag) : List Value → List (List Int) → Bool
  | [], [] => true
  | v :: vs, n :: ns => intsB K v n && allB K vs ns
  | _, _ => false
theorem allB_ok {K : PySem.W.Frag} : ∀ {vs : List Value} {ns : List (List Int)}, allB K vs ns = true → ∃ ps : List Addr, Vals (ps.map V.ref) vs ∧ ∀ H, Fa (fun v n => ∃ p us, v = V.ref p ∧ SqT K H p us ∧ us = n.map V.int) (ps.map V.ref) ns
  | [], [], _ => ⟨[], .nil, fun _ => True.intro⟩
  | v :: vs, n :: ns, h => by
    obtain ⟨h1, h2⟩ := He.ba (show (intsB K v n && allB K vs ns) = true from h)
    obtain ⟨b, rfl, hb⟩ := intsB_ok h1
    obtain ⟨ps, q1, q2⟩ := allB_ok h2
    exact ⟨b :: ps, .cons rfl q1, fun H => ⟨⟨b, _, rfl, hb H, rfl⟩, q2 H⟩⟩
  | [], _ :: _, h => by cases h
  | _ :: _, [], h => by cases h
/-- the module's name x is a tuple of tuples of ints -/
def tup2B (x : Str) (ns : List (List Int)) (K : PySem.W.Frag) : Bool := match K.lookup (He.ga K x) with
  | some ⟨.type c, _, .seq its _, _⟩ => decide (c = "tuple") && (decide (its.size ≤ sizeLine) && allB K its.toList ns)
  | _ => false
theorem tup2B_ok {K : PySem.W.Frag} {x : Str} {ns : List (List Int)} (h : tup2B x ns K = true) (H : Hp) : Rp.sh K H (V.ref (He.ga K x)) (Tu.mk (ns.map Tu.mk)) := by
  unfold tup2B at h
  cases q : K.lookup (He.ga K x) with
  | none => rw [q] at h; cases h
  | some o =>
    obtain ⟨oc, od, dt, osl⟩ := o
    rw [q] at h
    cases oc with
    | type c =>
      cases dt with
      | seq its n =>
        obtain ⟨h1, h2⟩ := He.ba (show (decide (c = "tuple") && (decide (its.size ≤ sizeLine) && allB K its.toList ns)) = true from h)
        obtain ⟨h3, h4⟩ := He.ba h2
        obtain ⟨ps, h5, h6⟩ := allB_ok h4
        refine ⟨_, ps.map V.ref, rfl, .inr ⟨_, its, n, q, congrArg Value.type (of_decide_eq_true h1), rfl, of_decide_eq_true h3, h5⟩, ?_⟩
        have h7 := h6 H
        clear h5 h6 h4 h2 h h3 q
        generalize ps.map V.ref = vs at h7
        induction vs generalizing ns with
        | nil => cases ns with
          | nil => exact True.intro
          | cons _ _ => exact h7.elim
        | cons v vs ih => cases ns with
          | nil => exact h7.elim
          | cons n ns =>
            obtain ⟨⟨p, us, e1, e2, e3⟩, h8⟩ := h7
            exact ⟨⟨p, us, e1, e2, Fa.flat.mpr e3⟩, ih h8⟩
      | _ => cases h
    | _ => cases dt <;> cases h
def tup1B (x : Str) (ns : List Int) (K : PySem.W.Frag) : Bool := intsB K (.ref (He.ga K x)) ns
theorem tup1B_ok {K : PySem.W.Frag} {x : Str} {ns : List Int} (h : tup1B x ns K = true) (H : Hp) : Rp.sh K H (V.ref (He.ga K x)) (Tu.mk ns) := by
  obtain ⟨b, e, hb⟩ := intsB_ok h
  cases e
  exact ⟨_, _, rfl, hb H, Fa.flat.mpr rfl⟩
section
variable {X : Cx} {Γ : Ctx} {S L ρ α β γ A B S' : Type} [Rp ρ] {o : Ow ρ} {Γo : S → Ctx} {ΓL : L → Ctx} {a b e f : Expr} {es : List Expr} {pos p apos cpos pos2 : Pos} {ta tb te tf : TE} {t : TA} {sts : List Stmt} {tr tr' : TS} {tg : Expr}
theorem ex_gtu {K : PySem.W.Frag} [Rp α] {x : Str} {z : α} (hm : X.mg x = some (.ref (He.ga K x)) ∧ ∀ H, Rp.sh K H (V.ref (He.ga K x)) z) (hg : Gl X x := by rfl) (hd : (x == ("__debug__" : Str)) = false := by decide) (hK : X.K = K := by rfl) : EX X Γ (.Name x pos) Ow.v (pure z) (tC (.ref (He.ga K x))) := by
  subst hK
  exact ⟨pe_glob hg hm.1 rfl hd, fun HF0 G HF H σ g c hc Q k => by cases pure_ok hc; exact k.shv g.sub (hm.2 HF)⟩
theorem ex_gint {x : Str} {z : Int} {pos : Pos} (hm : ∃ t, X.mg x = some (.int z t)) (hg : Gl X x := by rfl) (hd : (x == ("__debug__" : Str)) = false := by decide) : EX X Γ (.Name x pos) Ow.v (pure z) (tC (.int z)) := by
  obtain ⟨t, h⟩ := hm
  exact ⟨pe_glob hg h ⟨t, rfl⟩ hd, fun HF0 G HF H σ g c hc Q k => by cases pure_ok hc; exact k.flat g.sub⟩
def dmM (i j : Int) : M (Int × Int) := do gd (decide (0 < j) && decide (j < 1073741824)); pure (i / j, i % j)
def rDivmod : List V → Hp → VK → Prop := fun xs H Q => ∃ i j, xs = [.int i, .int j] ∧ CDiv i j ∧ ∀ p, H p = none → Q (.ref p) (upd H p (.tup [.int (i / j), .int (i % j)]))
theorem ex_divmod {m n : M Int} (hm : X.mg "divmod" = none) (ha : EX X Γ a Ow.v m ta) (hb : EX X Γ b Ow.v n tb) (hg : Gl X "divmod" := by rfl) (h1 : starEach [a, b] X.env = (false, eval a X.env) :: starEach [b] X.env := by rfl) (h2 : starEach [b] X.env = (false, eval b X.env) :: starEach [] X.env := by rfl) (hpl : (backTo pos (starEach [b] X.env)).any (·.1) = false := by rfl) : EX X Γ (.Call (.Name "divmod" p) [a, b] [] pos) (Ow.p Ow.v Ow.v) (do let a ← m; let b ← n; dmM a b) (tCB rDivmod (tCons ta (tCons tb tNil))) :=
  ex_b2 call_divmod (show SemC2 X.K rDivmod (Ow.p Ow.v Ow.v) dmM from fun HF H v w a b c s ra rb hc Q k => by
    obtain ⟨u, e1, hc⟩ := bind_ok hc
    cases pure_ok hc
    have e2 := gd_ok e1
    rw [Bool.and_eq_true, decide_eq_true_eq, decide_eq_true_eq] at e2
    refine ⟨a, b, by rw [Fl.sh_iff.mp ra, Fl.sh_iff.mp rb]; rfl, ⟨e2.1, e2.2⟩, fun p hp => ?_⟩
    exact k.obj (fp := []) (Step.refl s) hp ⟨p, _, _, [], [], rfl, rfl, upd_same, ⟨Fl.sh_iff.mpr rfl, rfl⟩, ⟨Fl.sh_iff.mpr rfl, rfl⟩⟩ List.nodup_nil (fun q hq => by cases hq) (fun q hq => by cases hq)) (by decide +kernel) hm ha hb hg (h1 := h1) (h2 := h2) (hpl := hpl)
end
end Ty

namespace Ty
open PySem
/-! ## Ty15: maths: walks that come back, nets -/
theorem len_le_of_lt : ∀ (m : Nat) (l : List Nat), l.Nodup → (∀ x ∈ l, x < m) → l.length ≤ m
  | 0, l, _, h => by
    cases l with
    | nil => simp
    | cons a l => exact absurd (h a (List.mem_cons_self ..)) (by omega)
  | m + 1, l, hn, h => by
    by_cases hm : m ∈ l
    · have := len_le_of_lt m (l.erase m) (hn.erase m) (fun x hx => by
        rw [hn.mem_erase_iff] at hx
        have := h x hx.2
        omega)
      rw [List.length_erase_of_mem hm] at this
      omega
    · have := len_le_of_lt m l hn (fun x hx => by
        have := h x hx
        rcases Nat.lt_or_ge x m with h1 | h1
        · exact h1
        · have : x = m := by omega
          subst this; exact absurd hx hm)
      omega
theorem pigeon (m : Nat) (f : Nat → Nat) (h : ∀ i, i ≤ m → f i < m) : ∃ i j, i < j ∧ j ≤ m ∧ f i = f j := by
  refine Classical.byContradiction fun hc => ?_
  have hn : ((List.range (m + 1)).map f).Nodup := by
    rw [List.nodup_iff_pairwise_ne, List.pairwise_map]
    refine List.Pairwise.imp_of_mem ?_ (List.pairwise_lt_range)
    intro a b ha hb hab e
    exact hc ⟨a, b, hab, by have := List.mem_range.mp hb; omega, e⟩
  have := len_le_of_lt m _ hn (fun x hx => by
    obtain ⟨i, hi, rfl⟩ := List.mem_map.mp hx
    exact h i (by have := List.mem_range.mp hi; omega))
  simp at this
  omega
theorem least_of (P : Nat → Prop) [DecidablePred P] : ∀ n, P n → ∃ k, k ≤ n ∧ P k ∧ ∀ j, j < k → ¬ P j
  | 0, h => ⟨0, Nat.le_refl _, h, fun j hj => absurd hj (by omega)⟩
  | n + 1, h => by
    by_cases h0 : P 0
    · exact ⟨0, by omega, h0, fun j hj => absurd hj (by omega)⟩
    · obtain ⟨k, h1, h2, h3⟩ := least_of (fun i => P (i + 1)) n h
      exact ⟨k + 1, by omega, h2, fun j hj => by
        cases j with
        | zero => exact h0
        | succ j => exact h3 j (by omega)⟩
/-- the walk s e, s (s e), .. -/
def orb (s : Int → Int) (e : Int) : Nat → Int
  | 0 => e
  | k + 1 => s (orb s e k)
theorem orb_in {s : Int → Int} {e : Int} {m : Nat} (h : ∀ x : Int, 0 ≤ x → x < m → 0 ≤ s x ∧ s x < m) (h0 : 0 ≤ e) (h1 : e < m) : ∀ k, 0 ≤ orb s e k ∧ orb s e k < m
  | 0 => ⟨h0, h1⟩
  | k + 1 => h _ (orb_in h h0 h1 k).1 (orb_in h h0 h1 k).2
/-- an injective step comes back -/
theorem orb_back {s : Int → Int} {e : Int} {m : Nat} (h : ∀ x : Int, 0 ≤ x → x < m → 0 ≤ s x ∧ s x < m) (inj : ∀ x y : Int, 0 ≤ x → x < m → 0 ≤ y → y < m → s x = s y → x = y) (h0 : 0 ≤ e) (h1 : e < m) :
    ∃ k, 1 ≤ k ∧ k ≤ m ∧ orb s e k = e ∧ ∀ j, 1 ≤ j → j < k → orb s e j ≠ e := by
  have hin := orb_in h h0 h1
  obtain ⟨i, j, hij, hj, e1⟩ := pigeon m (fun k => (orb s e k).toNat) (fun i _ => by have := hin i; omega)
  have e1 : orb s e i = orb s e j := by
    have a := hin i; have b := hin j
    have e1 : (orb s e i).toNat = (orb s e j).toNat := e1
    omega
  have back : ∀ i d, orb s e i = orb s e (i + d) → orb s e d = e := by
    intro i
    induction i with
    | zero => intro d q; rw [Nat.zero_add] at q; exact q.symm
    | succ i ih =>
      intro d q
      refine ih d ?_
      rw [show i + 1 + d = (i + d) + 1 by omega] at q
      exact inj _ _ (hin i).1 (hin i).2 (hin (i + d)).1 (hin (i + d)).2 q
  have e2 := back i (j - i) (by rw [show i + (j - i) = j by omega]; exact e1)
  obtain ⟨k, hk, hk2, hk3⟩ := least_of (fun k => orb s e (k + 1) = e) (j - i - 1) (by rw [show j - i - 1 + 1 = j - i by omega]; exact e2)
  refine ⟨k + 1, by omega, by omega, hk2, fun j' h1 h2 => ?_⟩
  have := hk3 (j' - 1) (by omega)
  rw [show j' - 1 + 1 = j' by omega] at this
  exact this
theorem popAtM_ok {α : Type} [Inhabited α] {as : List α} {i : Int} (h0 : 0 ≤ i) (h1 : i < as.length) (h2 : i < 9223372036854775808) : popAtM as i = .ok (as.getD i.toNat default, as.eraseIdx i.toNat) := by
  unfold popAtM
  have e1 : (decide (-(2 ^ 63) ≤ i) && decide (i < 2 ^ 63)) = true := by simp; omega
  have e2 : seqIndex? i as.length = some i.toNat := (L2.ixN_seq (ixN_ok h0 h1)).1
  rw [e1, e2]
  simp only [gdT, okB, ofOs]
  rw [List.getD_eq_getElem?_getD, List.getElem?_eq_getElem (by omega)]
  rfl
theorem lrange_ok {n : Int} (h0 : 0 ≤ n) (h1 : n ≤ 16777216) : lrange 0 n = .ok (rangeL 0 n) := by
  unfold lrange rgB2
  have e : (decide (-(2 ^ 62) ≤ (0 : Int)) && decide ((0 : Int) < 2 ^ 62) && decide (-(2 ^ 62) ≤ n) && decide (n < 2 ^ 62) && decide ((n - 0).toNat ≤ 2 ^ 24)) = true := by simp; omega
  rw [e]; rfl
theorem dmM_ok {i j : Int} (h0 : 0 < j) (h1 : j < 1073741824) : dmM i j = .ok (i / j, i % j) := by
  unfold dmM
  rw [decide_eq_true h0, decide_eq_true h1]; rfl
theorem rep1_ok {α : Type} {a : α} {k : Int} (h0 : 0 ≤ k) (h1 : k ≤ 1000) : repM [a] k = .ok (row k.toNat fun _ => a) := by
  unfold repM
  have e : (decide (-(2 ^ 63) ≤ k) && decide (k < 2 ^ 63) && szB ([a].length * k.toNat)) = true := by
    simp [szB, sizeLine_eq]; omega
  rw [e]
  simp only [gdT, okB]
  show Except.ok _ = _
  congr 1
  refine row_ext ?_ fun i hi => ?_
  · simp
  · have : (List.replicate k.toNat [a]).flatten = List.replicate k.toNat a := by
      generalize k.toNat = n
      induction n with
      | zero => rfl
      | succ n ih => simp [List.replicate_succ, ih]
    rw [this, List.getElem?_replicate, if_pos hi]
theorem loop_congr {α S ρ : Type} {f g : α → S → M (Ctl S S ρ)} : ∀ {xs : List α} {s : S}, (∀ x ∈ xs, ∀ s, f x s = g x s) → loopM f xs s = loopM g xs s
  | [], s, _ => rfl
  | x :: xs, s, h => by
    unfold loopM
    rw [h x (List.mem_cons_self ..)]
    congr 1
    funext y
    cases y <;> first | rfl | exact loop_congr fun z hz => h z (List.mem_cons_of_mem _ hz)
theorem dputM_ok {κ β : Type} [DecidableEq κ] {d : Dc κ β} {k : κ} {v : β} (h : d.l.length < 1000000) : dputM d k v = .ok ⟨dput d.l k v⟩ := by
  unfold dputM
  rw [decide_eq_true (by rw [sizeLine_eq]; omega)]; rfl
theorem dput_len {κ β : Type} [DecidableEq κ] (l : List (κ × β)) (k : κ) (v : β) : (dput l k v).length ≤ l.length + 1 := by
  unfold dput
  split <;> simp
/-- joining by a way -/
def jn (w s : Int) : Int := if w = 0 then (if s = 0 then 1 else if s = 1 then 0 else if s = 2 then 3 else 2) else if w = 1 then (if s = 0 then 2 else if s = 1 then 3 else if s = 2 then 0 else 1) else 3 - s
theorem jn_in {w s : Int} (h0 : 0 ≤ s) (h1 : s < 4) : 0 ≤ jn w s ∧ jn w s < 4 := by
  unfold jn
  repeat' split
  all_goals omega
theorem jn_jn {w s : Int} (h0 : 0 ≤ s) (h1 : s < 4) : jn w (jn w s) = s := by
  have hs : s = 0 ∨ s = 1 ∨ s = 2 ∨ s = 3 := by omega
  unfold jn
  by_cases h : w = 0
  · rcases hs with rfl | rfl | rfl | rfl <;> simp [h]
  · by_cases h2 : w = 1
    · rcases hs with rfl | rfl | rfl | rfl <;> simp [h2]
    · simp [h, h2]; omega
/-- the end joined with an end -/
def par (c : Nat → Int) (e : Int) : Int := 4 * (e / 4) + jn (c (e / 4).toNat) (e % 4)
theorem par_in {c : Nat → Int} {e : Int} {n : Nat} (h0 : 0 ≤ e) (h1 : e < ((4 * n : Nat) : Int)) : 0 ≤ par c e ∧ par c e < ((4 * n : Nat) : Int) := by
  have := jn_in (w := c (e / 4).toNat) (s := e % 4) (by omega) (by omega)
  unfold par
  omega
theorem par_par {c : Nat → Int} {e : Int} (h0 : 0 ≤ e) : par c (par c e) = e := by
  have h := jn_in (w := c (e / 4).toNat) (s := e % 4) (by omega) (by omega)
  have h2 := jn_jn (w := c (e / 4).toNat) (s := e % 4) (by omega) (by omega)
  have e1 : par c e / 4 = e / 4 := by unfold par; omega
  have e2 : par c e % 4 = jn (c (e / 4).toNat) (e % 4) := by unfold par; omega
  have : par c (par c e) = 4 * (par c e / 4) + jn (c (par c e / 4).toNat) (par c e % 4) := rfl
  rw [this, e1, e2, h2]
  omega
/-- a net of m ends -/
def Net (m : Nat) (f : Nat → Int) : Prop := ∀ i, i < m → 0 ≤ f i ∧ f i < m ∧ f (f i).toNat = i
/-- a round's list after k steps -/
def wl (s p : Int → Int) (e : Int) : Nat → List Int
  | 0 => []
  | k + 1 => wl s p e k ++ [orb s e k, p (orb s e k)]
theorem wl_len (s p : Int → Int) (e : Int) : ∀ k, (wl s p e k).length = 2 * k
  | 0 => rfl
  | k + 1 => by
    show (wl s p e k ++ [_, _]).length = _
    rw [List.length_append, wl_len s p e k]; simp; omega
theorem atM_last {α : Type} [Inhabited α] {as : List α} {a : α} : atM (as ++ [a]) (-1) = .ok a := by
  have e : L2.atI (as ++ [a]) (-1) = some a := by
    unfold L2.atI L2.ixN
    rw [if_neg (by omega), if_pos (by simp; omega)]
    show (as ++ [a])[(-1 + ((as ++ [a]).length : Int)).toNat]? = _
    rw [show (-1 + ((as ++ [a]).length : Int)).toNat = as.length by simp; omega]
    simp
  unfold atM
  rw [e]
  rfl
theorem mem_erase_nodup {α : Type} {x : α} : ∀ {l : List α} {k : Nat} (hn : l.Nodup) (hk : k < l.length), x ∈ l.eraseIdx k ↔ x ∈ l ∧ x ≠ l[k]
  | [], _, _, hk => absurd hk (by simp)
  | a :: l, 0, hn, _ => by
    have ha := (List.nodup_cons.mp hn).1
    rw [List.eraseIdx_cons_zero, List.mem_cons]
    constructor
    · intro h; exact ⟨.inr h, fun e => ha (by have e : x = a := e; rw [← e]; exact h)⟩
    · rintro ⟨h | h, e⟩
      · exact absurd h e
      · exact h
  | a :: l, k + 1, hn, hk => by
    have ha := (List.nodup_cons.mp hn).1
    have hk' : k < l.length := by simpa using hk
    have ih := mem_erase_nodup (x := x) (List.nodup_cons.mp hn).2 hk'
    rw [List.eraseIdx_cons_succ, List.mem_cons, ih, List.mem_cons, List.getElem_cons_succ]
    constructor
    · rintro (h | h)
      · exact ⟨.inl h, fun e => ha (by rw [← h, e]; exact List.getElem_mem _)⟩
      · exact ⟨.inr h.1, h.2⟩
    · rintro ⟨h | h, e⟩
      · exact .inl h
      · exact .inr ⟨h, e⟩
end Ty

namespace Ty
open PySem PySem.Spec PyProof.Rows L2
/-! ## Ty16: lists of two or three unlike things -/
structure H3 (α β γ : Type) where
  a : α
  b : β
  c : γ
deriving DecidableEq
instance {α β γ : Type} [Inhabited α] [Inhabited β] [Inhabited γ] : Inhabited (H3 α β γ) := ⟨⟨default, default, default⟩⟩
instance rpH3 {α β γ : Type} [Rp α] [Rp β] [Rp γ] : Rp (H3 α β γ) where
  sh K H v x := ∃ p va vb vc, v = .ref p ∧ H p = some (.lst [va, vb, vc]) ∧ Rp.sh K H va x.a ∧ Rp.sh K H vb x.b ∧ Rp.sh K H vc x.c
  mono := fun e ⟨p, va, vb, vc, h1, h2, h3, h4, h5⟩ => ⟨p, va, vb, vc, h1, e _ _ h2, Rp.mono e h3, Rp.mono e h4, Rp.mono e h5⟩
/-- an own list of three, its items shared -/
def Ow.h3 {α β γ : Type} [Rp α] [Rp β] [Rp γ] : Ow (H3 α β γ) where
  rep K HF H v x fp := ∃ p va vb vc, v = .ref p ∧ fp = [p] ∧ H p = some (.lst [va, vb, vc]) ∧ Rp.sh K HF va x.a ∧ Rp.sh K HF vb x.b ∧ Rp.sh K HF vc x.c
  mono := fun e k ⟨p, va, vb, vc, h1, h2, h3, h4, h5, h6⟩ => by
    subst h2
    exact ⟨p, va, vb, vc, h1, rfl, k p (List.mem_singleton.mpr rfl) _ h3, Rp.mono e h4, Rp.mono e h5, Rp.mono e h6⟩
  dom := fun ⟨p, va, vb, vc, h1, h2, h3, h4, h5, h6⟩ q hq => by
    subst h2
    rw [List.mem_singleton.mp hq]
    exact ⟨_, h3⟩
  frz := fun e k ⟨p, va, vb, vc, h1, h2, h3, h4, h5, h6⟩ => by
    subst h2
    exact ⟨p, va, vb, vc, h1, k p (List.mem_singleton.mpr rfl) _ h3, Rp.mono e h4, Rp.mono e h5, Rp.mono e h6⟩
instance eqvH3 {α β γ : Type} [Rp α] [Rp β] [Rp γ] [DecidableEq α] [DecidableEq β] [DecidableEq γ] [Eqv α] [Eqv β] [Eqv γ] : Eqv (H3 α β γ) where
  py x := .list [Eqv.py x.a, Eqv.py x.b, Eqv.py x.c]
  ok x := Eqv.ok x.a && (Eqv.ok x.b && Eqv.ok x.c)
  dep := max (Eqv.dep α) (max (Eqv.dep β) (Eqv.dep γ)) + 1
  dp := fun ⟨p, va, vb, vc, h1, h2, h3, h4, h5⟩ => by subst h1; exact .lst (SqL.of h2) (.cons (Eqv.dp h3) (.cons (Eqv.dp h4) (.cons (Eqv.dp h5) .nil)))
  lay := fun x h => by
    rw [Bool.and_eq_true, Bool.and_eq_true] at h
    simp [PyData.canLay0, PyData.canLayAll0, Eqv.lay x.a h.1, Eqv.lay x.b h.2.1, Eqv.lay x.c h.2.2]
  deep := fun x => by
    have h1 := Eqv.deep x.a
    have h2 := Eqv.deep x.b
    have h3 := Eqv.deep x.c
    simp only [PyData.depth, PyData.depthAll]
    omega
  eqv := fun ⟨a, b, c⟩ ⟨d, e, f⟩ => by
    simp only [PyData.eqv, PyData.eqvAll, Eqv.eqv]
    by_cases h1 : a = d <;> by_cases h2 : b = e <;> by_cases h3 : c = f <;> simp [h1, h2, h3]
instance {α β γ : Type} [Rp α] [Rp β] [Rp γ] [DecidableEq α] [DecidableEq β] [DecidableEq γ] [Eqv α] [Eqv β] [Eqv γ] [EqvT α] [EqvT β] [EqvT γ] : EqvT (H3 α β γ) := ⟨fun x => by
  show (Eqv.ok x.a && (Eqv.ok x.b && Eqv.ok x.c)) = true
  rw [EqvT.all, EqvT.all, EqvT.all]; rfl⟩
section
variable {X : Cx} {Γ : Ctx} {α β γ : Type} {a b c e : Expr} {pos p : Pos} {ta tb tc : TE}
theorem ex_h3 [Rp α] [Rp β] [Rp γ] {m : M α} {n : M β} {q : M γ} (ha : EX X Γ a Ow.v m ta) (hb : EX X Γ b Ow.v n tb) (hc : EX X Γ c Ow.v q tc) (h1 : starEach [a, b, c] X.env = (false, eval a X.env) :: starEach [b, c] X.env := by rfl) (h2 : starEach [b, c] X.env = (false, eval b X.env) :: starEach [c] X.env := by rfl) (h3 : starEach [c] X.env = (false, eval c X.env) :: starEach [] X.env := by rfl) :
    EX X Γ (.List [a, b, c] pos) Ow.h3 (do let a ← m; let b ← n; let c ← q; pure (H3.mk a b c)) (tLst (tCons ta (tCons tb (tCons tc tNil)))) :=
  ⟨pe_lst (pa_cons ha.pe (pa_cons hb.pe (pa_cons hc.pe pa_nil h3) h2) h1), fun HF0 G HF H σ g cc hcc Q kk => by
    obtain ⟨x, e1, hcc⟩ := bind_ok hcc
    obtain ⟨y, e2, hcc⟩ := bind_ok hcc
    obtain ⟨z, e3, hcc⟩ := bind_ok hcc
    cases pure_ok hcc
    refine ha.sem HF0 G HF H σ g x e1 _ fun v HF1 H1 fp s1 r1 n1 f1 => ?_
    refine hb.sem HF0 G HF1 H1 σ (g.step s1) y e2 _ fun w HF2 H2 fq s2 r2 n2 f2 => ?_
    refine hc.sem HF0 G HF2 H2 σ ((g.step s1).step s2) z e3 _ fun u HF3 H3 fr s3 r3 n3 f3 => ⟨by show 3 ≤ sizeLine; decide, fun p hp => ?_⟩
    exact kk.obj ((s1.trans s2).trans s3) hp (fp := []) ⟨p, v, w, u, rfl, rfl, upd_same, Rp.mono (s2.exF.trans s3.exF) r1.1, Rp.mono s3.exF r2.1, r3.1⟩ List.nodup_nil (fun q hq => by cases hq) (fun q hq => by cases hq)⟩
theorem ex_ixH0 {K : PySem.W.Frag} [Rp α] [Rp β] [Rp γ] {m : M (H3 α β γ)} {j p2} (ha : EX X Γ a Ow.v m ta) (hs : PlainIx (.Constant (.int 0) j p2) := by intro _ _; rfl) (hK : X.K = K := by rfl) : EX X Γ (.Subscript a (.Constant (.int 0) j p2) pos) Ow.v (do let a ← m; pure a.a) (tOp (rIxL K) ta (tC (.int 0))) := by
  subst hK
  exact ⟨pe_ix ix_list ha.pe pe_int hs, fun HF0 G HF H σ g c hc Q k => by
    obtain ⟨x, e1, hc⟩ := bind_ok hc
    cases pure_ok hc
    refine ha.sem HF0 G HF H σ g x e1 _ fun v HF1 H1 fp s1 r1 _ _ => ?_
    obtain ⟨⟨q, va, vb, vc, h1, h2, h3, h4, h5⟩, _⟩ := r1
    exact ⟨q, _, 0, va, h1, rfl, SqL.of (s1.sub _ _ h2), rfl, (k.back s1).shv s1.sub h3⟩⟩
theorem ex_ixH1 {K : PySem.W.Frag} [Rp α] [Rp β] [Rp γ] {m : M (H3 α β γ)} {j p2} (ha : EX X Γ a Ow.v m ta) (hs : PlainIx (.Constant (.int 1) j p2) := by intro _ _; rfl) (hK : X.K = K := by rfl) : EX X Γ (.Subscript a (.Constant (.int 1) j p2) pos) Ow.v (do let a ← m; pure a.b) (tOp (rIxL K) ta (tC (.int 1))) := by
  subst hK
  exact ⟨pe_ix ix_list ha.pe pe_int hs, fun HF0 G HF H σ g c hc Q k => by
    obtain ⟨x, e1, hc⟩ := bind_ok hc
    cases pure_ok hc
    refine ha.sem HF0 G HF H σ g x e1 _ fun v HF1 H1 fp s1 r1 _ _ => ?_
    obtain ⟨⟨q, va, vb, vc, h1, h2, h3, h4, h5⟩, _⟩ := r1
    exact ⟨q, _, 1, vb, h1, rfl, SqL.of (s1.sub _ _ h2), rfl, (k.back s1).shv s1.sub h4⟩⟩
theorem ex_ixH2 {K : PySem.W.Frag} [Rp α] [Rp β] [Rp γ] {m : M (H3 α β γ)} {j p2} (ha : EX X Γ a Ow.v m ta) (hs : PlainIx (.Constant (.int 2) j p2) := by intro _ _; rfl) (hK : X.K = K := by rfl) : EX X Γ (.Subscript a (.Constant (.int 2) j p2) pos) Ow.v (do let a ← m; pure a.c) (tOp (rIxL K) ta (tC (.int 2))) := by
  subst hK
  exact ⟨pe_ix ix_list ha.pe pe_int hs, fun HF0 G HF H σ g c hc Q k => by
    obtain ⟨x, e1, hc⟩ := bind_ok hc
    cases pure_ok hc
    refine ha.sem HF0 G HF H σ g x e1 _ fun v HF1 H1 fp s1 r1 _ _ => ?_
    obtain ⟨⟨q, va, vb, vc, h1, h2, h3, h4, h5⟩, _⟩ := r1
    exact ⟨q, _, 2, vc, h1, rfl, SqL.of (s1.sub _ _ h2), rfl, (k.back s1).shv s1.sub h5⟩⟩
def rIsBl : R2 := fun x y H Q => ∃ a b, x = .bl a ∧ y = .bl b ∧ Q (.bl (decide (a = b))) H
def rIsntBl : R2 := fun x y H Q => ∃ a b, x = .bl a ∧ y = .bl b ∧ Q (.bl (!decide (a = b))) H
theorem ec_isB {ma mb : M Bool} (ha : EX X Γ a Ow.v ma ta) (hb : EX X Γ b Ow.v mb tb) (hm : behindInMarks .Is b = false := by rfl) : EC X Γ .Is a b (do let a ← ma; let b ← mb; pure (decide (a = b))) rIsBl ta tb :=
  ec_of op_is_bl (fun HF H v w a b c s ra rb hc Q k => by cases pure_ok hc; exact ⟨a, b, Fl.sh_iff.mp ra, Fl.sh_iff.mp rb, k.flat s⟩) ha hb hm
theorem ec_isntB {ma mb : M Bool} (ha : EX X Γ a Ow.v ma ta) (hb : EX X Γ b Ow.v mb tb) (hm : behindInMarks .IsNot b = false := by rfl) : EC X Γ .IsNot a b (do let a ← ma; let b ← mb; pure (!decide (a = b))) rIsntBl ta tb :=
  ec_of op_isnot_bl (fun HF H v w a b c s ra rb hc Q k => by cases pure_ok hc; exact ⟨a, b, Fl.sh_iff.mp ra, Fl.sh_iff.mp rb, k.flat s⟩) ha hb hm
end
section
variable {X : Cx} {Γ : Ctx} {S L ρ α β γ A B S' : Type} [Rp ρ] {o : Ow ρ} {Γo : S → Ctx} {ΓL : L → Ctx} {a b e f : Expr} {es : List Expr} {pos p apos cpos pos2 : Pos} {ta tb te tf : TE} {t : TA} {sts : List Stmt} {tr tr' : TS}
/-- x = [..], looked at: own things stand in it -/
theorem ss_asgLcV [Rp α] [Rp β] [Inhabited α] {o' : Ow β} [Ind (Ow.l o')] (i : Nat) {y : Str} {py : Pos} {elt tg iter : Expr} {ifs : List Expr} {scope : Scope} {own : List (Str × Nat)} {wi : TI} {g : TG} {tt : TT} {m : M (List α)} {tm : α → M Bool} {fm : α → M β} {Γt : α → Ctx} {js : List Nat} {k : List β → M (Ctl S L ρ)} {cpos : Pos} (hc : X.calm = true) (hN : X.N.Nodup)
    (hi : EI X (vw Γ) tg iter m wi) (ok : blkC X.N X.env.scope scope own = true) (hown : (own.map (·.2)).all (fun i => decide (i < (vw Γ).length)) = true) (hjs : js.all (fun i => (own.map (·.2)).contains i) = true)
    (hg : ∀ (s : Shared) (H : Hp) (C : Addr) (cl : List (Str × Addr)) (fp : List Addr) (x : α), EG (X.blk s H scope (compEnvC scope cl C X.env) fp) (wipeC (vw Γ) (own.map (·.2))) tg g x (Γt x) js)
    (ht : ∀ (s : Shared) (H : Hp) (C : Addr) (cl : List (Str × Addr)) (fp : List Addr) (x : α), EF (X.blk s H scope (compEnvC scope cl C X.env) fp) (Γt x) ifs (tm x) tt)
    (he : ∀ (s : Shared) (H : Hp) (C : Addr) (cl : List (Str × Addr)) (fp : List Addr) (x : α), EX (X.blk s H scope (compEnvC scope cl C X.env) fp) (Γt x) elt o' (fm x) te)
    (hr : ∀ a, SS X (put Γ i (.mk (Ow.l o') a)) sts Γo ΓL o (k a) tr)
    (hlt : Nat.blt i Γ.length = true := by rfl) (hy : X.N[i]? = some y := by rfl) (hyl : X.env.scope.names.lookup y = some .local := by rfl)
    (hsw : swapsWith (.ListComp elt [⟨tg, iter, ifs, 0⟩] scope cpos) (some (.Name y py)) pos.line X.env = pure true := by exact sw_true rfl rfl rfl (by decide +kernel))
    (hs : ∀ x, foldedSetIterable iter X.env x = pure x := by intro _; rfl) :
    SS X Γ (.Assign [.Name y py] (.ListComp elt [⟨tg, iter, ifs, 0⟩] scope cpos) pos :: sts) Γo ΓL o (do let a ← (do let xs ← m; compM xs tm fm); k a) (tSeq (tAsg (tLc wi g tt te (own.map (·.2))) (gName i)) tr) := by
  have q : EX X Γ (.ListComp elt [⟨tg, iter, ifs, 0⟩] scope cpos) (Ow.l o') (do let xs ← m; compM xs tm fm) (tLc wi g tt te (own.map (·.2))) := ex_view (ex_lc hc hN hi ok hown hjs hg ht he hs)
  exact ⟨pss_cons (ps_setLc hc hN hy hyl hsw hi.pi (blkOk_by ok) (fun s H C cl fp => (hg s H C cl fp default).pg) (fun s H C cl fp => (ht s H C cl fp default).pts) (fun s H C cl fp => (he s H C cl fp default).pe) hs) (hr default).pss, fun HF0 G HF H σ gd c hcc D kk => by
    obtain ⟨z, e1, hcc⟩ := bind_ok hcc
    show tLc wi g tt te (own.map (·.2)) σ H (fun x H1 => tr D (σ.set i (some x)) H1)
    refine q.sem HF0 G HF H σ gd z e1 _ fun v HF' H' fp st r n f => ?_
    exact (hr z).sem HF0 G HF' H' _ (gd.set (of_blt hlt) st r n f) c hcc D (kk.mono st.exF)⟩
end
end Ty

namespace Ty
open PySem
/-! ## Ty17: maths: ends tied two and two -/
/-- the ends of l are left; all others are tied by f -/
structure Prt (m : Nat) (l : List Int) (f : Nat → Int) : Prop where
  nd : l.Nodup
  rg : ∀ x ∈ l, 0 ≤ x ∧ x < (m : Int)
  tied : ∀ i : Nat, i < m → (i : Int) ∉ l → 0 ≤ f i ∧ f i < (m : Int) ∧ f i ∉ l ∧ f (f i).toNat = i ∧ f i ≠ i
def tie (f : Nat → Int) (a b : Int) : Nat → Int := fun i => if i = b.toNat then a else if i = a.toNat then b else f i
theorem prt_start (m : Nat) (f : Nat → Int) : Prt m (rangeL 0 m) f := by
  refine ⟨?_, fun x hx => mem_range1 hx, fun i hi hx => ?_⟩
  · unfold rangeL
    rw [List.nodup_iff_pairwise_ne, List.pairwise_map]
    exact List.pairwise_lt_range.imp fun h e => by omega
  · exfalso
    apply hx
    unfold rangeL
    rw [List.mem_map]
    exact ⟨i, List.mem_range.mpr (by omega), by omega⟩
theorem prt_step {m : Nat} {a : Int} {l : List Int} {f : Nat → Int} {j : Nat} (h : Prt m (a :: l) f) (hj : j < l.length) : 0 ≤ a ∧ a < (m : Int) ∧ 0 ≤ l[j] ∧ l[j] < (m : Int) ∧ Prt m (l.eraseIdx j) (tie f a l[j]) := by
  have hn := List.nodup_cons.mp h.nd
  have ha' := h.rg a (List.mem_cons_self ..)
  have hb : l[j] ∈ l := List.getElem_mem _
  have hb' := h.rg l[j] (List.mem_cons_of_mem _ hb)
  have hmem : ∀ x, x ∈ l.eraseIdx j ↔ x ∈ l ∧ x ≠ l[j] := fun x => mem_erase_nodup hn.2 hj
  refine ⟨ha'.1, ha'.2, hb'.1, hb'.2, hn.2.sublist (List.eraseIdx_sublist ..), fun x hx => h.rg x (List.mem_cons_of_mem _ ((hmem x).mp hx).1), ?_⟩
  generalize l.eraseIdx j = l2 at hmem
  generalize l[j] = b at hb hb' hmem
  have hal := hn.1
  have hab : a ≠ b := fun z => hal (z ▸ hb)
  intro i hi hx
  unfold tie
  by_cases e1 : i = b.toNat
  · subst e1
    rw [if_pos rfl]
    refine ⟨ha'.1, ha'.2, fun z => hal ((hmem a).mp z).1, ?_, by omega⟩
    rw [if_neg (by omega), if_pos rfl]
    omega
  · rw [if_neg e1]
    by_cases e2 : i = a.toNat
    · subst e2
      rw [if_pos rfl]
      refine ⟨hb'.1, hb'.2, fun z => ((hmem b).mp z).2 rfl, ?_, by omega⟩
      rw [if_pos rfl]
      omega
    · rw [if_neg e2]
      have hx2 : (i : Int) ∉ a :: l := fun z => by
        rcases List.mem_cons.mp z with z | z
        · omega
        · exact hx ((hmem _).mpr ⟨z, by omega⟩)
      obtain ⟨q1, q2, q3, q4, q8⟩ := h.tied i hi hx2
      have q5 : f i ≠ a := fun z => q3 (z ▸ List.mem_cons_self ..)
      have q6 : f i ∉ l := fun z => q3 (List.mem_cons_of_mem _ z)
      have q7 : f i ≠ b := fun z => q6 (z ▸ hb)
      refine ⟨q1, q2, fun z => q6 ((hmem _).mp z).1, ?_, q8⟩
      rw [if_neg (by omega), if_neg (by omega)]
      exact q4
theorem prt_end {m : Nat} {f : Nat → Int} (h : Prt m [] f) : Net m f ∧ ∀ i, i < m → f i ≠ i :=
  ⟨fun i hi => by
    have := h.tied i hi (by simp)
    exact ⟨this.1, this.2.1, this.2.2.2.1⟩, fun i hi => (h.tied i hi (by simp)).2.2.2.2⟩
theorem set_tie {m : Nat} {f : Nat → Int} {a b : Int} (h0 : 0 ≤ a) (h1 : a < (m : Int)) (h2 : 0 ≤ b) (h3 : b < (m : Int)) : (setM (row m f) a b >>= fun N => setM N b a) = .ok (row m (tie f a b)) := by
  rw [setM_row h0 h1]
  simp only [okB]
  rw [setM_row h2 h3]
  rfl
theorem mem_enum {α : Type} [Inhabited α] {m : Nat} {g : Nat → α} {x : Int × α} (h : x ∈ enumL (row m g)) : ∃ i : Nat, i < m ∧ x = ((i : Int), g i) := by
  unfold enumL at h
  obtain ⟨i, hi, e⟩ := List.getElem_of_mem h
  simp at hi e
  refine ⟨i, by have := hi; rw [row_len] at this; omega, ?_⟩
  rw [← e]
  simp [row]
end Ty

namespace Ty
open PySem PySem.Spec PyProof.Rows L2
/-! ## Ty18: len(set(..)), len of a dict, dict.get -/
def dedup (ns : List Int) : List Int := ns.foldl PyProof.Rows.step_dedup []
theorem firstMet_dedup (ns : List Int) : PyProof.Rows.firstMet (fun i => ns.getD i 0) ns.length = dedup ns := by
  unfold PyProof.Rows.firstMet dedup
  congr 1
  refine List.ext_getElem? fun i => ?_
  rw [List.getElem?_map]
  by_cases h : i < ns.length
  · rw [List.getElem?_range h, List.getElem?_eq_getElem h]
    show some (ns.getD i 0) = _
    rw [List.getD_eq_getElem?_getD, List.getElem?_eq_getElem h]
    rfl
  · rw [List.getElem?_eq_none (by simpa using h), List.getElem?_eq_none (by omega)]
    rfl
theorem dedup_len (ns : List Int) : (dedup ns).length ≤ ns.length := by
  rw [← firstMet_dedup]
  exact PyProof.Rows.firstMet_length_le _ _
def tLenSetG (K : PySem.W.Frag) (ta : TE) : TE := fun σ H Q => ta σ H fun x H1 => ∃ (l : Addr) (ns : List Int), x = .ref l ∧ SqL K H1 l (ns.map V.int) ∧ ns.length ≤ 4000 ∧ Q (.int ((dedup ns).length : Nat)) H1
section
variable {X : Cx} {Γ : Ctx} {α β κ : Type} {a b e f : Expr} {pos p p2 q apos cpos : Pos} {ta tb te tf : TE}
theorem pe_lenSetG (hg : Gl X "len") (hm : X.mg "len" = none) (hg2 : Gl X "set") (hm2 : X.mg "set" = none) (ha : PE X a ta) (hc : X.calm = true := by rfl)
    (na : starEach [a] X.env = (false, eval a X.env) :: starEach [] X.env := by rfl) : PE X (.Call (.Name "len" p) [.Call (.Name "set" p2) [a] [] q] [] pos) (tLenSetG X.K ta) := by
  refine ⟨fun pins s σ H Q I h => ?_⟩
  refine Call_ (ld_blt I hg hm boot_len ?_)
  refine PyProof.Rows.callWith_builtin1 (PyProof.Rows.args_cons ?_ rfl) rfl rfl
  refine Call_ (ld_blt I hg2 hm2 boot_set ?_)
  refine PyProof.Rows.callWith_type1 (PyProof.Rows.args_cons (thn (ha.run pins s σ H _ I h) fun v s1 ⟨x, H1, I1, r1, q1⟩ => PyProof.Rows.args_nil ?_) na) na rfl
  obtain ⟨l, ns, rfl, hq, hl, q1⟩ := q1
  cases r1
  obtain ⟨its, r, pl, hz⟩ := I1.list hq
  have hlen : its.toArray.size = ns.length := by rw [List.size_toArray, ← r.length, List.length_map]
  refine call_set_list (I1.ok.hd hc) pl.isList (by simpa using RZ.intsAre_vals r) (by rw [hlen]; unfold scanBound; omega) fun h' tk hS hk => ?_
  refine PyProof.Rows.args_nil ?_
  rw [hlen, firstMet_dedup] at hS
  obtain ⟨o, es, ep, t, ho, hex, hd, _, _, _, hf, hn⟩ := hS
  have I2 : Inv X pins σ H1 { s1 with heap := h', toks := tk } := I1.kept fun b o e => hk b o (Heap.lt_size e) e
  have hd2 := dedup_len ns
  exact call_len_set ho hex hd hf (by rw [hn] <;> omega) ⟨.int (dedup ns).length, H1, I2.tok _, ⟨_, by rw [hn]⟩, q1⟩
def lenSetM (a : List Int) : M Int := do gd (decide (a.length ≤ 4000)); pure ((dedup a).length : Int)
theorem ex_lenSet {K : PySem.W.Frag} {m : M (List Int)} (hc : X.calm = true) (hm : X.mg "len" = none) (hm2 : X.mg "set" = none) (h : EX X Γ a Ow.v m ta) (hg : Gl X "len" := by rfl) (hg2 : Gl X "set" := by rfl) (na : starEach [a] X.env = (false, eval a X.env) :: starEach [] X.env := by rfl) (hK : X.K = K := by rfl) :
    EX X Γ (.Call (.Name "len" p) [.Call (.Name "set" p2) [a] [] q] [] pos) Ow.v (do let a ← m; lenSetM a) (tLenSetG K ta) := by
  subst hK
  exact ⟨pe_lenSetG hg hm hg2 hm2 h.pe hc na, fun HF0 G HF H σ g c hc Q k => by
    obtain ⟨x, e1, hc⟩ := bind_ok hc
    obtain ⟨u, e2, hc⟩ := bind_ok hc
    cases pure_ok hc
    refine h.sem HF0 G HF H σ g x e1 _ fun v HF1 H1 fp s1 r1 _ _ => ?_
    obtain ⟨⟨q, us, e, h1, h2⟩, _⟩ := r1
    have e3 := Fa.flat.mp h2
    subst e3
    exact ⟨q, x, e, SqL.of (s1.sub _ _ h1), of_decide_eq_true (gd_ok e2), (k.back s1).flat s1.sub⟩⟩
def rLenDc : List V → Hp → VK → Prop := fun xs H Q => ∃ a kvs, xs = [V.ref a] ∧ H a = some (.dK kvs) ∧ Q (.int kvs.length) H
theorem ex_lenD [Ky κ] [Rp β] {m : M (Dc κ β)} (hm : X.mg "len" = none) (h : EX X Γ e Ow.v m te) (hg : Gl X "len" := by rfl) (h1 : starEach [e] X.env = (false, eval e X.env) :: starEach [] X.env := by rfl) (hpl : (backTo pos (starEach [] X.env)).any (·.1) = false := by rfl) : EX X Γ (.Call (.Name "len" p) [e] [] pos) Ow.v (do let a ← m; pure (a.l.length : Int)) (tCB rLenDc (tCons te tNil)) :=
  ex_b1 call_lenD (show SemC1 X.K rLenDc Ow.v (fun (a : Dc κ β) => pure (a.l.length : Int)) from fun HF H v a c s ⟨q, kvs, e, h1, h2⟩ hc Q k => by
    cases pure_ok hc
    subst e
    refine ⟨q, kvs, rfl, s _ _ h1, ?_⟩
    rw [h2.len]
    exact k.flat s) boot_len hm h hg (h1 := h1) (hpl := hpl)
/-- d.get(k, x) -/
theorem ex_dget2 [Ky κ] [DecidableEq κ] [Rp β] {m : M (Dc κ β)} {n : M κ} {q : M β} (hu : X.A.units + 64 < cLine) (ha : EX X Γ a Ow.v m ta) (he : EX X Γ e Ow.v n te) (hf : EX X Γ f Ow.v q tf) (m2 : M2 X a "get" apos e f cpos := by exact ⟨rfl, rfl, rfl, rfl⟩) : EX X Γ (.Call (.Attribute a "get" apos) [e, f] [] cpos) Ow.v (do let a ← m; let b ← n; let c ← q; pure ((dget a.l b).getD c)) (tDGet2 ta te tf) :=
  ⟨pe_dget2 (hu1 hu) ha.pe he.pe hf.pe m2, fun HF0 G HF H σ g c hc Q k => by
    obtain ⟨x, e1, hc⟩ := bind_ok hc
    obtain ⟨y, e2, hc⟩ := bind_ok hc
    obtain ⟨z, e3, hc⟩ := bind_ok hc
    cases pure_ok hc
    refine ha.sem HF0 G HF H σ g x e1 _ fun v HF1 H1 fp s1 r1 _ _ => ?_
    obtain ⟨⟨r, kvs, rfl, h2, h3⟩, _⟩ := r1
    refine ⟨r, rfl, .inl ⟨kvs, .inl (s1.sub _ _ h2)⟩, ?_⟩
    refine he.sem HF0 G HF1 H1 σ (g.step s1) y e2 _ fun w HF2 H2 fp2 s2 r2 _ _ => ?_
    refine hf.sem HF0 G HF2 H2 σ ((g.step s1).step s2) z e3 _ fun u HF3 H3 fp3 s3 r3 _ _ => ?_
    have h2' := s3.sub _ _ (s3.exF _ _ (s2.exF _ _ h2))
    refine ⟨valV kvs (Ky.key y), ?_, ?_⟩
    · rw [Fl.sh_iff.mp r2.1, ← Ky.kv]
      exact DGet.k h2'
    · have kk := k.back ((s1.trans s2).trans s3)
      cases qd : dget x.l y with
      | none =>
        rw [(h3.get y).2 qd]
        rw [qd] at kk
        exact kk.shv s3.sub r3.1
      | some b =>
        obtain ⟨v, hv, rr⟩ := (h3.get y).1 b qd
        rw [hv]
        rw [qd] at kk
        exact kk.shv s3.sub (Rp.mono (s2.exF.trans s3.exF) rr)⟩
/-- a call without arguments -/
theorem ex_call0 {ρ : Type} [Rp ρ] {K : PySem.W.Frag} {k : Nat} {f : Addr} {fd : FuncData} {x : Str} {o : Ow ρ} {m : M ρ} (F : FnOk X.prog X.w X.K X.mg X.base CX0 k f fd [] (spF K As.nil o (fun _ => m))) (hr : Room k X.A) (hm : X.mg x = some (.ref f)) (hk : PySem.W.keepIn X.K (.ref f) = true) (hb : Binds X.K fd [] [])
    (hg : Gl X x := by rfl) (hdb : (x == ("__debug__" : Str)) = false := by decide) (hpl : (backTo pos (starEach [] X.env)).any (·.1) = false := by rfl) (hK : X.K = K := by rfl) :
    EX X Γ (.Call (.Name x p) [] [] pos) o m (tCall (spF K As.nil o (fun _ => m)) [] E0 tNil) := by
  subst hK
  exact ⟨pe_call0 F hr hg hm hk hb .nil pass0 hdb, fun HF0 G HF H σ g c hc Q kk => by
    show spF X.K As.nil o (fun _ => m) ([] ++ []) H Q E0
    exact ⟨HF, (), c, g.sub, rfl, hc, kk⟩⟩
end
end Ty

namespace Ty
open PySem
/-! ## Ty19: maths: rounds have each end once; dicts -/
theorem dget_dput {κ β : Type} [DecidableEq κ] (k x : κ) (v : β) : ∀ l : List (κ × β), dget (dput l k v) x = if x = k then some v else dget l x := by
  have any : ∀ l : List (κ × β), (l.any fun p => decide (p.1 = k)) = (dget l k).isSome := by
    intro l
    induction l with
    | nil => rfl
    | cons a l ih =>
      unfold dget at ih ⊢
      rw [List.any_cons, List.find?_cons]
      cases h : decide (a.1 = k) with
      | true => rfl
      | false => rw [Bool.false_or]; exact ih
  have map : ∀ l : List (κ × β), dget (l.map fun p => if p.1 = k then (k, v) else p) x = if x = k then (dget l k).map (fun _ => v) else dget l x := by
    intro l
    induction l with
    | nil => split <;> rfl
    | cons a l ih =>
      unfold dget at ih ⊢
      rw [List.map_cons, List.find?_cons, List.find?_cons, List.find?_cons]
      by_cases h : a.1 = k
      · by_cases h2 : x = k
        · simp [h, h2]
        · have h3 : ¬ k = x := fun z => h2 z.symm
          simp only [h, if_true, decide_eq_false h3, h2, if_false] at ih ⊢
          exact ih
      · by_cases h2 : x = k
        · subst h2
          simp only [h, if_false, decide_false, if_true] at ih ⊢
          exact ih
        · by_cases h3 : a.1 = x
          · subst h3
            simp [h]
          · simp only [h, h2, h3, if_false, decide_false] at ih ⊢
            exact ih
  intro l
  unfold dput
  rw [any l]
  cases h : dget l k with
  | some b =>
    simp only [Option.isSome_some, if_true]
    rw [map l, h]
    rfl
  | none =>
    simp only [Option.isSome_none, Bool.false_eq_true, if_false]
    unfold dget at h ⊢
    rw [List.find?_append]
    by_cases h2 : x = k
    · subst h2
      rw [if_pos rfl]
      have : l.find? (fun p => decide (p.1 = x)) = none := by simpa using h
      rw [this]
      simp
    · rw [if_neg h2]
      have h3 : ¬ k = x := fun z => h2 z.symm
      cases q : l.find? (fun p => decide (p.1 = x)) with
      | some b => rfl
      | none => simp [h3]
theorem jn_ne {w s : Int} (h0 : 0 ≤ s) (h1 : s < 4) : jn w s ≠ s := by
  have hs : s = 0 ∨ s = 1 ∨ s = 2 ∨ s = 3 := by omega
  unfold jn
  rcases hs with rfl | rfl | rfl | rfl <;> repeat' split
  all_goals omega
theorem par_ne {c : Nat → Int} {e : Int} (h0 : 0 ≤ e) : par c e ≠ e := by
  have h := jn_ne (w := c (e / 4).toNat) (s := e % 4) (by omega) (by omega)
  unfold par
  omega
section
variable {s p f : Int → Int} {e : Int} {m : Nat} (hs : ∀ x, s x = f (p x)) (hpi : ∀ x : Int, 0 ≤ x → x < m → 0 ≤ p x ∧ p x < m ∧ p (p x) = x ∧ p x ≠ x) (hfi : ∀ x : Int, 0 ≤ x → x < m → 0 ≤ f x ∧ f x < m ∧ f (f x) = x ∧ f x ≠ x) (h0 : 0 ≤ e) (h1 : e < m)
include hs hpi hfi h0 h1
theorem orb_rng (k : Nat) : 0 ≤ orb s e k ∧ orb s e k < m := orb_in (fun x a b => by
  rw [hs]
  have := hpi x a b
  have := hfi (p x) this.1 this.2.1
  exact ⟨this.1, this.2.1⟩) h0 h1 k
theorem s_inj {x y : Int} (a : 0 ≤ x) (b : x < m) (c : 0 ≤ y) (d : y < m) (h : s x = s y) : x = y := by
  rw [hs, hs] at h
  have a1 := hpi x a b
  have a2 := hpi y c d
  have b1 := hfi (p x) a1.1 a1.2.1
  have b2 := hfi (p y) a2.1 a2.2.1
  have : p x = p y := by rw [← b1.2.2.1, h, b2.2.2.1]
  rw [← a1.2.2.1, this, a2.2.2.1]
theorem orb_sub (i d : Nat) (h : orb s e i = orb s e (i + d)) : orb s e d = e := by
  induction i generalizing d with
  | zero => rw [Nat.zero_add] at h; exact h.symm
  | succ i ih =>
    refine ih d ?_
    rw [show i + 1 + d = (i + d) + 1 by omega] at h
    have a := orb_rng hs hpi hfi h0 h1 i
    have b := orb_rng hs hpi hfi h0 h1 (i + d)
    exact s_inj hs hpi hfi h0 h1 a.1 a.2 b.1 b.2 h
/-- no end of a round is the partner of one at which it comes in -/
theorem orb_par (i d : Nat) : p (orb s e i) ≠ orb s e (i + d) := by
  induction d using Nat.strongRecOn generalizing i with
  | _ d ih =>
    intro h
    have a := orb_rng hs hpi hfi h0 h1 i
    have a1 := hpi _ a.1 a.2
    match d with
    | 0 => exact a1.2.2.2 h
    | 1 =>
      have e1 : orb s e (i + 1) = f (p (orb s e i)) := hs _
      have := (hfi _ a1.1 a1.2.1).2.2.2
      rw [← e1, ← h] at this
      exact this rfl
    | d + 2 =>
      refine ih d (by omega) (i + 1) ?_
      have b := orb_rng hs hpi hfi h0 h1 (i + d + 1)
      have b1 := hpi _ b.1 b.2
      have e1 : orb s e (i + (d + 2)) = f (p (orb s e (i + d + 1))) := hs _
      have e2 : orb s e (i + 1) = f (p (orb s e i)) := hs _
      have e3 : f (orb s e (i + (d + 2))) = p (orb s e (i + d + 1)) := by
        rw [e1]
        exact (hfi _ b1.1 b1.2.1).2.2.1
      rw [h, e3] at e2
      rw [e2, b1.2.2.1, show i + 1 + d = i + d + 1 by omega]
theorem orb_par' (i j : Nat) : p (orb s e i) ≠ orb s e j := by
  rcases Nat.le_total i j with h | h
  · have := orb_par hs hpi hfi h0 h1 i (j - i)
    rwa [show i + (j - i) = j by omega] at this
  · intro z
    have a := orb_rng hs hpi hfi h0 h1 i
    have a1 := hpi _ a.1 a.2
    have := orb_par hs hpi hfi h0 h1 j (i - j)
    rw [show j + (i - j) = i by omega] at this
    apply this
    rw [← z, a1.2.2.1]
omit hs hpi hfi h0 h1 in
theorem mem_wl {x : Int} : ∀ k, x ∈ wl s p e k ↔ ∃ i, i < k ∧ (x = orb s e i ∨ x = p (orb s e i))
  | 0 => by simp [wl]
  | k + 1 => by
    show x ∈ wl s p e k ++ [_, _] ↔ _
    rw [List.mem_append, mem_wl k]
    constructor
    · rintro (⟨i, h, h2⟩ | h)
      · exact ⟨i, by omega, h2⟩
      · simp at h
        exact ⟨k, by omega, h⟩
    · rintro ⟨i, h, h2⟩
      by_cases hk : i < k
      · exact .inl ⟨i, hk, h2⟩
      · have : i = k := by omega
        subst this
        exact .inr (by simpa using h2)
theorem wl_nodup (k : Nat) (hk : ∀ j, 1 ≤ j → j < k → orb s e j ≠ e) : (wl s p e k).Nodup := by
  induction k with
  | zero => exact List.nodup_nil
  | succ k ih =>
    have ih := ih fun j a b => hk j a (by omega)
    have hd : ∀ i, i < k → orb s e k ≠ orb s e i := fun i hi z => by
      have := orb_sub hs hpi hfi h0 h1 i (k - i) (by rw [show i + (k - i) = k by omega]; exact z.symm)
      exact hk (k - i) (by omega) (by omega) this
    have hp := fun i => hpi _ (orb_rng hs hpi hfi h0 h1 i).1 (orb_rng hs hpi hfi h0 h1 i).2
    show (wl s p e k ++ [_, _]).Nodup
    refine List.nodup_append.mpr ⟨ih, by simpa using fun z => orb_par' hs hpi hfi h0 h1 k k z.symm, ?_⟩
    intro x hx y hy z
    subst z
    obtain ⟨i, hi, hx⟩ := (mem_wl k).mp hx
    simp at hy
    rcases hy with rfl | rfl <;> rcases hx with hx | hx
    · exact hd i hi hx
    · exact orb_par' hs hpi hfi h0 h1 i k hx.symm
    · exact orb_par' hs hpi hfi h0 h1 k i hx
    · refine hd i hi ?_
      rw [← (hp k).2.2.1, hx, (hp i).2.2.1]
end
theorem wl_get {s p : Int → Int} {e : Int} : ∀ {k i : Nat}, i < k → (wl s p e k)[2 * i]? = some (orb s e i) ∧ (wl s p e k)[2 * i + 1]? = some (p (orb s e i))
  | 0, _, h => absurd h (by omega)
  | k + 1, i, h => by
    have hl := wl_len s p e k
    show (wl s p e k ++ [_, _])[2 * i]? = _ ∧ (wl s p e k ++ [_, _])[2 * i + 1]? = _
    by_cases hk : i < k
    · rw [List.getElem?_append_left (by omega), List.getElem?_append_left (by omega)]
      exact wl_get hk
    · have : i = k := by omega
      subst this
      rw [List.getElem?_append_right (by omega), List.getElem?_append_right (by omega), hl]
      simp
theorem dedup_nodup {ns : List Int} (h : ns.Nodup) : (dedup ns).length = ns.length := by
  rw [← firstMet_dedup, RZ.firstMet_nodup h ns.length (Nat.le_refl _), List.take_length]
theorem lenSetM_nodup {ns : List Int} (h : ns.Nodup) (hl : ns.length ≤ 4000) : lenSetM ns = .ok (ns.length : Int) := by
  unfold lenSetM
  rw [decide_eq_true hl, dedup_nodup h]; rfl
/-- so many unlike ends below m are all of them -/
theorem all_of_nodup {m : Nat} {l : List Int} (hn : l.Nodup) (hr : ∀ x ∈ l, 0 ≤ x ∧ x < (m : Int)) (hl : l.length = m) (x : Int) (h0 : 0 ≤ x) (h1 : x < m) : x ∈ l := by
  refine Classical.byContradiction fun hx => ?_
  have := len_le_of_lt m ((x :: l).map Int.toNat) (by
    rw [List.nodup_iff_pairwise_ne, List.pairwise_map]
    have h2 : (x :: l).Nodup := List.nodup_cons.mpr ⟨hx, hn⟩
    refine List.Pairwise.imp_of_mem ?_ h2
    intro a b ha hb hab e
    have r : ∀ y ∈ x :: l, 0 ≤ y := fun y hy => by
      rcases List.mem_cons.mp hy with rfl | hy
      · exact h0
      · exact (hr y hy).1
    have := r a ha; have := r b hb
    omega) (fun y hy => by
      obtain ⟨z, hz, rfl⟩ := List.mem_map.mp hy
      rcases List.mem_cons.mp hz with rfl | hz
      · omega
      · have := hr z hz; omega)
  simp at this
  omega
theorem perm_erase {α : Type} : ∀ {l : List α} {k : Nat} (h : k < l.length), (l[k] :: l.eraseIdx k).Perm l
  | [], _, h => absurd h (by simp)
  | a :: l, 0, _ => List.Perm.refl _
  | a :: l, k + 1, h => by
    have hk : k < l.length := by simpa using h
    exact (List.Perm.swap a l[k] (l.eraseIdx k)).trans ((perm_erase hk).cons a)
theorem erase_map {α β : Type} (g : α → β) : ∀ (l : List α) (k : Nat), (l.map g).eraseIdx k = (l.eraseIdx k).map g
  | [], _ => rfl
  | a :: l, 0 => rfl
  | a :: l, k + 1 => by
    show g a :: (l.map g).eraseIdx k = g a :: (l.eraseIdx k).map g
    rw [erase_map g l k]
end Ty

set_option maxHeartbeats 1000000
/-! ## Ty20: list(reversed(x)) -/
namespace RT
open PySem PySem.Spec PyProof.Rows L2
section
variable {prog : Program} {w : World} {A : Around} {E : Value → Shared → Prop} {s : Shared}
theorem call_list_rev {it l : Addr} {items : Array Value} {Q : Value → Shared → Prop} (hh : A.handled = none) (hit : s.heap.IsRevIter it l ((items.size : Int) - 1)) (hl : s.heap.IsList l items) (hne : l ≠ it) (hn : items.size ≤ sizeLine)
    (hQ : ∀ (h' : Heap) (tk : Nat) (acc : Array Value) (c' : Nat), (∀ b o, b ≠ it → s.heap.get? b = some o → h'.get? b = some o) → h'.get? s.heap.objs.size = some { cls := .type "list", dict := none, data := .seq acc c', slots := #[] } → ItemsOf (fun i v => items[items.size - 1 - i]? = some v) acc items.size → Q (.ref s.heap.objs.size) { s with heap := h', toks := tk }) :
    wpAny (model prog w) A (call (.type "list") [.ref it]) Q E s := by
  have W := (Walks.listRev (prog := prog) (w := w) (A := A.in1.in1) hh it l hne items).toS
  obtain ⟨oi, hoi, _⟩ := id hit
  obtain ⟨ol, hol, _⟩ := id hl
  have hSi : s.heap.objs.size ≠ it := Nat.ne_of_gt (Heap.lt_size hoi)
  have hSl : s.heap.objs.size ≠ l := Nat.ne_of_gt (Heap.lt_size hol)
  have hSf : s.heap.objs.size ∉ [it, l] := by simp only [List.mem_cons, List.not_mem_nil, or_false, not_or]; exact ⟨hSi, hSl⟩
  refine callType_codes (Q₁ := fun obj s₁ => obj = .ref s.heap.objs.size ∧ s₁ = { s with heap := s.heap.push { cls := .type "list", data := .seq #[] } }) F.called_list (F.typeCall_list_1 _) F.entry_list_init
    (code_list_new _ ⟨rfl, rfl⟩) fun obj s₁ h₁ => ?_
  obtain ⟨rfl, rfl⟩ := h₁
  have hS₁ : (s.heap.push { cls := .type "list", data := .seq #[] }).get? s.heap.objs.size = some { cls := .type "list", data := .seq #[] } := Heap.get?_push_size _ rfl
  refine ⟨⟨_, hS₁, rfl⟩, F.args_list_init_2 _ _, ?_⟩
  show wpAny _ A.in1.in1 (do let old ← Builtin.List.listItems (.ref s.heap.objs.size); Builtin.List.listUpdate (.ref s.heap.objs.size) (fun _ => #[]); letGo old.toList.reverse; Builtin.List.listExtendWith (.ref s.heap.objs.size) (.ref it) .none) _ _ _
  refine wpAny_bind ?_
  unfold Builtin.List.listItems
  refine wpAny_bind (wpAny_seqItems hS₁ rfl (wpAny_pure ?_))
  show wpAny _ A.in1.in1 (updateSeq s.heap.objs.size (fun _ => #[]) >>= fun _ => letGo (#[] : Array Value).toList.reverse >>= fun _ => Builtin.List.listExtendWith (.ref s.heap.objs.size) (.ref it) .none) _ _ _
  refine wpAny_bind (wpAny_updateSeq hS₁ rfl ?_)
  have hS₂ := Heap.get?_update_self (Obj.mapSeq (fun _ => (#[] : Array Value))) hS₁ rfl
  have oth : ∀ b o, b ≠ s.heap.objs.size → s.heap.get? b = some o → ((s.heap.push { cls := .type "list", data := .seq #[] }).update s.heap.objs.size (Obj.mapSeq (fun _ => (#[] : Array Value)))).get? b = some o :=
    fun b o hb e => (Heap.get?_update_other _ _ (Ne.symm hb)).trans (Heap.get?_push_of_some _ e)
  refine wpAny_bind (wpAny_letGo ?_)
  generalize hh2 : (s.heap.push { cls := .type "list", data := .seq #[] }).update s.heap.objs.size (Obj.mapSeq (fun _ => (#[] : Array Value))) = h2 at *
  have hit1 : h2.IsRevIter it l ((items.size : Int) - 1) := hit.at fun o e => oth _ _ (Ne.symm hSi) e
  have hl1 : h2.IsList l items := hl.at fun o e => oth _ _ (Ne.symm hSl) e
  have hT : ({ s with heap := h2 } : Shared).TypeIs (.ref it) "list_reverseiterator" := Heap.IsRevIter.typeIs (s := { s with heap := h2 }) hit1
  have h1 : Builtin.List.listSameRef (.ref s.heap.objs.size) (.ref it) = false := by simp [Builtin.List.listSameRef, hSi]
  unfold Builtin.List.listExtendWith
  refine wpAny_bind (wpAny_typeOf hT ?_)
  rw [if_neg (by rw [h1]; decide)]
  refine wpAny_bind (wpAny_pyIter_revIter (s := { s with heap := h2 }) hit1 ?_)
  refine wpAny_bind (wpAny_holding ?_)
  unfold Builtin.List.listLengthHint
  refine wpAny_bind (wpAny_specialOf hT nolen_lri ?_)
  show wpAny _ A.in1.in1 (specialOf (Value.ref it) (Str.ofString "__length_hint__") >>= _) _ _ _
  refine wpAny_bind (wpAny_specialOf hT hint_lri ?_)
  generalize hid : ("list_reverseiterator.__length_hint__" : String) = id0
  wp_delta
  rw [show splitId id0 = some ("list_reverseiterator", "__length_hint__") from by subst hid; decide +kernel]
  subst hid
  refine wpAny_bind (wpAny_isInstance (b := true) hT (by rw [isSubtype_type]; kernel_rfl) ?_)
  refine wpAny_pure ?_
  rw [if_neg (by decide)]
  have e0 : ((items.size : Nat) : Int) - 1 - ((0 : Nat) : Int) = (items.size : Int) - 1 := by omega
  refine wpAny_pure ⟨plainId_quiet F.plain_extend_loop _, codeAny_extend_loopS W hn _ hSf _ items.size 0 _ _ _ rfl (Nat.zero_le _) ⟨Nat.zero_le _, by rw [e0]; exact hit1, hl1⟩ hS₂ (ItemsOf.nil _) fun s' acc' c' hm hS' hacc => ?_⟩
  refine ⟨rfl, ?_⟩
  rw [Moved.eq_with hm]
  refine hQ s'.heap s'.toks acc' c' (fun b o hb e => hm.heap b o (fun hmem => ?_) (oth b o (Nat.ne_of_lt (Heap.lt_size e)) e)) hS' hacc
  rcases List.mem_cons.mp hmem with e' | hmem
  · exact absurd (Heap.lt_size e) (by rw [e']; exact Nat.lt_irrefl _)
  · exact hb (List.mem_singleton.mp hmem)
end
section
variable {X : Cx}
def tLstRev (K : PySem.W.Frag) (te : TE) : TE := fun σ H Q => te σ H fun v H1 => ∃ (a : Addr) (xs : List V), v = .ref a ∧ SqL K H1 a xs ∧ ∀ q, H1 q = none → Q (.ref q) (upd H1 q (.lst xs.reverse))
theorem pe_listRev {e : Expr} {te : TE} {p p2 pos pos2 : Pos} (hc : X.calm = true) (hg : Gl X "list") (hm : X.mg "list" = none) (hg2 : Gl X "reversed") (hm2 : X.mg "reversed" = none) (he : PE X e te)
    (hs : starEach [e] X.env = (false, eval e X.env) :: starEach [] X.env := by rfl)
    (hs2 : starEach [.Call (.Name "reversed" p2) [e] [] pos2] X.env = (false, eval (.Call (.Name "reversed" p2) [e] [] pos2) X.env) :: starEach [] X.env := by rfl) :
    PE X (.Call (.Name "list" p) [.Call (.Name "reversed" p2) [e] [] pos2] [] pos) (tLstRev X.K te) := by
  refine ⟨fun pins s σ H Q I h => ?_⟩
  refine Call_ (ld_blt I hg hm boot_list (PyProof.Rows.callWith_type1 (args_cons (Call_ (ld_blt I hg2 hm2 PyProof.Rows.boot_reversed (PyProof.Rows.callWith_type1 (args_cons (thn (he.run pins s σ H _ I h) fun u s1 ⟨v, H1, I1, r1, q1⟩ => args_nil ?_) hs) hs rfl))) hs2) hs2 rfl))
  obtain ⟨a, xs, ev, hq, q⟩ := q1
  subst ev
  obtain rfl : u = Value.ref a := r1
  obtain ⟨its, rv, p', hz⟩ := I1.list hq
  refine call_reversed_list p'.isList (args_nil ?_)
  have k0 : ∀ b o, s1.heap.get? b = some o → (s1.heap.push (revObj a ((its.toArray.size : Int) - 1))).get? b = some o := fun b o e => Heap.get?_push_of_some _ e
  have I2 : Inv X pins σ H1 { s1 with heap := s1.heap.push (revObj a ((its.toArray.size : Int) - 1)) } := I1.kept (t' := s1.toks) k0
  obtain ⟨f0, f1, f2, f3, f4, f5⟩ := I1.fpOk (H' := H1) (b := s1.heap.objs.size) (Nat.le_refl _) (I1.hok.fresh (Nat.le_refl _))
  have hl := p'.isList
  obtain ⟨ol, hol, _⟩ := id hl
  have hne : a ≠ s1.heap.objs.size := Nat.ne_of_lt (Heap.lt_size hol)
  have hn : its.toArray.size ≤ sizeLine := by rw [List.size_toArray, ← rv.length]; exact hz
  refine call_list_rev (s := { s1 with heap := s1.heap.push (revObj a ((its.toArray.size : Int) - 1)) }) (I1.ok.hd hc) ⟨_, Heap.get?_push_size _ rfl, rfl, rfl⟩ (hl.push _) hne hn fun h' tk acc c' hk e' hi => ?_
  have hk1 : ∀ b o, s1.heap.get? b = some o → h'.get? b = some o := fun b o e => hk b o (Nat.ne_of_lt (Heap.lt_size e)) (k0 b o e)
  have sz : s1.heap.objs.size ≤ (s1.heap.push (revObj a ((its.toArray.size : Int) - 1))).objs.size := by show s1.heap.objs.size ≤ (s1.heap.objs.push _).size; rw [Array.size_push]; exact Nat.le_succ _
  refine ⟨.ref _, upd H1 _ (.lst xs.reverse), I1.laid hk1 sz (show ObjOk X.prog X.w _ _ _ (.lst xs.reverse) from ⟨by rw [List.length_reverse]; exact hz, acc.toList, c', vals_rev rv hi, ?_⟩), rfl, q _ (I1.hok.fresh sz)⟩
  rw [Array.toArray_toList]
  exact e'
end
end RT
namespace Ty
open PySem PySem.Spec PyProof.Rows L2
section
variable {X : Cx} {Γ : Ctx} {S L ρ α β γ A B S' : Type} [Rp ρ] {o : Ow ρ} {Γo : S → Ctx} {ΓL : L → Ctx} {a b e f : Expr} {es : List Expr} {pos p apos cpos pos2 : Pos} {ta tb te tf : TE} {t : TA} {sts : List Stmt} {tr tr' : TS} {tg : Expr}
theorem ex_listRev {K : PySem.W.Frag} [Rp α] {m : M (List α)} (hc : X.calm = true) (ml : X.mg "list" = none) (mr : X.mg "reversed" = none) (h : EX X Γ e Ow.v m te) (hg : Gl X "list" := by rfl) (hg2 : Gl X "reversed" := by rfl) (h1 : starEach [e] X.env = (false, eval e X.env) :: starEach [] X.env := by rfl)
    (h2 : starEach [.Call (.Name "reversed" p) [e] [] pos] X.env = (false, eval (.Call (.Name "reversed" p) [e] [] pos) X.env) :: starEach [] X.env := by rfl) (hK : X.K = K := by rfl) : EX X Γ (.Call (.Name "list" apos) [.Call (.Name "reversed" p) [e] [] pos] [] cpos) (Ow.l (Ow.v : Ow α)) (do let a ← m; pure a.reverse) (RT.tLstRev K te) := by
  subst hK
  exact ⟨RT.pe_listRev hc hg ml hg2 mr h.pe h1 h2, fun HF0 G HF H σ g c hc' Q k => by
    obtain ⟨x, e1, hc'⟩ := bind_ok hc'
    cases pure_ok hc'
    refine h.sem HF0 G HF H σ g x e1 _ fun v HF1 H1 fp st r n f => ?_
    obtain ⟨⟨q, us, e2, h3, h4⟩, _⟩ := r
    refine ⟨q, us, e2, SqL.of (st.sub _ _ h3), fun q' hq => ?_⟩
    exact (show RetK X.K HF1 H1 (Ow.l (Ow.v : Ow α)) x.reverse Q from fun v' HF' H' fp' st' r' n' f' => k v' HF' H' fp' (st.trans st') r' n' (fun p hp => ⟨st.exH.free (f' p hp).1, (f' p hp).2⟩)).lst st.sub h4.reverse hq⟩
end
end Ty

/-! ## Ty21: for r in x: r[i] = e -/
namespace Ty
open PySem PySem.Spec PyProof.Rows L2
def mapRM {α : Type} (f : List α → M (List α)) : List (List α) → M (List (List α))
  | [] => pure []
  | r :: rs => do let a ← f r; let b ← mapRM f rs; pure (a :: b)
theorem mapRM_ok {α : Type} {f : List α → M (List α)} : ∀ {as l : List (List α)}, mapRM f as = .ok l → l.length = as.length ∧ ∀ (n : Nat) (h : n < as.length), ∃ b, l[n]? = some b ∧ f as[n] = .ok b
  | [], l, h => by
    cases pure_ok h
    exact ⟨rfl, fun n h => absurd h (Nat.not_lt_zero _)⟩
  | r :: rs, l, h => by
    obtain ⟨a, e1, h⟩ := bind_ok (show (f r >>= fun a => mapRM f rs >>= fun b => pure (a :: b)) = .ok l from h)
    obtain ⟨b, e2, h⟩ := bind_ok h
    cases pure_ok h
    obtain ⟨h1, h2⟩ := mapRM_ok e2
    refine ⟨by rw [List.length_cons, List.length_cons, h1], fun n hn => ?_⟩
    cases n with
    | zero => exact ⟨a, rfl, e1⟩
    | succ n => exact h2 n (Nat.lt_of_succ_lt_succ hn)
theorem mix_at {α : Type} {l as : List α} {n : Nat} (hl : l.length = as.length) (h : n < as.length) : (l.take n ++ as.drop n)[n]? = some as[n] := by
  have e : (l.take n).length = n := by rw [List.length_take]; omega
  rw [List.getElem?_append_right (by omega), e, Nat.sub_self, List.drop_eq_getElem_cons h]
  rfl
theorem mix_set {α : Type} {l as : List α} {n : Nat} {b : α} (hl : l.length = as.length) (h : n < as.length) (hb : l[n]? = some b) : (l.take n ++ as.drop n).set n b = l.take (n + 1) ++ as.drop (n + 1) := by
  have e : (l.take n).length = n := by rw [List.length_take]; omega
  rw [List.set_append_right _ _ (by omega), e, Nat.sub_self, List.drop_eq_getElem_cons h, List.set_cons_zero, List.take_add_one, hb, List.append_assoc]
  rfl
section
variable {X : Cx} {Γ : Ctx} {S L ρ α β γ A B S' : Type} [Rp ρ] {o : Ow ρ} {Γo : S → Ctx} {ΓL : L → Ctx} {a b e f : Expr} {es : List Expr} {pos p p1 p5 apos cpos pos2 : Pos} {ta tb te tf : TE} {t : TA} {sts : List Stmt} {tr tr' : TS} {tg : Expr}
theorem ss_forSet {K : PySem.W.Frag} [Fl α] (i r : Nat) {as : List (List α)} {x y : Str} {m : List α → M α} {mi : List α → M Int} {k : List (List α) → M (Ctl S L ρ)} {py p4 : Pos} (hN : X.N.Nodup) (hc : X.calm = true) (hxe : PassesOwn (model X.prog X.w) X.A X.env X.xe)
    (he : ∀ l row, EX X (put (vw (put (put Γ r .un) i (.mk (Ow.l (Ow.l (Ow.v : Ow α))) l))) r (.mk Ow.v row)) e Ow.v (m row) te)
    (hi : ∀ l row, EX X (put (vw (put (put Γ r .un) i (.mk (Ow.l (Ow.l (Ow.v : Ow α))) l))) r (.mk Ow.v row)) b Ow.v (mi row) tb)
    (hr : ∀ l, SS X (put (put Γ r .un) i (.mk (Ow.l (Ow.l (Ow.v : Ow α))) l)) sts Γo ΓL o (k l) tr) (hl : look (put Γ r .un) i = .mk (Ow.l (Ow.l (Ow.v : Ow α))) as := by rfl) (hir : i ≠ r := by decide) (hrl : Nat.blt r Γ.length = true := by rfl) (hN1 : X.N[i]? = some x := by rfl) (hv : Vis X.env.scope x := by first | exact Or.inl rfl | exact Or.inr (Or.inl rfl) | exact Or.inr (Or.inr rfl)) (hd : (x == ("__debug__" : Str)) = false := by decide)
    (hcd : (x == ("__classdict__" : Str)) = false := by decide) (hN2 : X.N[r]? = some y := by rfl) (hv2 : Vis X.env.scope y := by first | exact Or.inl rfl | exact Or.inr (Or.inl rfl) | exact Or.inr (Or.inr rfl)) (hd2 : (y == ("__debug__" : Str)) = false := by decide)
    (hcd2 : (y == ("__classdict__" : Str)) = false := by decide) (hx : Loc X.env.scope y := by first | exact .inl rfl | exact .inr rfl) (hf : X.fn y = true ∨ X.env.scope.names.lookup y = some .local := by first | exact .inl rfl | exact .inr rfl) (hK : X.K = K := by rfl)
    (hps : PE X e te → PG X (.Subscript (.Name y py) b p5) (gSub (tVar r) tb rSetL) → PS X (.Assign [.Subscript (.Name y py) b p5] e p4) (tAsg te (gSub (tVar r) tb rSetL)) := by exact fun h h' => ps_asg h h')
    (hpg : PE X (.Name y py) (tVar r) → PE X b tb → PG X (.Subscript (.Name y py) b p5) (gSub (tVar r) tb rSetL) := by exact fun h h' => pg_sub h h' set_list)
    (hs2 : ∀ z, foldedSetIterable (.Name x p) X.env z = pure z := by intro _; rfl) :
    SS X Γ (.For (.Name y p1) (.Name x p) [.Assign [.Subscript (.Name y py) b p5] e p4] [] pos :: sts) Γo ΓL o (do let l ← mapRM (fun row => do let a ← m row; let b ← mi row; setM row b a) as; k l) (tSeq (tFor (iList K (tVar i)) (gName r) (tAsg te (gSub (tVar r) tb rSetL))) tr) := by
  subst hK
  exact ⟨pss_cons (ps_for hxe hc (pi_list (pe_var hN1 hv hd hcd)) (pg_name hN hN2 hx hf) (pss_one (hps (he [] []).pe (hpg (pe_var hN2 hv2 hd2 hcd2) (hi [] []).pe))) hs2) (hr []).pss, fun HF0 G HF H σ g cc hcc D kk => by
    obtain ⟨l, e2, hcc⟩ := bind_ok hcc
    obtain ⟨ll, e5⟩ := mapRM_ok e2
    have hlen := g.len
    have g0 : Good X.K HF0 G (put Γ r .un) HF H σ := by
      have q := g.un r (σ.getD r none) (of_blt hrl)
      have eσ : σ.set r (σ.getD r none) = σ := by
        apply List.ext_getElem?
        intro j
        by_cases hj : r = j
        · subst hj
          have := of_blt hrl
          rw [List.getElem?_set_self (by omega), List.getD_eq_getElem?_getD, List.getElem?_eq_getElem (by omega)]
          rfl
        · rw [List.getElem?_set_ne hj]
      rw [eσ] at q
      exact q
    obtain ⟨v, fo, hσ, ⟨p, vs, fp, h1, h2, h3, h4⟩, nd, hfo, back⟩ := g0.take hl
    subst h1
    have vl := h4.len
    have gput : Good X.K HF0 G (put (put Γ r .un) i (.mk (Ow.l (Ow.l (Ow.v : Ow α))) as)) HF H σ := by
      have := back (u' := Ow.l (Ow.l (Ow.v : Ow α))) (b := as) (v' := .ref p) (f' := fo) (H' := H) (Step.refl g.sub) (fun _ _ _ e => e) ⟨p, vs, fp, rfl, h2, h3, h4⟩ nd (fun p hp => .inl hp)
      rw [set_self hσ] at this
      exact this
    refine ⟨.ref p, hσ, p, rfl, ⟨vs, SqL.of h3⟩, ?_⟩
    refine ⟨fun n c σ2 H2 => c = as.length - n ∧ n ≤ as.length ∧ ∃ HF2, Same HF HF2 ∧ H2 p = some (.lst vs) ∧ σ2[i]? = some (some (.ref p)) ∧ Good X.K HF0 G (put (put Γ r .un) i (.mk (Ow.l (Ow.l (Ow.v : Ow α))) (l.take n ++ as.drop n))) HF2 H2 σ2, ⟨as.length, rfl, Nat.zero_le _, HF, Same.refl _, h3, hσ, gput⟩, ?_⟩
    rintro n c σ2 H2 ⟨rfl, hn, HF2, a, hp2, hσp, g2⟩
    by_cases hlt : n < as.length
    · refine .inr ⟨⟨vs, vs[n]'(by omega), SqL.of hp2, List.getElem?_eq_getElem (by omega)⟩, fun σ' H' => ∃ HF', Same HF HF' ∧ H' p = some (.lst vs) ∧ σ'[i]? = some (some (.ref p)) ∧ Good X.K HF0 G (put (put Γ r .un) i (.mk (Ow.l (Ow.l (Ow.v : Ow α))) (l.take (n + 1) ++ as.drop (n + 1)))) HF' H' σ', fun σ' H' h' => ⟨as.length - (n + 1), by omega, rfl, hlt, h'⟩, fun z H3 hz => ?_⟩
      obtain ⟨rfl, hz⟩ := hz
      have hz := hz vs (SqL.of hp2)
      have hil : i < (put Γ r .un).length := look_lt' hl
      have hrow := mix_at ll hlt
      obtain ⟨row', hb, hrun⟩ := e5 n hlt
      obtain ⟨y1, e6, hrun⟩ := bind_ok hrun
      obtain ⟨ix, e7, hrun⟩ := bind_ok hrun
      obtain ⟨j, e8, hrun⟩ := bind_ok hrun
      have e9 := pure_ok hrun
      have e8 := ofO_ok e8
      -- the target
      have hgu : Good X.K HF0 G (put (put Γ r .un) i (.mk (Ow.l (Ow.l (Ow.v : Ow α))) (l.take n ++ as.drop n))) HF2 H3 (σ2.set r (some z)) := by
        have q := g2.un r (some z) (by rw [put_len, put_len]; exact of_blt hrl)
        rw [put_un Γ i r _ hir] at q
        exact q
      have hlen2 := hgu.len
      rw [put_len, put_len, List.length_set] at hlen2
      have hrs : (σ2.set r (some z))[r]? = some (some z) := List.getElem?_set_self (by have := of_blt hrl; omega)
      have hip : (σ2.set r (some z))[i]? = some (some (.ref p)) := by rw [List.getElem?_set_ne (fun e => hir e.symm)]; exact hσp
      obtain ⟨p0, vs0, q0, ws0, fq0, hσ0, h30, _, hvq0, hq0, hr0, _, _, _, _, _, _, _⟩ := hgu.take2 (u := Ow.v) (look_put _ _ _ hil) (Step.refl hgu.sub) hrow
      rw [hip] at hσ0
      cases hσ0
      rw [hp2] at h30
      cases h30
      rw [hz] at hvq0
      cases hvq0
      have hsh : Rp.sh X.K H3 (.ref q0) as[n] := ⟨q0, ws0, rfl, hq0, (Rl.toFa hr0).1.mono fun _ _ h => Rp.mono hgu.sub h⟩
      have gv : ∀ {HFa Ha : Hp}, Step HF2 H3 HFa Ha → Good X.K Ha Ha (put (vw (put (put Γ r .un) i (.mk (Ow.l (Ow.l (Ow.v : Ow α))) (l.take n ++ as.drop n)))) r (.mk Ow.v as[n])) Ha Ha (σ2.set r (some (.ref q0))) := fun {HFa Ha} st => by
        have q := (hgu.step st).vw.putv (i := r) (v := .ref q0) (a := as[n]) (by have := (hgu.step st).vw.len; rw [List.length_set] at this; have := of_blt hrl; omega) (Rp.mono st.exH hsh)
        rwa [List.set_set] at q
      refine (he _ _).sem H3 H3 H3 H3 _ (gv (Step.refl hgu.sub)) y1 e6 _ fun v' HF3 H4 fp3 st3 r3 _ _ => ?_
      have st3' : Step HF2 H3 HF2 H4 := ⟨Same.refl _, st3.exH, hgu.sub.trans st3.exH, fun p o a b => by rw [a] at b; cases b⟩
      refine ⟨.ref q0, hrs, ?_⟩
      refine (hi _ _).sem H4 H4 H4 H4 _ (gv st3') ix e7 _ fun w5 HF5 H5 fp5 st5 r5 _ _ => ?_
      have st5' : Step HF2 H4 HF2 H5 := ⟨Same.refl _, st5.exH, st3'.sub.trans st5.exH, fun p o a b => by rw [a] at b; cases b⟩
      have st := st3'.trans st5'
      obtain ⟨p', vs', q', ws', fq', hσ', h3', _, hvq', hq1, hr1, nq, hnq, hp1, _, _, hne, bk⟩ := hgu.take2 (u := Ow.v) (look_put _ _ _ hil) st hrow
      rw [hip] at hσ'
      cases hσ'
      rw [hp2] at h3'
      cases h3'
      rw [hz] at hvq'
      cases hvq'
      obtain ⟨hfa, hnil⟩ := Rl.toFa hr1
      refine ⟨q0, ws', ix, j, rfl, Fl.sh_iff.mp r5.1, hq1, by rw [hr1.len]; exact e8, ?_⟩
      have gg := bk (HF2 := HF2) (H2 := H5) (ws' := ws'.set j v') (r' := as[n].set j y1) (fq' := []) (Step.refl st.sub) (Rl.ofFa (Fa.set (Fl.sh_iff.mpr (Fl.sh_iff.mp r3.1)) j hfa)) List.nodup_nil (by intro h; cases h) (by intro _ h; cases h)
      rw [put_put, e9, mix_set ll hlt hb] at gg
      refine ⟨HF2, a, ?_, hip, gg⟩
      rw [upd_ne hne]
      exact st.exH _ _ hp2
    · have en : n = as.length := by omega
      subst en
      refine .inl ⟨⟨vs, SqL.of hp2, by omega⟩, ?_⟩
      rw [show l.take as.length = l from by rw [← ll, List.take_length], List.drop_length, List.append_nil] at g2
      exact (hr _).sem HF0 G HF2 H2 σ2 g2 cc hcc D (kk.mono a)⟩
end
end Ty

/-! ## Ty22: more for the mathematics -/
namespace Ty
open PySem L2
theorem atM_get {α : Type} {l : List α} {i : Int} {x : α} (j : Nat) (e : i = j) (h : l[j]? = some x) : atM l i = .ok x := by
  have hj : j < l.length := by
    rcases Nat.lt_or_ge j l.length with q | q
    · exact q
    · rw [List.getElem?_eq_none q] at h; cases h
  unfold atM L2.atI
  rw [ixN_ok (by omega) (by omega), show i.toNat = j by omega]
  simp [h]
theorem range2_ok {a b : Int} (h0 : 0 ≤ a) (h1 : a ≤ 1000) (h2 : 0 ≤ b) (h3 : b ≤ 1000) : range2 a b = .ok (rangeL a b) := by
  unfold range2 rgB
  have e : ((decide (-(2 ^ 62) ≤ a) && decide (a < 2 ^ 62)) && (decide (-(2 ^ 62) ≤ b) && decide (b < 2 ^ 62))) = true := by simp; omega
  rw [e]; rfl
theorem mem_range2 {a b x : Int} (h : x ∈ rangeL a b) : a ≤ x ∧ x < b := by
  unfold rangeL at h
  obtain ⟨i, hi, rfl⟩ := List.mem_map.mp h
  have := List.mem_range.mp hi
  omega
theorem enum_row {α : Type} (n : Nat) (g : Nat → α) : enumL (row n g) = row n fun k => ((k : Int), g k) := by
  unfold enumL row
  apply List.ext_getElem?
  intro i
  simp [List.getElem?_zipIdx]
  by_cases h : i < n
  · simp [h]
  · simp [h]
theorem mapR_rows {n : Nat} {r g : Nat → List Int} {f : List Int → M (List Int)} (h : ∀ k, k < n → f (r k) = .ok (g k)) : mapRM f (row n r) = .ok (row n g) := by
  have q : ∀ l : List Nat, (∀ k ∈ l, f (r k) = .ok (g k)) → mapRM f (l.map r) = .ok (l.map g) := by
    intro l
    induction l with
    | nil => intro _; rfl
    | cons x l ih =>
      intro hl
      show (f (r x) >>= fun a => mapRM f (l.map r) >>= fun b => pure (a :: b)) = _
      rw [hl x (List.mem_cons_self ..), okB, ih fun y hy => hl y (List.mem_cons_of_mem _ hy), okB]
      rfl
  exact q _ fun k hk => h k (List.mem_range.mp hk)
theorem bAnd_ok {a b : Bool} : (bAnd (.ok a) (.ok b) : M Bool) = .ok (a && b) := by cases a <;> rfl
theorem bOr_ok {a b : Bool} : (bOr (.ok a) (.ok b) : M Bool) = .ok (a || b) := by cases a <;> rfl
end Ty

/-! ## Ty23: a thing or None; x.insert(i, x.pop(j)) -/
namespace Ty
open PySem PySem.Spec PyProof.Rows L2
structure Op (α : Type) where
  o : Option α
  deriving DecidableEq
instance {α : Type} : Inhabited (Op α) := ⟨⟨none⟩⟩
instance rpOp {α : Type} [Rp α] : Rp (Op α) where
  sh K H v x := match x.o with
    | none => v = .non
    | some a => Rp.sh K H v a
  mono := fun {K H H' v a} e h => by
    obtain ⟨o⟩ := a
    cases o with
    | none => exact h
    | some a => exact Rp.mono e h
def Ow.op {α : Type} [Rp α] (o : Ow α) : Ow (Op α) where
  rep K HF H v x fp := match x.o with
    | none => v = .non ∧ fp = []
    | some a => o.rep K HF H v a fp
  mono := fun {K HF HF' H H' v a fp} e k h => by
    obtain ⟨x⟩ := a
    cases x with
    | none => exact h
    | some a => exact o.mono e k h
  dom := fun {K HF H v a fp} h => by
    obtain ⟨x⟩ := a
    cases x with
    | none =>
      intro p hp
      have e : fp = [] := h.2
      subst e; cases hp
    | some a => exact o.dom h
  frz := fun {K HF HF' H v a fp} e k h => by
    obtain ⟨x⟩ := a
    cases x with
    | none => exact h.1
    | some a => exact o.frz e k h
instance indOp {α : Type} [Rp α] {o : Ow α} [Ind o] : Ind o.op where
  ind := fun {K HF HF' H v a fp} h => by
    obtain ⟨x⟩ := a
    cases x with
    | none => exact h
    | some a => exact Ind.ind (o := o) h
/-- things that stand in the heap -/
class Ob (α : Type) [Rp α] : Prop where
  ref : ∀ {K : PySem.W.Frag} {H : Hp} {v : V} {a : α}, Rp.sh K H v a → ∃ p, v = .ref p
instance {α : Type} [Rp α] : Ob (List α) := ⟨fun ⟨p, _, e, _⟩ => ⟨p, e⟩⟩
instance {α : Type} [Rp α] : Ob (Tu α) := ⟨fun ⟨p, _, e, _⟩ => ⟨p, e⟩⟩
instance {α β : Type} [Rp α] [Rp β] : Ob (α × β) := ⟨fun ⟨p, _, _, e, _⟩ => ⟨p, e⟩⟩
def rIns : V → List V → Hp → VK → Prop := fun x vs H Q => ∃ (l : Addr) (xs : List V) (i : Int) (y : V), x = .ref l ∧ vs = [.int i, y] ∧ H l = some (.lst xs) ∧ xs.length < sizeLine ∧ 0 ≤ i ∧ i < 2 ^ 63 ∧
    Q .non (upd H l (.lst (xs.take i.toNat ++ [y] ++ xs.drop i.toNat)))
def insM {α : Type} (l : List α) (u : Int) (y : α) : M (List α) := do
  gd (decide (l.length < sizeLine) && (decide (0 ≤ u) && decide (u < 2 ^ 63)))
  pure (l.take u.toNat ++ [y] ++ l.drop u.toNat)
section
variable {X : Cx} {Γ : Ctx} {S L ρ α β γ A B S' : Type} [Rp ρ] {o : Ow ρ} {Γo : S → Ctx} {ΓL : L → Ctx} {a b e f : Expr} {es : List Expr} {pos p p1 p5 apos cpos pos2 : Pos} {ta tb te tf : TE} {t : TA} {sts : List Stmt} {tr tr' : TS} {tg : Expr}
theorem ex_opN [Rp α] {w : Ow α} {j pos} : EX X Γ (.Constant .none j pos) w.op (pure (⟨none⟩ : Op α)) (tC .non) :=
  ⟨pe_non, fun HF0 G HF H σ g c hc Q k => by
    cases pure_ok hc
    exact k .non HF H [] (Step.refl g.sub) ⟨rfl, rfl⟩ List.nodup_nil (fun p hp => by cases hp)⟩
theorem ex_opS [Rp α] {w : Ow α} {m : M α} (h : EX X Γ e w m te) : EX X Γ e w.op (do let a ← m; pure (⟨some a⟩ : Op α)) te :=
  ⟨h.pe, fun HF0 G HF H σ g c hc Q k => by
    obtain ⟨i, e1, e2⟩ := bind_ok hc
    cases pure_ok e2
    exact h.sem HF0 G HF H σ g i e1 Q fun v HF' H' fp st r n f => k v HF' H' fp st r n f⟩
theorem ex_unO [Rp α] {w : Ow α} {m : M (Op α)} (h : EX X Γ e w.op m te) : EX X Γ e w (do let a ← m; ofO a.o) te :=
  ⟨h.pe, fun HF0 G HF H σ g c hc Q k => by
    obtain ⟨⟨i⟩, e1, e2⟩ := bind_ok hc
    have e3 : i = some c := ofO_ok e2
    subst e3
    exact h.sem HF0 G HF H σ g _ e1 Q fun v HF' H' fp st r n f => k v HF' H' fp st r n f⟩
theorem ex_unOv [Rp α] {m : M (Op α)} (h : EX X Γ e Ow.v m te) : EX X Γ e Ow.v (do let a ← m; ofO a.o) te :=
  ⟨h.pe, fun HF0 G HF H σ g c hc Q k => by
    obtain ⟨⟨i⟩, e1, e2⟩ := bind_ok hc
    have e3 : i = some c := ofO_ok e2
    subst e3
    exact h.sem HF0 G HF H σ g _ e1 Q fun v HF' H' fp st r n f => k v HF' H' fp st r n f⟩
theorem ex_unOI {m : M (Option Int)} (h : EX X Γ e Ow.v m te) : EX X Γ e Ow.v (do let a ← m; ofO a) te :=
  ⟨h.pe, fun HF0 G HF H σ g c hc Q k => by
    obtain ⟨i, e1, e2⟩ := bind_ok hc
    have e3 : i = some c := ofO_ok e2
    subst e3
    exact h.sem HF0 G HF H σ g _ e1 Q fun v HF' H' fp st r n f => k v HF' H' fp st ⟨r.1, r.2⟩ n f⟩
theorem ec_isOp [Rp α] [Ob α] {j p2} {ma : M (Op α)} (ha : EX X Γ a Ow.v ma ta) : EC X Γ .Is a (.Constant .none j p2) (do let a ← ma; pure a.o.isNone) rIsNo ta (tC .non) :=
  ⟨op_isN, ha.pe, pe_non, nomark _, fun HF0 G HF H σ g c hc Q k => by
    obtain ⟨⟨x⟩, e1, hc⟩ := bind_ok hc
    cases pure_ok hc
    refine ha.sem HF0 G HF H σ g _ e1 _ fun v HF1 H1 fp s1 r1 _ _ => ⟨rfl, ?_⟩
    have q : decide (v = V.non) = x.isNone := by
      cases x with
      | none => exact decide_eq_true r1.1
      | some x =>
        obtain ⟨p, e⟩ := Ob.ref (show Rp.sh X.K HF1 v x from r1.1)
        subst e; rfl
    rw [q]
    exact (k.back s1).flat s1.sub⟩
theorem ec_notOp [Rp α] [Ob α] {j p2} {ma : M (Op α)} (ha : EX X Γ a Ow.v ma ta) : EC X Γ .IsNot a (.Constant .none j p2) (do let a ← ma; pure a.o.isSome) rNotNo ta (tC .non) :=
  ⟨op_notN, ha.pe, pe_non, nomark _, fun HF0 G HF H σ g c hc Q k => by
    obtain ⟨⟨x⟩, e1, hc⟩ := bind_ok hc
    cases pure_ok hc
    refine ha.sem HF0 G HF H σ g _ e1 _ fun v HF1 H1 fp s1 r1 _ _ => ⟨rfl, ?_⟩
    have q : (!decide (v = V.non)) = x.isSome := by
      cases x with
      | none => rw [decide_eq_true (show v = V.non from r1.1)]; rfl
      | some x =>
        obtain ⟨p, e⟩ := Ob.ref (show Rp.sh X.K HF1 v x from r1.1)
        subst e; rfl
    rw [q]
    exact (k.back s1).flat s1.sub⟩
/-- x.insert(a, ..x.pop..) -/
theorem ss_insP [Rp α] [Inhabited α] (i : Nat) {as : List α} {x : Str} {ma : M Int} {m : M (α × List α)} {k : List α → M (Ctl S L ρ)} (ha : EX X Γ a Ow.v ma ta) (he : EP (α := α) (β := α) X Γ i e m te) (hr : ∀ y, SS X (put Γ i (.mk (Ow.l (Ow.v : Ow α)) y)) sts Γo ΓL o (k y) tr) (hl0 : look Γ i = .mk (Ow.l (Ow.v : Ow α)) as := by rfl) (hN : X.N[i]? = some x := by rfl) (hv : Vis X.env.scope x := by first | exact Or.inl rfl | exact Or.inr (Or.inl rfl) | exact Or.inr (Or.inr rfl)) (hd : (x == ("__debug__" : Str)) = false := by decide)
    (hcd : (x == ("__classdict__" : Str)) = false := by decide)
    (hpe : ∀ {to : TE} {tt : TA}, PE X (.Name x p) to → PA X [a, e] tt → PE X (.Call (.Attribute (.Name x p) "insert" apos) [a, e] [] cpos) (tBM X.K "list" rIns to tt) := by exact fun h h' => pe_bm PySem.F.plainAttrs_list PySem.F.slot_list_insert PySem.F.type_list_insert mt_insert h h')
    (h1 : starEach [a, e] X.env = (false, eval a X.env) :: starEach [e] X.env := by rfl) (h2 : starEach [e] X.env = (false, eval e X.env) :: starEach [] X.env := by rfl)
    (hs : swapsWith (.Call (.Attribute (.Name x p) "insert" apos) [a, e] [] cpos) none pos.line X.env = pure false := by rfl) :
    SS X Γ (.Expr (.Call (.Attribute (.Name x p) "insert" apos) [a, e] [] cpos) pos :: sts) Γo ΓL o (do let u ← ma; let q ← m; let y ← insM q.2 u q.1; k y) (tSeq (tDrop (tBM X.K "list" rIns (tVar i) (tCons ta (tCons te tNil)))) tr) :=
  ⟨pss_cons (ps_expr (hpe (pe_var hN hv hd hcd) (pa_cons ha.pe (pa_cons he.pe pa_nil h2) h1)) hs) (hr default).pss, fun HF0 G HF H σ g c hc D kk => by
    obtain ⟨u, e0, hc⟩ := bind_ok hc
    obtain ⟨⟨y, l⟩, e1, hc⟩ := bind_ok hc
    obtain ⟨l2, e2, hc⟩ := bind_ok hc
    obtain ⟨w, e3, e2⟩ := bind_ok e2
    have e4 := pure_ok e2
    subst e4
    have e5 := gd_ok e3
    rw [Bool.and_eq_true, Bool.and_eq_true, decide_eq_true_eq, decide_eq_true_eq, decide_eq_true_eq] at e5
    obtain ⟨z1, z2, z3⟩ := e5
    obtain ⟨v0, fo0, hσ0, ⟨q0, vs0, fq0, h01, h02, h03, h04⟩, _⟩ := g.take hl0
    subst h01
    refine ⟨.ref q0, hσ0, .inl ⟨rfl, vs0, SqL.of h03⟩, ?_⟩
    refine ha.sem HF0 G HF H σ g u e0 _ fun vu HF1 H1 fp st r n f => ?_
    refine he.sem HF0 G HF1 H1 σ (g.step st) y l e1 _ fun v' HF2 H2 st2 r2 gg => ?_
    obtain ⟨v, fo, hσ, ⟨q, vs, fq, h1, h2, h3, h4⟩, nd, hfo, back⟩ := gg.take (look_put _ _ _ (look_lt' hl0))
    rw [hσ0] at hσ
    cases hσ
    cases h1
    subst h2
    obtain ⟨fa, e5⟩ := h4.toFa
    subst e5
    refine ⟨q0, vs, u, v', rfl, by rw [Fl.sh_iff.mp r.1]; rfl, h3, by rw [fa.len]; exact z1, z2, z3, ?_⟩
    have g2 := back (Step.refl gg.sub) (H' := upd H2 q0 (.lst (vs.take u.toNat ++ [v'] ++ vs.drop u.toNat))) (u' := Ow.l (Ow.v : Ow α)) (b := l.take u.toNat ++ [y] ++ l.drop u.toNat) (v' := .ref q0) (f' := [q0]) (fun p w hp e => by rw [upd_ne (fun z => hp (by rw [z]; exact List.mem_cons_self ..))]; exact e)
      ⟨q0, vs.take u.toNat ++ [v'] ++ vs.drop u.toNat, [], rfl, rfl, upd_same, Rl.ofFa (((fa.take _).append (show Fa (Rp.sh X.K HF2) [v'] [y] from ⟨r2, True.intro⟩)).append (fa.drop _))⟩ (by simp) (fun p hp => .inl hp)
    rw [set_self hσ0, put_put] at g2
    exact (hr _).sem HF0 G HF2 _ σ g2 c hc D (kk.mono (st.exF.trans st2))⟩
end
end Ty

/-! ## Ty24: {k: v}; max, min of a list; for x in l: d[x] = e -/
namespace Ty
open PySem PySem.Spec PyProof.Rows L2
def lbest (f : Int → Int → Bool) : List Int → Int
  | [] => 0
  | x :: xs => xs.foldl (fun a b => if f b a then b else a) x
def maxM (l : List Int) : M Int := do gd (decide (0 < l.length)); pure (lbest (fun b a => decide (a < b)) l)
def minM (l : List Int) : M Int := do gd (decide (0 < l.length)); pure (lbest (fun b a => decide (b < a)) l)
theorem lbest_max : ∀ {l : List Int}, l ≠ [] → lbest (fun b a => decide (a < b)) l ∈ l ∧ ∀ y ∈ l, y ≤ lbest (fun b a => decide (a < b)) l
  | [], h => absurd rfl h
  | x :: xs, _ => by
    have key : ∀ (xs : List Int) (x : Int), (xs.foldl (fun a b => if decide (a < b) = true then b else a) x ∈ x :: xs) ∧ ∀ y ∈ x :: xs, y ≤ xs.foldl (fun a b => if decide (a < b) = true then b else a) x := by
      intro xs
      induction xs with
      | nil => intro x; exact ⟨by simp, by simp⟩
      | cons z xs ih =>
        intro x
        rw [List.foldl_cons]
        obtain ⟨h1, h2⟩ := ih (if decide (x < z) = true then z else x)
        constructor
        · rcases List.mem_cons.mp h1 with e | h1
          · rw [e]; split <;> simp
          · exact List.mem_cons_of_mem _ (List.mem_cons_of_mem _ h1)
        · intro y hy
          have h3 := h2 _ (List.mem_cons_self ..)
          rcases List.mem_cons.mp hy with e | hy
          · subst e
            by_cases h : y < z
            · rw [if_pos (decide_eq_true h)] at h3 ⊢; omega
            · rw [if_neg (by simpa using h)] at h3 ⊢; omega
          · rcases List.mem_cons.mp hy with e | hy
            · subst e
              by_cases h : x < y
              · rw [if_pos (decide_eq_true h)] at h3 ⊢; omega
              · rw [if_neg (by simpa using h)] at h3 ⊢; omega
            · exact h2 y (List.mem_cons_of_mem _ hy)
    exact key xs x
theorem lbest_min : ∀ {l : List Int}, l ≠ [] → lbest (fun b a => decide (b < a)) l ∈ l ∧ ∀ y ∈ l, lbest (fun b a => decide (b < a)) l ≤ y
  | [], h => absurd rfl h
  | x :: xs, _ => by
    have key : ∀ (xs : List Int) (x : Int), (xs.foldl (fun a b => if decide (b < a) = true then b else a) x ∈ x :: xs) ∧ ∀ y ∈ x :: xs, xs.foldl (fun a b => if decide (b < a) = true then b else a) x ≤ y := by
      intro xs
      induction xs with
      | nil => intro x; exact ⟨by simp, by simp⟩
      | cons z xs ih =>
        intro x
        rw [List.foldl_cons]
        obtain ⟨h1, h2⟩ := ih (if decide (z < x) = true then z else x)
        constructor
        · rcases List.mem_cons.mp h1 with e | h1
          · rw [e]; split <;> simp
          · exact List.mem_cons_of_mem _ (List.mem_cons_of_mem _ h1)
        · intro y hy
          have h3 := h2 _ (List.mem_cons_self ..)
          rcases List.mem_cons.mp hy with e | hy
          · subst e
            by_cases h : z < y
            · rw [if_pos (decide_eq_true h)] at h3 ⊢; omega
            · rw [if_neg (by simpa using h)] at h3 ⊢; omega
          · rcases List.mem_cons.mp hy with e | hy
            · subst e
              by_cases h : y < x
              · rw [if_pos (decide_eq_true h)] at h3 ⊢; omega
              · rw [if_neg (by simpa using h)] at h3 ⊢; omega
            · exact h2 y (List.mem_cons_of_mem _ hy)
    exact key xs x
theorem maxM_ok {l : List Int} {m : Int} (hm : m ∈ l) (h : ∀ y ∈ l, y ≤ m) : maxM l = .ok m := by
  have hne : l ≠ [] := fun e => by rw [e] at hm; cases hm
  obtain ⟨h1, h2⟩ := lbest_max hne
  have e : lbest (fun b a => decide (a < b)) l = m := by have := h2 m hm; have := h _ h1; omega
  unfold maxM
  rw [decide_eq_true (List.length_pos_of_mem hm), e]; rfl
theorem minM_ok {l : List Int} {m : Int} (hm : m ∈ l) (h : ∀ y ∈ l, m ≤ y) : minM l = .ok m := by
  have hne : l ≠ [] := fun e => by rw [e] at hm; cases hm
  obtain ⟨h1, h2⟩ := lbest_min hne
  have e : lbest (fun b a => decide (b < a)) l = m := by have := h2 m hm; have := h _ h1; omega
  unfold minM
  rw [decide_eq_true (List.length_pos_of_mem hm), e]; rfl
def putAllM {κ β : Type} [DecidableEq κ] (d : Dc κ β) : List κ → β → M (Dc κ β)
  | [], _ => pure d
  | x :: xs, a => do let d' ← dputM d x a; putAllM d' xs a
section
variable {X : Cx} {Γ : Ctx} {S L ρ α β κ γ A B S' : Type} [Rp ρ] {o : Ow ρ} {Γo : S → Ctx} {ΓL : L → Ctx} {a b e f : Expr} {es : List Expr} {pos p p1 p5 apos cpos pos2 : Pos} {ta tb te tf : TE} {t : TA} {sts : List Stmt} {tr tr' : TS} {tg : Expr}
theorem ex_maxL {K : PySem.W.Frag} {m : M (List Int)} (hc : X.calm = true) (hm : X.mg "max" = none) (h : EX X Γ e Ow.v m te) (hg : Gl X "max" := by rfl) (h1 : starEach [e] X.env = (false, eval e X.env) :: starEach [] X.env := by rfl) (hK : X.K = K := by rfl) : EX X Γ (.Call (.Name "max" p) [e] [] pos) Ow.v (do let a ← m; maxM a) (tCB (rMax K) (tCons te tNil)) := by
  subst hK
  exact ex_b1 (cr_max hc) (show SemC1 X.K (rMax X.K) Ow.v (fun (a : List Int) => maxM a) from fun HF H v a c s ⟨q, us, e, h1, h2⟩ hc' Q k => by
    obtain ⟨u, e1, hc'⟩ := bind_ok hc'
    cases pure_ok hc'
    subst e
    have e2 := Fa.flat.mp h2
    subst e2
    have hl : 0 < a.length := of_decide_eq_true (gd_ok e1)
    have hne : a ≠ [] := fun e => by rw [e] at hl; cases hl
    refine ⟨q, a, rfl, SqL.of (s _ _ h1), hl, fun m hm hy => ?_⟩
    obtain ⟨h3, h4⟩ := lbest_max hne
    have : m = lbest (fun b a => decide (a < b)) a := by have := h4 m hm; have := hy _ h3; omega
    subst this
    exact k.flat s) (by decide +kernel) hm h hg (h1 := h1)
theorem ex_minL {K : PySem.W.Frag} {m : M (List Int)} (hc : X.calm = true) (hm : X.mg "min" = none) (h : EX X Γ e Ow.v m te) (hg : Gl X "min" := by rfl) (h1 : starEach [e] X.env = (false, eval e X.env) :: starEach [] X.env := by rfl) (hK : X.K = K := by rfl) : EX X Γ (.Call (.Name "min" p) [e] [] pos) Ow.v (do let a ← m; minM a) (tCB (rMin K) (tCons te tNil)) := by
  subst hK
  exact ex_b1 (cr_min hc) (show SemC1 X.K (rMin X.K) Ow.v (fun (a : List Int) => minM a) from fun HF H v a c s ⟨q, us, e, h1, h2⟩ hc' Q k => by
    obtain ⟨u, e1, hc'⟩ := bind_ok hc'
    cases pure_ok hc'
    subst e
    have e2 := Fa.flat.mp h2
    subst e2
    have hl : 0 < a.length := of_decide_eq_true (gd_ok e1)
    have hne : a ≠ [] := fun e => by rw [e] at hl; cases hl
    refine ⟨q, a, rfl, SqL.of (s _ _ h1), hl, fun m hm hy => ?_⟩
    obtain ⟨h3, h4⟩ := lbest_min hne
    have : m = lbest (fun b a => decide (b < a)) a := by have := h4 m hm; have := hy _ h3; omega
    subst this
    exact k.flat s) (by decide +kernel) hm h hg (h1 := h1)
theorem ex_disp1 [Ky κ] [Rp β] {m : M κ} {n : M β} (ha : EX X Γ a Ow.v m ta) (hb : EX X Γ b Ow.v n tb) : EX X Γ (.Dict [some a] [b] pos) (Ow.d (κ := κ) (β := β)) (do let x ← m; let y ← n; pure ⟨[(x, y)]⟩) (tDisp [(ta, tb)]) :=
  ⟨pe_disp (pps_cons ha.pe hb.pe pps_nil) rfl rfl (by simp) (by simp), fun HF0 G HF H σ g c hc Q k => by
    obtain ⟨x, e1, hc⟩ := bind_ok hc
    obtain ⟨y, e2, hc⟩ := bind_ok hc
    cases pure_ok hc
    intro q hq
    have st0 : Step HF H HF (upd H q (.dK [])) := Step.own g.sub hq
    refine ha.sem HF0 G HF _ σ (g.step st0) x e1 _ fun v HF1 H1 fp1 st1 r1 _ _ => ?_
    refine hb.sem HF0 G HF1 H1 σ ((g.step st0).step st1) y e2 _ fun w HF2 H2 fp2 st2 r2 _ _ => ?_
    have st12 := st1.trans st2
    have hp2 : H2 q = some (.dK []) := st12.exH _ _ upd_same
    have hqF : HF2 q = none := by
      have : HF q = none := g.sub.free hq
      exact st12.nn this (u := .dK []) upd_same
    refine ⟨hp2, [(Ky.key x, w)], by rw [Fl.sh_iff.mp r1.1, ← Ky.kv]; rfl, by simp, ?_⟩
    refine k (.ref q) HF2 _ [q] ⟨st12.exF, fun p' o' e => ?_, fun p' o' e => ?_, fun p' o' e1 e2 => ?_⟩ ⟨q, _, rfl, rfl, upd_same, ⟨⟨rfl, r2.1⟩, True.intro⟩⟩ (by simp) (fun p' hp' => ?_)
    · have hne : p' ≠ q := fun e' => by rw [e', hq] at e; cases e
      rw [upd_ne hne]
      exact st12.exH _ _ (by rw [upd_ne hne]; exact e)
    · have hne : p' ≠ q := fun e' => by rw [e', hqF] at e; cases e
      rw [upd_ne hne]
      exact st12.sub _ _ e
    · have := st12.new p' o' e1 e2
      by_cases hne : p' = q
      · rw [hne]; exact hq
      · rwa [upd_ne hne] at this
    · rw [List.mem_singleton.mp hp']
      exact ⟨hq, hqF⟩⟩
theorem ss_forPut {K : PySem.W.Frag} [Ky κ] [DecidableEq κ] [Rp β] (i j r : Nat) {as : List κ} {d : Dc κ β} {x y z : Str} {m : M β} {k : Dc κ β → M (Ctl S L ρ)} {py pz p4 : Pos} (hN : X.N.Nodup) (hc : X.calm = true) (hxe : PassesOwn (model X.prog X.w) X.A X.env X.xe) (hu : X.A.units + 64 < cLine)
    (he : ∀ d, EX X (put (put Γ r .un) j (.mk (Ow.d (κ := κ) (β := β)) d)) e Ow.v m te)
    (hr : ∀ d, SS X (put (put Γ r .un) j (.mk (Ow.d (κ := κ) (β := β)) d)) sts Γo ΓL o (k d) tr)
    (hl : look (put Γ r .un) j = .mk (Ow.d (κ := κ) (β := β)) d := by rfl) (hli : look (put Γ r .un) i = .mk (Ow.l (Ow.v : Ow κ)) as := by rfl) (hjr : j ≠ r := by decide) (hrl : Nat.blt r Γ.length = true := by rfl)
    (hN1 : X.N[i]? = some x := by rfl) (hv : Vis X.env.scope x := by first | exact Or.inl rfl | exact Or.inr (Or.inl rfl) | exact Or.inr (Or.inr rfl)) (hd : (x == ("__debug__" : Str)) = false := by decide) (hcd : (x == ("__classdict__" : Str)) = false := by decide)
    (hN2 : X.N[r]? = some y := by rfl) (hv2 : Vis X.env.scope y := by first | exact Or.inl rfl | exact Or.inr (Or.inl rfl) | exact Or.inr (Or.inr rfl)) (hd2 : (y == ("__debug__" : Str)) = false := by decide) (hcd2 : (y == ("__classdict__" : Str)) = false := by decide)
    (hN3 : X.N[j]? = some z := by rfl) (hv3 : Vis X.env.scope z := by first | exact Or.inl rfl | exact Or.inr (Or.inl rfl) | exact Or.inr (Or.inr rfl)) (hd3 : (z == ("__debug__" : Str)) = false := by decide) (hcd3 : (z == ("__classdict__" : Str)) = false := by decide)
    (hx : Loc X.env.scope y := by first | exact .inl rfl | exact .inr rfl) (hf : X.fn y = true ∨ X.env.scope.names.lookup y = some .local := by first | exact .inl rfl | exact .inr rfl) (hK : X.K = K := by rfl)
    (hs : swapsWith e (some (.Subscript (.Name z pz) (.Name y py) p5)) p4.line X.env = pure false := by rfl)
    (hs2 : ∀ z, foldedSetIterable (.Name x p) X.env z = pure z := by intro _; rfl) :
    SS X Γ (.For (.Name y p1) (.Name x p) [.Assign [.Subscript (.Name z pz) (.Name y py) p5] e p4] [] pos :: sts) Γo ΓL o (do let a ← m; let d' ← putAllM d as a; k d') (tSeq (tFor (iList K (tVar i)) (gName r) (sDPut (tVar j) (tVar r) te)) tr) := by
  subst hK
  exact ⟨pss_cons (ps_for hxe hc (pi_list (pe_var hN1 hv hd hcd)) (pg_name hN hN2 hx hf) (pss_one (ps_dput (hu1 hu) (pe_var hN3 hv3 hd3 hcd3) (pe_var hN2 hv2 hd2 hcd2) (he default).pe hs)) hs2) (hr default).pss, fun HF0 G HF H σ g cc hcc D kk => by
    obtain ⟨y1, e1, hcc⟩ := bind_ok hcc
    obtain ⟨dfin, e2, hcc⟩ := bind_ok hcc
    have hlen := g.len
    have g0 : Good X.K HF0 G (put Γ r .un) HF H σ := by
      have q := g.un r (σ.getD r none) (of_blt hrl)
      have eσ : σ.set r (σ.getD r none) = σ := by
        apply List.ext_getElem?
        intro j
        by_cases hj : r = j
        · subst hj
          have := of_blt hrl
          rw [List.getElem?_set_self (by omega), List.getD_eq_getElem?_getD, List.getElem?_eq_getElem (by omega)]
          rfl
        · rw [List.getElem?_set_ne hj]
      rw [eσ] at q
      exact q
    obtain ⟨v, fo, hσ, ⟨p, vs, fp, h1, h2, h3, h4⟩, nd, hfo, _⟩ := g0.take hli
    subst h1
    obtain ⟨hfa, _⟩ := h4.toFa
    have hvs : vs = as.map Fl.enc := Fa.flat.mp hfa
    have vl := h4.len
    have gput : Good X.K HF0 G (put (put Γ r .un) j (.mk (Ow.d (κ := κ) (β := β)) d)) HF H σ := by
      obtain ⟨v', fo', hσ', r', nd', _, back⟩ := g0.take hl
      have := back (u' := Ow.d (κ := κ) (β := β)) (b := d) (v' := v') (f' := fo') (H' := H) (Step.refl g.sub) (fun _ _ _ e => e) r' nd' (fun p hp => .inl hp)
      rw [set_self hσ'] at this
      exact this
    refine ⟨.ref p, hσ, p, rfl, ⟨vs, SqL.of h3⟩, ?_⟩
    refine ⟨fun n c σ2 H2 => c = as.length - n ∧ n ≤ as.length ∧ ∃ HF2 dn, Same HF HF2 ∧ H2 p = some (.lst vs) ∧ Good X.K HF0 G (put (put Γ r .un) j (.mk (Ow.d (κ := κ) (β := β)) dn)) HF2 H2 σ2 ∧ putAllM dn (as.drop n) y1 = .ok dfin, ⟨as.length, rfl, Nat.zero_le _, HF, d, Same.refl _, h3, gput, e2⟩, ?_⟩
    rintro n c σ2 H2 ⟨rfl, hn, HF2, dn, a, hp2, g2, hrun⟩
    by_cases hlt : n < as.length
    · rw [List.drop_eq_getElem_cons hlt] at hrun
      obtain ⟨d2, e3, hrun⟩ := bind_ok (show (dputM dn as[n] y1 >>= fun d' => putAllM d' (as.drop (n + 1)) y1) = .ok dfin from hrun)
      obtain ⟨w, e4, e3⟩ := bind_ok e3
      have e5 := pure_ok e3
      subst e5
      have e6 := of_decide_eq_true (gd_ok e4)
      refine .inr ⟨⟨vs, vs[n]'(by omega), SqL.of hp2, List.getElem?_eq_getElem (by omega)⟩, fun σ' H' => ∃ HF' dn, Same HF HF' ∧ H' p = some (.lst vs) ∧ Good X.K HF0 G (put (put Γ r .un) j (.mk (Ow.d (κ := κ) (β := β)) dn)) HF' H' σ' ∧ putAllM dn (as.drop (n + 1)) y1 = .ok dfin, fun σ' H' h' => ⟨as.length - (n + 1), by omega, rfl, hlt, h'⟩, fun zv H3 hz => ?_⟩
      obtain ⟨rfl, hz⟩ := hz
      have hz := hz vs (SqL.of hp2)
      have hzv : zv = Fl.enc as[n] := by
        rw [hvs, List.getElem?_map, List.getElem?_eq_getElem hlt] at hz
        exact (Option.some.inj hz).symm
      have hgu : Good X.K HF0 G (put (put Γ r .un) j (.mk (Ow.d (κ := κ) (β := β)) dn)) HF2 H3 (σ2.set r (some zv)) := by
        have q := g2.un r (some zv) (by rw [put_len, put_len]; exact of_blt hrl)
        rw [put_un Γ j r _ hjr] at q
        exact q
      have hlen2 := hgu.len
      rw [put_len, put_len, List.length_set] at hlen2
      have hrs : (σ2.set r (some zv))[r]? = some (some zv) := List.getElem?_set_self (by have := of_blt hrl; omega)
      have hjl : j < (put Γ r .un).length := look_lt' hl
      obtain ⟨v0, fo0, hσ0, ⟨q, kvs, h01, h02, h03, h04⟩, nd0, hfo0, back⟩ := hgu.take (look_put _ _ _ hjl)
      subst h01 h02
      have hqp : q ≠ p := fun e => by rw [e, hp2] at h03; cases h03
      refine (he _).sem HF0 G HF2 H3 _ hgu y1 e1 _ fun v' HF3 H4 fp3 st r1 _ _ => ?_
      refine ⟨.ref q, hσ0, zv, hrs, q, upd H4 q (.dK (putK kvs (Ky.key as[n]) v')), rfl, ?_, ?_⟩
      · rw [hzv, ← Ky.kv]
        exact DPut.k (st.exH _ _ h03) (by rw [h04.len]; exact e6)
      · have gg := back (u' := Ow.d (κ := κ) (β := β)) (b := ⟨dput dn.l as[n] y1⟩) (v' := .ref q) (f' := [q]) (H' := upd H4 q (.dK (putK kvs (Ky.key as[n]) v'))) st (fun p w hp e => by rw [upd_ne (fun z => hp (by rw [z]; exact List.mem_singleton.mpr rfl))]; exact e)
          ⟨q, _, rfl, rfl, upd_same, Fk.put as[n] r1.1 (Fk.mono (fun _ _ h => Rp.mono st.exF h) h04)⟩ (by simp) (fun p hp => .inl hp)
        rw [set_self hσ0, put_put] at gg
        exact ⟨HF3, _, a.trans st.exF, by rw [upd_ne (fun e => hqp e.symm)]; exact st.exH _ _ hp2, gg, hrun⟩
    · have en : n = as.length := by omega
      subst en
      rw [List.drop_length] at hrun
      have e7 := pure_ok (show (pure dn : M (Dc κ β)) = .ok dfin from hrun)
      subst e7
      exact .inl ⟨⟨vs, SqL.of hp2, by omega⟩, (hr _).sem HF0 G HF2 H2 σ2 g2 cc hcc D (kk.mono a)⟩⟩
end
end Ty

/-! ## Ty25: abs -/
namespace Ty
open PySem PySem.Spec PyProof.Rows L2
section
variable {X : Cx} {Γ : Ctx} {e : Expr} {pos p : Pos} {te : TE}
theorem ex_abs {m : M Int} (hm : X.mg "abs" = none) (h : EX X Γ e Ow.v m te) (hg : Gl X "abs" := by rfl) (h1 : starEach [e] X.env = (false, eval e X.env) :: starEach [] X.env := by rfl) : EX X Γ (.Call (.Name "abs" p) [e] [] pos) Ow.v (do let a ← m; pure (if a < 0 then -a else a)) (tCB (fun xs H Q => ∃ i, xs = [.int i] ∧ Q (.int (if i < 0 then -i else i)) H) (tCons te tNil)) :=
  ex_b1 call_abs (show SemC1 X.K _ Ow.v (fun (a : Int) => pure (if a < 0 then -a else a)) from fun HF H v a c s r hc' Q k => by
    cases pure_ok hc'
    refine ⟨a, by rw [Fl.sh_iff.mp r]; rfl, k.flat s⟩) (by decide +kernel) hm h hg (h1 := h1)
end
end Ty

/-! ## Ty26: a loop that looks at own things, which stay own -/
namespace Ty
open PySem PySem.Spec PyProof.Rows L2
/-- a thing, and the value that stands for it -/
structure Pn (α : Type) where
  v : V
  a : α
instance rpPn {α : Type} [Rp α] : Rp (Pn α) where
  sh K H w x := w = x.v ∧ Rp.sh K H w x.a
  mono := fun e ⟨h1, h2⟩ => ⟨h1, Rp.mono e h2⟩
def pinS (v : V) : Sl → Sl
  | .un => .un
  | .mk (α := α) (i := i) _ a => .mk (α := Pn α) (i := rpPn) .v ⟨v, a⟩
/-- all names but those told by true: pinned -/
def pinC (vs : Nat → V) : Nat → List Bool → Ctx → Ctx
  | i, true :: fl, s :: Γ => s :: pinC vs (i + 1) fl Γ
  | i, false :: fl, s :: Γ => pinS (vs i) s :: pinC vs (i + 1) fl Γ
  | _, _, _ => []
/-- those told by true lean on nothing shared -/
inductive IndC : List Bool → Ctx → Prop where
  | n : IndC [] []
  | p {fl : List Bool} {s : Sl} {Γ : Ctx} : IndC fl Γ → IndC (false :: fl) (s :: Γ)
  | u {fl : List Bool} {Γ : Ctx} : IndC fl Γ → IndC (true :: fl) (.un :: Γ)
  | i {α : Type} [Rp α] {o : Ow α} [Ind o] {a : α} {fl : List Bool} {Γ : Ctx} : IndC fl Γ → IndC (true :: fl) (.mk o a :: Γ)
/-- behind the loop -/
inductive Pe (vs : Nat → V) : Nat → List Bool → Ctx → Ctx → Ctx → Prop where
  | n {i : Nat} : Pe vs i [] [] [] []
  | p {α : Type} [Rp α] {o : Ow α} {a : α} {i : Nat} {fl : List Bool} {Γ Δ Θ : Ctx} : Pe vs (i + 1) fl Γ Δ Θ → Pe vs i (false :: fl) (.mk o a :: Γ) (.mk (α := Pn α) Ow.v ⟨vs i, a⟩ :: Δ) (.mk o a :: Θ)
  | u {f : Bool} {s t : Sl} {i : Nat} {fl : List Bool} {Γ Δ Θ : Ctx} : Pe vs (i + 1) fl Γ Δ Θ → Pe vs i (f :: fl) (s :: Γ) (t :: Δ) (.un :: Θ)
  | i {f : Bool} {α : Type} [Rp α] {o : Ow α} [Ind o] {a : α} {s : Sl} {i : Nat} {fl : List Bool} {Γ Δ Θ : Ctx} : Pe vs (i + 1) fl Γ Δ Θ → Pe vs i (f :: fl) (s :: Γ) (.mk o a :: Δ) (.mk o a :: Θ)
/-- the names told by true own fc, the others fn -/
def SplitH (K : PySem.W.Frag) (HF H : Hp) : List Bool → Ctx → L2.St → List Addr → List Addr → Prop
  | [], [], [], fc, fn => fc = [] ∧ fn = []
  | true :: fl, s :: Γ, x :: σ, fc, fn => ∃ f1 c2, HoldS K HF H s x f1 ∧ SplitH K HF H fl Γ σ c2 fn ∧ fc = f1 ++ c2
  | false :: fl, s :: Γ, x :: σ, fc, fn => ∃ f1 n2, HoldS K HF H s x f1 ∧ SplitH K HF H fl Γ σ fc n2 ∧ fn = f1 ++ n2
  | _, _, _, _, _ => False
theorem IndC.split {K : PySem.W.Frag} {HF H : Hp} : ∀ {fl : List Bool} {Γ : Ctx}, IndC fl Γ → ∀ {σ : L2.St} {fs : List Addr}, Holds K HF H Γ σ fs → fs.Nodup → ∃ fc fn : List Addr, SplitH K HF H fl Γ σ fc fn ∧ (∀ p, p ∈ fs ↔ p ∈ fc ∨ p ∈ fn) ∧ fc.Nodup ∧ fn.Nodup ∧ ∀ p ∈ fc, p ∉ fn := by
  intro fl Γ h
  have cT : ∀ {fl : List Bool} {s : Sl} {Γ : Ctx}, (∀ {σ : L2.St} {fs : List Addr}, Holds K HF H Γ σ fs → fs.Nodup → ∃ fc fn : List Addr, SplitH K HF H fl Γ σ fc fn ∧ (∀ p, p ∈ fs ↔ p ∈ fc ∨ p ∈ fn) ∧ fc.Nodup ∧ fn.Nodup ∧ ∀ p ∈ fc, p ∉ fn) →
      ∀ {σ : L2.St} {fs : List Addr}, Holds K HF H (s :: Γ) σ fs → fs.Nodup → ∃ fc fn : List Addr, SplitH K HF H (true :: fl) (s :: Γ) σ fc fn ∧ (∀ p, p ∈ fs ↔ p ∈ fc ∨ p ∈ fn) ∧ fc.Nodup ∧ fn.Nodup ∧ ∀ p ∈ fc, p ∉ fn := by
    intro fl s Γ ih σ fs h nd
    cases σ with
    | nil => exact h.elim
    | cons x σ =>
      obtain ⟨f1, f2, e, h1, h2⟩ := h
      rw [e] at nd
      obtain ⟨n1, n2, n3⟩ := List.nodup_append.mp nd
      obtain ⟨fc, fn, q0, q1, q2, q3, q4⟩ := ih h2 n2
      refine ⟨f1 ++ fc, fn, ⟨f1, fc, h1, q0, rfl⟩, fun p => ?_, List.nodup_append.mpr ⟨n1, q2, fun p hp q hq => n3 p hp q ((q1 q).mpr (.inl hq))⟩, q3, fun p hp hq => ?_⟩
      · rw [e, List.mem_append, List.mem_append, q1]
        constructor
        · rintro (a | a | a)
          · exact .inl (.inl a)
          · exact .inl (.inr a)
          · exact .inr a
        · rintro ((a | a) | a)
          · exact .inl a
          · exact .inr (.inl a)
          · exact .inr (.inr a)
      · rcases List.mem_append.mp hp with z | z
        · exact n3 p z p ((q1 p).mpr (.inr hq)) rfl
        · exact q4 p z hq
  induction h with
  | n =>
    intro σ fs h nd
    cases σ with
    | nil =>
      have e : fs = [] := h
      subst e
      exact ⟨[], [], ⟨rfl, rfl⟩, fun p => by simp, List.nodup_nil, List.nodup_nil, by simp⟩
    | cons x σ => exact h.elim
  | @p fl s Γ _ ih =>
    intro σ fs h nd
    cases σ with
    | nil => exact h.elim
    | cons x σ =>
      obtain ⟨f1, f2, e, h1, h2⟩ := h
      rw [e] at nd
      obtain ⟨n1, n2, n3⟩ := List.nodup_append.mp nd
      obtain ⟨fc, fn, q0, q1, q2, q3, q4⟩ := ih h2 n2
      refine ⟨fc, f1 ++ fn, ⟨f1, fn, h1, q0, rfl⟩, fun p => ?_, q2, List.nodup_append.mpr ⟨n1, q3, fun p hp q hq => n3 p hp q ((q1 q).mpr (.inr hq))⟩, fun p hp hq => ?_⟩
      · rw [e, List.mem_append, List.mem_append, q1]
        constructor
        · rintro (a | a | a)
          · exact .inr (.inl a)
          · exact .inl a
          · exact .inr (.inr a)
        · rintro (a | a | a)
          · exact .inr (.inl a)
          · exact .inl a
          · exact .inr (.inr a)
      · rcases List.mem_append.mp hq with z | z
        · exact n3 p z p ((q1 p).mpr (.inl hp)) rfl
        · exact q4 p hp z
  | u _ ih => exact fun h nd => cT (fun h nd => ih h nd) h nd
  | i _ ih => exact fun h nd => cT (fun h nd => ih h nd) h nd
theorem SplitH.pin {K : PySem.W.Frag} {HF H L : Hp} (hs : Same HF L) : ∀ {fl : List Bool} {Γ : Ctx}, IndC fl Γ → ∀ {σ : L2.St} {fc fn : List Addr}, SplitH K HF H fl Γ σ fc fn → (∀ p ∈ fn, ∀ o, H p = some o → L p = some o) → ∀ (vs : Nat → V) (i : Nat), (∀ j v, σ[j]? = some (some v) → vs (i + j) = v) → Holds K L H (pinC vs i fl Γ) σ fc := by
  intro fl Γ h
  induction h with
  | n =>
    intro σ fc fn h hn vs i hv
    cases σ with
    | nil => exact h.1
    | cons x σ => exact h.elim
  | @p fl s Γ _ ih =>
    intro σ fc fn h hn vs i hv
    cases σ with
    | nil => exact h.elim
    | cons x σ =>
      obtain ⟨f1, n2, h1, h2, e⟩ := h
      subst e
      refine ⟨[], fc, rfl, ?_, ih h2 (fun p hp => hn p (List.mem_append_right _ hp)) vs (i + 1) fun j v hj => by rw [show i + 1 + j = i + (j + 1) by omega]; exact hv (j + 1) v hj⟩
      cases s with
      | un => rfl
      | @mk α ir o a =>
        obtain ⟨v, hx, r⟩ := h1
        subst hx
        refine ⟨v, rfl, ⟨?_, ?_⟩, rfl⟩
        · exact (hv 0 v rfl).symm
        · exact @Ow.frz α ir o _ _ _ _ _ _ _ hs (fun p hp => hn p (List.mem_append_left _ hp)) r
  | @u fl Γ _ ih =>
    intro σ fc fn h hn vs i hv
    cases σ with
    | nil => exact h.elim
    | cons x σ =>
      obtain ⟨f1, c2, h1, h2, e⟩ := h
      have e1 : f1 = [] := h1
      rw [e1, List.nil_append] at e
      rw [e]
      exact ⟨[], c2, rfl, rfl, ih h2 hn vs (i + 1) fun j v hj => by rw [show i + 1 + j = i + (j + 1) by omega]; exact hv (j + 1) v hj⟩
  | @i α ir o io a fl Γ _ ih =>
    intro σ fc fn h hn vs i hv
    cases σ with
    | nil => exact h.elim
    | cons x σ =>
      obtain ⟨f1, c2, ⟨v, hx, r⟩, h2, e⟩ := h
      subst e
      exact ⟨f1, c2, rfl, ⟨v, hx, Ind.ind r⟩, ih h2 hn vs (i + 1) fun j v hj => by rw [show i + 1 + j = i + (j + 1) by omega]; exact hv (j + 1) v hj⟩
theorem Pe.join {K : PySem.W.Frag} {vs : Nat → V} {HF H L' H' : Hp} : ∀ {i : Nat} {fl : List Bool} {Γ Δ Θ : Ctx}, Pe vs i fl Γ Δ Θ → ∀ {σ σ' : L2.St} {fc fn fe : List Addr}, SplitH K HF H fl Γ σ fc fn → Holds K L' H' Δ σ' fe → (∀ j v, σ[j]? = some (some v) → vs (i + j) = v) → (∀ p ∈ fn, ∀ o, H p = some o → H' p = some o) → fn.Nodup → fe.Nodup → (∀ p ∈ fe, p ∉ fn) →
    ∃ fs', Holds K HF H' Θ σ' fs' ∧ fs'.Nodup ∧ ∀ p ∈ fs', p ∈ fe ∨ p ∈ fn := by
  intro i fl Γ Δ Θ h
  -- what of the split stays for the rest
  have rest : ∀ {f : Bool} {fl : List Bool} {s : Sl} {Γ : Ctx} {x : Option V} {σ : L2.St} {fc fn : List Addr}, SplitH K HF H (f :: fl) (s :: Γ) (x :: σ) fc fn → ∃ c2 n2, SplitH K HF H fl Γ σ c2 n2 ∧ (∀ p ∈ n2, p ∈ fn) ∧ (fn.Nodup → n2.Nodup) := by
    intro f fl s Γ x σ fc fn h
    cases f with
    | true =>
      obtain ⟨f1, c2, _, h2, _⟩ := h
      exact ⟨c2, fn, h2, fun p hp => hp, fun h => h⟩
    | false =>
      obtain ⟨f1, n2, _, h2, e⟩ := h
      subst e
      exact ⟨fc, n2, h2, fun p hp => List.mem_append_right _ hp, fun nd => (List.nodup_append.mp nd).2.1⟩
  induction h with
  | n =>
    intro σ σ' fc fn fe h1 h2 hv hk nn ne hd
    cases σ' with
    | nil => exact ⟨[], rfl, List.nodup_nil, by simp⟩
    | cons x σ' => exact h2.elim
  | @p α ir o a i fl Γ Δ Θ _ ih =>
    intro σ σ' fc fn fe h1 h2 hv hk nn ne hd
    cases σ with
    | nil => exact h1.elim
    | cons x σ =>
      cases σ' with
      | nil => exact h2.elim
      | cons x' σ' =>
        obtain ⟨f1, n2, ⟨v, hx, r⟩, h12, e⟩ := h1
        subst e hx
        obtain ⟨g1, g2, e', ⟨v', hx', ⟨e1, _⟩, e2⟩, h22⟩ := h2
        have e2 : g1 = [] := e2
        subst e2
        rw [List.nil_append] at e'
        subst e'
        obtain ⟨m1, m2, m3⟩ := List.nodup_append.mp nn
        obtain ⟨fs', w1, w2, w3⟩ := ih h12 h22 (fun j v hj => by rw [show i + 1 + j = i + (j + 1) by omega]; exact hv (j + 1) v hj) (fun p hp => hk p (List.mem_append_right _ hp)) m2 ne fun p hp hq => hd p hp (List.mem_append_right _ hq)
        have ev : v' = v := e1.trans (hv 0 v rfl)
        refine ⟨f1 ++ fs', ⟨f1, fs', rfl, ⟨v, by rw [hx', ev], @Ow.mono α ir o _ _ _ _ _ _ _ _ (Same.refl _) (fun p hp => hk p (List.mem_append_left _ hp)) r⟩, w1⟩, List.nodup_append.mpr ⟨m1, w2, fun p hp q hq e => ?_⟩, fun p hp => ?_⟩
        · subst e
          rcases w3 p hq with z | z
          · exact hd p z (List.mem_append_left _ hp)
          · exact m3 p hp p z rfl
        · rcases List.mem_append.mp hp with z | z
          · exact .inr (List.mem_append_left _ z)
          · exact (w3 p z).imp id (List.mem_append_right _)
  | @u f s t i fl Γ Δ Θ _ ih =>
    intro σ σ' fc fn fe h1 h2 hv hk nn ne hd
    cases σ with
    | nil => cases f <;> exact h1.elim
    | cons x σ =>
      cases σ' with
      | nil => exact h2.elim
      | cons x' σ' =>
        obtain ⟨c2, n2, h12, hn2, hnn⟩ := rest h1
        obtain ⟨g1, g2, e', _, h22⟩ := h2
        subst e'
        obtain ⟨m1, m2, m3⟩ := List.nodup_append.mp ne
        obtain ⟨fs', w1, w2, w3⟩ := ih h12 h22 (fun j v hj => by rw [show i + 1 + j = i + (j + 1) by omega]; exact hv (j + 1) v hj) (fun p hp => hk p (hn2 p hp)) (hnn nn) m2 fun p hp hq => hd p (List.mem_append_right _ hp) (hn2 p hq)
        exact ⟨fs', ⟨[], fs', rfl, rfl, w1⟩, w2, fun p hp => (w3 p hp).imp (List.mem_append_right _) (hn2 p)⟩
  | @i f α ir o io a s i fl Γ Δ Θ _ ih =>
    intro σ σ' fc fn fe h1 h2 hv hk nn ne hd
    cases σ with
    | nil => cases f <;> exact h1.elim
    | cons x σ =>
      cases σ' with
      | nil => exact h2.elim
      | cons x' σ' =>
        obtain ⟨c2, n2, h12, hn2, hnn⟩ := rest h1
        obtain ⟨g1, g2, e', ⟨v, hx, r⟩, h22⟩ := h2
        subst e'
        obtain ⟨m1, m2, m3⟩ := List.nodup_append.mp ne
        obtain ⟨fs', w1, w2, w3⟩ := ih h12 h22 (fun j v hj => by rw [show i + 1 + j = i + (j + 1) by omega]; exact hv (j + 1) v hj) (fun p hp => hk p (hn2 p hp)) (hnn nn) m2 fun p hp hq => hd p (List.mem_append_right _ hp) (hn2 p hq)
        refine ⟨g1 ++ fs', ⟨g1, fs', rfl, ⟨v, hx, Ind.ind r⟩, w1⟩, List.nodup_append.mpr ⟨m1, w2, fun p hp q hq e => ?_⟩, fun p hp => ?_⟩
        · subst e
          rcases w3 p hq with z | z
          · exact m3 p hp p z rfl
          · exact hd p (List.mem_append_left _ hp) (hn2 p z)
        · rcases List.mem_append.mp hp with z | z
          · exact .inl (List.mem_append_left _ z)
          · exact (w3 p z).imp (List.mem_append_right _) (hn2 p)
def ctlOf {S L ρ : Type} : S ⊕ ρ → Ctl S L ρ
  | .inl s => .nx s
  | .inr r => .rt r
theorem Sub.rfl' : ∀ Γ : Ctx, Sub Γ Γ
  | [] => .n
  | _ :: Γ => .k (Sub.rfl' Γ)
section
variable {X : Cx} {Γ : Ctx} {S L ρ α β κ γ A B S' : Type} [Rp ρ] {o : Ow ρ} {Γo : S → Ctx} {ΓL : L → Ctx} {a b e f : Expr} {es : List Expr} {pos p p1 p5 apos cpos pos2 : Pos} {ta tb te tf : TE} {t : TA} {sts : List Stmt} {tr tr' : TS} {tg : Expr}
theorem ex_pin [Rp α] (i : Nat) {x : Str} {pos : Pos} {v0 : V} {q : α} (hl : look Γ i = .mk (α := Pn α) Ow.v ⟨v0, q⟩ := by rfl) (hN : X.N[i]? = some x := by rfl) (hv : Vis X.env.scope x := by first | exact Or.inl rfl | exact Or.inr (Or.inl rfl) | exact Or.inr (Or.inr rfl)) (hd : (x == ("__debug__" : Str)) = false := by decide)
    (hcd : (x == ("__classdict__" : Str)) = false := by decide) : EX X Γ (.Name x pos) Ow.v (pure q) (tVar i) :=
  ⟨pe_var hN hv hd hcd, fun HF0 G HF H σ g c hc Q k => by
    cases pure_ok hc
    obtain ⟨fs, h1, _, _⟩ := g.held
    obtain ⟨v, f, h2, h3, _⟩ := h1.get hl
    exact ⟨v, h2, k.shv g.sub h3.1.2⟩⟩
theorem ss_forV [Rp α] [Inhabited α] [Ind o] {tg iter : Expr} {body : List Stmt} {wi : TI} {g : TG} {tb : TS} {js : List Nat} {m : M (List α)} {Γs : (Nat → V) → S' → Ctx} {Γt : (Nat → V) → S' → α → Ctx} {Γ2 : S' → Ctx} {f : α → S' → M (Ctl S' S' ρ)} {k : S' → M (Ctl S L ρ)} (fl : List Bool) (s0 : S') (hc : X.calm = true) (hxe : PassesOwn (model X.prog X.w) X.A X.env X.xe) (hI : IndC fl Γ)
    (hi : ∀ vs, EI X (pinC vs 0 fl Γ) tg iter m wi) (h0 : ∀ vs, Sub (pinC vs 0 fl Γ) (Γs vs s0))
    (hg : ∀ vs s x, EG X (Γs vs s) tg g x (Γt vs s x) js) (hb : ∀ vs s x, SS X (Γt vs s x) body (Γs vs) (Γs vs) o (f x s) tb) (hp : ∀ vs s, Pe vs 0 fl Γ (Γs vs s) (Γ2 s)) (hr : ∀ s, SS X (Γ2 s) sts Γo ΓL o (k s) tr)
    (hs : ∀ x, foldedSetIterable iter X.env x = pure x := by intro _; rfl) : SS X Γ (.For tg iter body [] pos :: sts) Γo ΓL o (do let xs ← m; let c ← loopM f xs s0; thenL c k) (tSeq (tFor wi g tb) tr) :=
  ⟨pss_cons (ps_for hxe hc (hi fun _ => .non).pi (hg (fun _ => .non) s0 default).pg (hb (fun _ => .non) s0 default).pss hs) (hr s0).pss, fun HF0 G HF H σ gd cc hcc D kk => by
    obtain ⟨fs, h1, h2, h3⟩ := gd.held
    obtain ⟨fc, fn, q0, q1, q2, q3, q4⟩ := hI.split h1 h2
    let vs : Nat → V := fun j => ((σ[j]?).getD none).getD .non
    have hv : ∀ j v, σ[j]? = some (some v) → vs (0 + j) = v := fun j v hj => by
      rw [Nat.zero_add]
      show ((σ[j]?).getD none).getD .non = v
      rw [hj]; rfl
    let LF : Hp := fun p => if p ∈ fc then none else H p
    have hcF : ∀ p ∈ fc, HF p = none ∧ G p = none := fun p hp => h3 p ((q1 p).mpr (.inl hp))
    have sL : Same HF LF := fun p u e => by
      show (if p ∈ fc then none else H p) = some u
      rw [if_neg (fun z => by rw [(hcF p z).1] at e; cases e)]
      exact gd.sub p u e
    have LH : Same LF H := fun p u e => by
      by_cases hp : p ∈ fc
      · rw [show LF p = none from if_pos hp] at e; cases e
      · rw [show LF p = H p from if_neg hp] at e; exact e
    have hnL : ∀ p ∈ fn, ∀ u, H p = some u → LF p = some u := fun p hp u e => by
      show (if p ∈ fc then none else H p) = some u
      rw [if_neg (fun z => q4 p z hp)]; exact e
    have gp : Good X.K LF LF (pinC vs 0 fl Γ) LF H σ := ⟨LH, Same.refl _, Same.refl _ |>.trans LH, fun p u a b => b, fc, SplitH.pin sL hI q0 hnL vs 0 hv, q2, fun p hp => ⟨if_pos hp, if_pos hp⟩⟩
    have hone := ss_for (X := X) (pos := pos) (o := o) (Γ := pinC vs 0 fl Γ) (S := S') (L := L) (Γo := Γs vs) (ΓL := ΓL) (sts := []) (tr := tNext) (k := fun s => pure (.nx s)) s0 hc hxe (hi vs) (h0 vs) (hg vs) (hb vs) (fun s => ss_nil s (Sub.rfl' (Γs vs s))) hs
    obtain ⟨xs, e1, hcc⟩ := bind_ok hcc
    obtain ⟨c1, e2, hcc⟩ := bind_ok hcc
    refine hone.sem LF LF LF H σ gp (ctlOf c1) ?_ { D with nx := tr D } ?_
    · rw [e1]
      show (loopM f xs s0 >>= fun c => thenL c fun s => pure (.nx s)) = _
      rw [e2]
      cases c1 <;> rfl
    · cases c1 with
      | inl s =>
        intro HF1 H1 σ1 s1 g1
        have HH1 : ∀ p ∈ fn, ∀ u, H p = some u → H1 p = some u := fun p hp u e => g1.g0 p u (hnL p hp u e)
        obtain ⟨fe, w1, w2, w3⟩ := g1.held
        have hef : ∀ p ∈ fe, p ∉ fn := fun p hp hq => by
          obtain ⟨u, hu⟩ : ∃ u, H p = some u := h1.dom p ((q1 p).mpr (.inr hq))
          have := hnL p hq u hu
          rw [(w3 p hp).2] at this; cases this
        obtain ⟨fs', z1, z2, z3⟩ := (hp vs s).join q0 w1 hv HH1 q3 w2 hef
        have good2 : Good X.K HF0 G (Γ2 s) HF H1 σ1 := by
          refine ⟨fun p u e => g1.g0 p u (sL p u e), gd.f0, fun p u e => ?_, gd.nf, fs', z1, z2, fun p hp => ?_⟩
          · refine g1.g0 p u ?_
            show (if p ∈ fc then none else H p) = some u
            rw [if_neg (fun z => by rw [(hcF p z).2] at e; cases e)]
            exact gd.g0 p u e
          · rcases z3 p hp with z | z
            · have hL : LF p = none := (w3 p z).2
              constructor
              · cases q : HF p with
                | none => rfl
                | some u => rw [sL p u q] at hL; cases hL
              · cases q : G p with
                | none => rfl
                | some u =>
                  have : LF p = some u := by
                    show (if p ∈ fc then none else H p) = some u
                    rw [if_neg (fun z => by rw [(hcF p z).2] at q; cases q)]
                    exact gd.g0 p u q
                  rw [this] at hL; cases hL
            · exact h3 p ((q1 p).mpr (.inr z))
        exact (hr s).sem HF0 G HF H1 σ1 good2 cc hcc D kk
      | inr r =>
        cases pure_ok (show (pure (.rt r) : M (Ctl S L ρ)) = .ok cc from hcc)
        intro v HF1 H1 fp s1 s2 s3 s4 r1 nd1 fp1
        have GH1 : Same G H1 := fun p u e => s3 p u (by
          show (if p ∈ fc then none else H p) = some u
          rw [if_neg (fun z => by rw [(hcF p z).2] at e; cases e)]
          exact gd.g0 p u e)
        refine kk v HF H1 fp (fun p u e => s3 p u (sL p u e)) gd.f0 GH1 gd.nf (Ind.ind r1) nd1 fun p hp => ?_
        have hL : LF p = none := (fp1 p hp).2
        constructor
        · cases q : HF p with
          | none => rfl
          | some u => rw [sL p u q] at hL; cases hL
        · cases q : G p with
          | none => rfl
          | some u =>
            have : LF p = some u := by
              show (if p ∈ fc then none else H p) = some u
              rw [if_neg (fun z => by rw [(hcF p z).2] at q; cases q)]
              exact gd.g0 p u q
            rw [this] at hL; cases hL⟩
end
end Ty

/-! ## Ty27: x.pop() of own things -/
namespace Ty
open PySem PySem.Spec PyProof.Rows L2
theorem Rl.dropLast {α : Type} {R : V → α → List Addr → Prop} : ∀ {vs : List V} {as : List α} {fp : List Addr}, Rl R vs as fp → ∃ fp', Rl R vs.dropLast as.dropLast fp' ∧ (∀ p ∈ fp', p ∈ fp) ∧ (fp.Nodup → fp'.Nodup)
  | [], [], fp, h => ⟨fp, h, fun _ h => h, fun h => h⟩
  | [v], [a], fp, _ => ⟨[], rfl, by simp, fun _ => List.nodup_nil⟩
  | v :: w :: vs, a :: b :: as, fp, ⟨f1, f2, e, h1, h2⟩ => by
    obtain ⟨f', q1, q2, q3⟩ := Rl.dropLast (vs := w :: vs) (as := b :: as) h2
    refine ⟨f1 ++ f', ⟨f1, f', rfl, h1, q1⟩, fun p hp => ?_, fun nd => ?_⟩
    · rw [e]
      rcases List.mem_append.mp hp with z | z
      · exact List.mem_append_left _ z
      · exact List.mem_append_right _ (q2 p z)
    · rw [e] at nd
      obtain ⟨a1, a2, a3⟩ := List.nodup_append.mp nd
      exact List.nodup_append.mpr ⟨a1, q3 a2, fun p hp q hq e => a3 p hp q (q2 q hq) e⟩
  | [], _ :: _, _, h => h.elim
  | _ :: _, [], _, h => h.elim
  | [_], _ :: _ :: _, _, ⟨_, _, _, _, h⟩ => h.elim
  | _ :: _ :: _, [_], _, ⟨_, _, _, _, h⟩ => h.elim
def popDropM {α : Type} (as : List α) : M (List α) := do gd (decide (0 < as.length)); pure as.dropLast
section
variable {X : Cx} {Γ : Ctx} {S L ρ α β κ γ A B S' : Type} [Rp ρ] {o : Ow ρ} {Γo : S → Ctx} {ΓL : L → Ctx} {a b e f : Expr} {es : List Expr} {pos p p1 p5 apos cpos pos2 : Pos} {ta tb te tf : TE} {t : TA} {sts : List Stmt} {tr tr' : TS} {tg : Expr}
theorem ss_popO [Rp α] {u : Ow α} (i : Nat) {as : List α} {x : Str} {k : List α → M (Ctl S L ρ)} (hr : ∀ y, SS X (put Γ i (.mk (Ow.l u) y)) sts Γo ΓL o (k y) tr) (hl : look Γ i = .mk (Ow.l u) as := by rfl) (hN : X.N[i]? = some x := by rfl) (hv : Vis X.env.scope x := by first | exact Or.inl rfl | exact Or.inr (Or.inl rfl) | exact Or.inr (Or.inr rfl)) (hd : (x == ("__debug__" : Str)) = false := by decide)
    (hcd : (x == ("__classdict__" : Str)) = false := by decide)
    (hpe : ∀ {to : TE}, PE X (.Name x p) to → PE X (.Call (.Attribute (.Name x p) "pop" apos) [] [] cpos) (tBM0 X.K "list" rPop to) := by exact fun h => pe_bm0 PySem.F.plainAttrs_list PySem.F.slot_list_pop PySem.F.type_list_pop mt_pop h)
    (hs : swapsWith (.Call (.Attribute (.Name x p) "pop" apos) [] [] cpos) none pos.line X.env = pure false := by rfl) :
    SS X Γ (.Expr (.Call (.Attribute (.Name x p) "pop" apos) [] [] cpos) pos :: sts) Γo ΓL o (do let l ← popDropM as; k l) (tSeq (tDrop (tBM0 X.K "list" rPop (tVar i))) tr) :=
  ⟨pss_cons (ps_expr (hpe (pe_var hN hv hd hcd)) hs) (hr []).pss, fun HF0 G HF H σ g c hc D kk => by
    obtain ⟨l, e1, hc⟩ := bind_ok hc
    obtain ⟨w, e2, e1⟩ := bind_ok e1
    have e3 := pure_ok e1
    subst e3
    have e4 := of_decide_eq_true (gd_ok e2)
    obtain ⟨v, fo, hσ, ⟨q, vs, fq, h1, h2, h3, h4⟩, nd, hfo, back⟩ := g.take hl
    subst h1 h2
    have hlen := h4.len
    have hlt : vs.length - 1 < vs.length := by omega
    refine ⟨.ref q, hσ, .inl ⟨rfl, vs, SqL.of h3⟩, q, vs, vs[vs.length - 1], rfl, rfl, h3, List.getElem?_eq_getElem hlt, ?_⟩
    obtain ⟨fq', q1, q2, q3⟩ := h4.dropLast
    have hqn := (List.nodup_cons.mp nd).1
    have hq' : q ∉ fq' := fun z => hqn (q2 q z)
    have gg := back (u' := Ow.l u) (b := as.dropLast) (v' := .ref q) (f' := q :: fq') (H' := upd H q (.lst vs.dropLast)) (Step.refl g.sub) (fun p w hp e => by rw [upd_ne (fun z => hp (by rw [z]; exact List.mem_cons_self ..))]; exact e)
      ⟨q, vs.dropLast, fq', rfl, rfl, upd_same, q1.upd hq'⟩ (List.nodup_cons.mpr ⟨hq', q3 (List.nodup_cons.mp nd).2⟩) (fun p hp => by
        rcases List.mem_cons.mp hp with z | z
        · exact .inl (by rw [z]; exact List.mem_cons_self ..)
        · exact .inl (List.mem_cons_of_mem _ (q2 p z)))
    rw [set_self hσ] at gg
    exact (hr as.dropLast).sem HF0 G HF _ σ gg c hc D kk⟩
end
end Ty

/-! ## Ty28: own exceptions without own __init__: raised, let through, caught -/
namespace Ty
open PySem PySem.Spec PyProof.Rows L2
/-- the class of a name -/
abbrev clv (K : PySem.W.Frag) (c : Str) : Value := .ref (He.ga K c)
def vOf (K : PySem.W.Frag) (D : Str) : Value := if D = ("ValueError" : Str) then .type "ValueError" else clv K D
/-- what is told of the classes: c under D or not -/
abbrev CTab := List (Str × Str × Bool)
def exLk (tb : CTab) (c D : Str) : Option Bool := (tb.find? fun p => decide (p.1 = c) && decide (p.2.1 = D)).map (·.2.2)
theorem exLk_mem {tb : CTab} {c D : Str} {b : Bool} (h : exLk tb c D = some b) : (c, D, b) ∈ tb := by
  unfold exLk at h
  obtain ⟨p, h1, h2⟩ := Option.map_eq_some_iff.mp h
  have h3 := List.mem_of_find?_eq_some h1
  have h4 := List.find?_some h1
  simp only [Bool.and_eq_true, decide_eq_true_eq] at h4
  obtain ⟨p1, p2, p3⟩ := p
  simp only at h2 h4
  obtain ⟨rfl, rfl⟩ := h4
  subst h2
  exact h3
def exc1B (K : PySem.W.Frag) (c : Str) : Bool :=
  (PySem.W.excIn K (He.ga K c) He.veBase "ValueError.__new__" && (PySem.W.keepIn K (clv K c) && (decide (PySem.W.subIn K (clv K c) (.type "BaseException") = some true) && (decide (PySem.W.typeIn K (clv K c) = some (.type "type")) &&
  (decide (PySem.W.nsIn K mainGlobals c = some (some (clv K c))) && (decide (PySem.W.findIn K (clv K c) "__getattribute__" = some (some (.builtin "BaseException.__getattribute__"))) && (decide (PySem.W.findIn K (clv K c) "__getattr__" = some none) && (PySem.W.hasDictIn K (He.ga K c) &&
  (decide (PySem.W.findIn K (clv K c) "__class__" = some (some (.builtin "object.__class__"))) && (decide (PySem.W.specialIn K (.builtin "object.__class__") "__get__" = some (some (.builtin "getset_descriptor.__get__"))) && (decide (PySem.W.takesIn K (.builtin "object.__class__") = some true) &&
  decide (PySem.W.mroIn K (He.ga K c) (.type "object") = some true))))))))))))
def exfB (names : List Str) (tb : CTab) (K : PySem.W.Frag) : Bool := names.all (exc1B K) && tb.all fun p => decide (PySem.W.kitOne K (clv K p.1) (vOf K p.2.1) = some p.2.2) && decide (PySem.W.exmOne K (clv K p.1) (vOf K p.2.1) = some p.2.2)
structure ExF (K : PySem.W.Frag) (names : List Str) (tb : CTab) : Prop where
  ok : ∀ c ∈ names, PySem.W.excIn K (He.ga K c) He.veBase "ValueError.__new__" = true ∧ PySem.W.keepIn K (clv K c) = true ∧ PySem.W.subIn K (clv K c) (.type "BaseException") = some true ∧ PySem.W.typeIn K (clv K c) = some (.type "type") ∧ PySem.W.nsIn K mainGlobals c = some (some (clv K c))
  cls : ∀ c ∈ names, ExcC K (He.ga K c)
  kit : ∀ {c D b}, (c, D, b) ∈ tb → PySem.W.kitOne K (clv K c) (vOf K D) = some b
  exm : ∀ {c D b}, (c, D, b) ∈ tb → PySem.W.exmOne K (clv K c) (vOf K D) = some b
theorem exf_of {names : List Str} {tb : CTab} {K : PySem.W.Frag} (h : exfB names tb K = true) : ExF K names tb := by
  unfold exfB at h
  obtain ⟨h1, h2⟩ := Bool.and_eq_true_iff.mp h
  have q : ∀ c ∈ names, exc1B K c = true := fun c hc => List.all_eq_true.mp h1 c hc
  have q2 := fun p hp => List.all_eq_true.mp h2 p hp
  refine ⟨fun c hc => ?_, fun c hc => ?_, fun {c D b} hp => ?_, fun {c D b} hp => ?_⟩
  · have := q c hc
    unfold exc1B at this
    simp only [Bool.and_eq_true, decide_eq_true_eq] at this
    obtain ⟨a1, a2, a3, a4, a5, _⟩ := this
    exact ⟨a1, a2, a3, a4, a5⟩
  · have := q c hc
    unfold exc1B at this
    simp only [Bool.and_eq_true, decide_eq_true_eq] at this
    obtain ⟨a1, a2, a3, a4, a5, b1, b2, b3, b4, b5, b6, b7⟩ := this
    exact ⟨b1, b2, a3, b3, b4, b5, b6, b7⟩
  · have := q2 _ hp
    simp only [Bool.and_eq_true, decide_eq_true_eq] at this
    exact this.1
  · have := q2 _ hp
    simp only [Bool.and_eq_true, decide_eq_true_eq] at this
    exact this.2
theorem ExF.raises {X : Cx} {names : List Str} {tb : CTab} (T : ExF X.K names tb) {c : Str} (hc : c ∈ names) : Raises X (clv X.K c) := raises_own (T.ok c hc).2.2.1 (T.ok c hc).2.2.2.1
/-- a value, or the name of the class of what is raised -/
instance rpRs {ρ : Type} [Rp ρ] : Rp (ρ ⊕ Str) where
  sh K H v x := match x with
    | .inl r => Rp.sh K H v r
    | .inr _ => True
  mono := fun {K H H' v a} e h => by
    cases a with
    | inl r => exact Rp.mono e h
    | inr _ => trivial
def Ow.x {ρ : Type} [Rp ρ] (o : Ow ρ) (cl : Str → Value) (E : XK) : Ow (ρ ⊕ Str) where
  rep K HF H v x fp := match x with
    | .inl r => o.rep K HF H v r fp
    | .inr _ => fp = []
  mono := fun {K HF HF' H H' v a fp} e k h => by
    cases a with
    | inl r => exact o.mono e k h
    | inr _ => exact h
  dom := fun {K HF H v a fp} h p hp => by
    cases a with
    | inl r => exact o.dom h p hp
    | inr _ =>
      have h : fp = [] := h
      subst h; cases hp
  frz := fun {K HF HF' H v a fp} e k h => by
    cases a with
    | inl r => exact o.frz e k h
    | inr _ => trivial
  out x R v H := match x with
    | .inl r => o.out r R v H
    | .inr c => E (cl c) none H
def RetX {ρ : Type} [Rp ρ] (K : PySem.W.Frag) (HF H : Hp) (o : Ow ρ) (c : ρ ⊕ Str) (Q : VK) (E : XK) : Prop := match c with
  | .inl r => RetK K HF H o r Q
  | .inr x => ∀ HF' H', Step HF H HF' H' → E (clv K x) none H'
def spX {A ρ : Type} [Rp ρ] (K : PySem.W.Frag) (r : As A) (o : Ow ρ) (f : A → M (ρ ⊕ Str)) : Sp := fun vs H Q E =>
  ∃ HF a c, Same HF H ∧ r.rep K HF vs a ∧ f a = .ok c ∧ RetX K HF H o c Q E
section
variable {P : Program} {w : World} {K : PySem.W.Frag} {mg : Str → Option Value} {base : Heap}
theorem fn_okX {A ρ : Type} [Rp ρ] {x qual : Str} {params : Arguments} {bd : List Stmt} {scope : Scope} {dvs : List V} {kws : List (Str × V)} {f : Addr} {fd : FuncData} {N ps : List Str} {k : Nat} {r : As A} {o : Ow ρ} {m : A → M (Ctl Unit Empty (ρ ⊕ Str))} (F : FunD K x qual params bd scope dvs kws f fd) (S : FnScope N ps scope) (hn : r.n = ps.length) (hN : N.length = r.n + (N.length - r.n))
    (body : ∀ (cdv : Value) (A' : Around) (outer : List Env) (s : Shared) (H : Hp) (E : XK), Room k (A'.deeper (envOfC qual scope s.heap.objs.size f cdv)) → ∀ a : A, ∃ t : TS,
      SS (cxOf (L2.CX P w) P w K mg base N qual scope f cdv A' outer s H E) (r.ctx a ++ List.replicate (N.length - r.n) .un) bd (fun (_ : Unit) => []) (fun (_ : Empty) => []) (Ow.x o (clv K) E) (m a) t)
    (ho : ∀ r R v H, R v H → o.out r R v H := by exact fun _ _ _ _ h => h) :
    FnOk P w K mg base (L2.CX P w) (k + 1) f fd ps (spX K r o fun a => runC (m a)) := by
  refine F.ok S (fun vs H Q E h => ?_) (fun cdv A' outer s H vs Q E hr h => ?_)
  · obtain ⟨HF, a, c, h1, h2, h3, h4⟩ := h
    rw [r.len h2, hn]
  · obtain ⟨HF, a, c, h1, h2, h3, h4⟩ := h
    obtain ⟨t, q⟩ := body cdv A' outer s H E hr a
    refine ⟨t, q.pss, ?_⟩
    obtain ⟨c', e1, h3⟩ := bind_ok h3
    have hl := r.len h2
    have hd := r.held (HF := HF) (H := H) (N.length - r.n) h2
    have es : L2.start N vs = vs.map some ++ List.replicate (N.length - r.n) none := by unfold L2.start; rw [hl]
    refine q.sem HF H HF H (L2.start N vs) ⟨h1, Same.refl _, Same.refl _, (fun p u a b => by rw [a] at b; cases b), [], by rw [es]; exact hd, List.nodup_nil, fun p hp => by cases hp⟩ c' e1 _ ?_
    cases c' with
    | nx s => cases h3
    | bk l => exact nomatch l
    | ct l => exact nomatch l
    | rt r' =>
      cases pure_ok (show (pure r' : M (ρ ⊕ Str)) = .ok c from h3)
      cases c with
      | inl r0 => exact fun v HF' H' fp a b c' d rr n ff => ho _ _ _ _ <| h4 v HF' H' fp ⟨b, c', a, d⟩ rr n fun p hp => ⟨(ff p hp).2, (ff p hp).1⟩
      | inr x0 => exact fun v HF' H' fp a b c' d rr n ff => h4 HF' H' ⟨b, c', a, d⟩
/-- a def of the text that keeps its promise, or raises -/
def HasX (P : Program) (w : World) (K : PySem.W.Frag) (mg : Str → Option Value) (base : Heap) (x : Str) (k : Nat) (ps : List Str) (sp : Sp) : Prop :=
  ∃ f fd, FnOk P w K mg base (L2.CX P w) k f fd ps sp ∧ mg x = some (.ref f) ∧ PySem.W.keepIn K (.ref f) = true ∧ Binds K fd ps []
end
section
variable {X : Cx} {Γ : Ctx} {S L ρ α β A S' : Type} [Rp ρ] {o : Ow ρ} {Γo : S → Ctx} {ΓL : L → Ctx} {a b e f : Expr} {es : List Expr} {pos p p1 p2 pos2 : Pos} {ta tb te tf : TE} {t : TA} {sts : List Stmt} {tr tr' : TS}
theorem ss_retX {K : PySem.W.Frag} {E : XK} {m : M ρ} (h : EX X Γ e o m te) (ho : ∀ r R v H, o.out r R v H → R v H := by exact fun _ _ _ _ h => h) : SS X Γ [.Return (some e) pos] Γo ΓL (Ow.x o (clv K) E) (do let r ← m; pure (.rt (.inl r))) (tRet te) :=
  ⟨pss_one (ps_ret h.pe), fun HF0 G HF H σ g c hc D k => by
    obtain ⟨r, e1, hc⟩ := bind_ok hc
    cases pure_ok hc
    refine h.sem HF0 G HF H σ g r e1 _ fun v HF' H' fp st rr n f => ?_
    have g' := g.step st
    exact ho _ _ _ _ <| k v HF' H' fp st.sub g'.f0 g'.g0 g'.nf rr n fun p hp => ⟨(f p hp).2, g.g0.free (f p hp).1⟩⟩
def upC (c : Ctl S L ρ) : Ctl S L (ρ ⊕ Str) := match c with
  | .nx s => .nx s
  | .bk l => .bk l
  | .ct l => .ct l
  | .rt r => .rt (.inl r)
theorem ss_upX {K : PySem.W.Frag} {E : XK} {m : M (Ctl S L ρ)} {tr : TS} (h : SS X Γ sts Γo ΓL o m tr) : SS X Γ sts Γo ΓL (Ow.x o (clv K) E) (do let c ← m; pure (upC c)) tr :=
  ⟨h.pss, fun HF0 G HF H σ g c hc D k => by
    obtain ⟨c1, e1, hc⟩ := bind_ok hc
    cases pure_ok hc
    refine h.sem HF0 G HF H σ g c1 e1 D ?_
    cases c1 <;> exact k⟩
theorem ss_retOX {K : PySem.W.Frag} {E : XK} (i : Nat) {r : ρ} {x : Str} {pos' : Pos} (hl : look Γ i = .mk o r := by rfl) (hN : X.N[i]? = some x := by rfl) (hv : Vis X.env.scope x := by first | exact Or.inl rfl | exact Or.inr (Or.inl rfl) | exact Or.inr (Or.inr rfl)) (hd : (x == ("__debug__" : Str)) = false := by decide)
    (hcd : (x == ("__classdict__" : Str)) = false := by decide) (ho : ∀ r R v H, o.out r R v H → R v H := by exact fun _ _ _ _ h => h) : SS X Γ [.Return (some (.Name x pos')) pos] Γo ΓL (Ow.x o (clv K) E) (pure (.rt (.inl r))) (tRet (tVar i)) :=
  ss_upX (K := K) (E := E) (ss_retO (S := S) (L := L) (Γo := Γo) (ΓL := ΓL) (pos := pos) (pos' := pos') i hl hN hv hd hcd ho)
/-- raise C('..') -/
theorem ss_raise {K : PySem.W.Frag} {names : List Str} {tab : CTab} {c m : Str} {j : Nat} {E : XK} (T : ExF K names tab) (hcn : names.contains c = true) (gC : X.mg c = some (clv K c)) (tk : Takes X (fun cls d _ H => E cls d H)) (hc : X.calm = true := by rfl) (hg : Gl X c := by rfl) (hdb : (c == ("__debug__" : Str)) = false := by decide) (hK : X.K = K := by rfl) :
    SS X Γ [.Raise (some (.Call (.Name c p) [.Constant (.str m) j p2] [] pos)) none pos2] Γo ΓL (Ow.x o (clv K) E) (pure (.rt (.inr c))) (fun _ _ H => E (clv K c) none H) := by
  subst hK
  have hcn := List.contains_iff_mem.mp hcn
  exact ⟨pss_one (ps_raise hc tk (pmk_own PySem.F.excBase_ValueError (T.ok c hcn).1 gC (T.ok c hcn).2.1 (T.raises hcn) hg hdb)), fun HF0 G HF H σ g cc hcc D k => by
    cases pure_ok hcc
    exact k .non HF H [] g.sub g.f0 g.g0 g.nf rfl List.nodup_nil fun p hp => by cases hp⟩
/-- an expression that may raise -/
structure EXr [Rp ρ] (X : Cx) (W : WX) (Γ : Ctx) (e : Expr) (o : Ow ρ) (m : M (ρ ⊕ Str)) (t : TE) : Prop where
  pe : PE X e t
  sem : ∀ HF0 G HF H σ, Good X.K HF0 G Γ HF H σ → ∀ c, m = .ok c → ∀ Q : VK, (match c with
    | .inl r => RetK X.K HF H o r Q
    | .inr x => ∀ HF' H', Step HF H HF' H' → W (clv X.K x) none σ H') → t σ H Q
theorem ex_callX {K : PySem.W.Frag} {W : WX} {k : Nat} {f : Addr} {fd : FuncData} {ps : List Str} {x : Str} {r : As A} {fm : A → M (ρ ⊕ Str)} {m : M A} (F : FnOk X.prog X.w X.K X.mg X.base (L2.CX X.prog X.w) k f fd ps (spX K r o fm)) (hr : Room k X.A) (hm : X.mg x = some (.ref f)) (hk : PySem.W.keepIn X.K (.ref f) = true) (hb : Binds X.K fd ps [])
    (tk : Takes X W) (ha : EA X Γ (e :: es) r m t) (hg : Gl X x := by rfl) (hdb : (x == ("__debug__" : Str)) = false := by decide) (he : starEach (e :: es) X.env = (false, eval e X.env) :: starEach es X.env := by rfl) (hpl : (backTo pos (starEach es X.env)).any (·.1) = false := by rfl) (hK : X.K = K := by rfl) :
    EXr X W Γ (.Call (.Name x p) (e :: es) [] pos) o (do let a ← m; fm a) (tCallS (spX K r o fm) (WE W) t) := by
  subst hK
  exact ⟨pe_callS F hr hg hm hk hb (fun σ => passAt tk σ) ha.pa hdb he hpl, fun HF0 G HF H σ g c hc Q kk => by
    obtain ⟨x, e1, hc⟩ := bind_ok hc
    refine ha.sem HF0 G HF H σ g x e1 _ fun vs HF1 H1 s1 r1 => ?_
    refine ⟨HF1, x, c, s1.sub, r1, hc, ?_⟩
    cases c with
    | inl r => exact RetK.back kk s1
    | inr x => exact fun HF' H' st => kk HF' H' (s1.trans st)⟩
def raiseC {α S L ρ : Type} (r : α ⊕ Str) (k : α → M (Ctl S L (ρ ⊕ Str))) : M (Ctl S L (ρ ⊕ Str)) := match r with
  | .inl a => k a
  | .inr c => pure (.rt (.inr c))
section
variable {K : PySem.W.Frag} {E : XK}
theorem raise_out {Γo : S → Ctx} {HF0 G HF H HF' H' : Hp} {σ : L2.St} {c : Str} {D : Ends} (g : Good X.K HF0 G Γ HF H σ) (st : Step HF H HF' H') (kk : EndsOk X.K HF0 G HF Γo ΓL (Ow.x o (clv K) E) D (.rt (.inr c))) : E (clv K c) none H' := by
  have g' := g.step st
  exact kk .non HF' H' [] st.sub g'.f0 g'.g0 g'.nf rfl List.nodup_nil fun p hp => by cases hp
theorem ss_asgX [Rp α] [Inhabited α] (i : Nat) {x : Str} {u : Ow α} {m : M (α ⊕ Str)} {k : α → M (Ctl S L (ρ ⊕ Str))} {pos' : Pos} (hN : X.N.Nodup) (he : EXr X (fun cls d _ H => E cls d H) Γ e u m te) (hr : ∀ a, SS X (put Γ i (.mk u a)) sts Γo ΓL (Ow.x o (clv K) E) (k a) tr) (hlt : Nat.blt i Γ.length = true := by rfl) (hi : X.N[i]? = some x := by rfl) (hx : Loc X.env.scope x := by first | exact .inl rfl | exact .inr rfl)
    (hs : swapsWith e (some (.Name x pos')) pos.line X.env = pure false := by rfl) (hf : X.fn x = true ∨ X.env.scope.names.lookup x = some .local := by first | exact .inl rfl | exact .inr rfl) (hK : X.K = K := by rfl) : SS X Γ (.Assign [.Name x pos'] e pos :: sts) Γo ΓL (Ow.x o (clv K) E) (do let a ← m; raiseC a k) (tSeq (tAsg te (gName i)) tr) := by
  subst hK
  exact ⟨pss_cons (ps_set hN hi hx he.pe hs hf) (hr default).pss, fun HF0 G HF H σ g c hc D kk => by
    obtain ⟨y, e1, hc⟩ := bind_ok hc
    refine he.sem HF0 G HF H σ g y e1 _ ?_
    cases y with
    | inl y =>
      intro v HF' H' fp st r n f
      exact (hr y).sem HF0 G HF' H' _ (g.set (of_blt hlt) st r n f) c hc D (kk.mono st.exF)
    | inr y =>
      intro HF' H' st
      cases pure_ok (show (pure (.rt (.inr y)) : M (Ctl S L (ρ ⊕ Str))) = .ok c from hc)
      exact raise_out g st kk⟩
theorem ss_dropX [Rp α] {u : Ow α} {m : M (α ⊕ Str)} {k : M (Ctl S L (ρ ⊕ Str))} (he : EXr X (fun cls d _ H => E cls d H) Γ e u m te) (hr : SS X Γ sts Γo ΓL (Ow.x o (clv K) E) k tr) (hs : swapsWith e none pos.line X.env = pure false := by rfl) (hK : X.K = K := by rfl) : SS X Γ (.Expr e pos :: sts) Γo ΓL (Ow.x o (clv K) E) (do let a ← m; raiseC a fun _ => k) (tSeq (tDrop te) tr) := by
  subst hK
  exact ⟨pss_cons (ps_expr he.pe hs) hr.pss, fun HF0 G HF H σ g c hc D kk => by
    obtain ⟨y, e1, hc⟩ := bind_ok hc
    refine he.sem HF0 G HF H σ g y e1 _ ?_
    cases y with
    | inl y =>
      intro v HF' H' fp st r n f
      exact hr.sem HF0 G HF' H' σ (g.step st) c hc D (kk.mono st.exF)
    | inr y =>
      intro HF' H' st
      cases pure_ok (show (pure (.rt (.inr y)) : M (Ctl S L (ρ ⊕ Str))) = .ok c from hc)
      exact raise_out g st kk⟩
theorem ss_retC {m : M (ρ ⊕ Str)} (he : EXr X (fun cls d _ H => E cls d H) Γ e o m te) (ho : ∀ r R v H, o.out r R v H → R v H := by exact fun _ _ _ _ h => h) (hK : X.K = K := by rfl) : SS X Γ [.Return (some e) pos] Γo ΓL (Ow.x o (clv K) E) (do let r ← m; pure (.rt r)) (tRet te) := by
  subst hK
  exact ⟨pss_one (ps_ret he.pe), fun HF0 G HF H σ g c hc D k => by
    obtain ⟨r, e1, hc⟩ := bind_ok hc
    cases pure_ok hc
    refine he.sem HF0 G HF H σ g r e1 _ ?_
    cases r with
    | inl r =>
      intro v HF' H' fp st rr n f
      have g' := g.step st
      exact ho _ _ _ _ <| k v HF' H' fp st.sub g'.f0 g'.g0 g'.nf rr n fun p hp => ⟨(f p hp).2, g.g0.free (f p hp).1⟩
    | inr y => exact fun HF' H' st => raise_out g st k⟩
end
/-! ### try -/
structure BX (X : Cx) (W : WX) (Γ : Ctx) (sts : List Stmt) (Γb : α → Ctx) (m : M (α ⊕ Str)) (t : TS) : Prop where
  pss : PSs X sts t
  sem : ∀ HF0 G HF H σ, Good X.K HF0 G Γ HF H σ → ∀ c, m = .ok c → ∀ D : Ends, (match c with
    | .inl a => ∀ HF' H' σ', Same HF HF' → Good X.K HF0 G (Γb a) HF' H' σ' → D.nx σ' H'
    | .inr x => ∀ HF' H', Step HF H HF' H' → W (clv X.K x) none σ H') → t D σ H
theorem bx_asg [Rp α] {W : WX} (i : Nat) {x : Str} {u : Ow α} {m : M (α ⊕ Str)} {pos' : Pos} (hN : X.N.Nodup) (he : EXr X W Γ e u m te) (hlt : Nat.blt i Γ.length = true := by rfl) (hi : X.N[i]? = some x := by rfl) (hx : Loc X.env.scope x := by first | exact .inl rfl | exact .inr rfl)
    (hs : swapsWith e (some (.Name x pos')) pos.line X.env = pure false := by rfl) (hf : X.fn x = true ∨ X.env.scope.names.lookup x = some .local := by first | exact .inl rfl | exact .inr rfl) : BX X W Γ [.Assign [.Name x pos'] e pos] (fun a => put Γ i (.mk u a)) m (tAsg te (gName i)) :=
  ⟨pss_one (ps_set hN hi hx he.pe hs hf), fun HF0 G HF H σ g c hc D kk => by
    refine he.sem HF0 G HF H σ g c hc _ ?_
    cases c with
    | inl y => exact fun v HF' H' fp st r n f => kk HF' H' _ st.exF (g.set (of_blt hlt) st r n f)
    | inr y => exact kk⟩
theorem bx_drop [Rp α] {W : WX} {u : Ow α} {m : M (α ⊕ Str)} (he : EXr X W Γ e u m te) (hs : swapsWith e none pos.line X.env = pure false := by rfl) : BX X W Γ [.Expr e pos] (fun (_ : α) => Γ) m (tDrop te) :=
  ⟨pss_one (ps_expr he.pe hs), fun HF0 G HF H σ g c hc D kk => by
    refine he.sem HF0 G HF H σ g c hc _ ?_
    cases c with
    | inl y => exact fun v HF' H' fp st r n f => kk HF' H' _ st.exF (g.step st)
    | inr y => exact kk⟩
/-- the exception that a suite holds -/
structure ExO where
  a : Addr
instance : Rp ExO where
  sh _ _ v x := v = .ref x.a
  mono := fun _ h => h
theorem Good.unset {K : PySem.W.Frag} {HF0 G HF H : Hp} {σ : L2.St} {i : Nat} (g : Good K HF0 G Γ HF H σ) (hi : i < Γ.length) : Good K HF0 G (put Γ i .un) HF H (σ.set i none) := by
  obtain ⟨fs, h1, h2, h3⟩ := g.held
  obtain ⟨fo, fr', q1, q2, q3, q4⟩ := h1.put hi
  obtain ⟨n1, n2, n3⟩ := q3 h2
  obtain ⟨fs', w1, w2, w3⟩ := q4 (HF' := HF) (H' := H) (s := .un) (x := none) (f := []) (fun _ h => h) (fun _ h => h) rfl
  refine ⟨g.sub, g.f0, g.g0, g.nf, fs', w1, w3 n1 List.nodup_nil (fun p hp hq => by cases hp), fun p hp => ?_⟩
  rcases (w2 p).mp hp with z | z
  · cases z
  · exact h3 p ((q2 p).mpr (.inr z))
def thenE {S1 : Type} (c : Ctl S1 Empty ρ) (k : S1 → M (Ctl S L ρ)) : M (Ctl S L ρ) := match c with
  | .nx s => k s
  | .bk l => nomatch l
  | .ct l => nomatch l
  | .rt r => pure (.rt r)
def tryC {S1 : Type} (tab : CTab) (names : List Str) (Dn : Str) (r : α ⊕ Str) (fa : α → S1) (s : Str → M (Ctl S1 Empty ρ)) : M (Ctl S1 Empty ρ) := match r with
  | .inl a => pure (.nx (fa a))
  | .inr c => do gd (names.contains c && decide (exLk tab c Dn = some true)); s c
theorem ss_try {S1 : Type} {K : PySem.W.Frag} {names : List Str} {tab : CTab} (i : Nat) {Dn n : Str} {body suite : List Stmt} {b₀ : Stmt} {np pos' : Pos} {Γb : α → Ctx} {Γ1 Γs : S1 → Ctx} {m : M (α ⊕ Str)} {mS : Str → M (Ctl S1 Empty ρ)} {k : S1 → M (Ctl S L ρ)} {tbo : WX → TS} {ts : Addr → Str → TS} (fa : α → S1) (T : ExF K names tab)
    (hst : X.stack = X.env :: X.outer) (hfr : X.env.frame = some X.env.locals) (hN : X.N.Nodup) (gC : X.mg Dn = some (clv K Dn))
    (hb : ∀ (W : WX) (pn : List (Addr × Obj)) (xe : Value → Shared → Prop), Takes (X.tr pn xe) W → BX (X.tr pn xe) W Γ body Γb m (tbo W))
    (hj1 : ∀ a, Sub (Γb a) (Γ1 (fa a)))
    (hsu : ∀ (a : Addr) (c : Str) (oe : Obj) (pn : List (Addr × Obj)), ExcC K (He.ga K c) → Zc (clv K c) none oe → (∃ vs, oe.data = .fields vs) → SS (X.suite a ((a, oe) :: pn)) (put Γ i (.mk (α := ExO) Ow.v ⟨a⟩)) (b₀ :: suite) Γs (fun (l : Empty) => nomatch l) o (mS c) (ts a c))
    (hj2 : ∀ s, Sub (put (Γs s) i .un) (Γ1 s)) (hls : ∀ s, Nat.blt i (Γs s).length = true)
    (hr : ∀ s, SS X (Γ1 s) sts Γo ΓL o (k s) tr) (hd1 : S1)
    (hlt : Nat.blt i Γ.length = true := by rfl) (hi : X.N[i]? = some n := by rfl) (hln : X.env.kindOf n = some .local := by rfl) (hg : Gl X Dn := by rfl) (hdb : (Dn == ("__debug__" : Str)) = false := by decide) (hDv : Dn ≠ ("ValueError" : Str) := by decide) (hK : X.K = K := by rfl) :
    SS X Γ (.Try body [.ExceptHandler (some (.Name Dn np)) (some n) (b₀ :: suite) pos'] [] [] pos :: sts) Γo ΓL o (do let r ← m; let y ← tryC tab names Dn r fa mS; thenE y k)
      (tSeq (fun D σ H => tbo (wAs X.K (clv X.K Dn) i (fun a cls d D σ H => ∃ c, cls = clv X.K c ∧ d = none ∧ names.contains c = true ∧ ts a c D σ H) (fun _ _ _ _ => False) D) D σ H) tr) := by
  subst hK
  refine ⟨pss_cons (ps_try_as (tb := tbo) (ts := fun a cls d D σ H => ∃ c, cls = clv X.K c ∧ d = none ∧ names.contains c = true ∧ ts a c D σ H) (Wout := fun _ _ _ _ => False) hst hfr hN hi hln ⟨hg, hdb, .inl gC⟩ takes0 (fun W pn xe tk _ => (hb W pn xe tk).pss) fun a oe cls d pn hz hf => ?_) (hr hd1).pss, ?_⟩
  · refine ⟨fun pins s σ H D I h => ?_⟩
    obtain ⟨c, h1, h2, h3, h4⟩ := h
    subst h1 h2
    exact (hsu a c oe pn (T.cls c (List.contains_iff_mem.mp h3)) hz hf).pss.run pins s σ H D I h4
  · intro HF0 G HF H σ g cc hcc D kk
    obtain ⟨r, e1, hcc⟩ := bind_ok hcc
    obtain ⟨y, e2, hcc⟩ := bind_ok hcc
    refine (hb _ X.pn (fun _ _ => True) (fun _ _ _ => trivial)).sem HF0 G HF H σ g r e1 _ ?_
    · cases r with
      | inl a =>
        cases pure_ok (show (pure (.nx (fa a)) : M (Ctl S1 Empty ρ)) = .ok y from e2)
        intro HF' H' σ' sm g'
        exact (hr (fa a)).sem HF0 G HF' H' σ' ((hj1 a).good g') cc hcc D (kk.mono sm)
      | inr c =>
        obtain ⟨_, e3, e2⟩ := bind_ok (show (gd (names.contains c && decide (exLk tab c Dn = some true)) >>= fun _ => mS c) = .ok y from e2)
        obtain ⟨hcn, hex⟩ := Bool.and_eq_true_iff.mp (gd_ok e3)
        have hex := exLk_mem (of_decide_eq_true hex)
        intro HF' H' st
        have hx := T.exm hex
        rw [show vOf X.K Dn = clv X.K Dn from if_neg hDv] at hx
        refine ⟨true, hx, fun _ a ha => ?_, fun q => by cases q⟩
        refine ⟨c, rfl, rfl, hcn, ?_⟩
        have g2 : Good X.K HF0 G (put Γ i (.mk (α := ExO) Ow.v ⟨a⟩)) HF' H' (σ.set i (some (.ref a))) := g.set (of_blt hlt) st (u := Ow.v) (a := (⟨a⟩ : ExO)) (fp := []) ⟨rfl, rfl⟩ List.nodup_nil fun p hp => by cases hp
        have hcl := T.cls c (List.contains_iff_mem.mp hcn)
        refine (hsu a c ⟨clv X.K c, none, .fields #[], #[]⟩ [] hcl ⟨rfl, rfl⟩ ⟨_, rfl⟩).sem HF0 G HF' H' _ g2 y e2 _ ?_
        cases y with
        | nx s =>
          intro HF2 H2 σ2 sm2 g3
          have g4 := (hj2 s).good (g3.unset (of_blt (hls s)))
          exact (hr s).sem HF0 G HF2 H2 _ g4 cc hcc D (kk.mono (st.exF.trans sm2))
        | bk l => exact nomatch l
        | ct l => exact nomatch l
        | rt r =>
          cases pure_ok (show (pure (.rt r) : M (Ctl S L ρ)) = .ok cc from hcc)
          exact kk.mono st.exF
/-- isinstance(e, D), e the exception that the suite holds -/
theorem ex_isE {K : PySem.W.Frag} {names : List Str} {tab : CTab} {q : ExO} {D : Str} {c : Str} {ad : Addr} {oe : Obj} {pn : List (Addr × Obj)} {n : Str} {pe : Pos} (T : ExF X.K names tab) (hm : X.mg "isinstance" = none) (gD : X.mg D = some (clv X.K D)) (C : ExcC X.K (He.ga X.K c)) (hz : Zc (clv X.K c) none oe) (hf : ∃ vs, oe.data = .fields vs)
    (h : EX (X.suite ad ((ad, oe) :: pn)) Γ e Ow.v (pure (⟨ad⟩ : ExO)) te) (hg : Gl X "isinstance" := by rfl) (hgD : Gl X D := by rfl) (hdb : (D == ("__debug__" : Str)) = false := by decide) (hDv : D ≠ ("ValueError" : Str) := by decide)
    (h1 : starEach [e, .Name D p1] X.env = (false, eval e X.env) :: starEach [.Name D p1] X.env := by rfl) (h2 : starEach [.Name D p1] X.env = (false, eval (.Name D p1) X.env) :: starEach [] X.env := by rfl) (hpl : (backTo pos (starEach [.Name D p1] X.env)).any (·.1) = false := by rfl) (hK : X.K = K := by rfl) :
    EX (X.suite ad ((ad, oe) :: pn)) Γ (.Call (.Name "isinstance" p) [e, .Name D p1] [] pos) Ow.v (ofO (exLk tab c D)) (tCB (rIsE K (He.ga K c) ad) (tCons te (tCons (tC (.ref (He.ga K D))) tNil))) := by
  subst hK
  exact ⟨pe_callB (call_isE C hz hf) hg hm (by decide +kernel) (pa_cons h.pe (pa_cons (pe_glob hgD gD rfl hdb) pa_nil h2) h1) (by decide) (by decide) h1 hpl, fun HF0 G HF H σ g b hb Q k => by
    refine h.sem HF0 G HF H σ g _ rfl _ fun v HF1 H1 fp s1 r1 _ _ => ?_
    obtain ⟨r1, _⟩ := r1
    have r1 : v = .ref ad := r1
    subst r1
    have e1 : exLk tab c D = some b := by
      unfold ofO at hb
      split at hb
      · rename_i q; rw [q]; injection hb with z; rw [z]
      · cases hb
    have e2 := T.kit (exLk_mem e1)
    rw [show vOf X.K D = clv X.K D from if_neg hDv] at e2
    exact ⟨.ref (He.ga X.K D), clv X.K D, b, rfl, fun u h => h, e2, (k.back s1).flat s1.sub⟩⟩
theorem ex_isEV {K : PySem.W.Frag} {names : List Str} {tab : CTab} {c : Str} {ad : Addr} {oe : Obj} {pn : List (Addr × Obj)} {n : Str} {pe : Pos} (T : ExF X.K names tab) (hm : X.mg "isinstance" = none) (gD : X.mg "ValueError" = none) (C : ExcC X.K (He.ga X.K c)) (hz : Zc (clv X.K c) none oe) (hf : ∃ vs, oe.data = .fields vs)
    (h : EX (X.suite ad ((ad, oe) :: pn)) Γ e Ow.v (pure (⟨ad⟩ : ExO)) te) (hg : Gl X "isinstance" := by rfl) (hgD : Gl X "ValueError" := by rfl)
    (h1 : starEach [e, .Name "ValueError" p1] X.env = (false, eval e X.env) :: starEach [.Name "ValueError" p1] X.env := by rfl) (h2 : starEach [.Name "ValueError" p1] X.env = (false, eval (.Name "ValueError" p1) X.env) :: starEach [] X.env := by rfl) (hpl : (backTo pos (starEach [.Name "ValueError" p1] X.env)).any (·.1) = false := by rfl) (hK : X.K = K := by rfl) :
    EX (X.suite ad ((ad, oe) :: pn)) Γ (.Call (.Name "isinstance" p) [e, .Name "ValueError" p1] [] pos) Ow.v (ofO (exLk tab c "ValueError")) (tCB (rIsE K (He.ga K c) ad) (tCons te (tCons (tC (.ty "ValueError")) tNil))) := by
  subst hK
  exact ⟨pe_callB (call_isE C hz hf) hg hm (by decide +kernel) (pa_cons h.pe (pa_cons (pe_bltn (v := .ty "ValueError") hgD gD (by decide +kernel) rfl (by decide) (by decide)) pa_nil h2) h1) (by decide) (by decide) h1 hpl, fun HF0 G HF H σ g b hb Q k => by
    refine h.sem HF0 G HF H σ g _ rfl _ fun v HF1 H1 fp s1 r1 _ _ => ?_
    obtain ⟨r1, _⟩ := r1
    have r1 : v = .ref ad := r1
    subst r1
    have e1 : exLk tab c "ValueError" = some b := by
      unfold ofO at hb
      split at hb
      · rename_i q; rw [q]; injection hb with z; rw [z]
      · cases hb
    have e2 := T.kit (exLk_mem e1)
    rw [show vOf X.K "ValueError" = .type "ValueError" from if_pos rfl] at e2
    exact ⟨.ty "ValueError", .type "ValueError", b, rfl, fun u h => h, e2, (k.back s1).flat s1.sub⟩⟩
end
end Ty

/-! ## Ty29: sorted(set(..)) of a list of whole numbers -/
namespace Ty
open PySem PySem.Spec PyProof.Rows L2
section
variable {P : Program} {w : World} {A : Around} {E : Value → Shared → Prop} {s : Shared}
abbrev set0 (w : World) : Obj := { cls := .type "set", dict := none, data := .set #[] 0 (.fresh 0 0 (!w.params.followText "set-order")) }
set_option maxHeartbeats 3200000 in
theorem call_set_lstI {l : Addr} {items : Array Value} (ns : List Int) {Q : Value → Shared → Prop} (hh : A.handled = none) (hl : s.heap.IsList l items) (hit : IntsAre items.toList ns) (hb : ns.length + 1 < scanBound)
    (h : ∀ (h' : Heap) (tk c : Nat), SetR w h' s.heap.objs.size (fun j => decide (j ∈ ns)) c → c ≤ ns.length → (∀ b o, s.heap.get? b = some o → h'.get? b = some o) → Q (.ref s.heap.objs.size) { s with heap := h', toks := tk }) :
    wpAny (model P w) A (call (.type "set") [.ref l]) Q E s := by
  have hisz : items.size = ns.length := by
    have q := IntsAre.length hit
    rwa [Array.length_toList] at q
  have ⟨c, tl, hmro⟩ := PySem.F.called_set.mro
  have hmade := PySem.F.called_set.made
  have hsub := PySem.F.called_set.sub
  have h1 := PySem.F.called_set.notType
  have h2 := PySem.F.called_set.canCreate
  have hct := PySem.F.typeCall_set_1 (.ref l)
  refine wpAny_call (codeAny_of_tree ?_)
  show wpAny _ _ (callAny (.type "set") _) _ _ _
  refine wpAny_pure ⟨Code.quiet_builtin _ (by decide +kernel), codeAny_builtin PySem.F.entry_type_call ?_⟩
  rw [Around.under_plain (weight_type_call_type "set" [.ref l] []) rfl]
  repeat (any_goals (first | assumption | wp_step))
  refine codeAny_mono (code_set_led1 (.ref l) (E := E) (Q₁ := fun obj s₁ => obj = .ref s.heap.objs.size ∧ s₁ = { s with heap := s.heap.push (set0 w) }) ⟨rfl, rfl⟩) fun r s₁ hr => ?_
  cases r with
  | error e => exact hr
  | ok fl =>
    cases fl with
    | ret obj =>
      obtain ⟨rfl, rfl⟩ := hr
      have hS : (s.heap.push (set0 w)).get? s.heap.objs.size = some (set0 w) := Heap.get?_push_size _ rfl
      have hT : Shared.TypeIs { s with heap := s.heap.push (set0 w) } (.ref s.heap.objs.size) "set" := ⟨_, hS, rfl⟩
      have hli := PySem.F.called_set.init.lookup
      have hbi := PySem.F.called_set.init.bind (.ref s.heap.objs.size)
      repeat (any_goals (first | assumption | wp_step))
      refine codeAny_mono (codeAny_call_builtin (R := wants (fun r s₂ => r = .none ∧ ∃ h' tk c, s₂ = { s with heap := h', toks := tk } ∧ SetR w h' s.heap.objs.size (fun j => decide (j ∈ ns)) c ∧ c ≤ ns.length ∧
          (∀ b o, s.heap.get? b = some o → h'.get? b = some o)) E) PySem.F.called_set.init.plain PySem.F.entry_set_init (check_set_init_1 hT ?_)) fun r₂ s₂ hr₂ => ?_
      · obtain ⟨⟨_, odict, _, oslots⟩, hol, hcl, nl, hdl⟩ := hl
        simp only at hcl hdl
        subst hcl hdl
        have hol' := Heap.get?_push_of_some (set0 w) hol
        have hsls := PySem.F.sub_list_set
        have hslf := PySem.F.sub_list_frozenset
        have hne : (Value.type "list" == Value.type "dict") = false := by decide
        have hl1 : (s.heap.push (set0 w)).IsList l items := ⟨_, hol', rfl, nl, rfl⟩
        unfold Builtin.«set.__init__» noKeywords Builtin.Frozenset.updateFrom
        generalize hPI : pyIter = PI
        wp_walk
        subst hPI
        refine wpAny_pyIter_list hl1 ?_
        refine wpAny_bind (wpAny_runValue ?_)
        have hlS : l < s.heap.objs.size := Heap.lt_size hol
        have hsz : (s.heap.push (set0 w)).objs.size = s.heap.objs.size + 1 := Heap.size_push ..
        have hneI : l ≠ (s.heap.push (set0 w)).objs.size := by rw [hsz]; exact Nat.ne_of_lt (Nat.lt_succ_of_lt hlS)
        have hSf : s.heap.objs.size ∉ [(s.heap.push (set0 w)).objs.size, l] := by
          rw [hsz]; simp only [List.mem_cons, List.not_mem_nil, or_false, not_or]; exact ⟨Nat.ne_of_lt (Nat.lt_succ_self _), Nat.ne_of_gt hlS⟩
        have hval : ∀ (i : Nat) (v : Value), items[i]? = some v → ∃ k t, ns[i]? = some k ∧ v = .int k t := fun i v hv => by
          have hi : i < ns.length := by rw [← hisz]; exact (Array.getElem?_eq_some_iff.mp hv).1
          obtain ⟨t, e⟩ := IntsAre.int_at hit i v (by rw [Array.getElem?_toList]; exact hv)
          refine ⟨ns[i], t, List.getElem?_eq_getElem hi, ?_⟩
          rw [e, List.getD_eq_getElem?_getD, List.getElem?_eq_getElem hi] <;> rfl
        refine set_update_ints ((Walks.list (by simp [hh]) _ l hneI items).toS) s.heap.objs.size hSf ns hisz hb hval (items.size - 0) 0 _ (by omega) (Nat.zero_le _) ⟨⟨_, Heap.get?_push_size _ rfl, rfl, rfl⟩, (hl1.push _)⟩ ⟨0, Nat.le_refl 0, setR_new_at (Heap.get?_push_of_some _ hS)⟩ ?_
        intro s' c' hm hc' hS'
        obtain ⟨h', g2, d', tk', os'⟩ := s'
        obtain rfl : g2 = s.gens := hm.gens
        obtain rfl : d' = s.drawn := hm.drawn
        obtain rfl : os' = s.os := hm.os
        show wpAny _ _ _ _ _ _
        refine wpAny_pure ?_
        show wpAny _ _ (ret Value.none) _ _ _
        rw [hisz] at hc'
        refine wpAny_pure ⟨rfl, h', tk', c', rfl, hS', hc', fun b o e => ?_⟩
        have hb0 : b < s.heap.objs.size := Heap.lt_size e
        refine hm.heap b o ?_ (Heap.get?_push_of_some _ (Heap.get?_push_of_some _ e))
        simp only [List.mem_cons, List.not_mem_nil, or_false, not_or]
        exact ⟨Nat.ne_of_lt hb0, by rw [hsz]; exact Nat.ne_of_lt (Nat.lt_succ_of_lt hb0)⟩
      · cases r₂ with
        | error e => exact hr₂
        | ok fl₂ =>
          cases fl₂ with
          | ret r =>
            obtain ⟨rfl, h', tk, c', rfl, hS', hc', hk'⟩ := hr₂
            repeat (any_goals (first | assumption | wp_step))
            exact h _ _ _ hS' hc' hk'
          | _ => exact hr₂.elim
    | _ => exact hr.elim
end
/-- sorted(set(ns)) -/
def tSortSet (K : PySem.W.Frag) (ta : TE) : TE := fun σ H Q => ta σ H fun x H1 => ∃ (l : Addr) (ns : List Int), x = .ref l ∧ SqL K H1 l (ns.map V.int) ∧ ns.length ≤ 60 ∧
  ∀ (ms : List Int) (p : Addr) (H2 : Hp), ms.Pairwise (· < ·) → (∀ k : Int, k ∈ ms ↔ k ∈ ns) → H1 p = none → Same H1 H2 → H2 p = some (.lst (ms.map V.int)) → Q (.ref p) H2
/-- each once -/
def once (l : List Int) : List Int := l.foldr (fun x r => if x ∈ r then r else x :: r) []
theorem once_cons (x : Int) (l : List Int) : once (x :: l) = if x ∈ once l then once l else x :: once l := rfl
theorem mem_once {x : Int} : ∀ {l : List Int}, x ∈ once l ↔ x ∈ l
  | [] => Iff.rfl
  | y :: l => by
    rw [once_cons]
    have ih := mem_once (x := x) (l := l)
    split
    · rename_i h
      rw [ih, List.mem_cons]
      constructor
      · exact .inr
      · rintro (z | z)
        · rw [z]; exact mem_once.mp h
        · exact z
    · rw [List.mem_cons, List.mem_cons, ih]
theorem nodup_once : ∀ {l : List Int}, (once l).Nodup
  | [] => List.nodup_nil
  | y :: l => by
    rw [once_cons]
    split
    · exact nodup_once
    · exact List.nodup_cons.mpr ⟨‹_›, nodup_once⟩
/-- rising, each once -/
def sset (l : List Int) : List Int := isort (once l)
theorem isort_perm (l : List Int) : (isort l).Perm l := List.mergeSort_perm _ _
theorem isort_up (l : List Int) : (isort l).Pairwise (· ≤ ·) := by
  have h1 : List.Pairwise (fun a b : Int => decide (a ≤ b) = true) (isort l) := List.pairwise_mergeSort (fun a b c h1 h2 => by simp at *; omega) (fun a b => by simp; omega) l
  exact h1.imp fun h => by simpa using h
theorem mem_sset {x : Int} {l : List Int} : x ∈ sset l ↔ x ∈ l := (isort_perm _).mem_iff.trans mem_once
theorem sset_up (l : List Int) : (sset l).Pairwise (· < ·) := by
  have h1 := isort_up (once l)
  have h2 : (sset l).Nodup := (isort_perm _).nodup_iff.mpr nodup_once
  rw [List.nodup_iff_pairwise_ne] at h2
  exact (List.pairwise_and_iff.mpr ⟨h1, h2⟩).imp fun ⟨a, b⟩ => by omega
theorem up_uniq {a b : List Int} (ha : a.Pairwise (· < ·)) (hb : b.Pairwise (· < ·)) (h : ∀ x, x ∈ a ↔ x ∈ b) : a = b := by
  have na : a.Nodup := by rw [List.nodup_iff_pairwise_ne]; exact ha.imp fun h => by omega
  have nb : b.Nodup := by rw [List.nodup_iff_pairwise_ne]; exact hb.imp fun h => by omega
  exact List.Perm.eq_of_pairwise (le := fun (x y : Int) => x ≤ y) (fun a b _ _ h1 h2 => by omega) (ha.imp fun h => by omega) (hb.imp fun h => by omega) ((List.perm_ext_iff_of_nodup na nb).mpr h)
theorem sset_eq {a l : List Int} (ha : a.Pairwise (· < ·)) (h : ∀ x, x ∈ a ↔ x ∈ l) : a = sset l := up_uniq ha (sset_up l) fun x => (h x).trans mem_sset.symm
def sortSetM (a : List Int) : M (List Int) := do gd (decide (a.length ≤ 60)); pure (sset a)
theorem sortSetM_ok {a : List Int} (h : a.length ≤ 60) : sortSetM a = .ok (sset a) := by
  unfold sortSetM
  rw [decide_eq_true h]; rfl
section
variable {X : Cx} {Γ : Ctx} {a : Expr} {p p2 q : Pos} {ta : TE}
theorem pe_sortSet (hg : Gl X "sorted") (hm : X.mg "sorted" = none) (hg2 : Gl X "set") (hm2 : X.mg "set" = none) (ha : PE X a ta) (hc : X.calm = true := by rfl)
    (na : starEach [a] X.env = (false, eval a X.env) :: starEach [] X.env := by rfl) : PE X (.Call (.Name "sorted" p) [.Call (.Name "set" p2) [a] [] q] [] pos) (tSortSet X.K ta) := by
  refine ⟨fun pins s σ H Q I h => ?_⟩
  refine Call_ (ld_blt (u := .builtin "sorted") I hg hm (by decide +kernel) ?_)
  refine PyProof.Rows.callWith_builtin1 (PyProof.Rows.args_cons ?_ rfl) rfl rfl
  refine Call_ (ld_blt I hg2 hm2 boot_set ?_)
  refine PyProof.Rows.callWith_type1 (PyProof.Rows.args_cons (thn (ha.run pins s σ H _ I h) fun v s1 ⟨x, H1, I1, r1, q1⟩ => PyProof.Rows.args_nil ?_) na) na rfl
  obtain ⟨l, ns, rfl, hq, hl, q1⟩ := q1
  cases r1
  obtain ⟨its, r, pl, hz⟩ := I1.list hq
  have hlen : its.toArray.size = ns.length := by rw [List.size_toArray, ← r.length, List.length_map]
  have hi : IntsAre its.toArray.toList ns := by simpa using RZ.intsAre_vals r
  refine call_set_lstI ns (I1.ok.hd hc) pl.isList hi (by unfold scanBound; omega) fun h' tk c hS hcl hk => ?_
  refine PyProof.Rows.args_nil ?_
  have I2 : Inv X pins σ H1 { s1 with heap := h', toks := tk } := I1.kept fun b o e => hk b o e
  have q := cr_sortedSet (X := X) hc
  have hfresh : H1 s1.heap.objs.size = none := I1.hok.fresh (Nat.le_refl _)
  have I3 : Inv X pins σ (upd H1 s1.heap.objs.size (SetO X.w s1.heap.objs.size (fun j => decide (j ∈ ns)) c)) { s1 with heap := h', toks := tk } := I1.laid (t' := tk) hk (Nat.le_refl _) (setO_new hS)
  refine q pins _ σ _ [.ref s1.heap.objs.size] [.ref s1.heap.objs.size] Q I3 (.cons rfl .nil) ?_
  refine ⟨_, _, c, rfl, upd_same, by omega, fun ms p h1 h2 h3 h4 => ?_⟩
  have hne : p ≠ s1.heap.objs.size := fun z => by rw [z, upd_same] at h4; cases h4
  have h4' : H1 p = none := by rw [upd_ne hne] at h4; exact h4
  refine q1 ms p _ h1 (fun k => (h2 k).trans (by simp)) h4' (fun b u e => ?_) upd_same
  rw [upd_ne (ne_of_none e h4'), upd_ne (ne_of_none e hfresh)]; exact e
theorem ex_sortSet {K : PySem.W.Frag} {m : M (List Int)} (hc : X.calm = true) (hm : X.mg "sorted" = none) (hm2 : X.mg "set" = none) (h : EX X Γ a Ow.v m ta) (hg : Gl X "sorted" := by rfl) (hg2 : Gl X "set" := by rfl) (na : starEach [a] X.env = (false, eval a X.env) :: starEach [] X.env := by rfl) (hK : X.K = K := by rfl) :
    EX X Γ (.Call (.Name "sorted" p) [.Call (.Name "set" p2) [a] [] q] [] pos) (Ow.l Ow.v) (do let a ← m; sortSetM a) (tSortSet K ta) := by
  subst hK
  exact ⟨pe_sortSet hg hm hg2 hm2 h.pe hc na, fun HF0 G HF H σ g c hcc Q k => by
    obtain ⟨x, e1, hcc⟩ := bind_ok hcc
    obtain ⟨u, e2, hcc⟩ := bind_ok hcc
    cases pure_ok hcc
    refine h.sem HF0 G HF H σ g x e1 _ fun v HF1 H1 fp s1 r1 _ _ => ?_
    obtain ⟨⟨l, us, e, h1, h2⟩, _⟩ := r1
    have e3 := Fa.flat.mp h2
    subst e3
    refine ⟨l, x, e, SqL.of (s1.sub _ _ h1), of_decide_eq_true (gd_ok e2), fun ms p H2 p1 p2 p3 p4 p5 => ?_⟩
    have em := sset_eq p1 p2
    subst em
    have hp0 : ∀ (M : Hp), Same M H1 → M p = none := fun M sm => by
      cases z : M p with
      | none => rfl
      | some u =>
        have := sm _ _ z
        rw [p3] at this; cases this
    exact k (.ref p) HF1 H2 [p] (s1.trans ⟨Same.refl _, p4, s1.sub.trans p4, fun b u e f => by rw [f] at e; cases e⟩) ⟨p, (sset x).map V.int, [], rfl, rfl, p5, Rl.ofFa (Fa.flat.mpr rfl)⟩ (by simp) fun b hb => by
      rw [List.mem_singleton.mp hb]
      exact ⟨hp0 H s1.exH, hp0 HF1 s1.sub⟩⟩
end
end Ty

/-! ## Ty30: defs without a return; lists that may be another's -/
namespace Ty
open PySem PySem.Spec PyProof.Rows L2
def runU (m : M (Ctl Unit Empty Unit)) : M Unit := do
  let c ← m
  match c with
  | .nx _ => pure ()
  | .rt r => pure r
  | _ => no
section
variable {P : Program} {w : World} {K : PySem.W.Frag} {mg : Str → Option Value} {base : Heap}
theorem fn_okU {A : Type} {x qual : Str} {params : Arguments} {bd : List Stmt} {scope : Scope} {dvs : List V} {kws : List (Str × V)} {f : Addr} {fd : FuncData} {N ps : List Str} {k : Nat} {r : As A} {m : A → M (Ctl Unit Empty Unit)} (F : FunD K x qual params bd scope dvs kws f fd) (S : FnScope N ps scope) (hn : r.n = ps.length) (hN : N.length = r.n + (N.length - r.n))
    (body : ∀ (cdv : Value) (A' : Around) (outer : List Env) (s : Shared) (H : Hp) (E : XK), Room k (A'.deeper (envOfC qual scope s.heap.objs.size f cdv)) → ∀ a : A, ∃ t : TS,
      SS (cxOf CX0 P w K mg base N qual scope f cdv A' outer s H E).nox (r.ctx a ++ List.replicate (N.length - r.n) .un) bd (fun (_ : Unit) => List.replicate N.length .un) (fun (_ : Empty) => []) (Ow.v : Ow Unit) (m a) t) :
    FnOk P w K mg base CX0 (k + 1) f fd ps (spF K r (Ow.v : Ow Unit) fun a => runU (m a)) := by
  refine F.ok S (fun vs H Q E h => ?_) (fun cdv A' outer s H vs Q E hr h => ?_)
  · obtain ⟨HF, a, c, h1, h2, h3, h4⟩ := h
    rw [r.len h2, hn]
  · obtain ⟨HF, a, c, h1, h2, h3, h4⟩ := h
    obtain ⟨t, q⟩ := body cdv A' outer s H E hr a
    refine ⟨t, q.pss.nox, ?_⟩
    obtain ⟨c', e1, h3⟩ := bind_ok h3
    have hl := r.len h2
    have hd := r.held (HF := HF) (H := H) (N.length - r.n) h2
    have es : L2.start N vs = vs.map some ++ List.replicate (N.length - r.n) none := by unfold L2.start; rw [hl]
    refine q.sem HF H HF H (L2.start N vs) ⟨h1, Same.refl _, Same.refl _, (fun p u a b => by rw [a] at b; cases b), [], by rw [es]; exact hd, List.nodup_nil, fun p hp => by cases hp⟩ c' e1 _ ?_
    cases c' with
    | nx s => exact fun HF' H' σ sm g => h4 .non HF' H' [] ⟨sm, g.g0, g.sub, g.nf⟩ ⟨rfl, rfl⟩ List.nodup_nil fun p hp => by cases hp
    | bk l => exact nomatch l
    | ct l => exact nomatch l
    | rt r' =>
      cases pure_ok (show (pure r' : M Unit) = .ok c from h3)
      exact fun v HF' H' fp a b c' d rr n ff => h4 v HF' H' fp ⟨b, c', a, d⟩ rr n fun p hp => ⟨(ff p hp).2, (ff p hp).1⟩
end
/-- a thing that is own, or another's -/
structure Al (α : Type) where
  sh : Bool
  a : α
instance {α : Type} [Inhabited α] : Inhabited (Al α) := ⟨⟨true, default⟩⟩
instance rpAl {α : Type} [Rp α] : Rp (Al α) where
  sh K H v x := Rp.sh K H v x.a
  mono := fun e h => Rp.mono e h
def Ow.al {α : Type} [Rp α] (u : Ow α) : Ow (Al α) where
  rep K HF H v x fp := if x.sh then (Rp.sh K HF v x.a ∧ fp = []) else u.rep K HF H v x.a fp
  mono := fun {K HF HF' H H' v x fp} e k h => by
    cases q : x.sh with
    | true =>
      rw [q, if_pos rfl] at h
      rw [if_pos rfl]
      exact ⟨Rp.mono e h.1, h.2⟩
    | false =>
      rw [q, if_neg (by simp)] at h
      rw [if_neg (by simp)]
      exact u.mono e k h
  dom := fun {K HF H v x fp} h p hp => by
    cases q : x.sh with
    | true =>
      rw [q, if_pos rfl] at h
      rw [h.2] at hp; cases hp
    | false =>
      rw [q, if_neg (by simp)] at h
      exact u.dom h p hp
  frz := fun {K HF HF' H v x fp} e k h => by
    cases q : x.sh with
    | true =>
      rw [q, if_pos rfl] at h
      exact Rp.mono e h.1
    | false =>
      rw [q, if_neg (by simp)] at h
      exact u.frz e k h
section
variable {X : Cx} {Γ : Ctx} {S L ρ α β A S' : Type} [Rp ρ] {o : Ow ρ} {Γo : S → Ctx} {ΓL : L → Ctx} {a b e f : Expr} {es : List Expr} {pos p p1 p2 pos2 : Pos} {ta tb te tf : TE} {t : TA} {sts : List Stmt} {tr tr' : TS}
theorem ex_alS [Rp α] {u : Ow α} {m : M α} (h : EX X Γ e Ow.v m te) : EX X Γ e (Ow.al u) (do let a ← m; pure ⟨true, a⟩) te :=
  ⟨h.pe, fun HF0 G HF H σ g c hc Q k => by
    obtain ⟨x, e1, hc⟩ := bind_ok hc
    cases pure_ok hc
    exact h.sem HF0 G HF H σ g x e1 Q fun v HF' H' fp st r n f => k v HF' H' fp st r n f⟩
theorem ex_alO [Rp α] {u : Ow α} {m : M α} (h : EX X Γ e u m te) : EX X Γ e (Ow.al u) (do let a ← m; pure ⟨false, a⟩) te :=
  ⟨h.pe, fun HF0 G HF H σ g c hc Q k => by
    obtain ⟨x, e1, hc⟩ := bind_ok hc
    cases pure_ok hc
    exact h.sem HF0 G HF H σ g x e1 Q fun v HF' H' fp st r n f => k v HF' H' fp st r n f⟩
theorem ss_retAl (i : Nat) {r : Al ρ} {x : Str} {pos' : Pos} (hl : look Γ i = .mk (Ow.al o) r := by rfl) (hN : X.N[i]? = some x := by rfl) (hv : Vis X.env.scope x := by first | exact Or.inl rfl | exact Or.inr (Or.inl rfl) | exact Or.inr (Or.inr rfl)) (hd : (x == ("__debug__" : Str)) = false := by decide)
    (hcd : (x == ("__classdict__" : Str)) = false := by decide) (ho : ∀ r R v H, o.out r R v H → R v H := by exact fun _ _ _ _ h => h) : SS X Γ [.Return (some (.Name x pos')) pos] Γo ΓL o (do gd (!r.sh); pure (.rt r.a)) (tRet (tVar i)) := by
  have q := ss_retO (X := X) (Γ := Γ) (S := S) (L := L) (Γo := Γo) (ΓL := ΓL) (pos := pos) (pos' := pos') (o := Ow.al o) i (r := r) hl hN hv hd hcd (fun _ _ _ _ h => h)
  refine ⟨q.pss, fun HF0 G HF H σ g c hc D k => ?_⟩
  obtain ⟨w, e1, hc⟩ := bind_ok hc
  cases pure_ok hc
  have e2 := gd_ok e1
  refine q.sem HF0 G HF H σ g _ rfl D ?_
  intro v HF1 H1 fp s1 s2 s3 s4 r1 nd1 fp1
  obtain ⟨b, a⟩ := r
  have e3 : b = false := by simpa using e2
  subst e3
  exact ho _ _ _ _ (k v HF1 H1 fp s1 s2 s3 s4 r1 nd1 fp1)
end
end Ty

/-! ## Ty31: things in lists of data; x.clear(); calls that could raise but don't -/
namespace Ty
open PySem PySem.Spec PyProof.Rows L2
theorem un65 {k : Nat} {A : Around} (r : Room k A) : A.units + 65 < cLine := by have := r.un; omega
def inDM {α : Type} [Rp α] [DecidableEq α] [Eqv α] (a : α) (b : List α) : M Bool := do gd (Eqv.ok a && Eqv.ok b); pure (decide (a ∈ b))
theorem inDM_ok {α : Type} [Rp α] [DecidableEq α] [Eqv α] [EqvT α] (a : α) (b : List α) : inDM a b = .ok (decide (a ∈ b)) := by
  unfold inDM
  rw [EqvT.all, EqvT.all]; rfl
theorem any_eqv {α : Type} [Rp α] [DecidableEq α] [Eqv α] (a : α) : ∀ bs : List α, ((bs.map Eqv.py).any fun z => PyData.eqv z (Eqv.py a)) = decide (a ∈ bs)
  | [] => rfl
  | b :: bs => by
    rw [List.map_cons, List.any_cons, any_eqv a bs, Eqv.eqv]
    by_cases h : b = a
    · subst h; simp
    · have h' : ¬ a = b := fun z => h z.symm
      simp [h, h']
section
variable {X : Cx} {Γ : Ctx} {S L ρ α β γ A B S' : Type} {o : Expr} {a b e : Expr} {es : List Expr} {pos p apos cpos p1 p2 : Pos} {ta tb te : TE} {t : TA} {sts : List Stmt} {tr : TS}
theorem ec_inD {K : PySem.W.Frag} [Rp α] [DecidableEq α] [Eqv α] {ma : M α} {mb : M (List α)} (hu : X.A.units + 65 < cLine) (ha : EX X Γ a Ow.v ma ta) (hb : EX X Γ b Ow.v mb tb) (hd : Eqv.dep α + 1 ≤ 64 := by decide) (hm : behindInMarks .In b = false := by rfl) (hK : X.K = K := by rfl) : EC X Γ .In a b (do let a ← ma; let b ← mb; inDM a b) (rInD K) ta tb := by
  subst hK
  exact ec_of (op_inD hu) (fun HF H v w a b c s ra rb hc Q k => by
    obtain ⟨u, e1, hc⟩ := bind_ok hc
    cases pure_ok hc
    have e2 := gd_ok e1
    rw [Bool.and_eq_true] at e2
    refine ⟨Eqv.py a, b.map Eqv.py, Eqv.dp (Rp.mono s ra), Eqv.dp (α := List α) (Rp.mono s rb), eqv_shaped e2.1 (by omega), eqv_shaped (α := List α) e2.2 hd, ?_⟩
    rw [any_eqv]; exact k.flat s) ha hb hm
theorem ec_ninD {K : PySem.W.Frag} [Rp α] [DecidableEq α] [Eqv α] {ma : M α} {mb : M (List α)} (hu : X.A.units + 65 < cLine) (ha : EX X Γ a Ow.v ma ta) (hb : EX X Γ b Ow.v mb tb) (hd : Eqv.dep α + 1 ≤ 64 := by decide) (hm : behindInMarks .NotIn b = false := by rfl) (hK : X.K = K := by rfl) : EC X Γ .NotIn a b (do let a ← ma; let b ← mb; let c ← inDM a b; pure (!c)) (rNotInD K) ta tb := by
  subst hK
  exact ec_of (op_notInD hu) (fun HF H v w a b c s ra rb hc Q k => by
    obtain ⟨c1, e0, hc⟩ := bind_ok hc
    obtain ⟨u, e3, hc1⟩ := bind_ok e0
    cases pure_ok hc1
    cases pure_ok hc
    have e2 := gd_ok e3
    rw [Bool.and_eq_true] at e2
    refine ⟨Eqv.py a, b.map Eqv.py, Eqv.dp (Rp.mono s ra), Eqv.dp (α := List α) (Rp.mono s rb), eqv_shaped e2.1 (by omega), eqv_shaped (α := List α) e2.2 hd, ?_⟩
    rw [any_eqv]; exact k.flat s) ha hb hm
def noX {ρ : Type} (r : ρ ⊕ Str) : M ρ := match r with
  | .inl a => pure a
  | .inr _ => no
/-- a call that could raise, where it doesn't -/
theorem ex_callN {ρ : Type} [Rp ρ] {K : PySem.W.Frag} {k : Nat} {f : Addr} {fd : FuncData} {ps : List Str} {x : Str} {r : As A} {o : Ow ρ} {fm : A → M (ρ ⊕ Str)} {m : M A} (F : FnOk X.prog X.w X.K X.mg X.base (L2.CX X.prog X.w) k f fd ps (spX K r o fm)) (hr : Room k X.A) (hm : X.mg x = some (.ref f)) (hk : PySem.W.keepIn X.K (.ref f) = true) (hb : Binds X.K fd ps [])
    (ha : EA X Γ (e :: es) r m t) (hg : Gl X x := by rfl) (hdb : (x == ("__debug__" : Str)) = false := by decide) (he : starEach (e :: es) X.env = (false, eval e X.env) :: starEach es X.env := by rfl) (hpl : (backTo pos (starEach es X.env)).any (·.1) = false := by rfl) (hK : X.K = K := by rfl) :
    EX X Γ (.Call (.Name x p) (e :: es) [] pos) o (do let a ← m; let r ← fm a; noX r) (tCall (spX K r o fm) [] E0 t) := by
  subst hK
  exact ⟨pe_call F hr hg hm hk hb .nil passL ha.pa hdb he hpl, fun HF0 G HF H σ g c hc Q kk => by
    obtain ⟨x, e1, hc⟩ := bind_ok hc
    obtain ⟨y, e2, hc⟩ := bind_ok hc
    refine ha.sem HF0 G HF H σ g x e1 _ fun vs HF1 H1 s1 r1 => ?_
    show spX X.K r o fm (vs ++ []) H1 Q E0
    rw [List.append_nil]
    refine ⟨HF1, x, y, s1.sub, r1, e2, ?_⟩
    cases y with
    | inl y =>
      cases pure_ok (show (pure y : M ρ) = .ok c from hc)
      exact RetK.back kk s1
    | inr y => cases hc⟩
end
/-! ### x.clear() -/
def rClr : V → List V → Hp → VK → Prop := fun x vs H Q => ∃ l xs, x = .ref l ∧ vs = [] ∧ H l = some (.lst xs) ∧ Q .non (upd H l (.lst []))
theorem mt_clr {X : Cx} : MtM X "list.clear" rClr := by
  intro pins s σ H x vs v us Q I rx rv h
  obtain ⟨l, xs, rfl, rfl, hH, q⟩ := h
  cases rx
  have hus := rv.zero
  subst hus
  obtain ⟨z, its, n, r, hl, e⟩ := I.lstM hH
  refine call_meets PySem.F.slot_list_clear ⟨_, e, rfl⟩ PySem.F.entry_list_clear (PySem.F.args_list_clear_1 _) (PySem.AutoSeq1.list_clear_list_0 l its.toArray n (by rw [List.size_toArray]; omega)) ⟨e, ?_⟩
  exact ⟨.non, _, I.lset (its' := []) hH e rfl .nil (Nat.zero_le _), rfl, q⟩
section
variable {X : Cx} {Γ : Ctx} {S L ρ α : Type} [Rp ρ] {o : Ow ρ} {Γo : S → Ctx} {ΓL : L → Ctx} {pos p apos cpos : Pos} {sts : List Stmt} {tr : TS}
theorem ss_clear [Rp α] {u : Ow α} (i : Nat) {as : List α} {x : Str} {k : M (Ctl S L ρ)} (hr : SS X (put Γ i (.mk (Ow.l u) ([] : List α))) sts Γo ΓL o k tr) (hl : look Γ i = .mk (Ow.l u) as := by rfl) (hN : X.N[i]? = some x := by rfl) (hv : Vis X.env.scope x := by first | exact Or.inl rfl | exact Or.inr (Or.inl rfl) | exact Or.inr (Or.inr rfl)) (hd : (x == ("__debug__" : Str)) = false := by decide)
    (hcd : (x == ("__classdict__" : Str)) = false := by decide)
    (hpe : ∀ {to : TE}, PE X (.Name x p) to → PE X (.Call (.Attribute (.Name x p) "clear" apos) [] [] cpos) (tBM0 X.K "list" rClr to) := by exact fun h => pe_bm0 PySem.F.plainAttrs_list PySem.F.slot_list_clear PySem.F.type_list_clear mt_clr h)
    (hs : swapsWith (.Call (.Attribute (.Name x p) "clear" apos) [] [] cpos) none pos.line X.env = pure false := by rfl) :
    SS X Γ (.Expr (.Call (.Attribute (.Name x p) "clear" apos) [] [] cpos) pos :: sts) Γo ΓL o k (tSeq (tDrop (tBM0 X.K "list" rClr (tVar i))) tr) :=
  ⟨pss_cons (ps_expr (hpe (pe_var hN hv hd hcd)) hs) hr.pss, fun HF0 G HF H σ g c hc D kk => by
    obtain ⟨v, fo, hσ, ⟨q, vs, fq, h1, h2, h3, h4⟩, nd, hfo, back⟩ := g.take hl
    subst h1 h2
    refine ⟨.ref q, hσ, .inl ⟨rfl, vs, SqL.of h3⟩, q, vs, rfl, rfl, h3, ?_⟩
    have gg := back (u' := Ow.l u) (b := ([] : List α)) (v' := .ref q) (f' := [q]) (H' := upd H q (.lst [])) (Step.refl g.sub) (fun p w hp e => by rw [upd_ne (fun z => hp (by rw [z]; exact List.mem_cons_self ..))]; exact e)
      ⟨q, [], [], rfl, rfl, upd_same, rfl⟩ (by simp) (fun p hp => by
        rw [List.mem_singleton.mp hp]
        exact .inl (List.mem_cons_self ..))
    rw [set_self hσ] at gg
    exact hr.sem HF0 G HF _ σ gg c hc D kk⟩
end
end Ty

/-! ## Ty32: a def that is handed the exception which an except suite holds -/
namespace Ty
open PySem PySem.Spec PyProof.Rows L2
/-- what is known of the exception at hand: its class is c -/
structure ExP (K : PySem.W.Frag) (c : Str) (p : Addr × Obj) : Prop where
  C : ExcC K (He.ga K c)
  hz : Zc (clv K c) none p.2
  hf : ∃ vs, p.2.data = .fields vs
def spE {ρ : Type} [Rp ρ] (K : PySem.W.Frag) (o : Ow ρ) (fm : Str → M ρ) (c : Str) (H : Hp) (Q : VK) : Prop := ∃ HF r, Same HF H ∧ fm c = .ok r ∧ RetK K HF H o r Q
structure FnE (P : Program) (w : World) (K : PySem.W.Frag) (mg : Str → Option Value) (base : Heap) (k : Nat) (f : Addr) (fd : FuncData) (y : Str) {ρ : Type} [Rp ρ] (o : Ow ρ) (fm : Str → M ρ) : Prop where
  run : ∀ (A : Around) (outer : List Env) (s : Shared) (H : Hp) (args : Args) (Q : VK) (E : XK) (p : Addr × Obj) (c : Str), L2H.RoomH k A → ExP K c p → L2H.PinOk outer H s p → Env0 P w K mg base A outer s H → BindsTo s fd args [(y, .ref p.1)] → spE K o fm c H Q →
    codeAny (model P w) A (.call (.ref f) args) (CR CX0 outer P w H s Q E) s
section
variable {P : Program} {w : World} {K : PySem.W.Frag} {mg : Str → Option Value} {base : Heap}
theorem fnE_ok {ρ : Type} [Rp ρ] {x qual : Str} {params : Arguments} {bd : List Stmt} {scope : Scope} {dvs : List V} {kws : List (Str × V)} {f : Addr} {fd : FuncData} {N : List Str} {y : Str} {k : Nat} {o : Ow ρ} {m : Str → M (Ctl Unit Empty ρ)} (F : FunD K x qual params bd scope dvs kws f fd) (S : FnScope N [y] scope) (hN : N.length = 1 + (N.length - 1))
    (body : ∀ (cdv : Value) (A' : Around) (outer : List Env) (s : Shared) (H : Hp) (E : XK) (p : Addr × Obj) (c : Str), L2H.RoomH k (A'.deeper (envOfC qual scope s.heap.objs.size f cdv)) → ExP K c p → ∃ t : TS,
      SS (L2H.cxH CX0 P w K mg base N qual scope f cdv A' outer s H E p).nox (.mk (α := ExO) Ow.v ⟨p.1⟩ :: List.replicate (N.length - 1) .un) bd (fun (_ : Unit) => []) (fun (_ : Empty) => []) o (m c) t)
    (ho : ∀ r R v H, R v H → o.out r R v H := by exact fun _ _ _ _ h => h) :
    FnE P w K mg base (k + 1) f fd y o (fun c => runC (m c)) := by
  obtain ⟨oc, od, dV, kV, doc, pm, an, cdv, ct, osl, rfl, lk, hcd, _, _⟩ := F.ex
  refine ⟨fun A outer s H args Q E p c hr hE hpin e0 hb hsp => ?_⟩
  obtain ⟨HF, r0, h1, h3, h4⟩ := hsp
  have KX : K.In s.heap := e0.mod.kin.keeps fun b o e => (e0.bs b o e).1
  have lim : s.heap.NoLimit := e0.mod.nolimit.keeps fun b o e => (e0.bs b o e).1
  have hkind : ∀ z ∈ [y].zip [Value.ref p.1], scope.names.lookup z.1 = some .local ∨ (scope.names.lookup z.1 = some .cell ∧ ((cellsFrom (s.heap.objs.size + 1) scope.names []).lookup z.1).isSome = true) := fun ⟨n, v⟩ hy => by
    rcases S.par n (List.of_mem_zip hy).1 with q | q
    · exact .inl q
    · exact .inr ⟨q, PySem.W.cellsFrom_some _ _ _ (.inl q)⟩
  refine codeAny_call_function hr.depth (KX _ _ lk) rfl S.co S.gen rfl (PySem.W.codeRec_of KX hcd) (hb _ _ _ _ ?_)
  refine wpAny_newFunctionEnv_cells S.kind hkind fun env he s1 x => ?_
  subst he
  refine ⟨lim.keeps x.toInCall.keep, codeAny_func ?_⟩
  obtain ⟨t, q⟩ := body cdv A outer s H E p c (hr.deeper _) hE
  have rr : Vals [V.ref p.1] [Value.ref p.1] := .cons rfl .nil
  have I : Inv (L2H.cxH CX0 P w K mg base N qual scope f cdv A outer s H E p) [] (L2.start N [.ref p.1]) H s1 := L2H.inv_startH S hpin e0 rfl rr x
  have es : L2.start N [V.ref p.1] = some (V.ref p.1) :: List.replicate (N.length - 1) none := by unfold L2.start; rfl
  obtain ⟨c', e1, h3⟩ := bind_ok h3
  have hd : Holds K HF H (.mk (α := ExO) Ow.v ⟨p.1⟩ :: List.replicate (N.length - 1) .un) (L2.start N [.ref p.1]) [] := by
    rw [es]
    exact ⟨[], [], rfl, ⟨.ref p.1, rfl, rfl, rfl⟩, (As.nil).held (HF := HF) (H := H) (N.length - 1) (vs := []) (a := ()) rfl⟩
  have Tq : t { nx := fun _ H' => Q .non H', rt := Q } (L2.start N [.ref p.1]) H := by
    refine q.sem HF H HF H (L2.start N [.ref p.1]) ⟨h1, Same.refl _, Same.refl _, (fun p u a b => by rw [a] at b; cases b), [], hd, List.nodup_nil, fun p hp => by cases hp⟩ c' e1 _ ?_
    cases c' with
    | nx s => cases h3
    | bk l => exact nomatch l
    | ct l => exact nomatch l
    | rt r' =>
      cases pure_ok (show (pure r' : M ρ) = .ok r0 from h3)
      exact fun v HF' H' fp a b c' d rr n ff => ho _ _ _ _ <| h4 v HF' H' fp ⟨b, c', a, d⟩ rr n fun p hp => ⟨(ff p hp).2, (ff p hp).1⟩
  refine wpAny_mono (q.pss.nox.run [] s1 (L2.start N [.ref p.1]) H _ I Tq) (fun fl s' hs => ?_) fun e s' hs => hs
  have fin : ∀ {σ' : L2.St} {H' : Hp} {v : V} {u : Value}, Inv (L2H.cxH CX0 P w K mg base N qual scope f cdv A outer s H E p) [] σ' H' s' → RelV v u → Q v H' → CE outer P w H s Q u s' :=
    fun {σ' H' v u} J rv q => ⟨v, H', J.os, J.bare, J.base, J.hok, rv, q⟩
  cases fl with
  | ret u =>
    obtain ⟨v, σ', H', J, rv, q⟩ := hs
    exact fin J rv q
  | next =>
    obtain ⟨σ', H', J, q⟩ := hs
    exact fin (v := V.non) (u := Value.none) J rfl q
  | brk =>
    obtain ⟨_, _, _, q⟩ := hs
    exact False.elim q
  | cont =>
    obtain ⟨_, _, _, q⟩ := hs
    exact False.elim q
def HasE (P : Program) (w : World) (K : PySem.W.Frag) (mg : Str → Option Value) (base : Heap) (x : Str) (k : Nat) (y : Str) {ρ : Type} [Rp ρ] (o : Ow ρ) (fm : Str → M ρ) : Prop :=
  ∃ f fd, FnE P w K mg base k f fd y o fm ∧ mg x = some (.ref f) ∧ PySem.W.keepIn K (.ref f) = true ∧ Binds K fd [y] []
end
section
variable {X : Cx} {Γ : Ctx} {ρ : Type} [Rp ρ] {o : Ow ρ} {a b e f : Expr} {es : List Expr} {pos p p1 p2 pos2 : Pos} {ta tb te tf : TE} {t : TA}
/-- f(e) in the suite, e the exception that it holds -/
theorem ex_callE {K : PySem.W.Frag} {k : Nat} {f : Addr} {fd : FuncData} {y x c : Str} {fm : Str → M ρ} {ad : Addr} {oe : Obj} {pn : List (Addr × Obj)} (F : FnE X.prog X.w X.K X.mg X.base k f fd y o fm) (hr : Room k X.A) (hm : X.mg x = some (.ref f)) (hk : PySem.W.keepIn X.K (.ref f) = true) (hb : Binds X.K fd [y] [])
    (hC : ExcC X.K (He.ga X.K c)) (hz : Zc (clv X.K c) none oe) (hf : ∃ vs, oe.data = .fields vs)
    (h : EX (X.suite ad ((ad, oe) :: pn)) Γ e Ow.v (pure (⟨ad⟩ : ExO)) te) (hg : Gl X x := by rfl) (hdb : (x == ("__debug__" : Str)) = false := by decide) (he : starEach [e] X.env = (false, eval e X.env) :: starEach [] X.env := by rfl) (hpl : (backTo pos (starEach [] X.env)).any (·.1) = false := by rfl) (hK : X.K = K := by rfl) :
    EX (X.suite ad ((ad, oe) :: pn)) Γ (.Call (.Name x p) [e] [] pos) o (fm c) (fun σ H Q => te σ H fun v H1 => [v] = [V.ref ad] ∧ spE K o fm c H1 Q) := by
  subst hK
  refine ⟨⟨fun pins s σ H Q I h0 => ?_⟩, fun HF0 G HF H σ g r hc Q kk => ?_⟩
  · refine wpAny_Call_Name_kw (ld_glob I hg hm ?_ hdb)
    refine PySem.W.callWith_K (h₀ := X.base) I.ok.mod.kin hk (thn ((pa_cons h.pe pa_nil he).run pos pins s σ H (fun vs H1 => vs = [V.ref ad] ∧ spE X.K o fm c H1 Q) I h0) fun us s1 ⟨vs, H1, I1, r, q⟩ => ⟨I1.kIn, ?_⟩) he hpl
    obtain ⟨q1, q2⟩ := q
    subst q1
    cases r with
    | cons rx rr =>
      cases rr
      cases rx
      have b := hb s1 [.ref ad] I1.kIn rfl
      have P1 := I1.pin (ad, oe) (List.mem_append_left _ List.mem_cons_self)
      have hpin : L2H.PinOk (X.suite ad ((ad, oe) :: pn)).stack H1 s1 (ad, oe) := ⟨P1.1, P1.2.1, fun hm => (List.mem_cons.mp (I1.stkSub ad hm)).elim P1.2.2.1 P1.2.2.2.1, P1.2.2.2.2⟩
      refine wpAny_call (codeAny_mono (F.run (X.suite ad ((ad, oe) :: pn)).A (X.suite ad ((ad, oe) :: pn)).stack s1 H1 ⟨[.ref ad], []⟩ Q (fun _ _ _ => False) (ad, oe) c ⟨hr.dp, hr.un⟩ ⟨hC, hz, hf⟩ hpin I1.env0 b q2) fun r s' hq => ?_)
      cases r with
      | error e => exact hq.elim
      | ok fl =>
        cases fl with
        | ret u => exact I1.after hq
        | next => exact False.elim hq
        | brk => exact False.elim hq
        | cont => exact False.elim hq
  · refine h.sem HF0 G HF H σ g ⟨ad⟩ rfl _ fun v HF1 H1 fp s1 r1 _ _ => ?_
    obtain ⟨r1, _⟩ := r1
    have r1 : v = .ref ad := r1
    exact ⟨by rw [r1], HF1, r, s1.sub, hc, kk.back s1⟩
/-- isinstance(e, D) in the body of such a def -/
def rIsP (K : PySem.W.Frag) (D a : Addr) : List V → Hp → VK → Prop := rIsE K D a
theorem call_isP {X : Cx} {D : Addr} {p : Addr × Obj} (C : ExcC X.K D) (hz : Zc (.ref D) none p.2) (hf : ∃ vs, p.2.data = .fields vs) (hp : p ∈ X.pn) : CallR X (.builtin "isinstance") (rIsE X.K D p.1) := by
  intro pins s σ H xs us Q I r h
  obtain ⟨c, cv, b, rfl, hcv, e, q⟩ := h
  cases r with
  | cons rx rr =>
    cases rr with
    | cons rt rr =>
      cases rr
      cases rx
      have ec := hcv _ rt
      subst ec
      obtain ⟨hget, _⟩ := I.pin p (List.mem_append_left _ hp)
      obtain ⟨vs, hv⟩ := hf
      have J : PySem.W.InstAt s.heap p.1 p.2 D none := by
        obtain ⟨pa, oc, od, oda, osl⟩ := p
        obtain ⟨h1, h2⟩ := hz
        dsimp only at h1 h2 hv
        subst h1 h2 hv
        exact ⟨hget, rfl, rfl, trivial⟩
      exact PySem.W.kia_one (PySem.W.handS_kitx_exc C.hg C.hk C.hs C.hd C.ha C.hn C.ht C.hm) I.kIn J e (fun z => nomatch z) fun tk => ⟨.bl b, H, I.kept (t' := tk) fun _ _ z => z, rfl, q⟩
theorem ex_isP {K : PySem.W.Frag} {names : List Str} {tab : CTab} {D : Str} {c : Str} {p0 : Addr × Obj} (T : ExF X.K names tab) (hm : X.mg "isinstance" = none) (gD : X.mg D = some (clv X.K D)) (C : ExP X.K c p0) (hp : p0 ∈ X.pn)
    (h : EX X Γ e Ow.v (pure (⟨p0.1⟩ : ExO)) te) (hg : Gl X "isinstance" := by rfl) (hgD : Gl X D := by rfl) (hdb : (D == ("__debug__" : Str)) = false := by decide) (hDv : D ≠ ("ValueError" : Str) := by decide)
    (h1 : starEach [e, .Name D p1] X.env = (false, eval e X.env) :: starEach [.Name D p1] X.env := by rfl) (h2 : starEach [.Name D p1] X.env = (false, eval (.Name D p1) X.env) :: starEach [] X.env := by rfl) (hpl : (backTo pos (starEach [.Name D p1] X.env)).any (·.1) = false := by rfl) (hK : X.K = K := by rfl) :
    EX X Γ (.Call (.Name "isinstance" p) [e, .Name D p1] [] pos) Ow.v (ofO (exLk tab c D)) (tCB (rIsE K (He.ga K c) p0.1) (tCons te (tCons (tC (.ref (He.ga K D))) tNil))) := by
  subst hK
  exact ⟨pe_callB (call_isP C.C C.hz C.hf hp) hg hm (by decide +kernel) (pa_cons h.pe (pa_cons (pe_glob hgD gD rfl hdb) pa_nil h2) h1) (by decide) (by decide) h1 hpl, fun HF0 G HF H σ g b hb Q k => by
    refine h.sem HF0 G HF H σ g _ rfl _ fun v HF1 H1 fp s1 r1 _ _ => ?_
    obtain ⟨r1, _⟩ := r1
    have r1 : v = .ref p0.1 := r1
    subst r1
    have e1 : exLk tab c D = some b := by
      unfold ofO at hb
      split at hb
      · rename_i q; rw [q]; injection hb with z; rw [z]
      · cases hb
    have e2 := T.kit (exLk_mem e1)
    rw [show vOf X.K D = clv X.K D from if_neg hDv] at e2
    exact ⟨.ref (He.ga X.K D), clv X.K D, b, rfl, fun u h => h, e2, (k.back s1).flat s1.sub⟩⟩
theorem ex_isPV {K : PySem.W.Frag} {names : List Str} {tab : CTab} {c : Str} {p0 : Addr × Obj} (T : ExF X.K names tab) (hm : X.mg "isinstance" = none) (gD : X.mg "ValueError" = none) (C : ExP X.K c p0) (hp : p0 ∈ X.pn)
    (h : EX X Γ e Ow.v (pure (⟨p0.1⟩ : ExO)) te) (hg : Gl X "isinstance" := by rfl) (hgD : Gl X "ValueError" := by rfl)
    (h1 : starEach [e, .Name "ValueError" p1] X.env = (false, eval e X.env) :: starEach [.Name "ValueError" p1] X.env := by rfl) (h2 : starEach [.Name "ValueError" p1] X.env = (false, eval (.Name "ValueError" p1) X.env) :: starEach [] X.env := by rfl) (hpl : (backTo pos (starEach [.Name "ValueError" p1] X.env)).any (·.1) = false := by rfl) (hK : X.K = K := by rfl) :
    EX X Γ (.Call (.Name "isinstance" p) [e, .Name "ValueError" p1] [] pos) Ow.v (ofO (exLk tab c "ValueError")) (tCB (rIsE K (He.ga K c) p0.1) (tCons te (tCons (tC (.ty "ValueError")) tNil))) := by
  subst hK
  exact ⟨pe_callB (call_isP C.C C.hz C.hf hp) hg hm (by decide +kernel) (pa_cons h.pe (pa_cons (pe_bltn (v := .ty "ValueError") hgD gD (by decide +kernel) rfl (by decide) (by decide)) pa_nil h2) h1) (by decide) (by decide) h1 hpl, fun HF0 G HF H σ g b hb Q k => by
    refine h.sem HF0 G HF H σ g _ rfl _ fun v HF1 H1 fp s1 r1 _ _ => ?_
    obtain ⟨r1, _⟩ := r1
    have r1 : v = .ref p0.1 := r1
    subst r1
    have e1 : exLk tab c "ValueError" = some b := by
      unfold ofO at hb
      split at hb
      · rename_i q; rw [q]; injection hb with z; rw [z]
      · cases hb
    have e2 := T.kit (exLk_mem e1)
    rw [show vOf X.K "ValueError" = .type "ValueError" from if_pos rfl] at e2
    exact ⟨.ty "ValueError", .type "ValueError", b, rfl, fun u h => h, e2, (k.back s1).flat s1.sub⟩⟩
end
/-! ### x.pop(i) of own things -/
theorem Rl.eraseIdx {α : Type} {R : V → α → List Addr → Prop} : ∀ {vs : List V} {as : List α} {fp : List Addr} (i : Nat), Rl R vs as fp → ∃ fp', Rl R (vs.eraseIdx i) (as.eraseIdx i) fp' ∧ (∀ p ∈ fp', p ∈ fp) ∧ (fp.Nodup → fp'.Nodup)
  | [], [], fp, _, h => ⟨fp, h, fun _ h => h, fun h => h⟩
  | v :: vs, a :: as, fp, 0, ⟨f1, f2, e, h1, h2⟩ => ⟨f2, h2, fun p hp => by rw [e]; exact List.mem_append_right _ hp, fun nd => by rw [e] at nd; exact (List.nodup_append.mp nd).2.1⟩
  | v :: vs, a :: as, fp, i + 1, ⟨f1, f2, e, h1, h2⟩ => by
    obtain ⟨f', q1, q2, q3⟩ := Rl.eraseIdx i h2
    refine ⟨f1 ++ f', ⟨f1, f', rfl, h1, q1⟩, fun p hp => ?_, fun nd => ?_⟩
    · rw [e]
      rcases List.mem_append.mp hp with z | z
      · exact List.mem_append_left _ z
      · exact List.mem_append_right _ (q2 p z)
    · rw [e] at nd
      obtain ⟨a1, a2, a3⟩ := List.nodup_append.mp nd
      exact List.nodup_append.mpr ⟨a1, q3 a2, fun p hp q hq e => a3 p hp q (q2 q hq) e⟩
  | [], _ :: _, _, _, h => h.elim
  | _ :: _, [], _, _, h => h.elim
section
variable {X : Cx} {Γ : Ctx} {S L ρ α β κ γ A B S' : Type} [Rp ρ] {o : Ow ρ} {Γo : S → Ctx} {ΓL : L → Ctx} {a b e f : Expr} {es : List Expr} {pos p p1 p5 apos cpos pos2 : Pos} {ta tb te tf : TE} {t : TA} {sts : List Stmt} {tr tr' : TS} {tg : Expr}
theorem ss_popAtO [Rp α] {u : Ow α} (i : Nat) {as : List α} {x : Str} {m : M Int} {k : List α → M (Ctl S L ρ)} (he : EX X Γ e Ow.v m te) (hr : ∀ y, SS X (put Γ i (.mk (Ow.l u) y)) sts Γo ΓL o (k y) tr) (hl : look Γ i = .mk (Ow.l u) as := by rfl) (hN : X.N[i]? = some x := by rfl) (hv : Vis X.env.scope x := by first | exact Or.inl rfl | exact Or.inr (Or.inl rfl) | exact Or.inr (Or.inr rfl)) (hd : (x == ("__debug__" : Str)) = false := by decide)
    (hcd : (x == ("__classdict__" : Str)) = false := by decide)
    (hpe : ∀ {to : TE} {tt : TA}, PE X (.Name x p) to → PA X [e] tt → PE X (.Call (.Attribute (.Name x p) "pop" apos) [e] [] cpos) (tBM X.K "list" rPopAt to tt) := by exact fun h h' => pe_bm PySem.F.plainAttrs_list PySem.F.slot_list_pop PySem.F.type_list_pop mt_popAt h h')
    (h1 : starEach [e] X.env = (false, eval e X.env) :: starEach [] X.env := by rfl)
    (hs : swapsWith (.Call (.Attribute (.Name x p) "pop" apos) [e] [] cpos) none pos.line X.env = pure false := by rfl) :
    SS X Γ (.Expr (.Call (.Attribute (.Name x p) "pop" apos) [e] [] cpos) pos :: sts) Γo ΓL o (do let j ← m; let q ← popAtM as j; k q.2) (tSeq (tDrop (tBM X.K "list" rPopAt (tVar i) (tCons te tNil))) tr) :=
  ⟨pss_cons (ps_expr (hpe (pe_var hN hv hd hcd) (pa_cons he.pe pa_nil h1)) hs) (hr []).pss, fun HF0 G HF H σ g c hc D kk => by
    obtain ⟨j, e0, hc⟩ := bind_ok hc
    obtain ⟨⟨y0, l⟩, e1, hc⟩ := bind_ok hc
    obtain ⟨w, e8, e1⟩ := bind_ok e1
    obtain ⟨n, e9, e1⟩ := bind_ok e1
    obtain ⟨y, e2, e1⟩ := bind_ok e1
    cases pure_ok e1
    obtain ⟨v, fo, hσ, ⟨q, vs, fq, h1, h2, h3, h4⟩, nd, hfo, back⟩ := g.take hl
    subst h1 h2
    have hlen := h4.len
    have hn : n < as.length := (List.getElem?_eq_some_iff.mp (ofO_ok e2)).1
    have hlt : n < vs.length := by omega
    refine ⟨.ref q, hσ, .inl ⟨rfl, vs, SqL.of h3⟩, ?_⟩
    refine he.sem HF0 G HF H σ g j e0 _ fun v' HF1 H1 fp st r n' f => ?_
    have e10 := gd_ok e8
    rw [Bool.and_eq_true, decide_eq_true_eq, decide_eq_true_eq] at e10
    refine ⟨q, vs, j, n, vs[n], rfl, by rw [Fl.sh_iff.mp r.1]; rfl, st.exH _ _ h3, e10.1, e10.2, by rw [hlen]; exact ofO_ok e9, List.getElem?_eq_getElem hlt, ?_⟩
    have h5 := h4.mono (R' := u.rep X.K HF1 H1) fun v a f _ h => u.mono st.exF (fun p _ o e => st.exH _ _ e) h
    obtain ⟨fq', q1, q2, q3⟩ := h5.eraseIdx n
    have hqn := (List.nodup_cons.mp nd).1
    have hq' : q ∉ fq' := fun z => hqn (q2 q z)
    have gg := back (u' := Ow.l u) (b := as.eraseIdx n) (v' := .ref q) (f' := q :: fq') (H' := upd H1 q (.lst (vs.eraseIdx n))) st (fun p w hp e => by rw [upd_ne (fun z => hp (by rw [z]; exact List.mem_cons_self ..))]; exact e)
      ⟨q, vs.eraseIdx n, fq', rfl, rfl, upd_same, q1.upd hq'⟩ (List.nodup_cons.mpr ⟨hq', q3 (List.nodup_cons.mp nd).2⟩) (fun p hp => by
        rcases List.mem_cons.mp hp with z | z
        · exact .inl (by rw [z]; exact List.mem_cons_self ..)
        · exact .inl (List.mem_cons_of_mem _ (q2 p z)))
    rw [set_self hσ] at gg
    exact (hr (as.eraseIdx n)).sem HF0 G HF1 _ σ gg c hc D (kk.mono st.exF)⟩
end
end Ty

/-! ## Ty33: methods of texts; join; extend; enumerate of a text -/
namespace Ty
open PySem PySem.Spec PyProof.Rows L2
def rFind : V → List V → Hp → VK → Prop := fun x xs H Q => ∃ a b, x = .str a ∧ xs = [.str b] ∧ Q (.int (Txt.find a b)) H
def rCount : V → List V → Hp → VK → Prop := fun x xs H Q => ∃ a b, x = .str a ∧ xs = [.str b] ∧ Q (.int (Txt.count a b)) H
def rFind3 : V → List V → Hp → VK → Prop := fun x xs H Q => ∃ (a b : Str) (i : Int), x = .str a ∧ xs = [.str b, .int i] ∧ Q (.int (Txt.find3 a b i)) H
def rIndexOk : V → List V → Hp → VK → Prop := fun x xs H Q => ∃ (a b : Str) (k : Nat), x = .str a ∧ xs = [.str b] ∧ Txt.index0 a b = some k ∧ Q (.int (k : Nat)) H
def rIndexFromOk : V → List V → Hp → VK → Prop := fun x xs H Q => ∃ (a b : Str) (i : Int) (k : Nat), x = .str a ∧ xs = [.str b, .int i] ∧ Txt.indexFrom a b i = some k ∧ Q (.int (k : Nat)) H
def rJoin (K : PySem.W.Frag) : V → List V → Hp → VK → Prop := fun x xs H Q => ∃ a p, ∃ ys : List Str, x = .str a ∧ xs = [.ref p] ∧ (SqL K H p (ys.map V.str) ∨ SqT K H p (ys.map V.str)) ∧ (ys.map (·.length)).sum + ys.length * a.length ≤ 16777216 ∧ Q (.str (Txt.join a ys)) H
section
variable {X : Cx} {Γ : Ctx} {S L ρ α β γ A B S' : Type} {a b e o : Expr} {es : List Expr} {pos p p1 p2 apos cpos : Pos} {ta tb te to : TE} {t : TA} {sts : List Stmt} {tr : TS}
/-- text.name(args) -/
theorem ex_tm {A γ : Type} [Rp γ] {w : Ow γ} {name : Str} {id : String} {K : PySem.W.Frag} {r : V → List V → Hp → VK → Prop} {r0 : As A} {f : Str → A → M γ} {mo : M Str} {ma : M A}
    (slot : Slot "str" name id) (hty : typeOf (.builtin id) = pure (.type "method_descriptor")) (hm : MtR X id r)
    (hr : ∀ HF H (x : Str) vs (y : A) (c : γ), Same HF H → r0.rep K HF vs y → f x y = .ok c → ∀ Q : VK, RetK K HF H w c Q → r (.str x) vs H Q)
    (ho : EX X Γ o Ow.v mo to) (ha : EA X Γ (e :: es) r0 ma t)
    (hbase : attributeBase o name X.env (eval o X.env) = eval o X.env := by rfl)
    (hfew : ((backTo cpos (starEach (e :: es) X.env)).all (fun x => !x.1) && (backToKw cpos (keywordEach [] X.env)).all (fun x => x.1.isSome)
      && decide ((e :: es).length + ([] : List Keyword).length + (if ([] : List Keyword).isEmpty then 0 else 1) < 30)) = true := by rfl)
    (hline : (apos.endLine == cpos.line) = true := by rfl) (hs : starEach (e :: es) X.env = (false, eval e X.env) :: starEach es X.env := by rfl) (hplain : (backTo cpos (starEach es X.env)).any (·.1) = false := by rfl) (hK : X.K = K := by rfl) :
    EX X Γ (.Call (.Attribute o name apos) (e :: es) [] cpos) w (do let x ← mo; let y ← ma; f x y) (tBM K "str" r to t) := by
  subst hK
  exact ⟨pe_bm PySem.F.plainAttrs_str slot hty hm ho.pe ha.pa hbase hfew hline hs hplain, fun HF0 G HF H σ g c hc Q k => by
    obtain ⟨x, e1, hc⟩ := bind_ok hc
    obtain ⟨y, e2, hc⟩ := bind_ok hc
    refine ho.sem HF0 G HF H σ g x e1 _ fun v HF1 H1 fp s1 r1 _ _ => ?_
    have r1 := Fl.sh_iff.mp r1.1
    subst r1
    refine ⟨rfl, ?_⟩
    refine ha.sem HF0 G HF1 H1 σ (g.step s1) y e2 _ fun vs HF2 H2 s2 r2 => ?_
    exact hr HF2 H2 x vs y c s2.sub r2 hc Q (k.back (s1.trans s2))⟩
theorem as1 {α : Type} [Rp α] {K : PySem.W.Frag} {HF : Hp} {vs : List V} {y : α × Unit} (h : (As.cons (α := α) As.nil).rep K HF vs y) : ∃ v, vs = [v] ∧ Rp.sh K HF v y.1 := by
  obtain ⟨v, ws, h1, h2, h3⟩ := h
  have h3 : ws = [] := h3
  subst h3
  exact ⟨v, h1, h2⟩
theorem as2 {α β : Type} [Rp α] [Rp β] {K : PySem.W.Frag} {HF : Hp} {vs : List V} {y : α × β × Unit} (h : (As.cons (α := α) (As.cons (α := β) As.nil)).rep K HF vs y) : ∃ v u, vs = [v, u] ∧ Rp.sh K HF v y.1 ∧ Rp.sh K HF u y.2.1 := by
  obtain ⟨v, ws, h1, h2, h3⟩ := h
  obtain ⟨u, h4, h5⟩ := as1 h3
  subst h4
  exact ⟨v, u, h1, h2, h5⟩
theorem ex_find {K : PySem.W.Frag} {mo : M Str} {ma : M (Str × Unit)} (ho : EX X Γ o Ow.v mo to) (ha : EA X Γ [e] (As.cons (α := Str) As.nil) ma t) (hbase : attributeBase o "find" X.env (eval o X.env) = eval o X.env := by rfl)
    (hfew : ((backTo cpos (starEach [e] X.env)).all (fun x => !x.1) && (backToKw cpos (keywordEach [] X.env)).all (fun x => x.1.isSome)
      && decide ([e].length + ([] : List Keyword).length + (if ([] : List Keyword).isEmpty then 0 else 1) < 30)) = true := by rfl)
    (hline : (apos.endLine == cpos.line) = true := by rfl) (hs : starEach [e] X.env = (false, eval e X.env) :: starEach [] X.env := by rfl) (hplain : (backTo cpos (starEach [] X.env)).any (·.1) = false := by rfl) (hK : X.K = K := by rfl) :
    EX X Γ (.Call (.Attribute o "find" apos) [e] [] cpos) Ow.v (do let x ← mo; let y ← ma; pure (Txt.find x y.1)) (tBM K "str" rFind to t) :=
  ex_tm (r := rFind) (A := Str × Unit) (γ := Int) (w := Ow.v) (f := fun (x : Str) (y : Str × Unit) => (pure (Txt.find x y.1) : M Int)) PySem.F.slot_str_find PySem.F.type_str_find mt_find (fun HF H x vs y c s h hc Q k => by
    obtain ⟨v, rfl, z⟩ := as1 h
    cases pure_ok hc
    exact ⟨x, y.1, rfl, by rw [Fl.sh_iff.mp z]; rfl, k.flat s⟩) ho ha hbase hfew hline hs hplain hK
theorem ex_count {K : PySem.W.Frag} {mo : M Str} {ma : M (Str × Unit)} (ho : EX X Γ o Ow.v mo to) (ha : EA X Γ [e] (As.cons (α := Str) As.nil) ma t) (hbase : attributeBase o "count" X.env (eval o X.env) = eval o X.env := by rfl)
    (hfew : ((backTo cpos (starEach [e] X.env)).all (fun x => !x.1) && (backToKw cpos (keywordEach [] X.env)).all (fun x => x.1.isSome)
      && decide ([e].length + ([] : List Keyword).length + (if ([] : List Keyword).isEmpty then 0 else 1) < 30)) = true := by rfl)
    (hline : (apos.endLine == cpos.line) = true := by rfl) (hs : starEach [e] X.env = (false, eval e X.env) :: starEach [] X.env := by rfl) (hplain : (backTo cpos (starEach [] X.env)).any (·.1) = false := by rfl) (hK : X.K = K := by rfl) :
    EX X Γ (.Call (.Attribute o "count" apos) [e] [] cpos) Ow.v (do let x ← mo; let y ← ma; pure (Txt.count x y.1)) (tBM K "str" rCount to t) :=
  ex_tm (r := rCount) (A := Str × Unit) (γ := Int) (w := Ow.v) (f := fun (x : Str) (y : Str × Unit) => (pure (Txt.count x y.1) : M Int)) PySem.F.slot_str_count PySem.F.type_str_count mt_count (fun HF H x vs y c s h hc Q k => by
    obtain ⟨v, rfl, z⟩ := as1 h
    cases pure_ok hc
    exact ⟨x, y.1, rfl, by rw [Fl.sh_iff.mp z]; rfl, k.flat s⟩) ho ha hbase hfew hline hs hplain hK
theorem ex_find3 {K : PySem.W.Frag} {mo : M Str} {ma : M (Str × Int × Unit)} (ho : EX X Γ o Ow.v mo to) (ha : EA X Γ [a, e] (As.cons (α := Str) (As.cons (α := Int) As.nil)) ma t) (hbase : attributeBase o "find" X.env (eval o X.env) = eval o X.env := by rfl)
    (hfew : ((backTo cpos (starEach [a, e] X.env)).all (fun x => !x.1) && (backToKw cpos (keywordEach [] X.env)).all (fun x => x.1.isSome)
      && decide ([a, e].length + ([] : List Keyword).length + (if ([] : List Keyword).isEmpty then 0 else 1) < 30)) = true := by rfl)
    (hline : (apos.endLine == cpos.line) = true := by rfl) (hs : starEach [a, e] X.env = (false, eval a X.env) :: starEach [e] X.env := by rfl) (hplain : (backTo cpos (starEach [e] X.env)).any (·.1) = false := by rfl) (hK : X.K = K := by rfl) :
    EX X Γ (.Call (.Attribute o "find" apos) [a, e] [] cpos) Ow.v (do let x ← mo; let y ← ma; pure (Txt.find3 x y.1 y.2.1)) (tBM K "str" rFind3 to t) :=
  ex_tm (r := rFind3) (A := Str × Int × Unit) (γ := Int) (w := Ow.v) (f := fun (x : Str) (y : Str × Int × Unit) => (pure (Txt.find3 x y.1 y.2.1) : M Int)) PySem.F.slot_str_find PySem.F.type_str_find mt_find3 (fun HF H x vs y c s h hc Q k => by
    obtain ⟨v, u, rfl, z, z2⟩ := as2 h
    cases pure_ok hc
    exact ⟨x, y.1, y.2.1, rfl, by rw [Fl.sh_iff.mp z, Fl.sh_iff.mp z2]; rfl, k.flat s⟩) ho ha hbase hfew hline hs hplain hK
theorem mt_indexOk : MtR X "str.index" (fun x xs H Q => ∃ (a b : Str) (k : Nat), x = .str a ∧ xs = [.str b] ∧ Txt.index0 a b = some k ∧ Q (.int (k : Nat)) H) := by
  intro pins s σ H x xs v us Q I rx rs h
  obtain ⟨a, b, k, rfl, rfl, hk, w⟩ := h
  obtain ⟨t, rfl⟩ := rx
  cases rs with
  | cons r1 rs =>
    cases rs
    obtain ⟨u, rfl⟩ := r1
    unfold Txt.index0 at hk
    cases q : Builtin.Str.occurrences a b 0 a.length 1 with
    | nil => rw [q] at hk; cases hk
    | cons k' rest =>
      rw [q] at hk
      cases hk
      exact PySem.SC.index q ⟨.int (k : Nat), H, I.tok _, ⟨_, rfl⟩, w⟩
theorem mt_indexFromOk : MtR X "str.index" (fun x xs H Q => ∃ (a b : Str) (i : Int) (k : Nat), x = .str a ∧ xs = [.str b, .int i] ∧ Txt.indexFrom a b i = some k ∧ Q (.int (k : Nat)) H) := by
  intro pins s σ H x xs v us Q I rx rs h
  obtain ⟨a, b, i, k, rfl, rfl, hk, w⟩ := h
  obtain ⟨t, rfl⟩ := rx
  cases rs with
  | cons r1 rs =>
    cases rs with
    | cons r2 rs =>
      cases rs
      obtain ⟨u, rfl⟩ := r1
      obtain ⟨z, rfl⟩ := r2
      unfold Txt.indexFrom at hk
      cases q : Builtin.Str.occurrences a b (PySem.fromIndex a.length i) a.length 1 with
      | nil => rw [q] at hk; cases hk
      | cons k' rest =>
        rw [q] at hk
        cases hk
        exact call_gives PySem.F.slot_str_index (typeIs_str _ _ _) PySem.F.entry_str_index (PySem.F.args_str_index_3 _ _ _) (gives_str_index_from a b i t u z k rest q) ⟨.int (k : Nat), H, I.tok _, ⟨_, rfl⟩, w⟩
def indexM (x y : Str) : M Int := do let k ← ofO (Txt.index0 x y); pure (k : Int)
def indexFM (x y : Str) (i : Int) : M Int := do let k ← ofO (Txt.indexFrom x y i); pure (k : Int)
theorem ex_index {K : PySem.W.Frag} {mo : M Str} {ma : M (Str × Unit)} (ho : EX X Γ o Ow.v mo to) (ha : EA X Γ [e] (As.cons (α := Str) As.nil) ma t) (hbase : attributeBase o "index" X.env (eval o X.env) = eval o X.env := by rfl)
    (hfew : ((backTo cpos (starEach [e] X.env)).all (fun x => !x.1) && (backToKw cpos (keywordEach [] X.env)).all (fun x => x.1.isSome)
      && decide ([e].length + ([] : List Keyword).length + (if ([] : List Keyword).isEmpty then 0 else 1) < 30)) = true := by rfl)
    (hline : (apos.endLine == cpos.line) = true := by rfl) (hs : starEach [e] X.env = (false, eval e X.env) :: starEach [] X.env := by rfl) (hplain : (backTo cpos (starEach [] X.env)).any (·.1) = false := by rfl) (hK : X.K = K := by rfl) :
    EX X Γ (.Call (.Attribute o "index" apos) [e] [] cpos) Ow.v (do let x ← mo; let y ← ma; indexM x y.1) (tBM K "str" rIndexOk to t) :=
  ex_tm (r := rIndexOk) (A := Str × Unit) (γ := Int) (w := Ow.v) (f := fun (x : Str) (y : Str × Unit) => indexM x y.1) PySem.F.slot_str_index PySem.F.type_str_index mt_indexOk (fun HF H x vs y c s h hc Q k => by
    obtain ⟨v, rfl, z⟩ := as1 h
    obtain ⟨n, e1, hc⟩ := bind_ok hc
    cases pure_ok hc
    exact ⟨x, y.1, n, rfl, by rw [Fl.sh_iff.mp z]; rfl, ofO_ok e1, k.flat s⟩) ho ha hbase hfew hline hs hplain hK
theorem ex_indexF {K : PySem.W.Frag} {mo : M Str} {ma : M (Str × Int × Unit)} (ho : EX X Γ o Ow.v mo to) (ha : EA X Γ [a, e] (As.cons (α := Str) (As.cons (α := Int) As.nil)) ma t) (hbase : attributeBase o "index" X.env (eval o X.env) = eval o X.env := by rfl)
    (hfew : ((backTo cpos (starEach [a, e] X.env)).all (fun x => !x.1) && (backToKw cpos (keywordEach [] X.env)).all (fun x => x.1.isSome)
      && decide ([a, e].length + ([] : List Keyword).length + (if ([] : List Keyword).isEmpty then 0 else 1) < 30)) = true := by rfl)
    (hline : (apos.endLine == cpos.line) = true := by rfl) (hs : starEach [a, e] X.env = (false, eval a X.env) :: starEach [e] X.env := by rfl) (hplain : (backTo cpos (starEach [e] X.env)).any (·.1) = false := by rfl) (hK : X.K = K := by rfl) :
    EX X Γ (.Call (.Attribute o "index" apos) [a, e] [] cpos) Ow.v (do let x ← mo; let y ← ma; indexFM x y.1 y.2.1) (tBM K "str" rIndexFromOk to t) :=
  ex_tm (r := rIndexFromOk) (A := Str × Int × Unit) (γ := Int) (w := Ow.v) (f := fun (x : Str) (y : Str × Int × Unit) => indexFM x y.1 y.2.1) PySem.F.slot_str_index PySem.F.type_str_index mt_indexFromOk (fun HF H x vs y c s h hc Q k => by
    obtain ⟨v, u, rfl, z, z2⟩ := as2 h
    obtain ⟨n, e1, hc⟩ := bind_ok hc
    cases pure_ok hc
    exact ⟨x, y.1, y.2.1, n, rfl, by rw [Fl.sh_iff.mp z, Fl.sh_iff.mp z2]; rfl, ofO_ok e1, k.flat s⟩) ho ha hbase hfew hline hs hplain hK
def joinM (x : Str) (ys : List Str) : M Str := do gd (decide ((ys.map (·.length)).sum + ys.length * x.length ≤ 16777216)); pure (Txt.join x ys)
theorem ex_join {K : PySem.W.Frag} {mo : M Str} {ma : M (List Str × Unit)} (ho : EX X Γ o Ow.v mo to) (ha : EA X Γ [e] (As.cons (α := List Str) As.nil) ma t) (hbase : attributeBase o "join" X.env (eval o X.env) = eval o X.env := by rfl)
    (hfew : ((backTo cpos (starEach [e] X.env)).all (fun x => !x.1) && (backToKw cpos (keywordEach [] X.env)).all (fun x => x.1.isSome)
      && decide ([e].length + ([] : List Keyword).length + (if ([] : List Keyword).isEmpty then 0 else 1) < 30)) = true := by rfl)
    (hline : (apos.endLine == cpos.line) = true := by rfl) (hs : starEach [e] X.env = (false, eval e X.env) :: starEach [] X.env := by rfl) (hplain : (backTo cpos (starEach [] X.env)).any (·.1) = false := by rfl) (hK : X.K = K := by rfl) :
    EX X Γ (.Call (.Attribute o "join" apos) [e] [] cpos) Ow.v (do let x ← mo; let y ← ma; joinM x y.1) (tBM K "str" (rJoin K) to t) := by
  subst hK
  exact ex_tm (r := rJoin X.K) (A := List Str × Unit) (γ := Str) (w := Ow.v) (f := fun (x : Str) (y : List Str × Unit) => joinM x y.1) PySem.F.slot_str_join PySem.F.type_str_join mt_join (fun HF H x vs y c s h hc Q k => by
    obtain ⟨v, rfl, z⟩ := as1 h
    obtain ⟨u, e1, hc⟩ := bind_ok hc
    cases pure_ok hc
    obtain ⟨q, us, e2, h1, h2⟩ := z
    have e3 := Fa.flat.mp h2
    subst e2 e3
    exact ⟨x, q, y.1, rfl, rfl, .inl (SqL.of (s _ _ h1)), of_decide_eq_true (gd_ok e1), k.flat s⟩) ho ha hbase hfew hline hs hplain rfl
end
end Ty

/-! ## Ty34: sorted(set(text)) -/
namespace Ty
open PySem PySem.Spec PyProof.Rows L2
def keyS (e : Int × Value) : Str := match e.2 with | .str k _ => k | _ => ⟨#[]⟩
def GoodS (w : World) (e : Int × Value) : Prop := ∃ k tk, e.2 = Value.str k tk ∧ e.1 = hashStr w k
theorem is_strT (k : Str) (u : Tok) {P : Program} {w : World} : (strKind P w).is k (.str k u) = true := by
  show Value.isStrOf k (.str k u) = true
  simp [Value.isStrOf]
theorem goodS_elems {P : Program} {w : World} {l : List (Int × Value)} (g : ∀ e ∈ l, GoodS w e) : ElemsOf (strKind P w) l := fun e he => by
  obtain ⟨k, tk, h1, h2⟩ := g e he
  exact ⟨⟨k, by rw [h1]; exact is_strT k tk, h2⟩, by rw [h1] <;> rfl⟩
theorem goodS_is {P : Program} {w : World} {e : Int × Value} (g : GoodS w e) (k : Str) : (strKind P w).is k e.2 = true ↔ keyS e = k := by
  obtain ⟨k0, tk, h1, _⟩ := g
  have h2 : keyS e = k0 := by unfold keyS; rw [h1]
  rw [h2]
  constructor
  · intro h
    exact ((strKind P w).inj _ _ _ h (by rw [h1]; exact is_strT k0 tk)).symm
  · rintro rfl
    rw [h1]
    exact is_strT k0 tk
theorem goodS_mem {P : Program} {w : World} {l : List (Int × Value)} (g : ∀ e ∈ l, GoodS w e) (k : Str) : k ∈ l.map keyS ↔ ∃ e ∈ l, (strKind P w).is k e.2 = true := by
  rw [List.mem_map]
  constructor
  · rintro ⟨e, he, q⟩
    exact ⟨e, he, (goodS_is (g e he) k).2 q⟩
  · rintro ⟨e, he, q⟩
    exact ⟨e, he, (goodS_is (P := P) (g e he) k).1 q⟩
/-- the set of texts at a -/
def SetX (w : World) (h : Heap) (a : Addr) (S : Str → Bool) (n : Nat) : Prop :=
  ∃ o es ep t, h.get? a = some o ∧ o.ExactSet ∧ o.data = .set es ep t ∧ (∀ e ∈ es.toList, GoodS w e) ∧ (es.toList.map keyS).Nodup ∧ (∀ k, S k = true ↔ k ∈ es.toList.map keyS) ∧
    es.size < scanBound ∧ t.fits es.size = true ∧ es.size = n ∧ Ris t.place.toList ∧ (w.params.followText "set-order" = true ∨ t.led = true)
section
variable {P : Program} {w : World} {h h' : Heap} {a : Addr} {S : Str → Bool} {n : Nat}
theorem SetX.at (R : SetX w h a S n) (k : ∀ o, h.get? a = some o → h'.get? a = some o) : SetX w h' a S n := by
  obtain ⟨o, es, ep, t, ho, r⟩ := R
  exact ⟨o, es, ep, t, k o ho, r⟩
theorem SetX.congr {S' : Str → Bool} (R : SetX w h a S n) (e : ∀ k, S' k = S k) : SetX w h a S' n := by
  have q : S' = S := funext e
  rw [q]; exact R
end
section
variable {P : Program} {w : World} {A : Around} {E : Value → Shared → Prop} {s : Shared} {a : Addr} {S : Str → Bool} {n : Nat}
theorem setX_add_tail {g : Bool → Sem Unit} (hg : ∀ (b : Bool) (s₁ : Shared) (Q' : Unit → Shared → Prop), Q' () s₁ → wpAny (model P w) A (g b) Q' E s₁)
    {o : Obj} {es : Array (Int × Value)} {ep : Nat} {t : SetTable} (ho : s.heap.get? a = some o) (hex : o.ExactSet) (hd : o.data = .set es ep t)
    {es1 : Array (Int × Value)} {t2 : SetTable} {S' : Str → Bool} (g1 : ∀ e ∈ es1.toList, GoodS w e) (nd1 : (es1.toList.map keyS).Nodup) (m1 : ∀ k, S' k = true ↔ k ∈ es1.toList.map keyS)
    (hb1 : es1.size < scanBound) (hf2 : t2.fits es1.size = true) (hr : Ris t2.place.toList) (hl : w.params.followText "set-order" = true ∨ t2.led = true) {wasDummy : Bool} {R : Option Bool → Shared → Prop}
    (hR : ∀ h', Heap.SameBut a s.heap h' → SetX w h' a S' es1.size → R (some true) { s with heap := h' }) :
    wpAny (model P w) A (do
        storeSet a es1 t2
        if (!wasDummy && t2.tooFull) = true then do
            g (relayAll t2 es1 (SetTable.grown es1.size)).2.2
            storeSet a (relayAll t2 es1 (SetTable.grown es1.size)).1 (relayAll t2 es1 (SetTable.grown es1.size)).2.1
            pure (some true)
          else pure (some true)) R E s := by
  refine wpAny_bind (wpAny_storeSet_of ho hd ?_ (fits_of_scanBound hb1))
  have ho1 := store_at (es' := es1) (t' := t2) ho hd
  have sb1 := Heap.SameBut.update s.heap a (Obj.putSet es1 t2)
  split
  · have pm := relayAll_perm t2 es1 (SetTable.grown es1.size)
    have hf3 := relayAll_fits t2 es1 (SetTable.grown es1.size)
    have hr3 := relayAll_ris t2 es1 (SetTable.grown es1.size)
    have hl3 := relayAll_led t2 es1 (SetTable.grown es1.size)
    generalize relayAll t2 es1 (SetTable.grown es1.size) = Z at pm hf3 hr3 hl3 ⊢
    obtain ⟨es2, t3, gave⟩ := Z
    dsimp only at pm hf3 hr3 hl3 ⊢
    have hsz : es2.size = es1.size := by rw [← Array.length_toList, pm.length_eq, Array.length_toList]
    have hb2 : es2.size < scanBound := by rw [hsz]; exact hb1
    refine wpAny_bind (hg _ _ _ ?_)
    refine wpAny_bind (wpAny_storeSet_of ho1 rfl ?_ (fits_of_scanBound hb2))
    have ho2 := store_at (es' := es2) (t' := t3) ho1 rfl
    refine wpAny_pure (hR _ (sb1.trans (Heap.SameBut.update _ a _)) ?_)
    exact ⟨_, es2, _, t3, ho2, hex, rfl, fun e he => g1 e (pm.mem_iff.mp he), (pm.map keyS).nodup_iff.mpr nd1, fun k => (m1 k).trans (pm.map keyS).mem_iff.symm, hb2, hf3, hsz, hr3,
      hl.imp id fun z => by rw [hl3]; exact z⟩
  · exact wpAny_pure (hR _ sb1 ⟨_, es1, _, t2, ho1, hex, rfl, g1, nd1, m1, hb1, hf2, rfl, hr, hl⟩)
theorem setX_add_hashed {k : Str} {tk : Tok} {Q : Bool → Shared → Prop} (R : SetX w s.heap a S n) (room : n + 1 < scanBound)
    (hQ : ∀ h', Heap.SameBut a s.heap h' → SetX w h' a (fun j => S j || decide (j = k)) (if S k = true then n else n + 1) → Q (!S k) { s with heap := h' }) :
    wpAny (model P w) A (setAddHashed a (.str k tk) ((strKind P w).hash k)) Q E s := by
  obtain ⟨o, es, ep, t, ho, hex, hd, g, nd, hm, hb, hf, hn, hr, hl⟩ := R
  have hkey : (strKind P w).is k (.str k tk) = true := is_strT k tk
  have hsc : (Value.str k tk).scannable = true := rfl
  have hel : ElemsOf (strKind P w) es.toList := goodS_elems g
  unfold setAddHashed setAddHashedIn
  refine wpAny_holding (wpAny_bind (wpAny_setState_of ho hd hf ?_))
  dsimp only
  rw [byScan_of hsc hb hel]
  simp only [↓reduceIte]
  unfold setAddByScan
  refine wpAny_bind ?_
  refine wpAny_bind (wpAny_rule ?_)
  refine wpAny_bind (wpAny_setScan_of hkey ho hd hf hel ?_)
  cases hfi : List.findIdx? (fun e => (strKind P w).is k e.2) es.toList with
  | some j =>
    dsimp only
    obtain ⟨hj, pj, _⟩ := List.findIdx?_eq_some_iff_getElem.mp hfi
    have hSk : S k = true := (hm k).2 ((goodS_mem (P := P) (w := w) g k).2 ⟨es.toList[j], List.getElem_mem hj, pj⟩)
    refine wpAny_pure (wpAny_pure ?_)
    have q := hQ s.heap (Heap.SameBut.refl a s.heap) ⟨o, es, ep, t, ho, hex, hd, g, nd, fun i => by
      rw [Bool.or_eq_true, decide_eq_true_eq, ← hm i]
      exact ⟨fun z => z.elim id (fun e => e ▸ hSk), .inl⟩, hb, hf, by rw [if_pos hSk]; exact hn, hr, hl⟩
    rw [hSk] at q
    exact q
  | none =>
    dsimp only
    have hnk : k ∉ es.toList.map keyS := fun z => by
      obtain ⟨e, he, q⟩ := (goodS_mem (P := P) (w := w) g k).1 z
      have c := List.findIdx?_eq_none_iff.mp hfi e he
      rw [q] at c
      cases c
    have hSk : S k = false := by
      cases q : S k with
      | false => rfl
      | true => exact absurd ((hm k).1 q) hnk
    have hgw : ∀ (b : Bool) {s₁ : Shared} {Q' : Unit → Shared → Prop}, Q' () s₁ → wpAny (model P w) A (match b with | true => rule "set.scan.the-table-gave-way" | false => pure ()) Q' E s₁ :=
      fun b s₁ Q' q => by cases b <;> first | exact wpAny_pure q | exact wpAny_rule q
    have pm := layNew_perm t es ((strKind P w).hash k) (.str k tk)
    have hf1 := layNew_fits t es ((strKind P w).hash k) (.str k tk)
    have hr1 := layNew_ris t es ((strKind P w).hash k) (.str k tk) hr
    have hl1 := layNew_led t es ((strKind P w).hash k) (.str k tk)
    generalize layNew t es ((strKind P w).hash k) (.str k tk) = Z at pm hf1 hr1 hl1 ⊢
    obtain ⟨es1, t1, wasDummy, gave⟩ := Z
    dsimp only at pm hf1 hr1 hl1 ⊢
    rw [Array.toList_push] at pm
    have pc : es1.toList.Perm (((strKind P w).hash k, Value.str k tk) :: es.toList) := pm.trans (List.perm_append_singleton _ _)
    have pk : (es1.toList.map keyS).Perm (k :: es.toList.map keyS) := pc.map keyS
    have g1 : ∀ e ∈ es1.toList, GoodS w e := fun e he => by
      rcases List.mem_cons.mp (pc.mem_iff.mp he) with z | z
      · rw [z]; exact ⟨k, tk, rfl, rfl⟩
      · exact g e z
    have nd1 : (es1.toList.map keyS).Nodup := pk.nodup_iff.mpr (List.nodup_cons.mpr ⟨hnk, nd⟩)
    have m1 : ∀ i, (S i || decide (i = k)) = true ↔ i ∈ es1.toList.map keyS := fun i => by
      rw [Bool.or_eq_true, decide_eq_true_eq, hm i, pk.mem_iff, List.mem_cons]
      exact Or.comm
    have hsz : es1.size = n + 1 := by rw [← Array.length_toList, pc.length_eq, List.length_cons, Array.length_toList, hn]
    have hb1 : es1.size < scanBound := by rw [hsz]; exact room
    have hled : w.params.followText "set-order" = true ∨ t1.led = true := hl.imp id fun z => by rw [hl1]; exact z
    have fin : ∀ h', Heap.SameBut a s.heap h' → SetX w h' a (fun j => S j || decide (j = k)) es1.size → Q true { s with heap := h' } := fun h' sb r => by
      have q := hQ h' sb
      rw [hSk] at q
      rw [hsz] at r
      exact q r
    refine wpAny_bind (hgw _ ?_)
    split
    · refine wpAny_bind ?_
      rw [hashByValue_scannable 8 hsc]
      refine wpAny_pure ?_
      refine setX_add_tail ?_ ho hex hd g1 nd1 m1 hb1 ?_ ?_ ?_ ?_
      · intro b s₁ Q' q; cases b <;> first | exact wpAny_pure q | exact wpAny_rule q
      · first | (split <;> first | exact hf1 | exact SetTable.fits_plain_off hf1) | exact hf1
      · first | (split <;> exact hr1) | exact hr1
      · first | (split <;> exact hled) | exact hled
      · intro h' sb r
        exact wpAny_pure (fin h' sb r)
    · refine wpAny_bind (wpAny_pure ?_)
      simp only [↓reduceIte]
      refine setX_add_tail ?_ ho hex hd g1 nd1 m1 hb1 ?_ ?_ ?_ ?_
      · intro b s₁ Q' q; cases b <;> first | exact wpAny_pure q | exact wpAny_rule q
      · first | (split <;> first | exact hf1 | exact SetTable.fits_plain_off hf1) | exact hf1
      · first | (split <;> exact hr1) | exact hr1
      · first | (split <;> exact hled) | exact hled
      · intro h' sb r
        exact wpAny_pure (fin h' sb r)
theorem set_update_strs {I : Addr} {fp wr : List Addr} {G : Array GenState → Array GenState → Prop} {n : Nat} {Pv : Nat → Value → Prop} {St : Nat → Shared → Prop} {R : Result → Shared → Prop}
    (W : WalksS P w A.in1 I fp wr G n Pv St) (S : Addr) (hSf : S ∉ fp) (ns : List Str) (hn : n = ns.length) (hb : ns.length + 1 < scanBound) (hval : ∀ i v, Pv i v → ∃ k t, ns[i]? = some k ∧ v = .str k t) :
    ∀ (k i : Nat) (s : Shared), n - i = k → i ≤ n → St i s → (∃ c, c ≤ i ∧ SetX w s.heap S (fun j => decide (j ∈ ns.take i)) c) →
      (∀ s' c, Moved (S :: wr) G s s' → c ≤ n → SetX w s'.heap S (fun j => decide (j ∈ ns)) c → R (.ok (.ret .none)) s') →
      codeAny (model P w) A (.builtin "set.update.loop" ⟨[.ref S, .ref I], []⟩) R s := by
  have hSw : S ∉ wr := fun h => hSf (W.sub _ h)
  have hsub : ∀ b ∈ wr, b ∈ S :: wr := fun b hb => List.mem_cons_of_mem _ hb
  intro k
  induction k with
  | zero =>
    intro i s hk' hi hst ⟨c, hc, hS⟩ hR
    have hin : i = n := by omega
    subst hin
    refine codeAny_builtin PyProof.Rows.F.entry_set_update_loop ?_
    rw [Around.under_plainId PyProof.Rows.F.plain_set_update_loop _]
    show wpAny _ A.in1 (pyNext (.ref I) >>= _) _ _ s
    refine wpAny_bind (W.done s _ _ hst fun s' hm => ?_)
    show wpAny _ A.in1 (ret Value.none) _ _ s'
    have e : ns.take i = ns := List.take_of_length_le (by omega)
    rw [e] at hS
    exact wpAny_pure (hR s' c (hm.mono hsub) hc (hS.at fun o e => hm.heap S o hSw e))
  | succ k ih =>
    intro i s hk' hi hst ⟨c, hc, hS⟩ hR
    have hlt : i < n := by omega
    refine codeAny_builtin PyProof.Rows.F.entry_set_update_loop ?_
    rw [Around.under_plainId PyProof.Rows.F.plain_set_update_loop _]
    show wpAny _ A.in1 (pyNext (.ref I) >>= _) _ _ s
    refine wpAny_bind (W.item i s _ _ hlt hst fun v s' hP hst' hm => ?_)
    obtain ⟨z, t, hz, rfl⟩ := hval i v hP
    have hS' : SetX w s'.heap S (fun j => decide (j ∈ ns.take i)) c := hS.at fun o e => hm.heap S o hSw e
    show wpAny _ A.in1 (holding [Value.str z t] (setAdd S (.str z t)) >>= _) _ _ s'
    refine wpAny_bind (wpAny_holding ?_)
    unfold setAdd
    refine wpAny_holding ?_
    refine wpAny_bind ((strKind P w).pyHash (k := z) (is_strT _ _) ?_)
    refine setX_add_hashed (s := { s' with toks := s'.toks + 1 }) hS' (by omega) fun h' hsb hS2 => ?_
    have hS3 : SetX w h' S (fun j => decide (j ∈ ns.take (i + 1))) (if decide (z ∈ ns.take i) = true then c else c + 1) := hS2.congr fun j => by
      rw [List.take_add_one, hz]
      simp [List.mem_append]
    have hc3 : (if decide (z ∈ ns.take i) = true then c else c + 1) ≤ i + 1 := by
      split <;> omega
    refine wpAny_pure ⟨plainId_quiet PyProof.Rows.F.plain_set_update_loop _, ih (i + 1) _ (by omega) hlt (W.frame _ s' _ _ hst' (Nat.le_succ _) fun b hb o e => ?_) ⟨_, hc3, hS3⟩ fun s'' c2 hm'' hc'' hS'' => ?_⟩
    · rw [hsb.2 b (fun h : b = S => hSf (by rw [← h]; exact hb))]; exact e
    · refine hR s'' c2 (Moved.trans W.gtrans ((hm.mono hsub).then_heap (Nat.le_succ _) fun b o hb e => ?_) hm'') hc'' hS''
      rw [hsb.2 b (fun h : b = S => hb (by rw [h]; exact List.mem_cons_self))]; exact e
theorem setX_new_at {h : Heap} {a : Addr} {w : World} (ho : h.get? a = some (set0 w)) : SetX w h a (fun j => decide (j ∈ ([] : List Str))) 0 :=
  ⟨_, #[], 0, _, ho, ⟨rfl, rfl, rfl⟩, rfl, fun e he => by simp at he, by simp, fun k => by simp, by unfold scanBound; decide, rfl, rfl, List.Pairwise.nil, by
    cases w.params.followText "set-order" <;> first | exact .inl rfl | exact .inr rfl⟩
set_option maxHeartbeats 3200000 in
theorem call_set_txt {x : Str} {u : Tok} {Q : Value → Shared → Prop} (hh : A.handled = none) (hb : x.cps.size + 1 < scanBound)
    (h : ∀ (h' : Heap) (tk c : Nat), SetX w h' s.heap.objs.size (fun j => decide (j ∈ x.cps.toList.map sgS)) c → c ≤ x.cps.size → (∀ b o, s.heap.get? b = some o → h'.get? b = some o) → Q (.ref s.heap.objs.size) { s with heap := h', toks := tk }) :
    wpAny (model P w) A (call (.type "set") [.str x u]) Q E s := by
  have ⟨c, tl, hmro⟩ := PySem.F.called_set.mro
  have hmade := PySem.F.called_set.made
  have hsub := PySem.F.called_set.sub
  have h1 := PySem.F.called_set.notType
  have h2 := PySem.F.called_set.canCreate
  have hct := PySem.F.typeCall_set_1 (.str x u)
  refine wpAny_call (codeAny_of_tree ?_)
  show wpAny _ _ (callAny (.type "set") _) _ _ _
  refine wpAny_pure ⟨Code.quiet_builtin _ (by decide +kernel), codeAny_builtin PySem.F.entry_type_call ?_⟩
  rw [Around.under_plain (weight_type_call_type "set" [.str x u] []) rfl]
  repeat (any_goals (first | assumption | wp_step))
  refine codeAny_mono (code_set_led1 (.str x u) (E := E) (Q₁ := fun obj s₁ => obj = .ref s.heap.objs.size ∧ s₁ = { s with heap := s.heap.push (set0 w) }) ⟨rfl, rfl⟩) fun r s₁ hr => ?_
  cases r with
  | error e => exact hr
  | ok fl =>
    cases fl with
    | ret obj =>
      obtain ⟨rfl, rfl⟩ := hr
      have hS : (s.heap.push (set0 w)).get? s.heap.objs.size = some (set0 w) := Heap.get?_push_size _ rfl
      have hT : Shared.TypeIs { s with heap := s.heap.push (set0 w) } (.ref s.heap.objs.size) "set" := ⟨_, hS, rfl⟩
      have hli := PySem.F.called_set.init.lookup
      have hbi := PySem.F.called_set.init.bind (.ref s.heap.objs.size)
      repeat (any_goals (first | assumption | wp_step))
      refine codeAny_mono (codeAny_call_builtin (R := wants (fun r s₂ => r = .none ∧ ∃ h' tk c, s₂ = { s with heap := h', toks := tk } ∧ SetX w h' s.heap.objs.size (fun j => decide (j ∈ x.cps.toList.map sgS)) c ∧ c ≤ x.cps.size ∧
          (∀ b o, s.heap.get? b = some o → h'.get? b = some o)) E) PySem.F.called_set.init.plain PySem.F.entry_set_init (check_set_init_1 hT ?_)) fun r₂ s₂ hr₂ => ?_
      · have hsl := PySem.F.sub_str_set
        have hslf := PySem.F.sub_str_frozenset
        have hne : (Value.type "str" == Value.type "dict") = false := by decide
        unfold Builtin.«set.__init__» noKeywords Builtin.Frozenset.updateFrom
        generalize hPI : pyIter = PI
        wp_walk
        subst hPI
        refine wpAny_pyIter_str fun oI St hW hst => ?_
        refine wpAny_bind (wpAny_runValue ?_)
        have hsz : (s.heap.push (set0 w)).objs.size = s.heap.objs.size + 1 := Heap.size_push ..
        have hSf : s.heap.objs.size ∉ [(s.heap.push (set0 w)).objs.size] := by
          rw [hsz]; simp only [List.mem_cons, List.not_mem_nil, or_false]; exact Nat.ne_of_lt (Nat.lt_succ_self _)
        have hlen : x.cps.size = (x.cps.toList.map sgS).length := by rw [List.length_map, Array.length_toList]
        have hval : ∀ (i : Nat) (v : Value), SignAt x i v → ∃ k t, (x.cps.toList.map sgS)[i]? = some k ∧ v = .str k t := fun i v hv => by
          obtain ⟨c, u, h1, h2⟩ := hv
          refine ⟨⟨#[c]⟩, u, ?_, h2⟩
          rw [List.getElem?_map, Array.getElem?_toList, h1]; rfl
        refine set_update_strs ((hW A.in1.in1.in1 (by simp [hh])).toS) s.heap.objs.size hSf (x.cps.toList.map sgS) hlen (by rw [← hlen]; exact hb) hval (x.cps.size - 0) 0 _ (by omega) (Nat.zero_le _) ?_ ?_ ?_
        · exact hst
        · exact ⟨0, Nat.le_refl 0, setX_new_at (Heap.get?_push_of_some _ hS)⟩
        intro s' c' hm hc' hS'
        obtain ⟨h', g2, d', tk', os'⟩ := s'
        obtain rfl : g2 = s.gens := hm.gens
        obtain rfl : d' = s.drawn := hm.drawn
        obtain rfl : os' = s.os := hm.os
        show wpAny _ _ _ _ _ _
        refine wpAny_pure ?_
        show wpAny _ _ (ret Value.none) _ _ _
        refine wpAny_pure ⟨rfl, h', tk', c', rfl, hS', hc', fun b o e => ?_⟩
        have hb0 : b < s.heap.objs.size := Heap.lt_size e
        refine hm.heap b o ?_ (Heap.get?_push_of_some _ (Heap.get?_push_of_some _ e))
        simp only [List.mem_cons, List.not_mem_nil, or_false, not_or]
        exact ⟨Nat.ne_of_lt hb0, by rw [hsz]; exact Nat.ne_of_lt (Nat.lt_succ_of_lt hb0)⟩
      · cases r₂ with
        | error e => exact hr₂
        | ok fl₂ =>
          cases fl₂ with
          | ret r =>
            obtain ⟨rfl, h', tk, c', rfl, hS', hc', hk'⟩ := hr₂
            repeat (any_goals (first | assumption | wp_step))
            exact h _ _ _ hS' hc' hk'
          | _ => exact hr₂.elim
    | _ => exact hr.elim
theorem strs_of : ∀ (vs : List Value), (∀ v ∈ vs, ∃ (k : Str) (t : Tok), v = .str k t) → ∀ (f : Value → Str), (∀ k t, f (.str k t) = k) → StrsAre vs (vs.map f)
  | [], _, _, _ => .nil
  | v :: vs, h, f, hf => by
    obtain ⟨k, t, e⟩ := h v List.mem_cons_self
    subst e
    rw [List.map_cons, hf]
    exact .cons _ _ (strs_of vs (fun u hu => h u (List.mem_cons_of_mem _ hu)) f hf)
theorem sorted_setX (R : SetX w s.heap a S n) (hh : A.handled = none) (h64 : n < 64) {Q : Value → Shared → Prop}
    (hQ : ∀ s' p (out : Array Value) (c : Nat) (ns : List Str), (∀ b o, s.heap.get? b = some o → s'.heap.get? b = some o) → s'.gens = s.gens → s'.os = s.os → s.heap.objs.size ≤ p →
      s'.heap.get? p = some (seqObj "list" out c) → StrsAre out.toList ns → sortedS ns = true → ns.Nodup → (∀ k, k ∈ ns ↔ S k = true) → ns.length = n → Q (.ref p) s') :
    wpAny (model P w) A (call (.builtin "sorted") [.ref a]) Q E s := by
  obtain ⟨o, es, ep, t, ho, hex, hd, g, nd, hm, hb, hf, hn, hr, hl⟩ := R
  refine Calls.call_function_entry kind_sorted plain_sorted entry_sorted (args_sorted1 _) ?_
  unfold Builtin.«sorted»
  refine wpAny_bind (m := checkCount "sorted" 1 1 _) (wpAny_pure ?_)
  refine wpAny_bind (collect_set (A := A.in1) hh ⟨o, ho, hex.1, hd⟩ hf hb hr hl fun s1 vs k1 hz g1 o1 pm => ?_)
  have hvl : vs.length = n := by rw [pm.length_eq, List.length_map, Array.length_toList]; exact hn
  have hI : StrsAre vs (vs.map fun v => keyS (0, v)) := strs_of vs (fun v hv => by
    obtain ⟨e, he, q⟩ := List.mem_map.mp (pm.mem_iff.mp hv)
    obtain ⟨k, tk, h1, _⟩ := g e he
    exact ⟨k, tk, by rw [← q]; exact h1⟩) _ fun _ _ => rfl
  have pk : (vs.map fun v => keyS (0, v)).Perm (es.toList.map keyS) := by
    have q := pm.map fun v => keyS (0, v)
    rw [List.map_map] at q
    exact q
  refine wpAny_bind (wpAny_newList ?_ (by rw [hvl, sizeLine_eq]; omega))
  have hoL : (s1.heap.push (seqObj "list" vs.toArray 0)).get? s1.heap.objs.size = some (seqObj "list" vs.toArray 0) := Heap.get?_push_size _ rfl
  refine wpAny_bind (wpAny_holding (wpAny_call_entry slot_list_sort ⟨_, hoL, rfl⟩ entry_list_sort (list_sort_treeK strKind_oneLt hoL hI.keysOf (fun v₁ v₂ rest e => keyKind_strs (by rw [← e]; exact hI)) (by rw [hvl]; exact h64) fun st' hp hs => ⟨_, rfl, ?_⟩) (args_list_sort _)))
  obtain ⟨ys, a1, a2, a3⟩ := sorted_out_str hI hp hs
  obtain ⟨c, hc⟩ := sortedHeap_at (vs := vs) (out := (arrOf st').map (·.2)) hoL
  have pn : ys.Perm (es.toList.map keyS) := a2.trans pk
  refine wpAny_pure ⟨_, rfl, hQ _ s1.heap.objs.size _ c ys (fun b u e => ?_) g1 o1 hz hc a1 a3 (pn.nodup_iff.mpr nd) (fun k => by rw [pn.mem_iff, ← hm k]) ?_⟩
  · have q := k1 b u e
    have hlt := Heap.lt_size q
    show (sortedHeap (s1.heap.push (seqObj "list" vs.toArray 0)) s1.heap.objs.size vs _).get? b = some u
    rw [sortedHeap_old (Nat.ne_of_lt hlt) (by rw [size_push']; exact Nat.lt_succ_of_lt hlt)]
    exact Heap.get?_push_of_some _ q
  · rw [pn.length_eq, List.length_map, Array.length_toList]; exact hn
end
/-! ### the law of what is told -/
theorem ltCps_one (a b : Nat) : ltCps [a] [b] = decide (a < b) := by
  show (decide (a < b) || (a == b && ltCps [] [])) = _
  simp [ltCps]
theorem rising_sing : ∀ (l : List Nat) (p : Nat), risingS (sgS p) (l.map sgS) = true → (p :: l).Pairwise (· ≤ ·)
  | [], p, _ => List.pairwise_singleton ..
  | x :: l, p, h => by
    have h : (!ltCps [x] [p] && risingS (sgS x) (l.map sgS)) = true := h
    rw [Bool.and_eq_true, Bool.not_eq_true', ltCps_one, decide_eq_false_iff_not] at h
    have ih := rising_sing l x h.2
    refine List.pairwise_cons.mpr ⟨fun y hy => ?_, ih⟩
    rcases List.mem_cons.mp hy with z | z
    · omega
    · have := (List.pairwise_cons.mp ih).1 y z
      omega
theorem sorted_sing {l : List Nat} (h : sortedS (l.map sgS) = true) : l.Pairwise (· ≤ ·) := by
  cases l with
  | nil => exact .nil
  | cons p l => exact rising_sing l p h
theorem sg_inj {a b : Nat} (h : sgS a = sgS b) : a = b := by
  have q : [a] = [b] := congrArg (fun y : Str => y.cps.toList) h
  exact (List.cons.inj q).1
/-- the signs of a text, rising, each once -/
def csort (x : Str) : List Nat := (sset (x.cps.toList.map Int.ofNat)).map Int.toNat
theorem mem_csort {x : Str} {c : Nat} : c ∈ csort x ↔ c ∈ x.cps.toList := by
  unfold csort
  rw [List.mem_map]
  constructor
  · rintro ⟨i, h, rfl⟩
    obtain ⟨n, h2, rfl⟩ := List.mem_map.mp (mem_sset.mp h)
    exact h2
  · intro h
    exact ⟨Int.ofNat c, mem_sset.mpr (List.mem_map.mpr ⟨c, h, rfl⟩), rfl⟩
theorem csort_up (x : Str) : (csort x).Pairwise (· < ·) := by
  unfold csort
  rw [List.pairwise_map]
  refine (sset_up _).imp_of_mem ?_
  intro a b ha hb h
  obtain ⟨n, _, rfl⟩ := List.mem_map.mp (mem_sset.mp ha)
  obtain ⟨m, _, rfl⟩ := List.mem_map.mp (mem_sset.mp hb)
  have h : (n : Int) < (m : Int) := h
  show n < m
  omega
theorem nup_uniq {a b : List Nat} (ha : a.Pairwise (· < ·)) (hb : b.Pairwise (· < ·)) (h : ∀ x, x ∈ a ↔ x ∈ b) : a = b := by
  have na : a.Nodup := by rw [List.nodup_iff_pairwise_ne]; exact ha.imp fun h => by omega
  have nb : b.Nodup := by rw [List.nodup_iff_pairwise_ne]; exact hb.imp fun h => by omega
  exact List.Perm.eq_of_pairwise (le := fun (x y : Nat) => x ≤ y) (fun a b _ _ h1 h2 => by omega) (ha.imp fun h => by omega) (hb.imp fun h => by omega) ((List.perm_ext_iff_of_nodup na nb).mpr h)
theorem tset_uniq {x : Str} {ys : List Str} (h1 : sortedS ys = true) (h2 : ys.Nodup) (h3 : ∀ k, k ∈ ys ↔ k ∈ x.cps.toList.map sgS) : ys = (csort x).map sgS := by
  have : ∃ l : List Nat, ys = l.map sgS := by
    have : ∀ ys : List Str, (∀ k ∈ ys, k ∈ x.cps.toList.map sgS) → ∃ l : List Nat, ys = l.map sgS := by
      intro ys
      induction ys with
      | nil => intro _; exact ⟨[], rfl⟩
      | cons y ys ih =>
        intro h
        obtain ⟨c, _, e⟩ := List.mem_map.mp (h y List.mem_cons_self)
        obtain ⟨l, e2⟩ := ih fun k hk => h k (List.mem_cons_of_mem _ hk)
        exact ⟨c :: l, by rw [List.map_cons, e, e2]⟩
    exact this ys fun k hk => (h3 k).mp hk
  obtain ⟨l, rfl⟩ := this
  have a1 := sorted_sing h1
  have a2 : l.Nodup := List.Pairwise.of_map sgS (fun a b h e => h (by rw [e])) h2
  rw [List.nodup_iff_pairwise_ne] at a2
  have a3 : l.Pairwise (· < ·) := (List.pairwise_and_iff.mpr ⟨a1, a2⟩).imp fun ⟨a, b⟩ => by omega
  congr 1
  refine nup_uniq a3 (csort_up x) fun c => ?_
  rw [mem_csort]
  have q := h3 (sgS c)
  constructor
  · intro h
    obtain ⟨d, h, e⟩ := List.mem_map.mp (q.mp (List.mem_map.mpr ⟨c, h, rfl⟩))
    rw [← sg_inj e]; exact h
  · intro h
    obtain ⟨d, h, e⟩ := List.mem_map.mp (q.mpr (List.mem_map.mpr ⟨c, h, rfl⟩))
    rw [← sg_inj e]; exact h
def tSortSetX (ta : TE) : TE := fun σ H Q => ta σ H fun x H1 => ∃ z : Str, x = .str z ∧ z.length ≤ 60 ∧
  ∀ (p : Addr) (H2 : Hp), H1 p = none → Same H1 H2 → H2 p = some (.lst (((csort z).map sgS).map V.str)) → Q (.ref p) H2
def sortTxtM (x : Str) : M (List Str) := do gd (decide (x.length ≤ 60)); pure ((csort x).map sgS)
section
variable {X : Cx} {Γ : Ctx} {a : Expr} {p p2 q : Pos} {ta : TE}
theorem pe_sortSetX (hg : Gl X "sorted") (hm : X.mg "sorted" = none) (hg2 : Gl X "set") (hm2 : X.mg "set" = none) (ha : PE X a ta) (hc : X.calm = true := by rfl)
    (na : starEach [a] X.env = (false, eval a X.env) :: starEach [] X.env := by rfl) : PE X (.Call (.Name "sorted" p) [.Call (.Name "set" p2) [a] [] q] [] pos) (tSortSetX ta) := by
  refine ⟨fun pins s σ H Q I h => ?_⟩
  refine Call_ (ld_blt (u := .builtin "sorted") I hg hm (by decide +kernel) ?_)
  refine PyProof.Rows.callWith_builtin1 (PyProof.Rows.args_cons ?_ rfl) rfl rfl
  refine Call_ (ld_blt I hg2 hm2 boot_set ?_)
  refine PyProof.Rows.callWith_type1 (PyProof.Rows.args_cons (thn (ha.run pins s σ H _ I h) fun v s1 ⟨x, H1, I1, r1, q1⟩ => PyProof.Rows.args_nil ?_) na) na rfl
  obtain ⟨z, rfl, hl, q1⟩ := q1
  obtain ⟨t, rfl⟩ := r1
  have hl : z.cps.size ≤ 60 := hl
  refine call_set_txt (I1.ok.hd hc) (by unfold scanBound; omega) fun h' tk c hS hcl hk => ?_
  refine PyProof.Rows.args_nil ?_
  have I2 : Inv X pins σ H1 { s1 with heap := h', toks := tk } := I1.kept fun b o e => hk b o e
  have hS2 : SetX X.w ({ s1 with heap := h', toks := tk } : Shared).heap s1.heap.objs.size (fun j => decide (j ∈ z.cps.toList.map sgS)) c := hS
  have hcd := I1.ok.hd hc
  generalize ({ s1 with heap := h', toks := tk } : Shared) = s2 at I2 hS2 ⊢
  refine sorted_setX (s := s2) hS2 (I1.ok.hd hc) (by omega) fun s' p out c' ns k g o hp hg hi hs hnd hmem hlen => ?_
  have hn : H1 p = none := I2.hok.fresh hp
  have en : ns = (csort z).map sgS := tset_uniq hs hnd fun k => (hmem k).trans (by simp)
  have hlen : (ns.map V.str).length ≤ sizeLine := by rw [List.length_map, hlen, sizeLine_eq]; omega
  have J : Inv X pins σ (upd H1 p (.lst (ns.map V.str))) { s2 with heap := s'.heap, gens := s'.gens, drawn := s'.drawn, toks := s'.toks } :=
    I2.call (ch := []) (Un.laid k hp hn) (I2.hok.laid k hp ⟨hlen, out.toList, c', vals_of_strs hi, hg⟩) (by rw [g]; exact I2.bare) (fun _ z => nomatch z)
  have e : s' = { s2 with heap := s'.heap, gens := s'.gens, drawn := s'.drawn, toks := s'.toks } := by
    cases s'
    cases s2
    cases o
    rfl
  rw [e]
  refine ⟨.ref p, _, J, rfl, q1 p _ hn (fun b u e => ?_) (by rw [en]; exact upd_same)⟩
  rw [upd_ne (ne_of_none e hn)]; exact e
theorem ex_sortSetX {K : PySem.W.Frag} {m : M Str} (hc : X.calm = true) (hm : X.mg "sorted" = none) (hm2 : X.mg "set" = none) (h : EX X Γ a Ow.v m ta) (hg : Gl X "sorted" := by rfl) (hg2 : Gl X "set" := by rfl) (na : starEach [a] X.env = (false, eval a X.env) :: starEach [] X.env := by rfl) (hK : X.K = K := by rfl) :
    EX X Γ (.Call (.Name "sorted" p) [.Call (.Name "set" p2) [a] [] q] [] pos) (Ow.l Ow.v) (do let a ← m; sortTxtM a) (tSortSetX ta) := by
  subst hK
  exact ⟨pe_sortSetX hg hm hg2 hm2 h.pe hc na, fun HF0 G HF H σ g c hcc Q k => by
    obtain ⟨x, e1, hcc⟩ := bind_ok hcc
    obtain ⟨u, e2, hcc⟩ := bind_ok hcc
    cases pure_ok hcc
    refine h.sem HF0 G HF H σ g x e1 _ fun v HF1 H1 fp s1 r1 _ _ => ?_
    have r1 := Fl.sh_iff.mp r1.1
    subst r1
    refine ⟨x, rfl, of_decide_eq_true (gd_ok e2), fun p H2 p3 p4 p5 => ?_⟩
    have hp0 : ∀ (M : Hp), Same M H1 → M p = none := fun M sm => by
      cases z : M p with
      | none => rfl
      | some u =>
        have := sm _ _ z
        rw [p3] at this; cases this
    exact k (.ref p) HF1 H2 [p] (s1.trans ⟨Same.refl _, p4, s1.sub.trans p4, fun b u e f => by rw [f] at e; cases e⟩) ⟨p, ((csort x).map sgS).map V.str, [], rfl, rfl, p5, Rl.ofFa (Fa.flat.mpr rfl)⟩ (by simp) fun b hb => by
      rw [List.mem_singleton.mp hb]
      exact ⟨hp0 H s1.exH, hp0 HF1 s1.sub⟩⟩
end
end Ty

/-! ## Ty35: x.extend(a new list) -/
namespace Ty
open PySem PySem.Spec PyProof.Rows L2
def extM {α : Type} (as bs : List α) : M (List α) := do gd (decide (as.length + bs.length ≤ sizeLine)); pure (as ++ bs)
section
variable {X : Cx} {Γ : Ctx} {S L ρ α β γ A B S' : Type} [Rp ρ] {o : Ow ρ} {Γo : S → Ctx} {ΓL : L → Ctx} {a b e : Expr} {es : List Expr} {pos p apos cpos : Pos} {ta tb te : TE} {t : TA} {sts : List Stmt} {tr tr' : TS}
theorem ss_ext [Rp α] (i : Nat) {as : List α} {x : Str} {m : M (List α)} {k : List α → M (Ctl S L ρ)} (he : EX X Γ e (Ow.l (Ow.v : Ow α)) m te) (hr : ∀ l, SS X (put Γ i (.mk (Ow.l (Ow.v : Ow α)) l)) sts Γo ΓL o (k l) tr) (hl : look Γ i = .mk (Ow.l (Ow.v : Ow α)) as := by rfl) (hN : X.N[i]? = some x := by rfl) (hv : Vis X.env.scope x := by first | exact Or.inl rfl | exact Or.inr (Or.inl rfl) | exact Or.inr (Or.inr rfl)) (hd : (x == ("__debug__" : Str)) = false := by decide)
    (hcd : (x == ("__classdict__" : Str)) = false := by decide)
    (hpe : ∀ {to : TE} {tt : TA}, PE X (.Name x p) to → PA X [e] tt → PE X (.Call (.Attribute (.Name x p) "extend" apos) [e] [] cpos) (tBM X.K "list" rExtend to tt) := by exact fun h h' => pe_bm PySem.F.plainAttrs_list PySem.F.slot_list_extend PySem.F.type_list_extend mt_extend h h')
    (h1 : starEach [e] X.env = (false, eval e X.env) :: starEach [] X.env := by rfl)
    (hs : swapsWith (.Call (.Attribute (.Name x p) "extend" apos) [e] [] cpos) none pos.line X.env = pure false := by rfl) :
    SS X Γ (.Expr (.Call (.Attribute (.Name x p) "extend" apos) [e] [] cpos) pos :: sts) Γo ΓL o (do let a ← m; let l ← extM as a; k l) (tSeq (tDrop (tBM X.K "list" rExtend (tVar i) (tCons te tNil))) tr) :=
  ⟨pss_cons (ps_expr (hpe (pe_var hN hv hd hcd) (pa_cons he.pe pa_nil h1)) hs) (hr []).pss, fun HF0 G HF H σ g c hc D kk => by
    obtain ⟨y, e1, hc⟩ := bind_ok hc
    obtain ⟨l, e2, hc⟩ := bind_ok hc
    obtain ⟨w, e3, e2⟩ := bind_ok e2
    have e4 := pure_ok e2
    subst e4
    obtain ⟨v, fo, hσ, ⟨q, vs, fq, h1, h2, h3, h4⟩, nd, hfo, back⟩ := g.take hl
    subst h1 h2
    refine ⟨.ref q, hσ, .inl ⟨rfl, vs, SqL.of h3⟩, ?_⟩
    refine he.sem HF0 G HF H σ g y e1 _ fun v' HF1 H1 fp st r n f => ?_
    obtain ⟨b, zs, fb, j1, j2, j3, j4⟩ := r
    subst j1 j2
    refine ⟨q, b, vs, zs, rfl, rfl, st.exH _ _ h3, j3, by rw [h4.len, j4.len]; exact of_decide_eq_true (gd_ok e3), ?_⟩
    obtain ⟨fa, e5⟩ := h4.toFa
    obtain ⟨fz, e6⟩ := j4.toFa
    subst e5 e6
    have fa1 := fa.mono (fun v a h => Rp.mono st.exF h)
    have gg := back (u' := Ow.l (Ow.v : Ow α)) (b := as ++ y) (v' := .ref q) (f' := [q]) (H' := upd H1 q (.lst (vs ++ zs))) st (fun p w hp e => by rw [upd_ne (fun z => hp (by rw [z]; exact List.mem_cons_self ..))]; exact e)
      ⟨q, vs ++ zs, [], rfl, rfl, upd_same, Rl.append (f := []) (g := []) (Rl.ofFa fa1) (Rl.ofFa fz)⟩ (by simp) (fun p hp => .inl hp)
    rw [set_self hσ] at gg
    exact (hr (as ++ y)).sem HF0 G HF1 _ σ gg c hc D (kk.mono st.exF)⟩
end
end Ty

/-! ## Ty36: enumerate of a text; count and index in lists -/
namespace Ty
open PySem PySem.Spec PyProof.Rows L2
/-- each sign of a text, in a new pair with its place -/
def Itb (x : Str) : It :=
  ⟨fun i _ => i < x.cps.size, fun i H v H' => ∃ T c, v = .ref T ∧ H T = none ∧ x.cps[i]? = some c ∧ H' = upd H T (.tup [.int (i : Nat), .str ⟨#[c]⟩]), fun i _ => x.cps.size ≤ i⟩
theorem drw_str {P : Program} {w : World} {A : Around} (hh : A.handled = none) (it : Addr) (x : Str) (t : Tok) {ty : String} (hty : ty = "str_ascii_iterator" ∨ ty = "str_iterator") :
    Draws P w A.in1 it [it] x.cps.size (fun i v => ∃ c u, x.cps[i]? = some c ∧ v = .str ⟨#[c]⟩ u) (fun i h => h.IsStrIter it ty x t i) := by
  rcases hty with e | e
  · rw [e]; exact Draws.strAscii (A := A.in1) hh it x t
  · rw [e]; exact Draws.strWide (A := A.in1) hh it x t
theorem turn_enumS {P : Program} {w : World} {K : PySem.W.Frag} {elts : List Expr} {kk : Nat} {tpos : Pos} (e it : Addr) (x : Str) (t : Tok) {ty : String} (hty : ty = "str_ascii_iterator" ∨ ty = "str_iterator") :
    Turn P w K (.Tuple elts kk tpos) (Itb x) [e, it] e (fun i h => (∃ old, IsEnum h e it ((i : Nat) : Int) old) ∧ h.IsStrIter it ty x t i ∧ e ≠ it) where
  mem := by simp
  obj := fun i h st b hb => by
    obtain ⟨⟨old, he⟩, ⟨o, ho, hc, hd⟩, _⟩ := st
    have e' : b = e ∨ b = it := by simpa using hb
    rcases e' with z | z
    · rw [z]; exact ⟨_, he, fun v q => nomatch q⟩
    · rw [z]; exact ⟨o, ho, fun v q => by rw [hd] at q; cases q⟩
  keep := fun i h h' st k => let ⟨⟨old, he⟩, hi, hne⟩ := st; ⟨⟨old, k e (by simp) _ he⟩, (let ⟨o, ho, r⟩ := hi; ⟨o, k it (by simp) o ho, r⟩), hne⟩
  item := by
    intro X hP hw hK hc i pins s σ H E I hf st hg
    subst hP hw hK
    obtain ⟨⟨old, he⟩, hit, hne⟩ := st
    have D := drw_str (P := X.prog) (w := X.w) (A := X.A) (I.ok.hd hc) it x t hty
    have hel : e < s.heap.objs.size := Heap.lt_size he
    have hil : it < s.heap.objs.size := by obtain ⟨_, q, _⟩ := hit; exact Heap.lt_size q
    refine wpAny_pyNext_enum_itemD D he hit hg hne (by simpa using hne) fun u h' tk hu ho hit' hT hsz hk => ?_
    obtain ⟨c, v0, hcx, rfl⟩ := hu
    refine ⟨_, rfl, wpAny_letOwnedTupleGo_enum (prog := X.prog) (w := X.w) (s := { s with heap := h', toks := tk + 1 }) ho fun h'' he' sb => ?_⟩
    have hT2 : h''.get? s.heap.objs.size = some { cls := .type "tuple", data := .seq #[.int i tk, .str ⟨#[c]⟩ v0] } := (sb.2 _ (Nat.ne_of_gt hel)).trans hT
    have new : ObjOk X.prog X.w (upd H s.heap.objs.size (.tup [.int (i : Nat), .str ⟨#[c]⟩])) h'' s.heap.objs.size (.tup [.int (i : Nat), .str ⟨#[c]⟩]) :=
      ⟨by show 2 ≤ sizeLine; decide, [.int i tk, .str ⟨#[c]⟩ v0], .cons ⟨_, rfl⟩ (.cons ⟨_, rfl⟩ .nil), ⟨_, hT2, rfl, _, rfl⟩⟩
    have I1 : Inv X pins σ (upd H s.heap.objs.size (.tup [.int (i : Nat), .str ⟨#[c]⟩])) { s with heap := h'', toks := tk + 1 } :=
      I.turnedNew (ch := [e, it]) (fun b ob hb q => (sb.2 b (fun z => hb (by simp [z]))).trans (hk b ob (fun z => hb (by simp [z])) (fun z => hb (by simp [z])) q)) hf (Nat.le_refl _) new
    refine ⟨.ref s.heap.objs.size, _, I1, rfl, ⟨_, c, rfl, I.hok.fresh (Nat.le_refl _), hcx, rfl⟩, ⟨⟨.str ⟨#[c]⟩ v0, ?_⟩, (let ⟨o, q, r⟩ := hit'; ⟨o, (sb.2 it (Ne.symm hne)).trans q, r⟩), hne⟩, fun b hb => ?_⟩
    · have e1 : ((i + 1 : Nat) : Int) = (i : Int) + 1 := by omega
      rw [e1]; exact he'
    · have hb' : b < s.heap.objs.size := by
        have e' : b = e ∨ b = it := by simpa using hb
        rcases e' with z | z
        · rw [z]; exact hel
        · rw [z]; exact hil
      rw [upd_ne (Nat.ne_of_lt hb')]
      exact (hf b hb).1
  done := by
    intro X hP hw hK hc i pins s σ H E I hf st hg
    subst hP hw hK
    obtain ⟨⟨old, he⟩, hit, hne⟩ := st
    obtain ⟨f0, f1, f2, f3, f4, f5⟩ := hf it (by simp)
    have hx : x.cps[i]? = none := Array.getElem?_eq_none hg
    have hT : s.TypeIs (.ref e) "enumerate" := ⟨_, he, rfl⟩
    have hh : X.A.handled = none := I.ok.hd hc
    have fin : ∀ h', Heap.ExtBut it s.heap h' → L2.Inv X pins σ H { s with heap := h' } := fun h' eb => I.turned (t' := s.toks) (fun b o hb q => eb b o hb q) f0 f1 f3 f4 f5
    have key : ∀ (Q2 : Value → Shared → Prop) (E2 : Value → Shared → Prop), (∀ h' e, Heap.ExtBut it s.heap h' → (∃ o, h'.get? e = some o ∧ o.cls = .type "StopIteration") → E2 (.ref e) { s with heap := h' }) → wpAny (model X.prog X.w) X.A.in1 (Builtin.SmallTypes.nextOf (.ref it)) Q2 E2 s := fun Q2 E2 hE => by
      rcases hty with q | q
      · rw [q] at hit; exact wpAny_nextOf_ascii_end (A := X.A.in1) hh hit hx hE
      · rw [q] at hit; exact wpAny_nextOf_wide_end (A := X.A.in1) hh hit hx hE
    unfold pyNext
    refine wpAny_bind (wpAny_attempt (wpAny_callSpecial?_slot (name := Str.ofString "__next__") hT F.slot_enumerate_next
      (wpAny_call_entry F.slot_enumerate_next hT F.entry_enumerate_next ?_ (F.args_enumerate_next_1 _))))
    show wpAny _ _ (field (.ref e) 2 >>= _) _ _ _
    refine wpAny_bind (wpAny_field he rfl (x := .ref it) rfl ?_)
    refine wpAny_bind (key _ _ fun h' x he' hx' => ?_)
    obtain ⟨o, ho, hc⟩ := hx'
    refine wpAny_bind (wpAny_isInstance (T := "StopIteration") (b := true) ⟨o, ho, hc⟩ isSubtype_stop ?_)
    exact wpAny_pure ⟨rfl, fin h' he'⟩
  self := fun A i s Q E st h => let ⟨⟨_, he⟩, _⟩ := st; wpAny_pyIter_enum he h
def iEnumS (ta : TA) : TI := fun σ H R => ta σ H fun vs H1 => ∃ x : Str, vs = [.str x] ∧ R (Itb x) H1
theorem pi_enumS {X : Cx} {e : Expr} {ta : TA} {p pos tpos : Pos} {elts : List Expr} {kk : Nat} (hg : Gl X "enumerate") (hm : X.mg "enumerate" = none) (ha : PA X [e] ta) (hs : starEach [e] X.env = [(false, eval e X.env)] := by rfl) :
    PI X (.Tuple elts kk tpos) (.Call (.Name "enumerate" p) [e] [] pos) (iEnumS ta) := by
  refine ⟨fun pins s σ H R I h => ?_⟩
  refine Call_ (ld_blt I hg hm boot_enumerate (PyProof.Rows.callWith_type1 (thn (ha.run pos pins s σ H _ I h) fun us s1 ⟨vs, H1, I1, r1, q1⟩ => ?_) hs rfl))
  obtain ⟨x, ex, q⟩ := q1
  subst ex
  cases r1 with
  | cons r rr =>
    cases rr
    obtain ⟨t, rfl⟩ := r
    refine call_enumerate_str fun h' he hit hsz hk => wpAny_pyIter_enum he ?_
    have I2 : L2.Inv X pins σ H1 { s1 with heap := h' } := I1.kept (t' := s1.toks) hk
    have hty : strIterType x = "str_ascii_iterator" ∨ strIterType x = "str_iterator" := by
      unfold strIterType
      split
      · exact .inl rfl
      · exact .inr rfl
    refine ⟨s1.heap.objs.size + 1, [s1.heap.objs.size + 1, s1.heap.objs.size], _, _, H1, rfl, I2, turn_enumS (s1.heap.objs.size + 1) s1.heap.objs.size x t hty, ⟨⟨.none, he⟩, hit, Nat.succ_ne_self _⟩, fun b hb => ?_, q⟩
    have e' : b = s1.heap.objs.size + 1 ∨ b = s1.heap.objs.size := by simpa using hb
    have hle : s1.heap.objs.size ≤ b := by
      rcases e' with z | z
      · rw [z]; exact Nat.le_add_right _ _
      · rw [z]; exact Nat.le_refl _
    exact I1.fpOk hle (I1.hok.fresh hle)
section
variable {X : Cx} {Γ : Ctx} {S L ρ α β γ A B S' : Type} {a b e o : Expr} {es : List Expr} {pos p p1 p2 apos cpos : Pos} {ta tb te to : TE} {t : TA} {sts : List Stmt} {tr : TS}
theorem ei_enumS {m : M Str} {elts : List Expr} {kk : Nat} {tpos : Pos} (hm : X.mg "enumerate" = none) (h : EX X Γ e Ow.v m te) (hg : Gl X "enumerate" := by rfl) (hs : starEach [e] X.env = [(false, eval e X.env)] := by rfl) : EI X Γ (.Tuple elts kk tpos) (.Call (.Name "enumerate" p) [e] [] pos) (do let a ← m; pure (enumL (a.cps.toList.map sgS))) (iEnumS (tCons te tNil)) :=
  ⟨pi_enumS hg hm (pa_cons h.pe pa_nil (by exact hs)) hs, fun HF0 G HF H σ g xs hc R k => by
    obtain ⟨x, e1, hc⟩ := bind_ok hc
    cases pure_ok hc
    refine h.sem HF0 G HF H σ g x e1 _ fun v HF1 H1 fp s1 r1 _ _ => ?_
    have r1 := Fl.sh_iff.mp r1.1
    subst r1
    refine ⟨x, rfl, k _ HF1 H1 s1 fun HF2 H2 i a b => ?_⟩
    refine ⟨fun y hy => ?_, fun hle => ?_⟩
    · obtain ⟨hy1, hy2⟩ := enumL_get hy
      rw [List.getElem?_map] at hy2
      cases q : x.cps.toList[i]? with
      | none => rw [q] at hy2; cases hy2
      | some c =>
        rw [q] at hy2
        have hy3 : y.2 = sgS c := (Option.some.inj hy2).symm
        have hq : x.cps[i]? = some c := by rw [← Array.getElem?_toList]; exact q
        refine ⟨(Array.getElem?_eq_some_iff.mp hq).1, fun w H3 ⟨T, c', e, hT, hc', eH⟩ => ?_⟩
        subst e eH
        rw [hq] at hc'
        cases hc'
        have st := Step.shr (o := .tup [.int (i : Nat), .str ⟨#[c]⟩]) b hT
        exact ⟨_, st, T, .int (i : Nat), .str ⟨#[c]⟩, rfl, SqT.of upd_same, by rw [hy1]; rfl, by rw [hy3]; rfl⟩
    · rw [enumL_len, List.length_map, Array.length_toList] at hle
      exact hle⟩
/-- list.name(args) -/
theorem ex_lm {A γ α : Type} [Rp γ] [Rp α] {w : Ow γ} {name : Str} {id : String} {K : PySem.W.Frag} {r : V → List V → Hp → VK → Prop} {r0 : As A} {f : List α → A → M γ} {mo : M (List α)} {ma : M A}
    (slot : Slot "list" name id) (hty : typeOf (.builtin id) = pure (.type "method_descriptor")) (hm : MtR X id r)
    (hr : ∀ HF H v (x : List α) vs (y : A) (c : γ), Same HF H → Rp.sh K HF v x → r0.rep K HF vs y → f x y = .ok c → ∀ Q : VK, RetK K HF H w c Q → r v vs H Q)
    (ho : EX X Γ o Ow.v mo to) (ha : EA X Γ (e :: es) r0 ma t)
    (hbase : attributeBase o name X.env (eval o X.env) = eval o X.env := by rfl)
    (hfew : ((backTo cpos (starEach (e :: es) X.env)).all (fun x => !x.1) && (backToKw cpos (keywordEach [] X.env)).all (fun x => x.1.isSome)
      && decide ((e :: es).length + ([] : List Keyword).length + (if ([] : List Keyword).isEmpty then 0 else 1) < 30)) = true := by rfl)
    (hline : (apos.endLine == cpos.line) = true := by rfl) (hs : starEach (e :: es) X.env = (false, eval e X.env) :: starEach es X.env := by rfl) (hplain : (backTo cpos (starEach es X.env)).any (·.1) = false := by rfl) (hK : X.K = K := by rfl) :
    EX X Γ (.Call (.Attribute o name apos) (e :: es) [] cpos) w (do let x ← mo; let y ← ma; f x y) (tBM K "list" r to t) := by
  subst hK
  exact ⟨pe_bm PySem.F.plainAttrs_list slot hty hm ho.pe ha.pa hbase hfew hline hs hplain, fun HF0 G HF H σ g c hc Q k => by
    obtain ⟨x, e1, hc⟩ := bind_ok hc
    obtain ⟨y, e2, hc⟩ := bind_ok hc
    refine ho.sem HF0 G HF H σ g x e1 _ fun v HF1 H1 fp s1 r1 _ _ => ?_
    have r1 := r1.1
    obtain ⟨q, us, e, h1, h2⟩ := _root_.id r1
    subst e
    refine ⟨.inl ⟨rfl, us, SqL.of (s1.sub _ _ h1)⟩, ?_⟩
    refine ha.sem HF0 G HF1 H1 σ (g.step s1) y e2 _ fun vs HF2 H2 s2 r2 => ?_
    exact hr HF2 H2 (.ref q) x vs y c s2.sub (Rp.mono s2.exF r1) r2 hc Q (k.back (s1.trans s2))⟩
theorem ex_lcount {K : PySem.W.Frag} {mo : M (List Int)} {ma : M (Int × Unit)} (ho : EX X Γ o Ow.v mo to) (ha : EA X Γ [e] (As.cons (α := Int) As.nil) ma t) (hbase : attributeBase o "count" X.env (eval o X.env) = eval o X.env := by rfl)
    (hfew : ((backTo cpos (starEach [e] X.env)).all (fun x => !x.1) && (backToKw cpos (keywordEach [] X.env)).all (fun x => x.1.isSome)
      && decide ([e].length + ([] : List Keyword).length + (if ([] : List Keyword).isEmpty then 0 else 1) < 30)) = true := by rfl)
    (hline : (apos.endLine == cpos.line) = true := by rfl) (hs : starEach [e] X.env = (false, eval e X.env) :: starEach [] X.env := by rfl) (hplain : (backTo cpos (starEach [] X.env)).any (·.1) = false := by rfl) (hK : X.K = K := by rfl) :
    EX X Γ (.Call (.Attribute o "count" apos) [e] [] cpos) Ow.v (do let x ← mo; let y ← ma; pure (x.count y.1 : Int)) (tBM K "list" (rCntI K) to t) := by
  subst hK
  exact ex_lm (r := rCntI X.K) (α := Int) (A := Int × Unit) (γ := Int) (w := Ow.v) (f := fun (x : List Int) (y : Int × Unit) => (pure (x.count y.1 : Int) : M Int)) PySem.F.slot_list_count PySem.F.type_list_count mt_lcount (fun HF H v x vs y c s hx h hc Q k => by
    obtain ⟨u, rfl, z⟩ := as1 h
    cases pure_ok hc
    obtain ⟨q, us, e2, h1, h2⟩ := hx
    have e3 := Fa.flat.mp h2
    subst e2 e3
    exact ⟨q, x, y.1, rfl, by rw [Fl.sh_iff.mp z]; rfl, SqL.of (s _ _ h1), k.flat s⟩) ho ha hbase hfew hline hs hplain rfl
def lidxM {α : Type} [Rp α] [DecidableEq α] [Eqv α] (as : List α) (a : α) : M Int := do gd (Eqv.ok a && Eqv.ok as); let k ← ofO (as.findIdx? fun z => decide (z = a)); pure (k : Int)
theorem ex_lindex {α : Type} [Rp α] [DecidableEq α] [Eqv α] {K : PySem.W.Frag} {mo : M (List α)} {ma : M (α × Unit)} (hu : X.A.units + 65 < cLine) (ho : EX X Γ o Ow.v mo to) (ha : EA X Γ [e] (As.cons (α := α) As.nil) ma t) (hdp : Eqv.dep α + 1 ≤ 64 := by decide) (hbase : attributeBase o "index" X.env (eval o X.env) = eval o X.env := by rfl)
    (hfew : ((backTo cpos (starEach [e] X.env)).all (fun x => !x.1) && (backToKw cpos (keywordEach [] X.env)).all (fun x => x.1.isSome)
      && decide ([e].length + ([] : List Keyword).length + (if ([] : List Keyword).isEmpty then 0 else 1) < 30)) = true := by rfl)
    (hline : (apos.endLine == cpos.line) = true := by rfl) (hs : starEach [e] X.env = (false, eval e X.env) :: starEach [] X.env := by rfl) (hplain : (backTo cpos (starEach [] X.env)).any (·.1) = false := by rfl) (hK : X.K = K := by rfl) :
    EX X Γ (.Call (.Attribute o "index" apos) [e] [] cpos) Ow.v (do let x ← mo; let y ← ma; lidxM x y.1) (tBM K "list" (rIndexD K) to t) := by
  subst hK
  exact ex_lm (r := rIndexD X.K) (α := α) (A := α × Unit) (γ := Int) (w := Ow.v) (f := fun (x : List α) (y : α × Unit) => lidxM x y.1) PySem.F.slot_list_index PySem.F.type_list_index (mt_indexD hu) (fun HF H v x vs y c s hx h hc Q k => by
    obtain ⟨u, rfl, z⟩ := as1 h
    obtain ⟨_, e1, hc⟩ := bind_ok hc
    obtain ⟨j, e2, hc⟩ := bind_ok hc
    cases pure_ok hc
    have e1 := gd_ok e1
    rw [Bool.and_eq_true] at e1
    have e2 := ofO_ok e2
    obtain ⟨q, us, e3, h1, h2⟩ := _root_.id hx
    subst e3
    obtain ⟨hj, pj, mj⟩ := List.findIdx?_eq_some_iff_getElem.mp e2
    refine ⟨q, u, Eqv.py y.1, x.map Eqv.py, j, Eqv.py x[j], rfl, rfl, Eqv.dp (α := List α) (Rp.mono s hx), Eqv.dp (Rp.mono s z), eqv_shaped (α := List α) e1.2 hdp, eqv_shaped e1.1 (by omega), by rw [List.getElem?_map, List.getElem?_eq_getElem hj]; rfl, ?_, fun m z' hm hz => ?_, k.flat s⟩
    · rw [Eqv.eqv]; exact pj
    · rw [List.getElem?_map, List.getElem?_eq_getElem (by omega)] at hz
      cases hz
      rw [Eqv.eqv]
      simpa using mj m hm) ho ha hbase hfew hline hs hplain rfl
end
end Ty

/-! ## Ty37: own exceptions with an own __init__ that keeps one field: made, raised, caught, kept behind the suite -/
namespace PySem.W
open PySem PySem.Spec PySem.Calls PyProof.Rows
def oexIn (K : Frag) (C : Addr) : Bool := match K.lookup C with
  | some ⟨.type "type", _, .cls cd, sl⟩ => (match cd.mro, sl.toList with
    | .ref C' :: bm, [_, _, _, _, some (.builtin n), _] => C' == C && n == "ValueError.__new__" && !cd.hasDel && cd.hasDict && PySem.HandSPX.refsVE bm
    | _, _ => false)
  | _ => false
theorem oex_of {K : Frag} {C : Addr} (q : oexIn K C = true) : ∃ nm q N bs bm sn sub ab col dd k0 k1 k2 k3 k5, K.lookup C = some (excClassObj nm q C N bs bm true sn sub ab col dd k0 k1 k2 k3 k5 "ValueError.__new__") ∧ PySem.HandSPX.refsVE bm = true := by
  unfold oexIn at q
  split at q
  · rename_i dd cd sl ho
    split at q
    · rename_i C' bm k0 k1 k2 k3 n k5 hm hs
      simp only [Bool.and_eq_true, beq_iff_eq, Bool.not_eq_true'] at q
      obtain ⟨⟨⟨⟨rfl, rfl⟩, hdel⟩, hdc⟩, ht⟩ := q
      obtain ⟨nm, bs, mro, ns, qn, hd, sn, sub, ab, col, del⟩ := cd
      dsimp only at hm hdel hdc
      subst hm hdel hdc
      have hsl : sl = #[k0, k1, k2, k3, some (.builtin "ValueError.__new__"), k5] := by
        obtain ⟨l⟩ := sl
        simp only at hs
        rw [hs]
      subst hsl
      exact ⟨nm, qn, ns, bs, bm, sn, sub, ab, col, dd, k0, k1, k2, k3, k5, ho, ht⟩
    · cases q
  · cases q
end PySem.W
namespace Ty
open PySem PySem.Spec PyProof.Rows L2
/-- what is asked of such a class -/
def oexB (K : PySem.W.Frag) (c f : Str) (fI : Addr) : Bool :=
  PySem.W.oexIn K (He.ga K c) && (decide (PySem.W.findIn K (clv K c) "__setattr__" = some (some (.builtin "object.__setattr__"))) && (decide (PySem.W.subIn K (clv K c) (.type "BaseException") = some true) && (decide (PySem.W.typeIn K (clv K c) = some (.type "type")) && (PySem.W.keepIn K (clv K c) &&
  (decide (PySem.W.findIn K (clv K c) f = some none) && (decide (PySem.W.findIn K (clv K c) "__init__" = some (some (.ref fI))) && decide (PySem.W.typeIn K (.ref fI) = some (.type "function"))))))))
structure OexF (K : PySem.W.Frag) (c f : Str) (fI : Addr) : Prop where
  T : OexC K (He.ga K c)
  no : PySem.W.findIn K (clv K c) f = some none
  init : PySem.W.findIn K (clv K c) "__init__" = some (some (.ref fI))
  ty : PySem.W.typeIn K (.ref fI) = some (.type "function")
theorem oexf_of {K : PySem.W.Frag} {c f : Str} {fI : Addr} (h : oexB K c f fI = true) : OexF K c f fI := by
  unfold oexB at h
  simp only [Bool.and_eq_true, decide_eq_true_eq] at h
  obtain ⟨a0, a1, a2, a3, a4, a5, a6, a7⟩ := h
  exact ⟨⟨PySem.W.oex_of a0, a1, a2, a3, a4⟩, a5, a6, a7⟩
/-- Base.__init__(self, ..), Base an own class that has no __init__ of its own -/
def reiB (K : PySem.W.Frag) (c : Str) : Bool := decide (PySem.W.specialIn K (clv K c) "__getattribute__" = some (some (.builtin "type.__getattribute__"))) && (PySem.W.readsIn K (He.ga K c) (.type "type") && (match PySem.W.findCls K (clv K c) (.type "type") "__init__" with | some (.val (.builtin s)) => decide (s = "ValueError.__init__") | _ => false))
theorem rei_cls {K : PySem.W.Frag} {c : Str} (h : reiB K c = true) : PySem.W.specialIn K (clv K c) "__getattribute__" = some (some (.builtin "type.__getattribute__")) ∧ PySem.W.readsIn K (He.ga K c) (.type "type") = true ∧ PySem.W.findCls K (clv K c) (.type "type") "__init__" = some (.val (.builtin "ValueError.__init__")) := by
  unfold reiB at h
  obtain ⟨h1, h⟩ := Bool.and_eq_true_iff.mp h
  obtain ⟨h2, h⟩ := Bool.and_eq_true_iff.mp h
  refine ⟨of_decide_eq_true h1, h2, ?_⟩
  split at h
  · rename_i s e
    rw [e, of_decide_eq_true h]
  · cases h
section
variable {X : Cx} {o e : Expr} {es : List Expr} {to te : TE} {ta : TA} {f c : Str} {p p' p1 p2 pos : Pos}
theorem pe_reinit {pl : Sem Bool} (hr : reiB X.K c = true) (gC : X.mg c = some (clv X.K c)) (ha : PA X (e :: es) ta) (hg : Gl X c := by rfl) (hdb : (c == ("__debug__" : Str)) = false := by decide)
    (hc : eval (.Call (.Attribute (.Name c p1) "__init__" p2) (e :: es) [] pos) X.env = (do
      let ov ← eval (.Name c p1) X.env
      standAt p2.atName
      let (f, first) ← holding [ov] (getMethod ov "__init__" pl)
      callWith pos f first (backTo pos (starEach (e :: es) X.env)) (backToKw pos (keywordEach [] X.env))) := by rfl)
    (he : starEach (e :: es) X.env = (false, eval e X.env) :: starEach es X.env := by rfl) (hpl : (backTo pos (starEach es X.env)).any (·.1) = false := by rfl) :
    PE X (.Call (.Attribute (.Name c p1) "__init__" p2) (e :: es) [] pos) (tVeI X.K ta) := by
  obtain ⟨r1, r2, r3⟩ := rei_cls hr
  refine ⟨fun pins s σ H Q I h => ?_⟩
  refine PySem.W.methodCall_KW (ld_glob I hg gC ?_ hdb) hc
  refine PySem.W.method_cls (C := He.ga X.K c) I.kIn r1 ?_
  refine PySem.W.cls_value (C := He.ga X.K c) (v := .builtin "ValueError.__init__") I.kIn r2 r3 (by decide +kernel) ?_
  show wpAny _ _ (callWith pos (Value.builtin "ValueError.__init__") [] (backTo pos (starEach (e :: es) X.env)) []) _ _ _
  refine PyProof.Rows.callWith_method1 (thn (ha.run pos pins _ σ H _ (I.tok _) h) fun us s1 ⟨vs, H1, I1, r1, a, C, ws, ev, hl, T, ea, q⟩ => ?_) he hpl
  subst ev
  cases r1 with
  | @cons _ u0 _ ur ra rw' =>
    obtain rfl : u0 = Value.ref a := ra
    have hlen : ur.length ≤ sizeLine := by
      rw [← Paired.length rw', sizeLine_eq]
      omega
    exact oinit_ok T I1 ea hlen fun s' J => ⟨.non, H1, J, rfl, q⟩
end
/-- such an __init__: its words -/
def spI (K : PySem.W.Frag) (f : Str) : Sp := fun vs H Q _ => ∃ (a C : Addr) (y : V), vs = [.ref a, y] ∧ OexC K C ∧ PySem.W.findIn K (.ref C) f = some none ∧ H a = some (exo a C none) ∧
  ∀ dx, H dx = none → dx ≠ a → Q .non (upd (upd H dx (exd dx [(f, y)])) a (exo a C (some dx)))
section
variable {P : Program} {w : World} {K : PySem.W.Frag} {mg : Str → Option Value} {base : Heap}
theorem fnI_ok {f x qual m : Str} {params : Arguments} {bd : List Stmt} {scope : Scope} {dvs : List V} {kws : List (Str × V)} {fI : Addr} {fd : FuncData} {y : Str} {k : Nat} (F : FunD K x qual params bd scope dvs kws fI fd) (S : FnScope ["self", y] ["self", y] scope)
    (h : ∀ (cdv : Value) (A' : Around) (outer : List Env) (s : Shared) (H : Hp) (E : XK), PSs (cxOf CX0 P w K mg base ["self", y] qual scope fI cdv A' outer s H E).nox bd (tSeq (tDrop (tVeI K (tCons (tVar 0) (tCons (tC (.str m)) tNil)))) (tSeq (tOst K f (tVar 0) (tVar 1)) tNext))) :
    FnOk P w K mg base CX0 (k + 1) fI fd ["self", y] (spI K f) := by
  refine F.ok S (fun vs H Q E h => ?_) (fun cdv A' outer s H vs Q E hr h0 => ?_)
  · obtain ⟨a, C, y, rfl, _⟩ := h
    rfl
  · obtain ⟨a, C, v, rfl, T, hno, ha, hq⟩ := h0
    refine ⟨_, (h cdv A' outer s H E).nox, ?_⟩
    have es : L2.start ["self", y] [V.ref a, v] = [some (V.ref a), some v] := rfl
    rw [es]
    refine ⟨.ref a, rfl, a, C, [.str m], rfl, (by show 1 ≤ 1000; decide), T, ha, ?_⟩
    exact ⟨v, rfl, .ref a, rfl, a, C, rfl, T, hno, .inl ⟨ha, fun dx n ne => hq dx n ne⟩⟩
end
theorem mk_in {K : PySem.W.Frag} {f c : Str} {fI : Addr} (O : OexF K c f fI) {H1 : Hp} {v : V} {Q : XK} (h : ∀ a dx, H1 a = none → H1 dx = none → dx ≠ a → Q (clv K c) (some dx) (upd H1 dx (.xd [(f, v)]))) :
    ([v] : List V).length ≤ 1000 ∧ ∀ a, H1 a = none → spI K f (.ref a :: ([v] ++ [])) (upd H1 a (exo a (He.ga K c) none))
      (fun v' H2 => v' = .non ∧ ∃ (d : Addr) (fs : List (Str × V)), H2 a = some (exo a (He.ga K c) (some d)) ∧ H2 d = some (exd d fs) ∧ H1 d = none ∧ Q (clv K c) (some d) (upd (del H2 a) d (.xd fs))) (fun _ _ _ => False) := by
  refine ⟨(by show 1 ≤ 1000; decide), fun a ha => ⟨a, _, v, rfl, O.T, O.no, upd_same, fun dx hdx hne => ?_⟩⟩
  have hd1 : H1 dx = none := by rw [upd_ne hne] at hdx; exact hdx
  refine ⟨rfl, dx, [(f, v)], upd_same, by rw [upd_ne hne]; exact upd_same, hd1, ?_⟩
  have e : upd (del (upd (upd (upd H1 a (exo a (He.ga K c) none)) dx (exd dx [(f, v)])) a (exo a (He.ga K c) (some dx))) a) dx (.xd [(f, v)]) = upd H1 dx (.xd [(f, v)]) := by
    funext b
    by_cases hb : b = dx
    · rw [hb, upd_same, upd_same]
    · rw [upd_ne hb, upd_ne hb]
      by_cases ha' : b = a
      · rw [ha', del_same, ha]
      · rw [del_ne ha', upd_ne ha', upd_ne hb, upd_ne ha']
  rw [e]
  exact h a dx ha hd1 hne
/-! ### values that exceptions bear -/
inductive PV where
  | i (n : Int)
  | s (x : Str)
  deriving DecidableEq
def PV.enc : PV → V
  | .i n => .int n
  | .s x => .str x
/-- what is raised: the class's name, the field -/
structure Exn where
  c : Str
  p : Option (Str × PV)
def vD : Option Addr → V
  | some dd => .ref dd
  | none => .non
theorem vD_inj {d d' : Option Addr} (h : vD d = vD d') : d = d' := by
  cases d <;> cases d' <;> first | rfl | (cases h; rfl) | cases h
def XD (HF : Hp) (d : Option Addr) (x : Exn) : Prop := match x.p with
  | none => d = none
  | some (f, v) => ∃ dd, d = some dd ∧ HF dd = some (.xd [(f, v.enc)])
theorem XD.mono {HF HF' : Hp} {d : Option Addr} {x : Exn} (s : Same HF HF') (h : XD HF d x) : XD HF' d x := by
  unfold XD at *
  split at h
  · exact h
  · obtain ⟨dd, h1, h2⟩ := h
    exact ⟨dd, h1, s _ _ h2⟩
instance rpRy {ρ : Type} [Rp ρ] : Rp (ρ ⊕ Exn) where
  sh K H v x := match x with
    | .inl r => Rp.sh K H v r
    | .inr _ => True
  mono := fun {K H H' v a} e h => by
    cases a with
    | inl r => exact Rp.mono e h
    | inr _ => trivial
def Ow.y {ρ : Type} [Rp ρ] (o : Ow ρ) (cl : Str → Value) (E : XK) : Ow (ρ ⊕ Exn) where
  rep K HF H v x fp := match x with
    | .inl r => o.rep K HF H v r fp
    | .inr x => fp = [] ∧ ∃ d, v = vD d ∧ XD HF d x
  mono := fun {K HF HF' H H' v a fp} e k h => by
    cases a with
    | inl r => exact o.mono e k h
    | inr x =>
      obtain ⟨h1, d, h2, h3⟩ := h
      exact ⟨h1, d, h2, h3.mono e⟩
  dom := fun {K HF H v a fp} h p hp => by
    cases a with
    | inl r => exact o.dom h p hp
    | inr _ =>
      have h : fp = [] := h.1
      subst h; cases hp
  frz := fun {K HF HF' H v a fp} e k h => by
    cases a with
    | inl r => exact o.frz e k h
    | inr _ => trivial
  out x R v H := match x with
    | .inl r => o.out r R v H
    | .inr x => ∃ d, v = vD d ∧ E (cl x.c) d H

def RetY {ρ : Type} [Rp ρ] (K : PySem.W.Frag) (HF H : Hp) (o : Ow ρ) (c : ρ ⊕ Exn) (Q : VK) (E : XK) : Prop := match c with
  | .inl r => RetK K HF H o r Q
  | .inr x => ∀ HF' H' d, Step HF H HF' H' → XD HF' d x → E (clv K x.c) d H'
def spY {A ρ : Type} [Rp ρ] (K : PySem.W.Frag) (r : As A) (o : Ow ρ) (f : A → M (ρ ⊕ Exn)) : Sp := fun vs H Q E =>
  ∃ HF a c, Same HF H ∧ r.rep K HF vs a ∧ f a = .ok c ∧ RetY K HF H o c Q E
section
variable {P : Program} {w : World} {K : PySem.W.Frag} {mg : Str → Option Value} {base : Heap}
theorem fn_okY {A ρ : Type} [Rp ρ] {x qual : Str} {params : Arguments} {bd : List Stmt} {scope : Scope} {dvs : List V} {kws : List (Str × V)} {f : Addr} {fd : FuncData} {N ps : List Str} {k : Nat} {r : As A} {o : Ow ρ} {m : A → M (Ctl Unit Empty (ρ ⊕ Exn))} (F : FunD K x qual params bd scope dvs kws f fd) (S : FnScope N ps scope) (hn : r.n = ps.length) (hN : N.length = r.n + (N.length - r.n))
    (body : ∀ (cdv : Value) (A' : Around) (outer : List Env) (s : Shared) (H : Hp) (E : XK), Room k (A'.deeper (envOfC qual scope s.heap.objs.size f cdv)) → ∀ a : A, ∃ t : TS,
      SS (cxOf (L2.CX P w) P w K mg base N qual scope f cdv A' outer s H E) (r.ctx a ++ List.replicate (N.length - r.n) .un) bd (fun (_ : Unit) => []) (fun (_ : Empty) => []) (Ow.y o (clv K) E) (m a) t)
    (ho : ∀ r R v H, R v H → o.out r R v H := by exact fun _ _ _ _ h => h) :
    FnOk P w K mg base (L2.CX P w) (k + 1) f fd ps (spY K r o fun a => runC (m a)) := by
  refine F.ok S (fun vs H Q E h => ?_) (fun cdv A' outer s H vs Q E hr h => ?_)
  · obtain ⟨HF, a, c, h1, h2, h3, h4⟩ := h
    rw [r.len h2, hn]
  · obtain ⟨HF, a, c, h1, h2, h3, h4⟩ := h
    obtain ⟨t, q⟩ := body cdv A' outer s H E hr a
    refine ⟨t, q.pss, ?_⟩
    obtain ⟨c', e1, h3⟩ := bind_ok h3
    have hl := r.len h2
    have hd := r.held (HF := HF) (H := H) (N.length - r.n) h2
    have es : L2.start N vs = vs.map some ++ List.replicate (N.length - r.n) none := by unfold L2.start; rw [hl]
    refine q.sem HF H HF H (L2.start N vs) ⟨h1, Same.refl _, Same.refl _, (fun p u a b => by rw [a] at b; cases b), [], by rw [es]; exact hd, List.nodup_nil, fun p hp => by cases hp⟩ c' e1 _ ?_
    cases c' with
    | nx s => cases h3
    | bk l => exact nomatch l
    | ct l => exact nomatch l
    | rt r' =>
      cases pure_ok (show (pure r' : M (ρ ⊕ Exn)) = .ok c from h3)
      cases c with
      | inl r0 => exact fun v HF' H' fp a b c' d rr n ff => ho _ _ _ _ <| h4 v HF' H' fp ⟨b, c', a, d⟩ rr n fun p hp => ⟨(ff p hp).2, (ff p hp).1⟩
      | inr x0 =>
        intro v HF' H' fp a b c' d rr n ff
        obtain ⟨_, d0, e0, xd⟩ := rr
        exact ⟨d0, e0, h4 HF' H' d0 ⟨b, c', a, d⟩ xd⟩
def HasY (P : Program) (w : World) (K : PySem.W.Frag) (mg : Str → Option Value) (base : Heap) (x : Str) (k : Nat) (ps : List Str) (sp : Sp) : Prop :=
  ∃ f fd, FnOk P w K mg base (L2.CX P w) k f fd ps sp ∧ mg x = some (.ref f) ∧ PySem.W.keepIn K (.ref f) = true ∧ Binds K fd ps []
end
section
variable {X : Cx} {Γ : Ctx} {S L ρ α β A S' : Type} [Rp ρ] {o : Ow ρ} {Γo : S → Ctx} {ΓL : L → Ctx} {a b e f : Expr} {es : List Expr} {pos p p1 p2 pos2 : Pos} {ta tb te tf : TE} {t : TA} {sts : List Stmt} {tr tr' : TS}
theorem ss_retY {K : PySem.W.Frag} {E : XK} {m : M ρ} (h : EX X Γ e o m te) (ho : ∀ r R v H, o.out r R v H → R v H := by exact fun _ _ _ _ h => h) : SS X Γ [.Return (some e) pos] Γo ΓL (Ow.y o (clv K) E) (do let r ← m; pure (.rt (.inl r))) (tRet te) :=
  ⟨pss_one (ps_ret h.pe), fun HF0 G HF H σ g c hc D k => by
    obtain ⟨r, e1, hc⟩ := bind_ok hc
    cases pure_ok hc
    refine h.sem HF0 G HF H σ g r e1 _ fun v HF' H' fp st rr n f => ?_
    have g' := g.step st
    exact ho _ _ _ _ <| k v HF' H' fp st.sub g'.f0 g'.g0 g'.nf rr n fun p hp => ⟨(f p hp).2, g.g0.free (f p hp).1⟩⟩
def upY (c : Ctl S L ρ) : Ctl S L (ρ ⊕ Exn) := match c with
  | .nx s => .nx s
  | .bk l => .bk l
  | .ct l => .ct l
  | .rt r => .rt (.inl r)
theorem ss_upY {K : PySem.W.Frag} {E : XK} {m : M (Ctl S L ρ)} {tr : TS} (h : SS X Γ sts Γo ΓL o m tr) : SS X Γ sts Γo ΓL (Ow.y o (clv K) E) (do let c ← m; pure (upY c)) tr :=
  ⟨h.pss, fun HF0 G HF H σ g c hc D k => by
    obtain ⟨c1, e1, hc⟩ := bind_ok hc
    cases pure_ok hc
    refine h.sem HF0 G HF H σ g c1 e1 D ?_
    cases c1 <;> exact k⟩
theorem ss_retOY {K : PySem.W.Frag} {E : XK} (i : Nat) {r : ρ} {x : Str} {pos' : Pos} (hl : look Γ i = .mk o r := by rfl) (hN : X.N[i]? = some x := by rfl) (hv : Vis X.env.scope x := by first | exact Or.inl rfl | exact Or.inr (Or.inl rfl) | exact Or.inr (Or.inr rfl)) (hd : (x == ("__debug__" : Str)) = false := by decide)
    (hcd : (x == ("__classdict__" : Str)) = false := by decide) (ho : ∀ r R v H, o.out r R v H → R v H := by exact fun _ _ _ _ h => h) : SS X Γ [.Return (some (.Name x pos')) pos] Γo ΓL (Ow.y o (clv K) E) (pure (.rt (.inl r))) (tRet (tVar i)) :=
  ss_upY (K := K) (E := E) (ss_retO (S := S) (L := L) (Γo := Γo) (ΓL := ΓL) (pos := pos) (pos' := pos') i hl hN hv hd hcd ho)
/-- raise C('..') -/
theorem ss_raiseY0 {K : PySem.W.Frag} {names : List Str} {tab : CTab} {c m : Str} {j : Nat} {E : XK} (T : ExF K names tab) (hcn : names.contains c = true) (gC : X.mg c = some (clv K c)) (tk : Takes X (fun cls d _ H => E cls d H)) (hc : X.calm = true := by rfl) (hg : Gl X c := by rfl) (hdb : (c == ("__debug__" : Str)) = false := by decide) (hK : X.K = K := by rfl) :
    SS X Γ [.Raise (some (.Call (.Name c p) [.Constant (.str m) j p2] [] pos)) none pos2] Γo ΓL (Ow.y o (clv K) E) (pure (.rt (.inr ⟨c, none⟩))) (fun _ _ H => E (clv K c) none H) := by
  subst hK
  have hcn := List.contains_iff_mem.mp hcn
  exact ⟨pss_one (ps_raise hc tk (pmk_own PySem.F.excBase_ValueError (T.ok c hcn).1 gC (T.ok c hcn).2.1 (T.raises hcn) hg hdb)), fun HF0 G HF H σ g cc hcc D k => by
    cases pure_ok hcc
    obtain ⟨d, e1, e2⟩ := k .non HF H [] g.sub g.f0 g.g0 g.nf ⟨rfl, none, rfl, rfl⟩ List.nodup_nil fun p hp => by cases hp
    have : d = none := vD_inj (d' := none) e1.symm
    subst this
    exact e2⟩
/-- raise C(e): the class's own __init__ keeps e in the field f -/
theorem ss_raiseY {K : PySem.W.Frag} {f c : Str} {fI : Addr} {fd : FuncData} {k : Nat} {y : Str} {E : XK} {β : Type} [Fl β] (pv : β → PV) (hpv : ∀ b, Fl.enc b = (pv b).enc) {m : M β} (O : OexF K c f fI) (F1 : FnOk X.prog X.w X.K X.mg X.base CX0 k fI fd ["self", y] (spI X.K f)) (hr : Room (k + 1) X.A) (hb : Binds X.K fd ["self", y] []) (gC : X.mg c = some (clv K c)) (tk : Takes X (fun cls d _ H => E cls d H))
    (he : EX X Γ e Ow.v m te) (hc : X.calm = true := by rfl) (hg : Gl X c := by rfl) (hdb : (c == ("__debug__" : Str)) = false := by decide)
    (hs : starEach [e] X.env = (false, eval e X.env) :: starEach [] X.env := by rfl) (hpl : (backTo pos (starEach [] X.env)).any (·.1) = false := by rfl) (hK : X.K = K := by rfl) :
    SS X Γ [.Raise (some (.Call (.Name c p) [e] [] pos)) none pos2] Γo ΓL (Ow.y o (clv K) E) (do let b ← m; pure (.rt (.inr ⟨c, some (f, pv b)⟩))) (fun _ σ H => tMkO (He.ga K c) (spI K f) [] (tCons te tNil) σ H E) := by
  subst hK
  exact ⟨pss_one (ps_raise hc tk (pmk_oex (ds := []) (dvs := []) O.T O.init O.ty F1 hr hb .nil pass0 hg gC (pa_cons he.pe pa_nil hs) hdb hs hpl)), fun HF0 G HF H σ g cc hcc D k => by
    obtain ⟨b, e1, hcc⟩ := bind_ok hcc
    cases pure_ok hcc
    refine he.sem HF0 G HF H σ g b e1 _ fun v HF1 H1 fp st r _ _ => ?_
    have r1 := Fl.sh_iff.mp r.1
    subst r1
    refine mk_in (Q := E) O fun a dx ha hdx hne => ?_
    have st2 := st.trans (Step.shr (o := .xd [(f, Fl.enc b)]) st.sub hdx)
    have g' := g.step st2
    obtain ⟨d, q1, q2⟩ := k (.ref dx) _ _ [] st2.sub g'.f0 g'.g0 g'.nf ⟨rfl, some dx, rfl, dx, rfl, by rw [upd_same, hpv]⟩ List.nodup_nil fun p hp => by cases hp
    have : d = some dx := vD_inj (d' := some dx) q1.symm
    subst this
    exact q2⟩
/-- an expression that may raise -/
structure EXs [Rp ρ] (X : Cx) (W : WX) (Γ : Ctx) (e : Expr) (o : Ow ρ) (m : M (ρ ⊕ Exn)) (t : TE) : Prop where
  pe : PE X e t
  sem : ∀ HF0 G HF H σ, Good X.K HF0 G Γ HF H σ → ∀ c, m = .ok c → ∀ Q : VK, (match c with
    | .inl r => RetK X.K HF H o r Q
    | .inr x => ∀ HF' H' d, Step HF H HF' H' → XD HF' d x → W (clv X.K x.c) d σ H') → t σ H Q
theorem ex_callY {K : PySem.W.Frag} {W : WX} {k : Nat} {f : Addr} {fd : FuncData} {ps : List Str} {x : Str} {r : As A} {fm : A → M (ρ ⊕ Exn)} {m : M A} (F : FnOk X.prog X.w X.K X.mg X.base (L2.CX X.prog X.w) k f fd ps (spY K r o fm)) (hr : Room k X.A) (hm : X.mg x = some (.ref f)) (hk : PySem.W.keepIn X.K (.ref f) = true) (hb : Binds X.K fd ps [])
    (tk : Takes X W) (ha : EA X Γ (e :: es) r m t) (hg : Gl X x := by rfl) (hdb : (x == ("__debug__" : Str)) = false := by decide) (he : starEach (e :: es) X.env = (false, eval e X.env) :: starEach es X.env := by rfl) (hpl : (backTo pos (starEach es X.env)).any (·.1) = false := by rfl) (hK : X.K = K := by rfl) :
    EXs X W Γ (.Call (.Name x p) (e :: es) [] pos) o (do let a ← m; fm a) (tCallS (spY K r o fm) (WE W) t) := by
  subst hK
  exact ⟨pe_callS F hr hg hm hk hb (fun σ => passAt tk σ) ha.pa hdb he hpl, fun HF0 G HF H σ g c hc Q kk => by
    obtain ⟨x, e1, hc⟩ := bind_ok hc
    refine ha.sem HF0 G HF H σ g x e1 _ fun vs HF1 H1 s1 r1 => ?_
    refine ⟨HF1, x, c, s1.sub, r1, hc, ?_⟩
    cases c with
    | inl r => exact RetK.back kk s1
    | inr x => exact fun HF' H' d st xd => kk HF' H' d (s1.trans st) xd⟩
def noY {ρ : Type} (r : ρ ⊕ Exn) : M ρ := match r with
  | .inl a => pure a
  | .inr _ => no
/-- a call that could raise, where it doesn't -/
theorem ex_callNY {K : PySem.W.Frag} {k : Nat} {f : Addr} {fd : FuncData} {ps : List Str} {x : Str} {r : As A} {o : Ow ρ} {fm : A → M (ρ ⊕ Exn)} {m : M A} (F : FnOk X.prog X.w X.K X.mg X.base (L2.CX X.prog X.w) k f fd ps (spY K r o fm)) (hr : Room k X.A) (hm : X.mg x = some (.ref f)) (hk : PySem.W.keepIn X.K (.ref f) = true) (hb : Binds X.K fd ps [])
    (ha : EA X Γ (e :: es) r m t) (hg : Gl X x := by rfl) (hdb : (x == ("__debug__" : Str)) = false := by decide) (he : starEach (e :: es) X.env = (false, eval e X.env) :: starEach es X.env := by rfl) (hpl : (backTo pos (starEach es X.env)).any (·.1) = false := by rfl) (hK : X.K = K := by rfl) :
    EX X Γ (.Call (.Name x p) (e :: es) [] pos) o (do let a ← m; let r ← fm a; noY r) (tCall (spY K r o fm) [] E0 t) := by
  subst hK
  exact ⟨pe_call F hr hg hm hk hb .nil passL ha.pa hdb he hpl, fun HF0 G HF H σ g c hc Q kk => by
    obtain ⟨x, e1, hc⟩ := bind_ok hc
    obtain ⟨y, e2, hc⟩ := bind_ok hc
    refine ha.sem HF0 G HF H σ g x e1 _ fun vs HF1 H1 s1 r1 => ?_
    show spY X.K r o fm (vs ++ []) H1 Q E0
    rw [List.append_nil]
    refine ⟨HF1, x, y, s1.sub, r1, e2, ?_⟩
    cases y with
    | inl y =>
      cases pure_ok (show (pure y : M ρ) = .ok c from hc)
      exact RetK.back kk s1
    | inr y => cases hc⟩
def raiseD {α S L ρ : Type} (r : α ⊕ Exn) (k : α → M (Ctl S L (ρ ⊕ Exn))) : M (Ctl S L (ρ ⊕ Exn)) := match r with
  | .inl a => k a
  | .inr c => pure (.rt (.inr c))
section
variable {K : PySem.W.Frag} {E : XK}
theorem raise_outY {Γo : S → Ctx} {HF0 G HF H HF' H' : Hp} {σ : L2.St} {x : Exn} {d : Option Addr} {D : Ends} (g : Good X.K HF0 G Γ HF H σ) (st : Step HF H HF' H') (xd : XD HF' d x) (kk : EndsOk X.K HF0 G HF Γo ΓL (Ow.y o (clv K) E) D (.rt (.inr x))) : E (clv K x.c) d H' := by
  have g' := g.step st
  obtain ⟨d', e1, e2⟩ := kk (vD d) HF' H' [] st.sub g'.f0 g'.g0 g'.nf ⟨rfl, d, rfl, xd⟩ List.nodup_nil fun p hp => by cases hp
  rw [vD_inj e1]; exact e2
theorem ss_asgY [Rp α] [Inhabited α] (i : Nat) {x : Str} {u : Ow α} {m : M (α ⊕ Exn)} {k : α → M (Ctl S L (ρ ⊕ Exn))} {pos' : Pos} (hN : X.N.Nodup) (he : EXs X (fun cls d _ H => E cls d H) Γ e u m te) (hr : ∀ a, SS X (put Γ i (.mk u a)) sts Γo ΓL (Ow.y o (clv K) E) (k a) tr) (hlt : Nat.blt i Γ.length = true := by rfl) (hi : X.N[i]? = some x := by rfl) (hx : Loc X.env.scope x := by first | exact .inl rfl | exact .inr rfl)
    (hs : swapsWith e (some (.Name x pos')) pos.line X.env = pure false := by rfl) (hf : X.fn x = true ∨ X.env.scope.names.lookup x = some .local := by first | exact .inl rfl | exact .inr rfl) (hK : X.K = K := by rfl) : SS X Γ (.Assign [.Name x pos'] e pos :: sts) Γo ΓL (Ow.y o (clv K) E) (do let a ← m; raiseD a k) (tSeq (tAsg te (gName i)) tr) := by
  subst hK
  exact ⟨pss_cons (ps_set hN hi hx he.pe hs hf) (hr default).pss, fun HF0 G HF H σ g c hc D kk => by
    obtain ⟨y, e1, hc⟩ := bind_ok hc
    refine he.sem HF0 G HF H σ g y e1 _ ?_
    cases y with
    | inl y =>
      intro v HF' H' fp st r n f
      exact (hr y).sem HF0 G HF' H' _ (g.set (of_blt hlt) st r n f) c hc D (kk.mono st.exF)
    | inr y =>
      intro HF' H' d st xd
      cases pure_ok (show (pure (.rt (.inr y)) : M (Ctl S L (ρ ⊕ Exn))) = .ok c from hc)
      exact raise_outY g st xd kk⟩
theorem ss_dropY [Rp α] {u : Ow α} {m : M (α ⊕ Exn)} {k : M (Ctl S L (ρ ⊕ Exn))} (he : EXs X (fun cls d _ H => E cls d H) Γ e u m te) (hr : SS X Γ sts Γo ΓL (Ow.y o (clv K) E) k tr) (hs : swapsWith e none pos.line X.env = pure false := by rfl) (hK : X.K = K := by rfl) : SS X Γ (.Expr e pos :: sts) Γo ΓL (Ow.y o (clv K) E) (do let a ← m; raiseD a fun _ => k) (tSeq (tDrop te) tr) := by
  subst hK
  exact ⟨pss_cons (ps_expr he.pe hs) hr.pss, fun HF0 G HF H σ g c hc D kk => by
    obtain ⟨y, e1, hc⟩ := bind_ok hc
    refine he.sem HF0 G HF H σ g y e1 _ ?_
    cases y with
    | inl y =>
      intro v HF' H' fp st r n f
      exact hr.sem HF0 G HF' H' σ (g.step st) c hc D (kk.mono st.exF)
    | inr y =>
      intro HF' H' d st xd
      cases pure_ok (show (pure (.rt (.inr y)) : M (Ctl S L (ρ ⊕ Exn))) = .ok c from hc)
      exact raise_outY g st xd kk⟩
theorem ss_retCY {m : M (ρ ⊕ Exn)} (he : EXs X (fun cls d _ H => E cls d H) Γ e o m te) (ho : ∀ r R v H, o.out r R v H → R v H := by exact fun _ _ _ _ h => h) (hK : X.K = K := by rfl) : SS X Γ [.Return (some e) pos] Γo ΓL (Ow.y o (clv K) E) (do let r ← m; pure (.rt r)) (tRet te) := by
  subst hK
  exact ⟨pss_one (ps_ret he.pe), fun HF0 G HF H σ g c hc D k => by
    obtain ⟨r, e1, hc⟩ := bind_ok hc
    cases pure_ok hc
    refine he.sem HF0 G HF H σ g r e1 _ ?_
    cases r with
    | inl r =>
      intro v HF' H' fp st rr n f
      have g' := g.step st
      exact ho _ _ _ _ <| k v HF' H' fp st.sub g'.f0 g'.g0 g'.nf rr n fun p hp => ⟨(f p hp).2, g.g0.free (f p hp).1⟩
    | inr y => exact fun HF' H' d st xd => raise_outY g st xd k⟩
end
end
end Ty

/-! ## Ty38: try: f(..) / except C as e: kept = e; what follows knows the exception -/
namespace L2
open PySem PySem.Spec PyProof.Rows
abbrev Cx.kp (X : Cx) (q : Addr × Obj) : Cx := { X with pn := q :: X.pn }
section
variable {X : Cx} {x n kx : Str} {c : Value} {i ik : Nat} {body rest : List Stmt} {np pos pos' p1 p2 p3 : Pos} {tb : WX → TS} {t0 : TS} {t1 : Addr → Value → Option Addr → TS} {Wout : WX}
theorem Cx.Ok.kp (ok : X.Ok) (q : Addr × Obj) : (X.kp q).Ok := { ok with }
theorem Inv.keepPin {a : Addr} {q : Addr × Obj} {pins pn' : List (Addr × Obj)} {σ : St} {H : Hp} {s : Shared} (I : Inv (X.suite a (q :: (X.pn ++ pins))) pn' σ H s) (ok : X.Ok) : Inv (X.kp q) pins σ H s :=
  ⟨ok.kp q, I.os, I.bare, I.base, I.loc, I.cell, I.free, I.freeC, fun p hp => I.pin p (List.mem_append_left _ (by simpa using hp)), I.hok, I.len⟩
theorem Inv.unkeep {q : Addr × Obj} {pins : List (Addr × Obj)} {σ : St} {H : Hp} {s : Shared} (I : Inv (X.kp q) pins σ H s) (ok : X.Ok) : Inv X pins σ H s :=
  ⟨ok, I.os, I.bare, I.base, I.loc, I.cell, I.free, I.freeC, fun p hp => I.pin p (by
    rcases List.mem_append.mp hp with z | z
    · exact List.mem_append_left _ (List.mem_cons_of_mem _ z)
    · exact List.mem_append_right _ z), I.hok, I.len⟩
/-- what the clause wishes -/
def wKp (K : PySem.W.Frag) (c : Value) (i ik : Nat) (t1 : Addr → Value → Option Addr → TS) (Wout : WX) (D : Ends) : WX := fun cls d σ H =>
  ∃ b, PySem.W.exmOne K cls c = some b ∧ (b = true → ∀ a, H a = none → t1 a cls d D (((σ.set i (some (.ref a))).set ik (some (.ref a))).set i none) H) ∧ (b = false → Wout cls d σ H)
theorem pss_try_keep (hs : X.stack = X.env :: X.outer) (hf : X.env.frame = some X.env.locals) (hN : X.N.Nodup) (hi : X.N[i]? = some n) (hln : X.env.kindOf n = some .local) (hc : Names X x c) (tk : Takes X Wout)
    (hb : ∀ (W : WX) (pn : List (Addr × Obj)) (xe : Value → Shared → Prop), Takes (X.tr pn xe) W → PassesOwn (model X.prog X.w) X.A X.env xe → PSs (X.tr pn xe) body (tb W))
    (hik : X.N[ik]? = some kx) (hkx : Loc X.env.scope kx) (hkf : X.fn kx = true ∨ X.env.scope.names.lookup kx = some .local) (hne : i ≠ ik) (hvn : Vis X.env.scope n) (hd : (n == ("__debug__" : Str)) = false) (hcd : (n == ("__classdict__" : Str)) = false)
    (hsw : swapsWith (.Name n p2) (some (.Name kx p1)) p3.line X.env = pure false)
    (h0 : PSs X rest t0)
    (h1 : ∀ (a : Addr) (oe : Obj) (cls : Value) (d : Option Addr), Zc cls d oe → (∃ vs, oe.data = .fields vs) → PSs (X.kp (a, oe)) rest (t1 a cls d)) :
    PSs X (.Try body [.ExceptHandler (some (.Name x np)) (some n) [.Assign [.Name kx p1] (.Name n p2) p3] pos'] [] [] pos :: rest) (fun D σ H => tb (wKp X.K c i ik t1 Wout D) { D with nx := t0 D } σ H) := by
  refine ⟨fun pins s σ H D I h => wpAny_execs_cons ?_⟩
  have ok := I.ok
  have hfr : X.A.frames = some (X.env :: X.outer) := by rw [ok.frames, hs]
  have hloc : Loc X.env.scope n := .inl hln
  refine wpAny_Try_except ?_
  refine wpAny_mono ((hb (wKp X.K c i ik t1 Wout D) (X.pn ++ pins) (fun e s₁ => wpAny (model X.prog X.w) X.A (noteFrame e X.env) (fun _ s₂ => wpAny (model X.prog X.w) X.A (setFlight e none) (fun _ s₃ =>
    wpAny (model X.prog X.w) X.A (handleBy e X.env [.ExceptHandler (some (.Name x np)) (some n) [.Assign [.Name kx p1] (.Name n p2) p3] pos']) (fun f s4 => match f with
      | .next => wpAny (model X.prog X.w) X.A (execs rest X.env) (SP X pins D) X.xe s4
      | f => SP X pins D f s4) X.xe s₃) X.xe s₂) X.xe s₁) (fun u s' xx => ?_) PassesOwn.looking).run [] s σ H { D with nx := t0 D } (I.toTry _) h) (fun f s1 hsp => ?_) (fun e s1 he => he)
  · -- the catch
    obtain ⟨a, B, sI, pins', σ', H', cls, d, rfl, J', nb, up, sky, na, os, ag, b, hb1, hyes, hno⟩ := xx
    have J : Inv X pins σ' H' sI := J'.ofTry ok
    have sky' : Sky B (X.env :: X.outer) a (Zc cls d) X.env.locals s'.heap := by rw [← hs]; exact sky
    show wpAny (model X.prog X.w) X.A (noteFrame (.ref a) X.env) _ _ _
    refine Sky.land Zc.steady hfr hf sky' fun h3 fl3 up3 => ?_
    have J3 : Inv X pins σ' H' { s' with heap := h3 } := J.landed nb fl3.1 (up.trans up3) os ag
    obtain ⟨oe3, vs3, he3, hz3, hd3⟩ := fl3.there
    have notFr : ∀ {h : Heap} {o : Obj} {vs : Array Value}, h.FunFrames B (X.env :: X.outer) → h.get? a = some o → o.data = .fields vs → a ∉ frs (X.env :: X.outer) := fun {h o vs} ff e dd hm => by
      obtain ⟨_, o', e', hnf⟩ := ff.mem hm
      rw [e] at e'; cases e'
      exact hnf _ dd
    have nfr := notFr fl3.2.2.1 he3 hd3
    have nL : a ≠ X.env.locals := fun z => nfr (List.mem_filterMap.mpr ⟨X.env, List.mem_cons_self, by rw [hf, z]⟩)
    have nF : a ∉ X.fs := fun hm => by
      obtain ⟨e, he, q⟩ := List.mem_filterMap.mp hm
      exact nfr (List.mem_filterMap.mpr ⟨e, List.mem_cons_of_mem _ he, q⟩)
    have S3 := J3.suite he3 hd3 na nL nF
    refine wpAny_handleBy_cons (codeAny_handlers_test ?_) (by intro q; cases q)
    have LT : PySem.W.Looks (model X.prog X.w) h3 (typeOf (.ref a)) cls := fun A Q E s k q => wpAny_typeOf_ref (k _ _ he3) (by rw [hz3.1]; exact q)
    have LM := PySem.W.exm_one (M := model X.prog X.w) (J3.kIn) LT hb1
    have test : ∀ {Q : Value → Shared → Prop} {E : Value → Shared → Prop}, Q c { s' with heap := h3 } → wpAny (model X.prog X.w) (X.A.mark (some (.ref a))) (eval (.Name x np) X.env) Q E { s' with heap := h3 } := fun {Q E} q => by
      obtain ⟨hg, hdbg, hm | ⟨hm, hv, hnn⟩⟩ := hc
      · exact ld_glob (X := X.suite a ((a, oe3) :: (X.pn ++ pins))) S3 hg hm q hdbg
      · exact ld_blt (X := X.suite a ((a, oe3) :: (X.pn ++ pins))) S3 hg hm hv q hnn hdbg
    refine test (LM.here ?_)
    cases b with
    | true =>
      refine codeAny_handlers_suite_as ?_
      refine HandSPX.lands_againZ fl3 fun h4 fl4 up4 => ?_
      have J4 : Inv X pins σ' H' { s' with heap := h4 } := J.landed nb fl4.1 ((up.trans up3).trans up4) os ag
      obtain ⟨oe4, vs4, he4, hz4, hd4⟩ := fl4.there
      have S4 := J4.suite he4 hd4 na nL nF
      refine store_ok (X := X.suite a ((a, oe4) :: (X.pn ++ pins))) (v := .ref a) S4 hN hi hloc rfl (fun s5 S5 => ?_) (.inr hln)
      have hilt : i < σ'.length := by rw [J.len]; exact (List.getElem?_eq_some_iff.mp hi).1
      have hsu : PSs (X.suite a ((a, oe4) :: (X.pn ++ pins))) [.Assign [.Name kx p1] (.Name n p2) p3] (tSeq (tAsg (tVar i) (gName ik)) tNext) := pss_cons (ps_set hN hik hkx (pe_var hi hvn hd hcd) hsw hkf) pss_nil
      refine wpAny_mono (hsu.run [] s5 _ H' { nx := fun σ6 H6 => σ6 = (σ'.set i (some (.ref a))).set ik (some (.ref a)) ∧ H6 = H', rt := fun _ _ => False, bk := fun _ _ => False, ct := fun _ _ => False } S5 ⟨.ref a, List.getElem?_set_self hilt, rfl, rfl⟩) (fun f s6 hsp => ?_) (fun _ _ z => False.elim z)
      cases f with
      | next =>
        obtain ⟨σ6, H6, S6, e6, eH⟩ := hsp
        subst e6 eH
        refine gone_ok (X := X.kp (a, oe4)) (S6.keepPin ok) hN hi hln fun s7 J7 => ?_
        refine wpAny_mono ((h1 a oe4 cls d hz4 ⟨_, hd4⟩).run pins s7 _ H6 D J7 (hyes rfl a na)) (fun f s8 q8 => ?_) (fun _ _ z => z)
        cases f with
        | next => obtain ⟨σ9, H9, I9, q9⟩ := q8; exact ⟨σ9, H9, I9.unkeep ok, q9⟩
        | brk => obtain ⟨σ9, H9, I9, q9⟩ := q8; exact ⟨σ9, H9, I9.unkeep ok, q9⟩
        | cont => obtain ⟨σ9, H9, I9, q9⟩ := q8; exact ⟨σ9, H9, I9.unkeep ok, q9⟩
        | ret u => obtain ⟨v9, σ9, H9, I9, r9, q9⟩ := q8; exact ⟨v9, σ9, H9, I9.unkeep ok, r9, q9⟩
      | brk => obtain ⟨σ6, H6, S6, q6⟩ := hsp; exact q6.elim
      | cont => obtain ⟨σ6, H6, S6, q6⟩ := hsp; exact q6.elim
      | ret u => obtain ⟨v6, σ6, H6, S6, r6, q6⟩ := hsp; exact q6.elim
    | false =>
      show wpAny _ X.A (handleBy (.ref a) X.env []) _ _ _
      refine wpAny_handleBy_nil ?_
      obtain ⟨k1, k2, k3, oe, vs, T, oT, ts', he, hz, hd, h1, hr⟩ := id fl3
      unfold PySem.passOn
      refine wpAny_bind (wpAny_field he hd h1 ?_)
      rw [if_neg (show ¬ ((Value.ref T == Value.none) = true) from by simp)]
      have fin : ∀ {Q : Flow → Shared → Prop}, wpAny (model X.prog X.w) X.A (setFlight (.ref a) X.env.frame) (fun _ s4 => wpAny (model X.prog X.w) X.A (throw (.ref a) : Sem Flow) Q X.xe s4) X.xe { s' with heap := h3 } := fun {Q} => by
        rw [hf]
        refine HandSPX.setFlight_upZ fl3 fun h4 hh4 up4 => wpAny_throw (tk _ _ ?_)
        exact ⟨a, B, sI, pins, σ', H', cls, d, rfl, J, nb, (up.trans up3).trans up4, .inr (.inr (by rw [hs]; exact hh4)), na, os, ag, hno rfl⟩
      first
        | exact wpAny_bind (wpAny_pure (wpAny_bind fin))
        | exact wpAny_bind fin
  · cases f with
    | next =>
      obtain ⟨σ', H', J', q⟩ := hsp
      exact wpAny_execs_nil (h0.run pins s1 σ' H' D (J'.ofTry ok) q)
    | brk =>
      obtain ⟨σ', H', J', q⟩ := hsp
      exact ⟨σ', H', J'.ofTry ok, q⟩
    | cont =>
      obtain ⟨σ', H', J', q⟩ := hsp
      exact ⟨σ', H', J'.ofTry ok, q⟩
    | ret u =>
      obtain ⟨v, σ', H', J', r, q⟩ := hsp
      exact ⟨v, σ', H', J'.ofTry ok, r, q⟩
end
end L2

/-! ## Ty39: the kept exception: its class, its field -/
namespace Ty
open PySem PySem.Spec PyProof.Rows L2
/-- an exception at hand -/
structure ExY where
  a : Addr
  d : Option Addr
  x : Exn
instance : Rp ExY where
  sh _ HF v e := v = .ref e.a ∧ XD HF e.d e.x
  mono := fun s h => ⟨h.1, h.2.mono s⟩
def XO (H : Hp) (d : Option Addr) : Prop := match d with
  | none => True
  | some dd => ∃ fs, H dd = some (.xd fs)
theorem XD.xo {HF H : Hp} {d : Option Addr} {x : Exn} (s : Same HF H) (h : XD HF d x) : XO H d := by
  unfold XD at h
  split at h
  · subst h; exact True.intro
  · obtain ⟨dd, rfl, h2⟩ := h
    exact ⟨_, s _ _ h2⟩
/-- what is known of the pinned exception -/
structure PinY (X : Cx) (c : Str) (d : Option Addr) (p : Addr × Obj) : Prop where
  C : ExcC X.K (He.ga X.K c)
  hz : Zc (clv X.K c) d p.2
  hf : ∃ vs, p.2.data = .fields vs
  hp : p ∈ X.pn
theorem PinY.inst {X : Cx} {c : Str} {d : Option Addr} {p : Addr × Obj} (P : PinY X c d p) {pins : List (Addr × Obj)} {σ : L2.St} {H : Hp} {s : Shared} (I : L2.Inv X pins σ H s) (h : XO H d) : ∃ od, PySem.W.InstAt s.heap p.1 p.2 (He.ga X.K c) od := by
  obtain ⟨hget, _⟩ := I.pin p (List.mem_append_left _ P.hp)
  obtain ⟨vs, hv⟩ := P.hf
  obtain ⟨h1, h2⟩ := P.hz
  obtain ⟨pa, oc, od, oda, osl⟩ := p
  dsimp only at h1 h2 hv hget ⊢
  subst h1 h2 hv
  cases od with
  | none => exact ⟨none, hget, rfl, rfl, trivial⟩
  | some dd =>
    obtain ⟨fs, hd⟩ := h
    obtain ⟨mA, hns, _⟩ := (show ObjOk X.prog X.w H s.heap dd (.xd fs) from I.hok dd _ hd)
    obtain ⟨o, _, _, ho, _⟩ := hns
    exact ⟨some o, hget, rfl, rfl, ho⟩
def rIsY (K : PySem.W.Frag) (D a : Addr) (d : Option Addr) : List V → Hp → VK → Prop := fun xs H Q => ∃ (c : V) (cv : Value) (b : Bool), xs = [.ref a, c] ∧ (∀ u, RelV c u → u = cv) ∧ PySem.W.kitOne K (.ref D) cv = some b ∧ XO H d ∧ Q (.bl b) H
theorem excC_kitx {K : PySem.W.Frag} {D x : Addr} {ox : Obj} {od : Option Obj} (C : ExcC K D) : PySem.W.KitX K (.ref x) (.ref D) (fun h => PySem.W.InstAt h x ox D od) :=
  PySem.W.kitx_exc (by obtain ⟨cd, hc, _⟩ := PySem.W.any_some C.hd; rw [hc]; rfl) C.hg C.hk C.hs C.ha C.hn C.ht C.hm
theorem call_isY {X : Cx} {c : Str} {d : Option Addr} {p : Addr × Obj} (P : PinY X c d p) : CallR X (.builtin "isinstance") (rIsY X.K (He.ga X.K c) p.1 d) := by
  intro pins s σ H xs us Q I r h
  obtain ⟨c1, cv, b, rfl, hcv, e, xo, q⟩ := h
  cases r with
  | cons rx rr =>
    cases rr with
    | cons rt rr =>
      cases rr
      cases rx
      have ec := hcv _ rt
      subst ec
      obtain ⟨od, J⟩ := P.inst I xo
      exact PySem.W.kia_one (excC_kitx P.C) I.kIn J e (fun z => nomatch z) fun tk => ⟨.bl b, H, I.kept (t' := tk) fun _ _ z => z, rfl, q⟩
def rIsYT (K : PySem.W.Frag) (D a : Addr) (d : Option Addr) : List V → Hp → VK → Prop := fun xs H Q => ∃ (tp : Addr) (cs : List Addr) (b : Bool), xs = [.ref a, .ref tp] ∧ H tp = some (.tup (cs.map V.ref)) ∧ PySem.W.kitAny K (.ref D) (cs.map Value.ref) = some b ∧ XO H d ∧ Q (.bl b) H
theorem vals_refs : ∀ {cs : List Addr} {us : List Value}, Vals (cs.map V.ref) us → us = cs.map Value.ref
  | [], _, .nil => rfl
  | c :: cs, _, .cons r rs => by
    have r : _ = Value.ref c := r
    rw [r, vals_refs rs]; rfl
theorem call_isYT {X : Cx} {c : Str} {d : Option Addr} {p : Addr × Obj} (P : PinY X c d p) : CallR X (.builtin "isinstance") (rIsYT X.K (He.ga X.K c) p.1 d) := by
  intro pins s σ H xs us Q I r h
  obtain ⟨tp, cs, b, rfl, htp, e, xo, q⟩ := h
  cases r with
  | cons rx rr =>
    cases rr with
    | cons rt rr =>
      cases rr
      cases rx
      cases rt
      obtain ⟨od, J⟩ := P.inst I xo
      obtain ⟨its, rv, ⟨⟨oc, od', oda, osl⟩, h1, h2, n, h4⟩, hz⟩ := I.tuple (SqT.of htp)
      dsimp only at h2 h4
      subst h2 h4
      have ei := vals_refs rv
      subst ei
      exact PySem.W.kia_tup (excC_kitx P.C) I.kIn J h1 e (fun z => nomatch z) fun tk => ⟨.bl b, H, I.kept (t' := tk) fun _ _ z => z, rfl, q⟩
/-- C among these -/
def exLkA (tab : CTab) (c : Str) : List Str → Option Bool
  | [] => some false
  | D :: r => match exLk tab c D with
    | some true => some true
    | some false => exLkA tab c r
    | none => none
section
variable {X : Cx} {Γ : Ctx} {S L ρ α β A S' : Type} [Rp ρ] {o : Ow ρ} {Γo : S → Ctx} {ΓL : L → Ctx} {a b e f : Expr} {es : List Expr} {pos p p1 p2 pos2 : Pos} {ta tb te tf : TE} {t : TA} {sts : List Stmt} {tr tr' : TS}
theorem ex_no {α : Type} [Rp α] {o : Ow α} {e : Expr} : EX X Γ e o (no : M α) (fun _ _ _ => False) := ⟨⟨fun _ _ _ _ _ _ h => h.elim⟩, fun _ _ _ _ _ _ c hc => by cases hc⟩
theorem ex_isY {K : PySem.W.Frag} {names : List Str} {tab : CTab} {D : Str} {ad : Addr} {d : Option Addr} {x : Exn} {oe : Obj} (T : ExF X.K names tab) (hm : X.mg "isinstance" = none) (gD : X.mg D = some (clv X.K D)) (P : PinY X x.c d (ad, oe))
    (h : EX X Γ e Ow.v (pure (⟨ad, d, x⟩ : ExY)) te) (hg : Gl X "isinstance" := by rfl) (hgD : Gl X D := by rfl) (hdb : (D == ("__debug__" : Str)) = false := by decide) (hDv : D ≠ ("ValueError" : Str) := by decide)
    (h1 : starEach [e, .Name D p1] X.env = (false, eval e X.env) :: starEach [.Name D p1] X.env := by rfl) (h2 : starEach [.Name D p1] X.env = (false, eval (.Name D p1) X.env) :: starEach [] X.env := by rfl) (hpl : (backTo pos (starEach [.Name D p1] X.env)).any (·.1) = false := by rfl) (hK : X.K = K := by rfl) :
    EX X Γ (.Call (.Name "isinstance" p) [e, .Name D p1] [] pos) Ow.v (ofO (exLk tab x.c D)) (tCB (rIsY K (He.ga K x.c) ad d) (tCons te (tCons (tC (.ref (He.ga K D))) tNil))) := by
  subst hK
  exact ⟨pe_callB (call_isY P) hg hm (by decide +kernel) (pa_cons h.pe (pa_cons (pe_glob hgD gD rfl hdb) pa_nil h2) h1) (by decide) (by decide) h1 hpl, fun HF0 G HF H σ g b hb Q k => by
    refine h.sem HF0 G HF H σ g _ rfl _ fun v HF1 H1 fp s1 r1 _ _ => ?_
    obtain ⟨⟨r1, xd⟩, _⟩ := r1
    have r1 : v = .ref ad := r1
    subst r1
    have e2 := T.kit (exLk_mem (ofO_ok hb))
    rw [show vOf X.K D = clv X.K D from if_neg hDv] at e2
    exact ⟨.ref (He.ga X.K D), clv X.K D, b, rfl, fun u h => h, e2, xd.xo s1.sub, (k.back s1).flat s1.sub⟩⟩
theorem ex_isYV {K : PySem.W.Frag} {names : List Str} {tab : CTab} {ad : Addr} {d : Option Addr} {x : Exn} {oe : Obj} (T : ExF X.K names tab) (hm : X.mg "isinstance" = none) (gD : X.mg "ValueError" = none) (P : PinY X x.c d (ad, oe))
    (h : EX X Γ e Ow.v (pure (⟨ad, d, x⟩ : ExY)) te) (hg : Gl X "isinstance" := by rfl) (hgD : Gl X "ValueError" := by rfl)
    (h1 : starEach [e, .Name "ValueError" p1] X.env = (false, eval e X.env) :: starEach [.Name "ValueError" p1] X.env := by rfl) (h2 : starEach [.Name "ValueError" p1] X.env = (false, eval (.Name "ValueError" p1) X.env) :: starEach [] X.env := by rfl) (hpl : (backTo pos (starEach [.Name "ValueError" p1] X.env)).any (·.1) = false := by rfl) (hK : X.K = K := by rfl) :
    EX X Γ (.Call (.Name "isinstance" p) [e, .Name "ValueError" p1] [] pos) Ow.v (ofO (exLk tab x.c "ValueError")) (tCB (rIsY K (He.ga K x.c) ad d) (tCons te (tCons (tC (.ty "ValueError")) tNil))) := by
  subst hK
  exact ⟨pe_callB (call_isY P) hg hm (by decide +kernel) (pa_cons h.pe (pa_cons (pe_bltn (v := .ty "ValueError") hgD gD (by decide +kernel) rfl (by decide) (by decide)) pa_nil h2) h1) (by decide) (by decide) h1 hpl, fun HF0 G HF H σ g b hb Q k => by
    refine h.sem HF0 G HF H σ g _ rfl _ fun v HF1 H1 fp s1 r1 _ _ => ?_
    obtain ⟨⟨r1, xd⟩, _⟩ := r1
    have r1 : v = .ref ad := r1
    subst r1
    have e2 := T.kit (exLk_mem (ofO_ok hb))
    rw [show vOf X.K "ValueError" = .type "ValueError" from if_pos rfl] at e2
    exact ⟨.ty "ValueError", .type "ValueError", b, rfl, fun u h => h, e2, xd.xo s1.sub, (k.back s1).flat s1.sub⟩⟩
/-- names of classes, one behind another -/
structure CN (X : Cx) (es : List Expr) (Ds : List Str) (t : TA) : Prop where
  pa : PA X es t
  sem : ∀ σ H (Q : List V → Hp → Prop), Q (Ds.map fun D => V.ref (He.ga X.K D)) H → t σ H Q
  nv : ∀ D ∈ Ds, D ≠ ("ValueError" : Str)
theorem cn_nil {c0 : Str} {d0 : Option Addr} {p0 : Addr × Obj} (P0 : PinY X c0 d0 p0) : CN X [] [] tNil := ⟨pa_nil, fun _ _ _ h => h, fun _ h => by cases h⟩
theorem cn_cons {c0 : Str} {d0 : Option Addr} {p0 : Addr × Obj} {K : PySem.W.Frag} (P0 : PinY X c0 d0 p0) {D : Str} {Ds : List Str} (gD : X.mg D = some (clv X.K D)) (h : CN X es Ds t) (hgD : Gl X D := by rfl) (hdb : (D == ("__debug__" : Str)) = false := by decide) (hDv : D ≠ ("ValueError" : Str) := by decide) (h2 : starEach (.Name D p1 :: es) X.env = (false, eval (.Name D p1) X.env) :: starEach es X.env := by rfl) (hK : X.K = K := by rfl) :
    CN X (.Name D p1 :: es) (D :: Ds) (tCons (tC (.ref (He.ga K D))) t) := by
  subst hK
  exact ⟨pa_cons (pe_glob hgD gD rfl hdb) h.pa h2, fun σ H Q q => h.sem σ H _ q, fun E hE => (List.mem_cons.mp hE).elim (fun z => z ▸ hDv) (h.nv E)⟩
theorem kitAny_of {K : PySem.W.Frag} {names : List Str} {tab : CTab} (T : ExF K names tab) {c : Str} : ∀ {Ds : List Str} {b : Bool}, (∀ D ∈ Ds, D ≠ ("ValueError" : Str)) → exLkA tab c Ds = some b → PySem.W.kitAny K (clv K c) ((Ds.map fun D => He.ga K D).map Value.ref) = some b
  | [], b, _, h => h
  | D :: Ds, b, hv, h => by
    unfold exLkA at h
    show (match PySem.W.kitOne K (clv K c) (clv K D) with | some true => some true | some false => PySem.W.kitAny K (clv K c) ((Ds.map fun D => He.ga K D).map Value.ref) | none => none) = some b
    have hk : ∀ b', exLk tab c D = some b' → PySem.W.kitOne K (clv K c) (clv K D) = some b' := fun b' e => by
      have e2 := T.kit (exLk_mem e)
      rw [show vOf K D = clv K D from if_neg (hv D List.mem_cons_self)] at e2
      exact e2
    split at h
    · rename_i e; rw [hk _ e]; exact h
    · rename_i e; rw [hk _ e]; exact kitAny_of T (fun E hE => hv E (List.mem_cons_of_mem _ hE)) h
    · cases h
/-- isinstance(e, (C1, C2, ..)) -/
theorem ex_isYT {K : PySem.W.Frag} {names : List Str} {tab : CTab} {Ds : List Str} {ad : Addr} {d : Option Addr} {x : Exn} {oe : Obj} {kk : Nat} {tpos : Pos} (T : ExF X.K names tab) (hm : X.mg "isinstance" = none) (P : PinY X x.c d (ad, oe))
    (h : EX X Γ e Ow.v (pure (⟨ad, d, x⟩ : ExY)) te) (hc : CN X es Ds t) (hl : Nat.ble Ds.length 100 = true := by rfl) (hg : Gl X "isinstance" := by rfl)
    (h1 : starEach [e, .Tuple es kk tpos] X.env = (false, eval e X.env) :: starEach [.Tuple es kk tpos] X.env := by rfl) (h2 : starEach [.Tuple es kk tpos] X.env = (false, eval (.Tuple es kk tpos) X.env) :: starEach [] X.env := by rfl) (hpl : (backTo pos (starEach [.Tuple es kk tpos] X.env)).any (·.1) = false := by rfl) (hK : X.K = K := by rfl) :
    EX X Γ (.Call (.Name "isinstance" p) [e, .Tuple es kk tpos] [] pos) Ow.v (ofO (exLkA tab x.c Ds)) (tCB (rIsYT K (He.ga K x.c) ad d) (tCons te (tCons (tTup t) tNil))) := by
  subst hK
  exact ⟨pe_callB (call_isYT P) hg hm (by decide +kernel) (pa_cons h.pe (pa_cons (pe_tup hc.pa) pa_nil h2) h1) (by decide) (by decide) h1 hpl, fun HF0 G HF H σ g b hb Q k => by
    refine h.sem HF0 G HF H σ g _ rfl _ fun v HF1 H1 fp s1 r1 _ _ => ?_
    obtain ⟨⟨r1, xd⟩, _⟩ := r1
    have r1 : v = .ref ad := r1
    subst r1
    have hl := Nat.le_of_ble_eq_true hl
    refine hc.sem σ H1 _ ⟨by rw [List.length_map, sizeLine_eq]; omega, fun tp htp => ?_⟩
    have st : Step HF1 H1 HF1 (upd H1 tp (.tup (Ds.map fun D => V.ref (He.ga X.K D)))) := Step.own s1.sub htp
    refine ⟨tp, Ds.map fun D => He.ga X.K D, b, rfl, by rw [upd_same, List.map_map]; rfl, kitAny_of T hc.nv (ofO_ok hb), xd.xo st.sub, ((k.back s1).back st).flat st.sub⟩⟩
def fldI (ft : List (Str × Str)) (x : Exn) (f : Str) : M Int := match x.p with
  | some (g, .i n) => do gd (decide (g = f) && ft.contains (x.c, f)); pure n
  | _ => no
def fldS (ft : List (Str × Str)) (x : Exn) (f : Str) : M Str := match x.p with
  | some (g, .s n) => do gd (decide (g = f) && ft.contains (x.c, f)); pure n
  | _ => no
def tXfP (K : PySem.W.Frag) (c : Str) (a : Addr) (d : Option Addr) (f : Str) (te : TE) : TE := fun σ H Q => te σ H fun x H1 => x = .ref a ∧ PySem.W.findIn K (clv K c) f = some none ∧ ∃ (dd : Addr) (fs : List (Str × V)) (v : V), d = some dd ∧ H1 dd = some (.xd fs) ∧ fs.lookup f = some v ∧ Q v H1
theorem pe_xfP {c n : Str} {d : Option Addr} {p : Addr × Obj} {e : Expr} {te : TE} {pos : Pos} (P : PinY X c d p) (he : PE X e te) (hb : attributeBase e n X.env (eval e X.env) = eval e X.env := by rfl) :
    PE X (.Attribute e n pos) (tXfP X.K c p.1 d n te) := by
  refine ⟨fun pins s σ H Q I h => ?_⟩
  refine attr_of hb (thn (he.run pins s σ H _ I h) fun u s1 hh => ?_)
  obtain ⟨x, H1, I1, rx, ex, hno, dd, fs, v, ed, ea, l, q⟩ := hh
  subst ex
  obtain rfl : u = Value.ref p.1 := rx
  subst ed
  obtain ⟨mA, hns, hr⟩ := (show ObjOk X.prog X.w H1 s1.heap dd (.xd fs) from I1.hok dd _ ea)
  obtain ⟨od, ho, hl⟩ := lookIn_ns hns
  obtain ⟨u, hu, ru⟩ := RelO.some_of (v := v) (o := mA n) (by rw [← l]; exact hr n)
  obtain ⟨hget, _⟩ := I1.pin p (List.mem_append_left _ P.hp)
  obtain ⟨vs, hd⟩ := P.hf
  have J : PySem.W.InstAt s1.heap p.1 p.2 (He.ga X.K c) (some od) := ⟨hget, P.hz.1, by unfold PySem.W.notCls; rw [hd] <;> rfl, by rw [P.hz.2]; exact ho⟩
  exact HandSPX.exc_get I1.kIn J P.C.hg P.C.hk P.C.hs (PySem.W.findObj_own P.C.hd hno rfl (by rw [hl, hu])) (handed_of ru) ⟨v, H1, I1.tok _, ru, q⟩
def FldT (K : PySem.W.Frag) (ft : List (Str × Str)) : Prop := ∀ p ∈ ft, PySem.W.findIn K (clv K p.1) p.2 = some none
theorem ex_fldI {K : PySem.W.Frag} {ft : List (Str × Str)} {f : Str} {ad : Addr} {d : Option Addr} {x : Exn} {oe : Obj} (F : FldT X.K ft) (P : PinY X x.c d (ad, oe)) (h : EX X Γ e Ow.v (pure (⟨ad, d, x⟩ : ExY)) te) (hb : attributeBase e f X.env (eval e X.env) = eval e X.env := by rfl) (hK : X.K = K := by rfl) :
    EX X Γ (.Attribute e f pos) Ow.v (fldI ft x f) (tXfP K x.c ad d f te) := by
  subst hK
  exact ⟨pe_xfP P h.pe hb, fun HF0 G HF H σ g c hc Q k => by
    refine h.sem HF0 G HF H σ g _ rfl _ fun v HF1 H1 fp s1 r1 _ _ => ?_
    obtain ⟨⟨r1, xd⟩, _⟩ := r1
    unfold fldI at hc
    split at hc
    · rename_i g' n e
      obtain ⟨u, e1, hc⟩ := bind_ok hc
      cases pure_ok hc
      have e1 := gd_ok e1
      rw [Bool.and_eq_true, decide_eq_true_eq] at e1
      unfold XD at xd
      rw [e] at xd
      obtain ⟨dd, q1, q2⟩ := xd
      refine ⟨r1, F _ (List.contains_iff_mem.mp e1.2), dd, _, .int c, q1, s1.sub _ _ q2, ?_, (k.back s1).flat s1.sub⟩
      show List.lookup f [(g', V.int c)] = _
      rw [e1.1]; simp [List.lookup]
    · cases hc⟩
theorem ex_fldS {K : PySem.W.Frag} {ft : List (Str × Str)} {f : Str} {ad : Addr} {d : Option Addr} {x : Exn} {oe : Obj} (F : FldT X.K ft) (P : PinY X x.c d (ad, oe)) (h : EX X Γ e Ow.v (pure (⟨ad, d, x⟩ : ExY)) te) (hb : attributeBase e f X.env (eval e X.env) = eval e X.env := by rfl) (hK : X.K = K := by rfl) :
    EX X Γ (.Attribute e f pos) Ow.v (fldS ft x f) (tXfP K x.c ad d f te) := by
  subst hK
  exact ⟨pe_xfP P h.pe hb, fun HF0 G HF H σ g c hc Q k => by
    refine h.sem HF0 G HF H σ g _ rfl _ fun v HF1 H1 fp s1 r1 _ _ => ?_
    obtain ⟨⟨r1, xd⟩, _⟩ := r1
    unfold fldS at hc
    split at hc
    · rename_i g' n e
      obtain ⟨u, e1, hc⟩ := bind_ok hc
      cases pure_ok hc
      have e1 := gd_ok e1
      rw [Bool.and_eq_true, decide_eq_true_eq] at e1
      unfold XD at xd
      rw [e] at xd
      obtain ⟨dd, q1, q2⟩ := xd
      refine ⟨r1, F _ (List.contains_iff_mem.mp e1.2), dd, _, .str c, q1, s1.sub _ _ q2, ?_, (k.back s1).flat s1.sub⟩
      show List.lookup f [(g', V.str c)] = _
      rw [e1.1]; simp [List.lookup]
    · cases hc⟩
/-- isinstance(None, C) -/
def rIsN (K : PySem.W.Frag) : List V → Hp → VK → Prop := fun xs H Q => ∃ (c : V) (cv : Value) (b : Bool), xs = [.non, c] ∧ (∀ u, RelV c u → u = cv) ∧ PySem.W.kitOne K (.type "NoneType") cv = some b ∧ Q (.bl b) H
theorem call_isN {X : Cx} : CallR X (.builtin "isinstance") (rIsN X.K) := by
  intro pins s σ H xs us Q I r h
  obtain ⟨c1, cv, b, rfl, hcv, e, q⟩ := h
  cases r with
  | cons rx rr =>
    cases rr with
    | cons rt rr =>
      cases rr
      cases rx
      have ec := hcv _ rt
      subst ec
      exact PySem.W.kia_one PySem.W.kitx_none I.kIn True.intro e (fun z => nomatch z) fun tk => ⟨.bl b, H, I.kept (t' := tk) fun _ _ z => z, rfl, q⟩
theorem ex_isNC {K : PySem.W.Frag} {D : Str} {m : M Unit} (hm : X.mg "isinstance" = none) (gD : X.mg D = some (clv X.K D)) (hD : PySem.W.kitOne X.K (.type "NoneType") (clv X.K D) = some false)
    (h : EX X Γ e Ow.v m te) (hg : Gl X "isinstance" := by rfl) (hgD : Gl X D := by rfl) (hdb : (D == ("__debug__" : Str)) = false := by decide)
    (h1 : starEach [e, .Name D p1] X.env = (false, eval e X.env) :: starEach [.Name D p1] X.env := by rfl) (h2 : starEach [.Name D p1] X.env = (false, eval (.Name D p1) X.env) :: starEach [] X.env := by rfl) (hpl : (backTo pos (starEach [.Name D p1] X.env)).any (·.1) = false := by rfl) (hK : X.K = K := by rfl) :
    EX X Γ (.Call (.Name "isinstance" p) [e, .Name D p1] [] pos) Ow.v (do let _ ← m; pure false) (tCB (rIsN K) (tCons te (tCons (tC (.ref (He.ga K D))) tNil))) := by
  subst hK
  exact ⟨pe_callB call_isN hg hm (by decide +kernel) (pa_cons h.pe (pa_cons (pe_glob hgD gD rfl hdb) pa_nil h2) h1) (by decide) (by decide) h1 hpl, fun HF0 G HF H σ g b hb Q k => by
    obtain ⟨u, e1, hb⟩ := bind_ok hb
    cases pure_ok hb
    refine h.sem HF0 G HF H σ g _ e1 _ fun v HF1 H1 fp s1 r1 _ _ => ?_
    have r1 := Fl.sh_iff.mp r1.1
    subst r1
    exact ⟨.ref (He.ga X.K D), clv X.K D, false, rfl, fun u h => h, hD, (k.back s1).flat s1.sub⟩⟩
/-! ### try -/
structure BXs (X : Cx) (W : WX) (Γ : Ctx) (sts : List Stmt) (Γb : α → Ctx) (m : M (α ⊕ Exn)) (t : TS) : Prop where
  pss : PSs X sts t
  sem : ∀ HF0 G HF H σ, Good X.K HF0 G Γ HF H σ → ∀ c, m = .ok c → ∀ D : Ends, (match c with
    | .inl a => ∀ HF' H' σ', Same HF HF' → Good X.K HF0 G (Γb a) HF' H' σ' → D.nx σ' H'
    | .inr x => ∀ HF' H' d, Step HF H HF' H' → XD HF' d x → W (clv X.K x.c) d σ H') → t D σ H
theorem by_asg [Rp α] {W : WX} (i : Nat) {x : Str} {u : Ow α} {m : M (α ⊕ Exn)} {pos' : Pos} (hN : X.N.Nodup) (he : EXs X W Γ e u m te) (hlt : Nat.blt i Γ.length = true := by rfl) (hi : X.N[i]? = some x := by rfl) (hx : Loc X.env.scope x := by first | exact .inl rfl | exact .inr rfl)
    (hs : swapsWith e (some (.Name x pos')) pos.line X.env = pure false := by rfl) (hf : X.fn x = true ∨ X.env.scope.names.lookup x = some .local := by first | exact .inl rfl | exact .inr rfl) : BXs X W Γ [.Assign [.Name x pos'] e pos] (fun a => put Γ i (.mk u a)) m (tAsg te (gName i)) :=
  ⟨pss_one (ps_set hN hi hx he.pe hs hf), fun HF0 G HF H σ g c hc D kk => by
    refine he.sem HF0 G HF H σ g c hc _ ?_
    cases c with
    | inl y => exact fun v HF' H' fp st r n f => kk HF' H' _ st.exF (g.set (of_blt hlt) st r n f)
    | inr y => exact kk⟩
theorem by_drop [Rp α] {W : WX} {u : Ow α} {m : M (α ⊕ Exn)} (he : EXs X W Γ e u m te) (hs : swapsWith e none pos.line X.env = pure false := by rfl) : BXs X W Γ [.Expr e pos] (fun (_ : α) => Γ) m (tDrop te) :=
  ⟨pss_one (ps_expr he.pe hs), fun HF0 G HF H σ g c hc D kk => by
    refine he.sem HF0 G HF H σ g c hc _ ?_
    cases c with
    | inl y => exact fun v HF' H' fp st r n f => kk HF' H' _ st.exF (g.step st)
    | inr y => exact kk⟩
def tryK (tab : CTab) (names : List Str) (Dn : Str) (r : α ⊕ Exn) (k0 : α → M (Ctl S L ρ)) (k1 : Exn → M (Ctl S L ρ)) : M (Ctl S L ρ) := match r with
  | .inl a => k0 a
  | .inr x => do gd (names.contains x.c && decide (exLk tab x.c Dn = some true)); k1 x
theorem ss_tryK {K : PySem.W.Frag} {names0 names : List Str} {tab : CTab} (i ik : Nat) {Dn n kx : Str} {body : List Stmt} {np pos' p3 : Pos} {Γb : α → Ctx} {m : M (α ⊕ Exn)} {k0 : α → M (Ctl S L ρ)} {k1 : Exn → M (Ctl S L ρ)} {tbo : WX → TS} {tr0 : TS} {tr1 : Addr → Option Addr → Exn → TS} (T : ExF K names0 tab) (TC : ∀ c ∈ names, ExcC K (He.ga K c))
    (hst : X.stack = X.env :: X.outer) (hfr : X.env.frame = some X.env.locals) (hN : X.N.Nodup) (gC : X.mg Dn = some (clv K Dn))
    (hb : ∀ (W : WX) (pn : List (Addr × Obj)) (xe : Value → Shared → Prop), Takes (X.tr pn xe) W → BXs (X.tr pn xe) W Γ body Γb m (tbo W))
    (hr0 : ∀ a, SS X (Γb a) sts Γo ΓL o (k0 a) tr0)
    (hr1 : ∀ (a : Addr) (d : Option Addr) (x : Exn) (oe : Obj), PinY (X.kp (a, oe)) x.c d (a, oe) → SS (X.kp (a, oe)) (put (put (put Γ i (.mk (α := ExY) Ow.v ⟨a, d, x⟩)) ik (.mk (α := ExY) Ow.v ⟨a, d, x⟩)) i .un) sts Γo ΓL o (k1 x) (tr1 a d x)) (hd1 : α)
    (hlt : Nat.blt i Γ.length = true := by rfl) (hltk : Nat.blt ik Γ.length = true := by rfl) (hi : X.N[i]? = some n := by rfl) (hln : X.env.kindOf n = some .local := by rfl) (hg : Gl X Dn := by rfl) (hdb : (Dn == ("__debug__" : Str)) = false := by decide) (hDv : Dn ≠ ("ValueError" : Str) := by decide)
    (hik : X.N[ik]? = some kx := by rfl) (hkx : Loc X.env.scope kx := by first | exact .inl rfl | exact .inr rfl) (hkf : X.fn kx = true ∨ X.env.scope.names.lookup kx = some .local := by first | exact .inl rfl | exact .inr rfl) (hne : i ≠ ik := by decide) (hvn : Vis X.env.scope n := by first | exact Or.inl rfl | exact Or.inr (Or.inl rfl) | exact Or.inr (Or.inr rfl)) (hd : (n == ("__debug__" : Str)) = false := by decide) (hcd : (n == ("__classdict__" : Str)) = false := by decide)
    (hsw : swapsWith (.Name n p2) (some (.Name kx p1)) p3.line X.env = pure false := by rfl) (hK : X.K = K := by rfl) :
    SS X Γ (.Try body [.ExceptHandler (some (.Name Dn np)) (some n) [.Assign [.Name kx p1] (.Name n p2) p3] pos'] [] [] pos :: sts) Γo ΓL o (do let r ← m; tryK tab names Dn r k0 k1)
      (fun D σ H => tbo (wKp X.K (clv X.K Dn) i ik (fun a cls d D σ H => ∃ x : Exn, cls = clv X.K x.c ∧ names.contains x.c = true ∧ tr1 a d x D σ H) (fun _ _ _ _ => False) D) { D with nx := tr0 D } σ H) := by
  subst hK
  refine ⟨pss_try_keep (tb := tbo) (t1 := fun a cls d D σ H => ∃ x : Exn, cls = clv X.K x.c ∧ names.contains x.c = true ∧ tr1 a d x D σ H) (Wout := fun _ _ _ _ => False) hst hfr hN hi hln ⟨hg, hdb, .inl gC⟩ takes0 (fun W pn xe tk _ => (hb W pn xe tk).pss) hik hkx hkf hne hvn hd hcd hsw (hr0 hd1).pss fun a oe cls d hz hf => ?_, ?_⟩
  · refine ⟨fun pins s σ H D I h => ?_⟩
    obtain ⟨x, h1, h3, h4⟩ := h
    subst h1
    exact (hr1 a d x oe ⟨TC x.c (List.contains_iff_mem.mp h3), hz, hf, List.mem_cons_self⟩).pss.run pins s σ H D I h4
  · intro HF0 G HF H σ g cc hcc D kk
    obtain ⟨r, e1, hcc⟩ := bind_ok hcc
    refine (hb _ X.pn (fun _ _ => True) (fun _ _ _ => trivial)).sem HF0 G HF H σ g r e1 _ ?_
    cases r with
    | inl a =>
      intro HF' H' σ' sm g'
      exact (hr0 a).sem HF0 G HF' H' σ' g' cc hcc D (kk.mono sm)
    | inr x =>
      obtain ⟨_, e3, hcc⟩ := bind_ok (show (gd (names.contains x.c && decide (exLk tab x.c Dn = some true)) >>= fun _ => k1 x) = .ok cc from hcc)
      obtain ⟨hcn, hex⟩ := Bool.and_eq_true_iff.mp (gd_ok e3)
      intro HF' H' d st xd
      have hx := T.exm (exLk_mem (of_decide_eq_true hex))
      rw [show vOf X.K Dn = clv X.K Dn from if_neg hDv] at hx
      refine ⟨true, hx, fun _ a ha => ⟨x, rfl, hcn, ?_⟩, fun q => by cases q⟩
      have g2 := g.set (i := i) (of_blt hlt) st (v := .ref a) (u := Ow.v) (a := (⟨a, d, x⟩ : ExY)) (fp := []) ⟨⟨rfl, xd⟩, rfl⟩ List.nodup_nil fun p hp => by cases hp
      have g3 := g2.set (i := ik) (by rw [put_len]; exact of_blt hltk) (Step.refl st.sub) (v := .ref a) (u := Ow.v) (a := (⟨a, d, x⟩ : ExY)) (fp := []) ⟨⟨rfl, xd⟩, rfl⟩ List.nodup_nil fun p hp => by cases hp
      have g4 := g3.unset (i := i) (by rw [put_len, put_len]; exact of_blt hlt)
      exact (hr1 a d x ⟨clv X.K x.c, d, .fields #[], #[]⟩ ⟨TC x.c (List.contains_iff_mem.mp hcn), ⟨rfl, rfl⟩, ⟨_, rfl⟩, List.mem_cons_self⟩).sem HF0 G HF' H' _ g4 cc hcc D (kk.mono st.exF)
end

/-! ### for the printer -/
def clsB : Stmt → List Stmt
  | .ClassDef (body := b) .. => b
  | _ => []
def HasI (P : Program) (w : World) (K : PySem.W.Frag) (mg : Str → Option Value) (base : Heap) (c f y : Str) : Prop :=
  ∃ fI fd, OexF K c f fI ∧ FnOk P w K mg base CX0 1 fI fd ["self", y] (spI K f) ∧ Binds K fd ["self", y] []
def excCB (K : PySem.W.Frag) (c : Str) : Bool :=
  decide (PySem.W.findIn K (clv K c) "__getattribute__" = some (some (.builtin "BaseException.__getattribute__"))) && (decide (PySem.W.findIn K (clv K c) "__getattr__" = some none) && (decide (PySem.W.subIn K (clv K c) (.type "BaseException") = some true) && (PySem.W.hasDictIn K (He.ga K c) &&
  (decide (PySem.W.findIn K (clv K c) "__class__" = some (some (.builtin "object.__class__"))) && (decide (PySem.W.specialIn K (.builtin "object.__class__") "__get__" = some (some (.builtin "getset_descriptor.__get__"))) && (decide (PySem.W.takesIn K (.builtin "object.__class__") = some true) &&
  (decide (PySem.W.mroIn K (He.ga K c) (.type "object") = some true) && decide (PySem.W.nsIn K mainGlobals c = some (some (clv K c))))))))))
theorem excC_of {K : PySem.W.Frag} {c : Str} (h : excCB K c = true) : ExcC K (He.ga K c) ∧ PySem.W.nsIn K mainGlobals c = some (some (clv K c)) := by
  unfold excCB at h
  simp only [Bool.and_eq_true, decide_eq_true_eq] at h
  obtain ⟨b1, b2, b3, b4, b5, b6, b7, b8, b9⟩ := h
  exact ⟨⟨b1, b2, b3, b4, b5, b6, b7, b8⟩, b9⟩
def exyB (names : List Str) (ft : List (Str × Str)) (nn : List Str) (K : PySem.W.Frag) : Bool := names.all (excCB K) && (ft.all (fun p => decide (PySem.W.findIn K (clv K p.1) p.2 = some none)) && nn.all fun D => decide (PySem.W.kitOne K (.type "NoneType") (clv K D) = some false))
theorem exy_c {names : List Str} {ft : List (Str × Str)} {nn : List Str} {K : PySem.W.Frag} (h : exyB names ft nn K = true) : ∀ c ∈ names, ExcC K (He.ga K c) := fun c hc => (excC_of (List.all_eq_true.mp (Bool.and_eq_true_iff.mp h).1 c hc)).1
theorem exy_m {names : List Str} {ft : List (Str × Str)} {nn : List Str} {K : PySem.W.Frag} (h : exyB names ft nn K = true) : ∀ c ∈ names, PySem.W.nsIn K mainGlobals c = some (some (clv K c)) := fun c hc => (excC_of (List.all_eq_true.mp (Bool.and_eq_true_iff.mp h).1 c hc)).2
theorem exy_f {names : List Str} {ft : List (Str × Str)} {nn : List Str} {K : PySem.W.Frag} (h : exyB names ft nn K = true) : FldT K ft := fun p hp => of_decide_eq_true (List.all_eq_true.mp (Bool.and_eq_true_iff.mp (Bool.and_eq_true_iff.mp h).2).1 p hp)
theorem exy_n {names : List Str} {ft : List (Str × Str)} {nn : List Str} {K : PySem.W.Frag} (h : exyB names ft nn K = true) : ∀ D ∈ nn, PySem.W.kitOne K (.type "NoneType") (clv K D) = some false := fun p hp => of_decide_eq_true (List.all_eq_true.mp (Bool.and_eq_true_iff.mp (Bool.and_eq_true_iff.mp h).2).2 p hp)
def initB (l : List (Str × Str × Str)) (K : PySem.W.Frag) : Bool := l.all fun p => oexB K p.1 p.2.1 (He.fAd K (p.1, some "__init__")) && reiB K p.2.2
theorem init_of {l : List (Str × Str × Str)} {K : PySem.W.Frag} (h : initB l K = true) {c f B : Str} (hp : (c, f, B) ∈ l) : OexF K c f (He.fAd K (c, some "__init__")) ∧ reiB K B = true := by
  have := List.all_eq_true.mp h _ hp
  rw [Bool.and_eq_true] at this
  exact ⟨oexf_of this.1, this.2⟩
end Ty

namespace Ty
open PySem PySem.W PySem.Calls PyProof.Rows He
/-! ### a hook that holds the statics' list, too -/
def asZ (g : Addr → Option Obj) (n : Nat) : List Addr := He.asD g n ++ [cStatics]
def obsZ (n : Nat) (fa : List He.Fa) (fn : List He.DefD) (ex : PySem.W.Frag → Bool) (g : Addr → Option Obj) : He.AlD × Bool := (He.obsD fa fn (frG g (asZ g n)), ex (frG g (asZ g n)))
structure SaysZ (fa : List He.Fa) (fn : List He.DefD) (ex : PySem.W.Frag → Bool) (K : PySem.W.Frag) : Prop where
  d : He.SaysD fa fn K
  more : ex K = true
def hookZ (n : Nat) (fa : List He.Fa) (fn : List He.DefD) (ex : PySem.W.Frag → Bool) : PySem.W.Hook where
  α := He.AlD × Bool
  obs := fun s => obsZ n fa fn ex s.heap.get?
  val := fun _ => (He.valD fn, true)
  says := fun _ h => ∃ K : PySem.W.Frag, K.In h ∧ SaysZ fa fn ex K
  of := fun _ _ e => ⟨_, frG_in, ⟨congrArg (fun z : He.AlD × Bool => z.1) e, congrArg (fun z : He.AlD × Bool => z.2) e⟩⟩
  keeps := fun _ _ _ ⟨K, hK, c⟩ k => ⟨K, PySem.W.Frag.In.keeps hK k, c⟩
theorem obsZ_eq {n : Nat} {fa : List He.Fa} {fn : List He.DefD} {ex : PySem.W.Frag → Bool} {g : Addr → Option Obj} {s : Shared} (h : ∀ a, g a = s.heap.get? a) : obsZ n fa fn ex g = (hookZ n fa fn ex).obs s := by
  have e : g = s.heap.get? := funext h
  rw [e] <;> rfl
end Ty
namespace Ty
open PySem PySem.Spec PyProof.Rows L2
/-! ### great factors, of together less than 100 million bits -/
def CMulX (i j : Int) : Prop := i.natAbs.log2 + j.natAbs.log2 < 100000000
theorem CMulX.ok {i j : Int} (h : CMulX i j) : IntMulOk i j := by
  have b : ∀ x : Int, Builtin.Int.intBits x ≤ x.natAbs.log2 + 1 := fun x => by
    unfold Builtin.Int.intBits
    split <;> omega
  have h1 := b i
  have h2 := b j
  have h3 : i.natAbs.log2 + j.natAbs.log2 < 100000000 := h
  have e : bitsLine = 134217728 := by decide
  unfold IntMulOk
  intro z
  rw [Bool.and_eq_true] at z
  have z2 := z.2
  unfold Builtin.Int.intTooBig at z2
  have z3 := of_decide_eq_true z2
  rw [e] at z3
  omega
theorem op_mulX {X : Cx} : OpR X (binaryOp .Mult) (rI CMulX fun i j => .int (i * j)) := opI fun _ _ _ _ _ _ _ hc q => PyProof.Rows.mul_int q hc.ok
def mulXB (i j : Int) : Bool := decide (i.natAbs.log2 + j.natAbs.log2 < 100000000)
def mulXM (a b : Int) : M Int := do gd (mulXB a b); pure (a * b)
section
variable {X : Cx} {Γ : Ctx} {a b : Expr} {pos : Pos} {ta tb : TE}
theorem ex_mulX {ma mb : M Int} (ha : EX X Γ a Ow.v ma ta) (hb : EX X Γ b Ow.v mb tb) : EX X Γ (.BinOp a .Mult b pos) Ow.v (do let a ← ma; let b ← mb; mulXM a b) (tOp (rI CMulX fun i j => .int (i * j)) ta tb) :=
  ex_op op_mulX (sr_I mulXB (fun i j h => by simpa [mulXB, CMulX] using h) fun _ _ => rfl) ha hb
end
theorem mulXM_ok {a b : Int} (ha : Builtin.Int.intBits a ≤ 1048576) (hb : Builtin.Int.intBits b ≤ 1048576) : mulXM a b = .ok (a * b) := by
  have q : ∀ x : Int, Builtin.Int.intBits x ≤ 1048576 → x.natAbs.log2 < 1048577 := fun x h => by
    unfold Builtin.Int.intBits at h
    split at h
    · rename_i e
      simp_all
    · omega
  have h1 := q a ha
  have h2 := q b hb
  unfold mulXM
  rw [show mulXB a b = true from decide_eq_true (by omega)]
  rfl
end Ty
namespace L2
open PySem PySem.Spec PyProof.Rows
/-- walk_ofE with the script's bits told -/
theorem walk_ofEB {l : PySem.W.OpenLaw} {n k : Nat} {q : Program} {loose : List Str} {XP : (Str → Option Value) → Heap → Prop} {YP : World → Heap → Prop} {d : DefRec} {CX : CXT} {x : Str}
    (hn : l.most = some n) (hn2 : n ≤ sizeLine) (hdf : d.params.defaults = []) (hr : Room k callerA)
    (F : ∀ (w : World) (mg : Str → Option Value) (fa : Addr) (h : Heap), YP w h → h.Ns mainGlobals mg → mg d.name = some (.ref fa) →
      ∃ (K : PySem.W.Frag) (fd : FuncData) (sp : Sp), K.In h ∧ (∀ (s : Shared) (u : Value), BindsTo s fd ⟨[u], []⟩ [(x, u)]) ∧
        (∀ (H : Hp) (a : Addr) (ns : List Int), ns.length ≤ n → (∀ z ∈ ns, Builtin.Int.intBits z ≤ 1048576) → Only H → SqL K H a (ns.map V.int) → sp [.ref a] H (fun v _ => v = .bl true) fun _ _ _ => False) ∧
        ∀ base : Heap, K.In base → base.Ns mainGlobals mg → FnOk l.prog w K mg base CX k fa fd [x] sp)
    (hCX : ∀ (H : Hp) (s : Shared) (e : Value) (s' : Shared), CX [] H s (fun _ _ _ => False) e s' → False) :
    PySem.W.WalkO q loose XP YP l.row.toRowW d [] (fun f vs => PySem.call f vs) := by
  refine Att.attach_callB hn hdf fun w s₀ s₁ mg mb fa o pm cd doc a vs ns G Y ho hd hcd hmg hobj hints hlen hbits hg => ?_
  obtain ⟨K, fd, sp, KX, hb, hsp, hF⟩ := F w mg fa _ Y G.T.g hmg
  exact law_call KX G.T.g G.T.b G.T.builtins G.T.nolimit hg hobj hints (Nat.le_trans hlen hn2) hr hF hb (fun H hO hS => hsp H a ns hlen hbits hO hS) fun H e s' => hCX H s₁ e s'
end L2

/-! ## Ty41: list(text) -/
namespace L2
open PySem PySem.Spec PyProof.Rows
def kLstS (x : V) (H : Hp) (Q : VK) : Prop := ∃ b : Str, x = .str b ∧ b.cps.size ≤ sizeLine ∧ ∀ q, H q = none → Q (.ref q) (upd H q (.lst ((b.cps.toList.map Ty.sgS).map V.str)))
theorem rl_listS {X : Cx} (hc : X.calm = true) (pins : List (Addr × Obj)) (s : Shared) (σ : St) (H : Hp) (x : V) (v : Value) (Q : VK) (I : Inv X pins σ H s) (r : RelV x v) (h : kLstS x H Q) :
    wpAny (model X.prog X.w) X.A (call (.type "list") [v]) (EP X pins σ Q) X.xe s := by
  obtain ⟨b, rfl, hz, q⟩ := h
  obtain ⟨t, rfl⟩ := r
  have hl : ((b.cps.toList.map Ty.sgS).map V.str).length = b.cps.size := by rw [List.length_map, List.length_map, Array.length_toList]
  refine call_list_str (I.ok.hd hc) b t (hn := hz) fun h' tk acc c' hk e hi => ?_
  refine ⟨.ref s.heap.objs.size, upd H s.heap.objs.size (.lst ((b.cps.toList.map Ty.sgS).map V.str)), I.laid hk (Nat.le_refl _) ⟨by rw [hl]; exact hz, acc.toList, c', ?_, by rw [Array.toArray_toList]; exact e⟩, rfl, q _ (I.hok.fresh (Nat.le_refl _))⟩
  refine vals_of_idx _ _ (by rw [hl, Array.length_toList]; exact hi.1) fun j u hj => ?_
  obtain ⟨c, t', hc, rfl⟩ := hi.2 j u (by rw [← Array.getElem?_toList]; exact hj)
  exact ⟨.str (Ty.sgS c), by simp [hc], ⟨_, rfl⟩⟩
theorem pe_listS {X : Cx} {a : Expr} {ta : TE} {p pos : Pos} (hc : X.calm = true) (hg : Gl X "list") (hm : X.mg "list" = none) (ha : PE X a ta) (na : starEach [a] X.env = (false, eval a X.env) :: starEach [] X.env := by rfl) :
    PE X (.Call (.Name "list" p) [a] [] pos) (tThenZ ta kLstS) := pe_callTy (call_r1 (rl_listS hc)) hg hm (by decide +kernel) (pa_cons ha pa_nil na) (he := na)
end L2
namespace Ty
open PySem PySem.Spec PyProof.Rows L2
section
variable {X : Cx} {Γ : Ctx} {a : Expr} {ta : TE} {p pos : Pos}
def listSM (x : Str) : M (List Str) := do gd (decide (x.cps.size ≤ sizeLine)); pure (x.cps.toList.map sgS)
theorem ex_listS {m : M Str} (hc : X.calm = true) (hm : X.mg "list" = none) (h : EX X Γ a Ow.v m ta) (hg : Gl X "list" := by rfl) (na : starEach [a] X.env = (false, eval a X.env) :: starEach [] X.env := by rfl) :
    EX X Γ (.Call (.Name "list" p) [a] [] pos) (Ow.l (Ow.v : Ow Str)) (do let a ← m; listSM a) (tThenZ ta kLstS) :=
  ⟨pe_listS hc hg hm h.pe na, fun HF0 G HF H σ g c hcc Q k => by
    obtain ⟨x, e1, hcc⟩ := bind_ok hcc
    obtain ⟨u, e2, hcc⟩ := bind_ok hcc
    cases pure_ok hcc
    refine h.sem HF0 G HF H σ g x e1 _ fun v HF1 H1 fp s1 r1 _ _ => ?_
    have r1 := Fl.sh_iff.mp r1.1
    subst r1
    refine ⟨x, rfl, of_decide_eq_true (gd_ok e2), fun p hp => ?_⟩
    exact k (.ref p) HF1 _ [p] (s1.trans (Step.own s1.sub hp)) ⟨p, _, [], rfl, rfl, upd_same, Rl.ofFa (Fa.flat.mpr rfl)⟩ (by simp) fun b hb => by
      rw [List.mem_singleton.mp hb]
      have hp0 : ∀ (M : Hp), Same M H1 → M p = none := fun M sm => by
        cases z : M p with
        | none => rfl
        | some u =>
          have := sm _ _ z
          rw [hp] at this; cases this
      exact ⟨hp0 H s1.exH, hp0 HF1 s1.sub⟩⟩
end
end Ty

/-! ## Ty42: text.upper(), text[::-1], list[::k] -/
namespace L2
open PySem PySem.Spec PyProof.Rows
section
variable {X : Cx} {e : Expr} {te : TE}
def revTx (z : Str) : Str := ⟨z.cps.toList.reverse.toArray⟩
def tRevS (te : TE) : TE := fun σ H Q => te σ H fun x H1 => ∃ z : Str, x = .str z ∧ z.length ≤ sizeLine ∧ Q (.str (revTx z)) H1
theorem pe_revS {k : Nat} {p1 p2 p3 pos : Pos} (he : PE X e te) : PE X (.Subscript e (.Slice none none (some (.UnaryOp .USub (.Constant (.int 1) k p1) p2)) p3) pos) (tRevS te) := by
  refine ⟨fun pins s σ H Q I h => ?_⟩
  refine Subscript_ (thn (he.run pins s σ H _ I h) fun v s1 ⟨x, H1, I1, r1, q1⟩ => ?_)
  obtain ⟨z, ex, hz, q⟩ := q1
  subst ex
  obtain ⟨t, rfl⟩ := r1
  have hst : PO X (some (.UnaryOp .USub (.Constant (.int 1) k p1) p2)) (tPart (tUn (rU fun i => .int (-i)) (tC (.int 1)))) := po_some (pe_un un_neg pe_int)
  refine wpAny_Slice (thn (po_none.run pins s1 σ H1 (fun o H2 => o = none ∧ H2 = H1) I1 ⟨rfl, rfl⟩) fun vl s2 ⟨l, H2, I2, pl, el, e2⟩ => ?_)
  subst el e2
  refine thn (po_none.run pins s2 σ H2 (fun o H3 => o = none ∧ H3 = H2) I2 ⟨rfl, rfl⟩) fun vu s3 ⟨u, H3, I3, pu, eu, e3⟩ => ?_
  subst eu e3
  refine thn (hst.run pins s3 σ H3 (fun o H4 => o = some (-1) ∧ H4 = H3) I3 ⟨1, rfl, -1, rfl, rfl, rfl⟩) fun vs s4 ⟨o, H4, I4, ps, eo, e4⟩ => ?_
  subst eo e4
  have I5 : Inv X pins σ H4 { s4 with heap := s4.heap.push { cls := .type "slice", data := .fields #[vl, vu, vs] } } := I4.kept (t' := s4.toks) fun b ob q => Heap.get?_push_of_some _ q
  show wpAny (model X.prog X.w) X.A (subscriptTail e (.Slice none none (some (.UnaryOp .USub (.Constant (.int 1) k p1) p2)) p3) (.str z t) (.ref s4.heap.objs.size)) (EP X pins σ Q) X.xe { s4 with heap := s4.heap.push { cls := .type "slice", data := .fields #[vl, vu, vs] } }
  cases pl
  cases pu
  obtain ⟨o, rfl, ho⟩ := IsPart.raw ps
  obtain ⟨⟨i, t'⟩, rfl⟩ : ∃ p, o = some p := by
    cases o with
    | none => cases ho
    | some p => exact ⟨p, rfl⟩
  have hi : i = -1 := by simpa using ho
  subst hi
  refine tail_any (ops := [.ref s4.heap.objs.size, .str z t]) (typeIs_str _ _ _) (PySem.F.slot_str_getitem.lookup) ?_ (by with_unfolding_all rfl)
  refine wpAny_getItem_str_slice (l := none) (u := none) (st := some (-1, t')) ⟨_, Heap.get?_push_size _ rfl, rfl, rfl⟩ rfl ?_
  have hp : slicePicked z none none (some (-1, t')) = (List.range z.length).reverse := by
    show Builtin.Str.strSliceIndices none none (-1) z.length = _
    have : Builtin.Str.strSliceIndices none none (-1) z.length = sliceRange ((z.length : Int) - 1) (-1) (-1) := rfl
    rw [this, PySem.W.krv_sliceRange, PySem.W.krv_range]
  have hx : (((slicePicked z none none (some (-1, t'))).filterMap (z.cps[·]?)).toArray) = z.cps.toList.reverse.toArray := by
    rw [hp, List.filterMap_reverse, show z.length = z.cps.size from rfl, PySem.W.krv_all]
  unfold sliceMade
  rw [if_neg (by simp), hx]
  refine ⟨?_, .str _, H4, I5.tok _, ⟨_, rfl⟩, q⟩
  show (z.cps.toList.reverse.toArray).size ≤ sizeLine
  rw [List.size_toArray, List.length_reverse, Array.length_toList]
  exact hz
/-! ### list[::k] -/
def stepL {α : Type} (k : Nat) (xs : List α) : List α := (sliceRange 0 xs.length (k : Int)).filterMap fun i => xs[i]?
theorem vals_fm {xs : List V} {us : List Value} (r : Vals xs us) : ∀ is : List Nat, Vals (is.filterMap fun i => xs[i]?) (is.filterMap fun i => us[i]?)
  | [] => .nil
  | i :: is => by
    cases e : xs[i]? with
    | none =>
      rw [List.filterMap_cons_none e, List.filterMap_cons_none (r.none_of e)]
      exact vals_fm r is
    | some x =>
      obtain ⟨u, e2, ru⟩ := r.get e
      rw [List.filterMap_cons_some e, List.filterMap_cons_some e2]
      exact .cons ru (vals_fm r is)
def tStepL (K : PySem.W.Frag) (k : Nat) (te : TE) : TE := fun σ H Q => te σ H fun x H1 => ∃ a xs, x = .ref a ∧ SqL K H1 a xs ∧ ∀ p, H1 p = none → Q (.ref p) (upd H1 p (.lst (stepL k xs)))
theorem stepL_len {α : Type} {k : Nat} (hk : 0 < k) (xs : List α) : (stepL k xs).length ≤ xs.length :=
  Nat.le_trans (List.length_filterMap_le _ _) (sliceRange_length_le 0 xs.length (k : Int) xs.length (fun _ => ⟨Int.le_refl _, Int.le_refl _⟩) (fun h => absurd (show (k : Int) > 0 by omega) h))
theorem pe_stepL {n : Nat} {k : Nat} {p1 p3 pos : Pos} (hn : 0 < n) (he : PE X e te) : PE X (.Subscript e (.Slice none none (some (.Constant (.int (n : Int)) k p1)) p3) pos) (tStepL X.K n te) := by
  refine ⟨fun pins s σ H Q I h => ?_⟩
  refine Subscript_ (thn (he.run pins s σ H _ I h) fun v s1 ⟨x, H1, I1, r1, q1⟩ => ?_)
  obtain ⟨a, xs, ex, hx, q⟩ := q1
  subst ex
  cases r1
  have hst : PO X (some (.Constant (.int (n : Int)) k p1)) (tPart (tC (.int (n : Int)))) := po_some pe_int
  refine wpAny_Slice (thn (po_none.run pins s1 σ H1 (fun o H2 => o = none ∧ H2 = H1) I1 ⟨rfl, rfl⟩) fun vl s2 ⟨l, H2, I2, pl, el, e2⟩ => ?_)
  subst el e2
  refine thn (po_none.run pins s2 σ H2 (fun o H3 => o = none ∧ H3 = H2) I2 ⟨rfl, rfl⟩) fun vu s3 ⟨u, H3, I3, pu, eu, e3⟩ => ?_
  subst eu e3
  refine thn (hst.run pins s3 σ H3 (fun o H4 => o = some (n : Int) ∧ H4 = H3) I3 ⟨(n : Int), rfl, rfl, rfl⟩) fun vs s4 ⟨o, H4, I4, ps, eo, e4⟩ => ?_
  subst eo e4
  have I5 : Inv X pins σ H4 { s4 with heap := s4.heap.push { cls := .type "slice", data := .fields #[vl, vu, vs] } } := I4.kept (t' := s4.toks) fun b ob q => Heap.get?_push_of_some _ q
  obtain ⟨its, r, ht, hz⟩ := I5.list hx
  have hlen := r.length
  show wpAny (model X.prog X.w) X.A (subscriptTail e (.Slice none none (some (.Constant (.int (n : Int)) k p1)) p3) (.ref a) (.ref s4.heap.objs.size)) (EP X pins σ Q) X.xe { s4 with heap := s4.heap.push { cls := .type "slice", data := .fields #[vl, vu, vs] } }
  refine tail_any (ops := [.ref a, .ref s4.heap.objs.size]) ht.isList.typeIs (PySem.slot_list_getitem.lookup) ?_ (by with_unfolding_all rfl)
  refine wpAny_getItem_list_slice ht.isList (Heap.IsSliceOf.new _ vl vu vs) pl pu ps (by intro h; injection h with h; omega) ?_ (by rw [List.size_toArray]; omega)
  have hp : slicePick its.toArray none none (some (n : Int)) = (stepL n its).toArray := by
    unfold slicePick stepL
    have hb : sliceBounds none none (some (n : Int)) its.toArray.size = (0, (its.length : Int), (n : Int)) := by
      unfold sliceBounds
      simp only [Option.getD_some, List.size_toArray]
      rw [if_pos (by omega), if_pos (by omega)]
    rw [hb]
    congr 1
    have : (fun i : Nat => its.toArray[i]?) = fun i => its[i]? := funext fun i => by simp
    rw [this]
  rw [hp]
  have hv : Vals (stepL n xs) (stepL n its) := by
    unfold stepL
    rw [show (its.length : Int) = (xs.length : Int) by omega]
    exact vals_fm r _
  refine ⟨.ref _, _, I5.laid (t' := s4.toks) (o := .lst (stepL n xs)) (fun b ob q => Heap.get?_push_of_some _ q) (Nat.le_refl _) ?_, rfl, q _ (I5.hok.fresh (Nat.le_refl _))⟩
  exact ⟨Nat.le_trans (stepL_len hn xs) hz, _, 0, hv, Heap.get?_push_size _ rfl⟩
end
end L2
namespace Ty
open PySem PySem.Spec PyProof.Rows L2
section
variable {X : Cx} {Γ : Ctx} {a e o : Expr} {ta te to : TE} {p p1 p2 p3 pos apos cpos : Pos}
def revSM (z : Str) : M Str := do gd (decide (z.length ≤ sizeLine)); pure (revTx z)
theorem ex_revS {k : Nat} {m : M Str} (h : EX X Γ e Ow.v m te) : EX X Γ (.Subscript e (.Slice none none (some (.UnaryOp .USub (.Constant (.int 1) k p1) p2)) p3) pos) Ow.v (do let a ← m; revSM a) (tRevS te) :=
  ⟨pe_revS h.pe, fun HF0 G HF H σ g c hcc Q k => by
    obtain ⟨x, e1, hcc⟩ := bind_ok hcc
    obtain ⟨u, e2, hcc⟩ := bind_ok hcc
    cases pure_ok hcc
    refine h.sem HF0 G HF H σ g x e1 _ fun v HF1 H1 fp s1 r1 _ _ => ?_
    have r1 := Fl.sh_iff.mp r1.1
    subst r1
    exact ⟨x, rfl, of_decide_eq_true (gd_ok e2), (k.back s1).flat s1.sub⟩⟩
def rUpper : V → List V → Hp → VK → Prop := fun x xs H Q => ∃ a : Str, x = .str a ∧ xs = [] ∧ a.length ≤ 5592405 ∧ Q (.str (Txt.upper a)) H
def upperM (z : Str) : M Str := do gd (decide (z.length ≤ 5592405)); pure (Txt.upper z)
theorem ex_upper {K : PySem.W.Frag} {mo : M Str} (ho : EX X Γ o Ow.v mo to) (hbase : attributeBase o "upper" X.env (eval o X.env) = eval o X.env := by rfl) (hline : (apos.endLine == cpos.line) = true := by rfl) (hK : X.K = K := by rfl) :
    EX X Γ (.Call (.Attribute o "upper" apos) [] [] cpos) Ow.v (do let x ← mo; upperM x) (tBM0 K "str" rUpper to) := by
  subst hK
  exact ⟨pe_bm0 PySem.F.plainAttrs_str PySem.F.slot_str_upper PySem.F.type_str_upper mt_upper ho.pe hbase hline, fun HF0 G HF H σ g c hcc Q k => by
    obtain ⟨x, e1, hcc⟩ := bind_ok hcc
    obtain ⟨u, e2, hcc⟩ := bind_ok hcc
    cases pure_ok hcc
    refine ho.sem HF0 G HF H σ g x e1 _ fun v HF1 H1 fp s1 r1 _ _ => ?_
    have r1 := Fl.sh_iff.mp r1.1
    subst r1
    exact ⟨rfl, x, rfl, rfl, of_decide_eq_true (gd_ok e2), (k.back s1).flat s1.sub⟩⟩
instance kdTu {α : Type} [Rp α] : Kd (Tu α) := ⟨"tuple", fun ⟨p, vs, e, h, _⟩ => by
  subst e
  rcases h with (h | ⟨o, h⟩) | ⟨o, its, n, e, c, _⟩
  · exact .base (.tup h)
  · exact .fTuple h
  · exact .kTuple e c⟩
theorem fa_fm {α : Type} {R : V → α → Prop} {vs : List V} {as : List α} (h : Fa R vs as) : ∀ is : List Nat, Fa R (is.filterMap fun i => vs[i]?) (is.filterMap fun i => as[i]?)
  | [] => True.intro
  | i :: is => by
    cases e : as[i]? with
    | none =>
      have e2 : vs[i]? = none := by
        rw [List.getElem?_eq_none_iff] at e ⊢
        rw [h.len]; exact e
      rw [List.filterMap_cons_none e, List.filterMap_cons_none e2]
      exact fa_fm h is
    | some x =>
      obtain ⟨u, e2, ru⟩ := h.get' e
      rw [List.filterMap_cons_some e, List.filterMap_cons_some e2]
      exact ⟨ru, fa_fm h is⟩
theorem ex_stepL {α : Type} {K : PySem.W.Frag} [Rp α] (n : Nat) {k : Nat} {m : M (List α)} (hn : 0 < n) (h : EX X Γ e Ow.v m te) (hK : X.K = K := by rfl) : EX X Γ (.Subscript e (.Slice none none (some (.Constant (.int (n : Int)) k p1)) p3) pos) (Ow.l (Ow.v : Ow α)) (do let a ← m; pure (stepL n a)) (tStepL K n te) := by
  subst hK
  exact ⟨pe_stepL hn h.pe, fun HF0 G HF H σ g c hcc Q k => by
    obtain ⟨x, e1, hcc⟩ := bind_ok hcc
    cases pure_ok hcc
    refine h.sem HF0 G HF H σ g x e1 _ fun v HF1 H1 fp st r n' f => ?_
    obtain ⟨⟨q, us, e2, h3, h4⟩, _⟩ := r
    refine ⟨q, us, e2, SqL.of (st.sub _ _ h3), fun q' hq => ?_⟩
    refine (show RetK X.K HF1 H1 (Ow.l (Ow.v : Ow α)) (stepL n x) Q from fun v' HF' H' fp' st' r' n' f' => k v' HF' H' fp' (st.trans st') r' n' (fun p hp => ⟨st.exH.free (f' p hp).1, (f' p hp).2⟩)).lst st.sub ?_ hq
    unfold stepL
    rw [h4.len]
    exact fa_fm h4 _⟩
end
end Ty

/-! ## Ty43: an except suite that hands its exception, field and all, to a def; calls in that def -/
namespace Ty
open PySem PySem.Spec PyProof.Rows L2
/-- a def called while an exception is handled -/
structure FnHt (P : Program) (w : World) (K : PySem.W.Frag) (mg : Str → Option Value) (base : Heap) (k : Nat) (f : Addr) (fd : FuncData) (ps : List Str) (sp : Sp) : Prop where
  len : ∀ vs H Q E, sp vs H Q E → vs.length = ps.length
  run : ∀ (A : Around) (outer : List Env) (s : Shared) (H : Hp) (args : Args) (us : List Value) (vs : List V) (Q : VK) (E : XK) (p : Addr × Obj), L2H.RoomH k A → L2H.PinOk outer H s p → Env0 P w K mg base A outer s H → BindsTo s fd args (ps.zip us) → Vals vs us → sp vs H Q E →
    codeAny (model P w) A (.call (.ref f) args) (CR CX0 outer P w H s Q E) s
/-- a def that is handed the exception -/
structure PinZ (K : PySem.W.Frag) (c : Str) (d : Option Addr) (p : Addr × Obj) : Prop where
  C : ExcC K (He.ga K c)
  hz : Zc (clv K c) d p.2
  hf : ∃ vs, p.2.data = .fields vs
def spZ {ρ : Type} [Rp ρ] (K : PySem.W.Frag) (o : Ow ρ) (fm : Exn → M ρ) (d : Option Addr) (x : Exn) (H : Hp) (Q : VK) : Prop := ∃ HF r, Same HF H ∧ XD HF d x ∧ fm x = .ok r ∧ RetK K HF H o r Q
structure FnZ (P : Program) (w : World) (K : PySem.W.Frag) (mg : Str → Option Value) (base : Heap) (k : Nat) (f : Addr) (fd : FuncData) (y : Str) {ρ : Type} [Rp ρ] (o : Ow ρ) (fm : Exn → M ρ) : Prop where
  run : ∀ (A : Around) (outer : List Env) (s : Shared) (H : Hp) (args : Args) (Q : VK) (E : XK) (p : Addr × Obj) (d : Option Addr) (x : Exn), L2H.RoomH k A → PinZ K x.c d p → L2H.PinOk outer H s p → Env0 P w K mg base A outer s H → BindsTo s fd args [(y, .ref p.1)] → spZ K o fm d x H Q →
    codeAny (model P w) A (.call (.ref f) args) (CR CX0 outer P w H s Q E) s
section
variable {P : Program} {w : World} {K : PySem.W.Frag} {mg : Str → Option Value} {base : Heap}
theorem fnH_ok {A ρ : Type} [Rp ρ] {x qual : Str} {params : Arguments} {bd : List Stmt} {scope : Scope} {dvs : List V} {kws : List (Str × V)} {f : Addr} {fd : FuncData} {N ps : List Str} {k : Nat} {r : As A} {o : Ow ρ} {m : A → M (Ctl Unit Empty ρ)} (F : FunD K x qual params bd scope dvs kws f fd) (S : FnScope N ps scope) (hn : r.n = ps.length) (hN : N.length = r.n + (N.length - r.n))
    (body : ∀ (cdv : Value) (A' : Around) (outer : List Env) (s : Shared) (H : Hp) (E : XK) (p : Addr × Obj), L2H.RoomH k (A'.deeper (envOfC qual scope s.heap.objs.size f cdv)) → ∀ a : A, ∃ t : TS,
      SS (L2H.cxH CX0 P w K mg base N qual scope f cdv A' outer s H E p).nox (r.ctx a ++ List.replicate (N.length - r.n) .un) bd (fun (_ : Unit) => []) (fun (_ : Empty) => []) o (m a) t)
    (ho : ∀ r R v H, R v H → o.out r R v H := by exact fun _ _ _ _ h => h) :
    FnHt P w K mg base (k + 1) f fd ps (spF K r o fun a => runC (m a)) := by
  obtain ⟨oc, od, dV, kV, doc, pm, an, cdv, ct, osl, rfl, lk, hcd, _, _⟩ := F.ex
  refine ⟨fun vs H Q E h => ?_, fun A outer s H args us vs Q E p hr hpin e0 hb rr hsp => ?_⟩
  · obtain ⟨HF, a, c, h1, h2, h3, h4⟩ := h
    rw [r.len h2, hn]
  obtain ⟨HF, a, r0, h1, h2, h3, h4⟩ := hsp
  have KX : K.In s.heap := e0.mod.kin.keeps fun b o e => (e0.bs b o e).1
  have lim : s.heap.NoLimit := e0.mod.nolimit.keeps fun b o e => (e0.bs b o e).1
  have hlv : vs.length = ps.length := by rw [r.len h2, hn]
  have hkind : ∀ z ∈ ps.zip us, scope.names.lookup z.1 = some .local ∨ (scope.names.lookup z.1 = some .cell ∧ ((cellsFrom (s.heap.objs.size + 1) scope.names []).lookup z.1).isSome = true) := fun ⟨n, v⟩ hy => by
    rcases S.par n (List.of_mem_zip hy).1 with q | q
    · exact .inl q
    · exact .inr ⟨q, PySem.W.cellsFrom_some _ _ _ (.inl q)⟩
  refine codeAny_call_function hr.depth (KX _ _ lk) rfl S.co S.gen rfl (PySem.W.codeRec_of KX hcd) (hb _ _ _ _ ?_)
  refine wpAny_newFunctionEnv_cells S.kind hkind fun env he s1 xx => ?_
  subst he
  refine ⟨lim.keeps xx.toInCall.keep, codeAny_func ?_⟩
  obtain ⟨t, q⟩ := body cdv A outer s H E p (hr.deeper _) a
  have I : Inv (L2H.cxH CX0 P w K mg base N qual scope f cdv A outer s H E p) [] (L2.start N vs) H s1 := L2H.inv_startH S hpin e0 hlv rr xx
  obtain ⟨c', e1, h3⟩ := bind_ok h3
  have hl := r.len h2
  have hd := r.held (HF := HF) (H := H) (N.length - r.n) h2
  have es : L2.start N vs = vs.map some ++ List.replicate (N.length - r.n) none := by unfold L2.start; rw [hl]
  have Tq : t { nx := fun _ H' => Q .non H', rt := Q } (L2.start N vs) H := by
    refine q.sem HF H HF H (L2.start N vs) ⟨h1, Same.refl _, Same.refl _, (fun p u a b => by rw [a] at b; cases b), [], by rw [es]; exact hd, List.nodup_nil, fun p hp => by cases hp⟩ c' e1 _ ?_
    cases c' with
    | nx s => cases h3
    | bk l => exact nomatch l
    | ct l => exact nomatch l
    | rt r' =>
      cases pure_ok (show (pure r' : M ρ) = .ok r0 from h3)
      exact fun v HF' H' fp a b c' d rr n ff => ho _ _ _ _ <| h4 v HF' H' fp ⟨b, c', a, d⟩ rr n fun p hp => ⟨(ff p hp).2, (ff p hp).1⟩
  refine wpAny_mono (q.pss.nox.run [] s1 (L2.start N vs) H _ I Tq) (fun fl s' hs => ?_) fun e s' hs => hs
  have fin : ∀ {σ' : L2.St} {H' : Hp} {v : V} {u : Value}, Inv (L2H.cxH CX0 P w K mg base N qual scope f cdv A outer s H E p) [] σ' H' s' → RelV v u → Q v H' → CE outer P w H s Q u s' :=
    fun {σ' H' v u} J rv q => ⟨v, H', J.os, J.bare, J.base, J.hok, rv, q⟩
  cases fl with
  | ret u =>
    obtain ⟨v, σ', H', J, rv, q⟩ := hs
    exact fin J rv q
  | next =>
    obtain ⟨σ', H', J, q⟩ := hs
    exact fin (v := V.non) (u := Value.none) J rfl q
  | brk =>
    obtain ⟨_, _, _, q⟩ := hs
    exact False.elim q
  | cont =>
    obtain ⟨_, _, _, q⟩ := hs
    exact False.elim q
theorem fnZ_ok {ρ : Type} [Rp ρ] {x qual : Str} {params : Arguments} {bd : List Stmt} {scope : Scope} {dvs : List V} {kws : List (Str × V)} {f : Addr} {fd : FuncData} {N : List Str} {y : Str} {k : Nat} {o : Ow ρ} {m : Exn → M (Ctl Unit Empty ρ)} (F : FunD K x qual params bd scope dvs kws f fd) (S : FnScope N [y] scope) (hN : N.length = 1 + (N.length - 1))
    (body : ∀ (cdv : Value) (A' : Around) (outer : List Env) (s : Shared) (H : Hp) (E : XK) (p : Addr × Obj) (d : Option Addr) (x : Exn), L2H.RoomH k (A'.deeper (envOfC qual scope s.heap.objs.size f cdv)) → PinY (L2H.cxH CX0 P w K mg base N qual scope f cdv A' outer s H E p).nox x.c d (p.1, p.2) → ∃ t : TS,
      SS (L2H.cxH CX0 P w K mg base N qual scope f cdv A' outer s H E p).nox (.mk (α := ExY) Ow.v ⟨p.1, d, x⟩ :: List.replicate (N.length - 1) .un) bd (fun (_ : Unit) => []) (fun (_ : Empty) => []) o (m x) t)
    (ho : ∀ r R v H, R v H → o.out r R v H := by exact fun _ _ _ _ h => h) :
    FnZ P w K mg base (k + 1) f fd y o (fun c => runC (m c)) := by
  obtain ⟨oc, od, dV, kV, doc, pm, an, cdv, ct, osl, rfl, lk, hcd, _, _⟩ := F.ex
  refine ⟨fun A outer s H args Q E p d x hr hE hpin e0 hb hsp => ?_⟩
  obtain ⟨HF, r0, h1, xd, h3, h4⟩ := hsp
  have KX : K.In s.heap := e0.mod.kin.keeps fun b o e => (e0.bs b o e).1
  have lim : s.heap.NoLimit := e0.mod.nolimit.keeps fun b o e => (e0.bs b o e).1
  have hkind : ∀ z ∈ [y].zip [Value.ref p.1], scope.names.lookup z.1 = some .local ∨ (scope.names.lookup z.1 = some .cell ∧ ((cellsFrom (s.heap.objs.size + 1) scope.names []).lookup z.1).isSome = true) := fun ⟨n, v⟩ hy => by
    rcases S.par n (List.of_mem_zip hy).1 with q | q
    · exact .inl q
    · exact .inr ⟨q, PySem.W.cellsFrom_some _ _ _ (.inl q)⟩
  refine codeAny_call_function hr.depth (KX _ _ lk) rfl S.co S.gen rfl (PySem.W.codeRec_of KX hcd) (hb _ _ _ _ ?_)
  refine wpAny_newFunctionEnv_cells S.kind hkind fun env he s1 xx => ?_
  subst he
  refine ⟨lim.keeps xx.toInCall.keep, codeAny_func ?_⟩
  obtain ⟨t, q⟩ := body cdv A outer s H E p d x (hr.deeper _) ⟨hE.C, hE.hz, hE.hf, List.mem_singleton.mpr rfl⟩
  have rr : Vals [V.ref p.1] [Value.ref p.1] := .cons rfl .nil
  have I : Inv (L2H.cxH CX0 P w K mg base N qual scope f cdv A outer s H E p) [] (L2.start N [.ref p.1]) H s1 := L2H.inv_startH S hpin e0 rfl rr xx
  have es : L2.start N [V.ref p.1] = some (V.ref p.1) :: List.replicate (N.length - 1) none := by unfold L2.start; rfl
  obtain ⟨c', e1, h3⟩ := bind_ok h3
  have hd : Holds K HF H (.mk (α := ExY) Ow.v ⟨p.1, d, x⟩ :: List.replicate (N.length - 1) .un) (L2.start N [.ref p.1]) [] := by
    rw [es]
    exact ⟨[], [], rfl, ⟨.ref p.1, rfl, ⟨rfl, xd⟩, rfl⟩, (As.nil).held (HF := HF) (H := H) (N.length - 1) (vs := []) (a := ()) rfl⟩
  have Tq : t { nx := fun _ H' => Q .non H', rt := Q } (L2.start N [.ref p.1]) H := by
    refine q.sem HF H HF H (L2.start N [.ref p.1]) ⟨h1, Same.refl _, Same.refl _, (fun p u a b => by rw [a] at b; cases b), [], hd, List.nodup_nil, fun p hp => by cases hp⟩ c' e1 _ ?_
    cases c' with
    | nx s => cases h3
    | bk l => exact nomatch l
    | ct l => exact nomatch l
    | rt r' =>
      cases pure_ok (show (pure r' : M ρ) = .ok r0 from h3)
      exact fun v HF' H' fp a b c' d rr n ff => ho _ _ _ _ <| h4 v HF' H' fp ⟨b, c', a, d⟩ rr n fun p hp => ⟨(ff p hp).2, (ff p hp).1⟩
  refine wpAny_mono (q.pss.nox.run [] s1 (L2.start N [.ref p.1]) H _ I Tq) (fun fl s' hs => ?_) fun e s' hs => hs
  have fin : ∀ {σ' : L2.St} {H' : Hp} {v : V} {u : Value}, Inv (L2H.cxH CX0 P w K mg base N qual scope f cdv A outer s H E p) [] σ' H' s' → RelV v u → Q v H' → CE outer P w H s Q u s' :=
    fun {σ' H' v u} J rv q => ⟨v, H', J.os, J.bare, J.base, J.hok, rv, q⟩
  cases fl with
  | ret u =>
    obtain ⟨v, σ', H', J, rv, q⟩ := hs
    exact fin J rv q
  | next =>
    obtain ⟨σ', H', J, q⟩ := hs
    exact fin (v := V.non) (u := Value.none) J rfl q
  | brk =>
    obtain ⟨_, _, _, q⟩ := hs
    exact False.elim q
  | cont =>
    obtain ⟨_, _, _, q⟩ := hs
    exact False.elim q
def HasZ (P : Program) (w : World) (K : PySem.W.Frag) (mg : Str → Option Value) (base : Heap) (x : Str) (k : Nat) (y : Str) {ρ : Type} [Rp ρ] (o : Ow ρ) (fm : Exn → M ρ) : Prop :=
  ∃ f fd, FnZ P w K mg base k f fd y o fm ∧ mg x = some (.ref f) ∧ PySem.W.keepIn K (.ref f) = true ∧ Binds K fd [y] []
def HasHt (P : Program) (w : World) (K : PySem.W.Frag) (mg : Str → Option Value) (base : Heap) (x : Str) (k : Nat) (ps : List Str) (sp : Sp) : Prop :=
  ∃ f fd, FnHt P w K mg base k f fd ps sp ∧ mg x = some (.ref f) ∧ PySem.W.keepIn K (.ref f) = true ∧ Binds K fd ps []
end
section
variable {X : Cx} {Γ : Ctx} {ρ α : Type} [Rp ρ] {o : Ow ρ} {a b e f : Expr} {es : List Expr} {pos p p1 p2 pos2 : Pos} {ta tb te tf : TE} {t : TA}
theorem PinY.pinOk {c : Str} {d : Option Addr} {q : Addr × Obj} {pins : List (Addr × Obj)} {σ : L2.St} {H : Hp} {s : Shared} (P : PinY X c d q) (I : Inv X pins σ H s) : L2H.PinOk X.stack H s q := by
  have P1 := I.pin q (List.mem_append_left _ P.hp)
  exact ⟨P1.1, P1.2.1, fun hm => (List.mem_cons.mp (I.stkSub q.1 hm)).elim P1.2.2.1 P1.2.2.2.1, P1.2.2.2.2⟩
/-- f(e), e the exception at hand -/
theorem ex_callZ {K : PySem.W.Frag} {k : Nat} {f : Addr} {fd : FuncData} {y x : Str} {fm : Exn → M ρ} {ad : Addr} {d : Option Addr} {xn : Exn} {oe : Obj} (F : FnZ X.prog X.w X.K X.mg X.base k f fd y o fm) (hr : L2H.RoomH k X.A) (hm : X.mg x = some (.ref f)) (hk : PySem.W.keepIn X.K (.ref f) = true) (hb : Binds X.K fd [y] [])
    (P : PinY X xn.c d (ad, oe))
    (h : EX X Γ e Ow.v (pure (⟨ad, d, xn⟩ : ExY)) te) (hg : Gl X x := by rfl) (hdb : (x == ("__debug__" : Str)) = false := by decide) (he : starEach [e] X.env = (false, eval e X.env) :: starEach [] X.env := by rfl) (hpl : (backTo pos (starEach [] X.env)).any (·.1) = false := by rfl) (hK : X.K = K := by rfl) :
    EX X Γ (.Call (.Name x p) [e] [] pos) o (fm xn) (fun σ H Q => te σ H fun v H1 => [v] = [V.ref ad] ∧ spZ K o fm d xn H1 Q) := by
  subst hK
  refine ⟨⟨fun pins s σ H Q I h0 => ?_⟩, fun HF0 G HF H σ g r hc Q kk => ?_⟩
  · refine wpAny_Call_Name_kw (ld_glob I hg hm ?_ hdb)
    refine PySem.W.callWith_K (h₀ := X.base) I.ok.mod.kin hk (thn ((pa_cons h.pe pa_nil he).run pos pins s σ H (fun vs H1 => vs = [V.ref ad] ∧ spZ X.K o fm d xn H1 Q) I h0) fun us s1 ⟨vs, H1, I1, r, q⟩ => ⟨I1.kIn, ?_⟩) he hpl
    obtain ⟨q1, q2⟩ := q
    subst q1
    cases r with
    | cons rx rr =>
      cases rr
      cases rx
      have b := hb s1 [.ref ad] I1.kIn rfl
      refine wpAny_call (codeAny_mono (F.run X.A X.stack s1 H1 ⟨[.ref ad], []⟩ Q (fun _ _ _ => False) (ad, oe) d xn hr ⟨P.C, P.hz, P.hf⟩ (P.pinOk I1) I1.env0 b q2) fun r s' hq => ?_)
      cases r with
      | error e => exact hq.elim
      | ok fl =>
        cases fl with
        | ret u => exact I1.after hq
        | next => exact False.elim hq
        | brk => exact False.elim hq
        | cont => exact False.elim hq
  · refine h.sem HF0 G HF H σ g ⟨ad, d, xn⟩ rfl _ fun v HF1 H1 fp s1 r1 _ _ => ?_
    obtain ⟨⟨r1, xd⟩, _⟩ := r1
    have r1 : v = .ref ad := r1
    exact ⟨by rw [r1], HF1, r, s1.sub, xd, hc, kk.back s1⟩
/-- a call while an exception is handled -/
theorem ex_callHt {A : Type} {K : PySem.W.Frag} {k : Nat} {f : Addr} {fd : FuncData} {ps : List Str} {x : Str} {r0 : As A} {fm : A → M ρ} {ma : M A} {c : Str} {d : Option Addr} {q0 : Addr × Obj} (F : FnHt X.prog X.w X.K X.mg X.base k f fd ps (spF X.K r0 o fm)) (hr : L2H.RoomH k X.A) (hm : X.mg x = some (.ref f)) (hk : PySem.W.keepIn X.K (.ref f) = true) (hb : Binds X.K fd ps [])
    (P : PinY X c d q0) (h : EA X Γ (e :: es) r0 ma t) (hg : Gl X x := by rfl) (hdb : (x == ("__debug__" : Str)) = false := by decide) (he : starEach (e :: es) X.env = (false, eval e X.env) :: starEach es X.env := by rfl) (hpl : (backTo pos (starEach es X.env)).any (·.1) = false := by rfl) (hK : X.K = K := by rfl) :
    EX X Γ (.Call (.Name x p) (e :: es) [] pos) o (do let y ← ma; fm y) (fun σ H Q => t σ H fun vs H1 => spF K r0 o fm vs H1 Q fun _ _ _ => False) := by
  subst hK
  refine ⟨⟨fun pins s σ H Q I h0 => ?_⟩, fun HF0 G HF H σ g r hc Q kk => ?_⟩
  · refine wpAny_Call_Name_kw (ld_glob I hg hm ?_ hdb)
    refine PySem.W.callWith_K (h₀ := X.base) I.ok.mod.kin hk (thn (h.pa.run pos pins s σ H _ I h0) fun us s1 ⟨vs, H1, I1, r, q⟩ => ⟨I1.kIn, ?_⟩) he hpl
    have hl : us.length = ps.length := by rw [← r.length]; exact F.len _ _ _ _ q
    have b := hb s1 us I1.kIn (by rw [List.append_nil]; exact hl)
    rw [List.append_nil] at b
    refine wpAny_call (codeAny_mono (F.run X.A X.stack s1 H1 ⟨us, []⟩ us vs Q (fun _ _ _ => False) q0 hr (P.pinOk I1) I1.env0 b r q) fun r s' hq => ?_)
    cases r with
    | error e => exact hq.elim
    | ok fl =>
      cases fl with
      | ret u => exact I1.after hq
      | next => exact False.elim hq
      | brk => exact False.elim hq
      | cont => exact False.elim hq
  · obtain ⟨y, e1, hc⟩ := bind_ok hc
    refine h.sem HF0 G HF H σ g y e1 _ fun vs HF1 H1 s1 r1 => ?_
    exact ⟨HF1, y, r, s1.sub, r1, hc, kk.back s1⟩
end
section
variable {X : Cx} {Γ : Ctx} {S L ρ α : Type} [Rp ρ] {o : Ow ρ} {Γo : S → Ctx} {ΓL : L → Ctx} {pos : Pos} {sts : List Stmt} {tr : TS}
def tryCY {S1 : Type} (tab : CTab) (names : List Str) (Dn : Str) (r : α ⊕ Exn) (fa : α → S1) (s : Exn → M (Ctl S1 Empty ρ)) : M (Ctl S1 Empty ρ) := match r with
  | .inl a => pure (.nx (fa a))
  | .inr x => do gd (names.contains x.c && decide (exLk tab x.c Dn = some true)); s x
theorem ss_tryY {S1 : Type} {K : PySem.W.Frag} {names0 names : List Str} {tab : CTab} (i : Nat) {Dn n : Str} {body suite : List Stmt} {b₀ : Stmt} {np pos' : Pos} {Γb : α → Ctx} {Γ1 Γs : S1 → Ctx} {m : M (α ⊕ Exn)} {mS : Exn → M (Ctl S1 Empty ρ)} {k : S1 → M (Ctl S L ρ)} {tbo : WX → TS} {ts : Addr → Option Addr → Exn → TS} (fa : α → S1) (T : ExF K names0 tab) (TC : ∀ c ∈ names, ExcC K (He.ga K c))
    (hst : X.stack = X.env :: X.outer) (hfr : X.env.frame = some X.env.locals) (hN : X.N.Nodup) (gC : X.mg Dn = some (clv K Dn))
    (hb : ∀ (W : WX) (pn : List (Addr × Obj)) (xe : Value → Shared → Prop), Takes (X.tr pn xe) W → BXs (X.tr pn xe) W Γ body Γb m (tbo W))
    (hj1 : ∀ a, Sub (Γb a) (Γ1 (fa a)))
    (hsu : ∀ (a : Addr) (d : Option Addr) (x : Exn) (oe : Obj) (pn : List (Addr × Obj)), PinY (X.suite a ((a, oe) :: pn)) x.c d (a, oe) → SS (X.suite a ((a, oe) :: pn)) (put Γ i (.mk (α := ExY) Ow.v ⟨a, d, x⟩)) (b₀ :: suite) Γs (fun (l : Empty) => nomatch l) o (mS x) (ts a d x))
    (hj2 : ∀ s, Sub (put (Γs s) i .un) (Γ1 s)) (hls : ∀ s, Nat.blt i (Γs s).length = true)
    (hr : ∀ s, SS X (Γ1 s) sts Γo ΓL o (k s) tr) (hd1 : S1)
    (hlt : Nat.blt i Γ.length = true := by rfl) (hi : X.N[i]? = some n := by rfl) (hln : X.env.kindOf n = some .local := by rfl) (hg : Gl X Dn := by rfl) (hdb : (Dn == ("__debug__" : Str)) = false := by decide) (hDv : Dn ≠ ("ValueError" : Str) := by decide) (hK : X.K = K := by rfl) :
    SS X Γ (.Try body [.ExceptHandler (some (.Name Dn np)) (some n) (b₀ :: suite) pos'] [] [] pos :: sts) Γo ΓL o (do let r ← m; let y ← tryCY tab names Dn r fa mS; thenE y k)
      (tSeq (fun D σ H => tbo (wAs X.K (clv X.K Dn) i (fun a cls d D σ H => ∃ x : Exn, cls = clv X.K x.c ∧ names.contains x.c = true ∧ ts a d x D σ H) (fun _ _ _ _ => False) D) D σ H) tr) := by
  subst hK
  refine ⟨pss_cons (ps_try_as (tb := tbo) (ts := fun a cls d D σ H => ∃ x : Exn, cls = clv X.K x.c ∧ names.contains x.c = true ∧ ts a d x D σ H) (Wout := fun _ _ _ _ => False) hst hfr hN hi hln ⟨hg, hdb, .inl gC⟩ takes0 (fun W pn xe tk _ => (hb W pn xe tk).pss) fun a oe cls d pn hz hf => ?_) (hr hd1).pss, ?_⟩
  · refine ⟨fun pins s σ H D I h => ?_⟩
    obtain ⟨x, h1, h3, h4⟩ := h
    subst h1
    exact (hsu a d x oe pn ⟨TC x.c (List.contains_iff_mem.mp h3), hz, hf, List.mem_cons_self⟩).pss.run pins s σ H D I h4
  · intro HF0 G HF H σ g cc hcc D kk
    obtain ⟨r, e1, hcc⟩ := bind_ok hcc
    obtain ⟨y, e2, hcc⟩ := bind_ok hcc
    refine (hb _ X.pn (fun _ _ => True) (fun _ _ _ => trivial)).sem HF0 G HF H σ g r e1 _ ?_
    · cases r with
      | inl a =>
        cases pure_ok (show (pure (.nx (fa a)) : M (Ctl S1 Empty ρ)) = .ok y from e2)
        intro HF' H' σ' sm g'
        exact (hr (fa a)).sem HF0 G HF' H' σ' ((hj1 a).good g') cc hcc D (kk.mono sm)
      | inr x =>
        obtain ⟨_, e3, e2⟩ := bind_ok (show (gd (names.contains x.c && decide (exLk tab x.c Dn = some true)) >>= fun _ => mS x) = .ok y from e2)
        obtain ⟨hcn, hex⟩ := Bool.and_eq_true_iff.mp (gd_ok e3)
        have hex := exLk_mem (of_decide_eq_true hex)
        intro HF' H' d st xd
        have hx := T.exm hex
        rw [show vOf X.K Dn = clv X.K Dn from if_neg hDv] at hx
        refine ⟨true, hx, fun _ a ha => ?_, fun q => by cases q⟩
        refine ⟨x, rfl, hcn, ?_⟩
        have g2 : Good X.K HF0 G (put Γ i (.mk (α := ExY) Ow.v ⟨a, d, x⟩)) HF' H' (σ.set i (some (.ref a))) := g.set (of_blt hlt) st (u := Ow.v) (a := (⟨a, d, x⟩ : ExY)) (fp := []) ⟨⟨rfl, xd⟩, rfl⟩ List.nodup_nil fun p hp => by cases hp
        have hcl := TC x.c (List.contains_iff_mem.mp hcn)
        refine (hsu a d x ⟨clv X.K x.c, d, .fields #[], #[]⟩ [] ⟨hcl, ⟨rfl, rfl⟩, ⟨_, rfl⟩, List.mem_cons_self⟩).sem HF0 G HF' H' _ g2 y e2 _ ?_
        cases y with
        | nx s =>
          intro HF2 H2 σ2 sm2 g3
          have g4 := (hj2 s).good (g3.unset (of_blt (hls s)))
          exact (hr s).sem HF0 G HF2 H2 _ g4 cc hcc D (kk.mono (st.exF.trans sm2))
        | bk l => exact nomatch l
        | ct l => exact nomatch l
        | rt r =>
          cases pure_ok (show (pure (.rt r) : M (Ctl S L ρ)) = .ok cc from hcc)
          exact kk.mono st.exF
end
end Ty

/-! ## Ty44: sorted(list of texts), min(list of texts), x = d.setdefault(k, e) -/
namespace L2
open PySem PySem.Spec PyProof.Rows
theorem holdAll_strs {h : Heap} : ∀ {us : List Value} {xs : List Str}, Vals (xs.map V.str) us → PySem.W.HoldAll h us xs
  | [], [], _ => PySem.W.HoldAll.nil
  | u :: us, x :: xs, .cons r rs => by
    obtain ⟨t, rfl⟩ := r
    exact PySem.W.HoldAll.cons ⟨[], .str x t⟩ (holdAll_strs rs)
def rMinS (K : PySem.W.Frag) : List V → Hp → VK → Prop := fun vs H Q => ∃ (a : Addr) (x : Str) (xs : List Str), vs = [V.ref a] ∧ SqL K H a ((x :: xs).map V.str) ∧ Q (.str (PySem.W.minOf x xs)) H
theorem cr_minS {X : Cx} (hc : X.calm = true) (hu : X.A.units + 64 < cLine) : CallR X (.builtin "min") (rMinS X.K) := by
  intro pins s σ H vs us Q I r h
  obtain ⟨a, x, xs, rfl, hs, q⟩ := h
  obtain ⟨its, rv, hl, _⟩ := I.list hs
  rw [Vals.ref1 r]
  have hdep : X.A.units + 1 + PySem.W.Datum.depth Str < cLine := by
    have : PySem.W.Datum.depth Str ≤ 1 := by decide
    omega
  have hall : PySem.W.HoldAll s.heap its.toArray.toList (x :: xs) := by simpa using holdAll_strs rv
  refine PySem.W.min_list_datum (α := Str) (I.ok.hd hc) hl.isList hall hdep fun i v h' tk hi hm hk => ?_
  obtain ⟨as, hm⟩ := hm
  have hm : Reads h' v (.str (PySem.W.minOf x xs)) as := hm
  cases hm
  exact ⟨.str _, H, I.kept hk, ⟨_, rfl⟩, q⟩
end L2
namespace Ty
open PySem PySem.Spec PyProof.Rows L2
def leS (a b : Str) : Bool := decide (a.cps.toList ≤ b.cps.toList)
theorem leS_trans (a b c : Str) (h : leS a b = true) (h' : leS b c = true) : leS a c = true := decide_eq_true (List.le_trans (of_decide_eq_true h) (of_decide_eq_true h'))
theorem leS_total (a b : Str) : (leS a b || leS b a) = true := by
  rw [Bool.or_eq_true]
  rcases List.le_total a.cps.toList b.cps.toList with h | h
  · exact .inl (decide_eq_true h)
  · exact .inr (decide_eq_true h)
theorem leS_antisymm (a b : Str) (h : leS a b = true) (h' : leS b a = true) : a = b := by
  have e := List.le_antisymm (of_decide_eq_true h) (of_decide_eq_true h')
  obtain ⟨⟨x⟩⟩ := a
  obtain ⟨⟨y⟩⟩ := b
  have e : x = y := e
  rw [e]
/-- texts, sorted -/
def tsort (xs : List Str) : List Str := xs.mergeSort leS
theorem tsort_perm (xs : List Str) : (tsort xs).Perm xs := List.mergeSort_perm _ _
theorem tsort_up (xs : List Str) : (tsort xs).Pairwise (fun a b => leS a b = true) := List.pairwise_mergeSort leS_trans leS_total xs
theorem rising_up : ∀ (l : List Str) (p : Str), risingS p l = true → (p :: l).Pairwise (fun a b => leS a b = true)
  | [], p, _ => List.pairwise_singleton _ _
  | x :: l, p, h => by
    unfold risingS at h
    rw [Bool.and_eq_true, Bool.not_eq_true', ltCps_eq, decide_eq_false_iff_not] at h
    have ih := rising_up l x h.2
    have hp : leS p x = true := decide_eq_true h.1
    refine List.pairwise_cons.mpr ⟨fun y hy => ?_, ih⟩
    rcases List.mem_cons.mp hy with rfl | hy
    · exact hp
    · exact leS_trans _ _ _ hp ((List.pairwise_cons.mp ih).1 y hy)
theorem sortedS_up {l : List Str} (h : sortedS l = true) : l.Pairwise (fun a b => leS a b = true) := by
  cases l with
  | nil => exact .nil
  | cons p l => exact rising_up l p h
theorem tsort_eq {a b : List Str} (hp : b.Perm a) (hs : sortedS b = true) : b = tsort a :=
  List.Perm.eq_of_pairwise (le := fun a b => leS a b = true) (fun a b _ _ h1 h2 => leS_antisymm a b h1 h2) (sortedS_up hs) (tsort_up a) (hp.trans (tsort_perm a).symm)
def sortTM (xs : List Str) : M (List Str) := do gd (decide (xs.length < 64)); pure (tsort xs)
def minTM (xs : List Str) : M Str := match xs with
  | [] => no
  | x :: xs => pure (PySem.W.minOf x xs)
section
variable {X : Cx} {Γ : Ctx} {S L ρ α β : Type} [Rp ρ] {o : Ow ρ} {Γo : S → Ctx} {ΓL : L → Ctx} {a b e : Expr} {pos p p1 apos cpos : Pos} {ta tb te : TE} {sts : List Stmt} {tr : TS}
theorem ex_sortedS {K : PySem.W.Frag} {m : M (List Str)} (hm : X.mg "sorted" = none) (h : EX X Γ e Ow.v m te) (hg : Gl X "sorted" := by rfl) (h1 : starEach [e] X.env = (false, eval e X.env) :: starEach [] X.env := by rfl) (hK : X.K = K := by rfl) : EX X Γ (.Call (.Name "sorted" p) [e] [] pos) (Ow.l Ow.v) (do let a ← m; sortTM a) (tCB (rSortedS K) (tCons te tNil)) := by
  subst hK
  exact ex_b1 cr_sortedS (show SemC1 X.K (rSortedS X.K) (Ow.l Ow.v) (fun (a : List Str) => sortTM a) from fun HF H v a c s ⟨q, us, e, h1, h2⟩ hc Q k => by
    obtain ⟨u, e1, hc⟩ := bind_ok hc
    cases pure_ok hc
    subst e
    have e2 := Fa.flat.mp h2
    subst e2
    exact ⟨q, a, rfl, SqL.of (s _ _ h1), of_decide_eq_true (gd_ok e1), fun ns' p hp hs hn => by
      have e3 := tsort_eq hp hs
      subst e3
      exact k.lst s (Fa.flat.mpr rfl) hn⟩) (by decide +kernel) hm h hg (h1 := h1)
theorem ex_minS {K : PySem.W.Frag} {m : M (List Str)} (hc : X.calm = true) (hu : X.A.units + 64 < cLine) (hm : X.mg "min" = none) (h : EX X Γ e Ow.v m te) (hg : Gl X "min" := by rfl) (h1 : starEach [e] X.env = (false, eval e X.env) :: starEach [] X.env := by rfl) (hK : X.K = K := by rfl) : EX X Γ (.Call (.Name "min" p) [e] [] pos) Ow.v (do let a ← m; minTM a) (tCB (rMinS K) (tCons te tNil)) := by
  subst hK
  exact ex_b1 (cr_minS hc hu) (show SemC1 X.K (rMinS X.K) Ow.v (fun (a : List Str) => minTM a) from fun HF H v a c s ⟨q, us, e, h1, h2⟩ hcc Q k => by
    subst e
    have e2 := Fa.flat.mp h2
    subst e2
    cases a with
    | nil => cases hcc
    | cons x xs =>
      cases pure_ok (show (pure (PySem.W.minOf x xs) : M Str) = .ok c from hcc)
      exact ⟨q, x, xs, rfl, SqL.of (s _ _ h1), k.flat s⟩) (by decide +kernel) hm h hg (h1 := h1)
/-! ### x = d.setdefault(k, e) -/
def setdM {κ β : Type} [DecidableEq κ] (d : Dc κ β) (k : κ) (v : β) : M (β × Dc κ β) := do
  gd (decide (d.l.length < sizeLine))
  match dget d.l k with
  | some v' => pure (v', d)
  | none => pure (v, ⟨dput d.l k v⟩)
theorem ss_asgSetd {κ : Type} [Ky κ] [DecidableEq κ] [Rp β] [Inhabited β] (i j : Nat) {d : Dc κ β} {dn x : Str} {mk : M κ} {mv : M β} {k : β × Dc κ β → M (Ctl S L ρ)} {pos' : Pos} (hN : X.N.Nodup) (hk : EX X Γ b Ow.v mk tb) (he : EX X Γ e Ow.v mv te)
    (hr : ∀ q : β × Dc κ β, SS X (put (put Γ i (.mk (Ow.d (κ := κ) (β := β)) q.2)) j (.mk (Ow.v : Ow β) q.1)) sts Γo ΓL o (k q) tr)
    (hl : look Γ i = .mk (Ow.d (κ := κ) (β := β)) d := by rfl) (hNi : X.N[i]? = some dn := by rfl) (hv : Vis X.env.scope dn := by first | exact Or.inl rfl | exact Or.inr (Or.inl rfl) | exact Or.inr (Or.inr rfl)) (hd : (dn == ("__debug__" : Str)) = false := by decide) (hcd : (dn == ("__classdict__" : Str)) = false := by decide)
    (hlt : Nat.blt j Γ.length = true := by rfl) (hi : X.N[j]? = some x := by rfl) (hx : Loc X.env.scope x := by first | exact .inl rfl | exact .inr rfl)
    (hb : attributeBase (.Name dn p) "setdefault" X.env (eval (.Name dn p) X.env) = eval (.Name dn p) X.env := by rfl)
    (hfew : ((backTo cpos (starEach [b, e] X.env)).all (fun x => !x.1) && (backToKw cpos (keywordEach [] X.env)).all (fun x => x.1.isSome) && decide (([b, e] : List Expr).length + ([] : List Keyword).length + (if ([] : List Keyword).isEmpty then 0 else 1) < 30)) = true := by rfl)
    (hline : (apos.endLine == cpos.line) = true := by rfl) (htrees : backTo cpos (starEach [b, e] X.env) = [(false, eval b X.env), (false, eval e X.env)] := by rfl)
    (hs : swapsWith (.Call (.Attribute (.Name dn p) "setdefault" apos) [b, e] [] cpos) (some (.Name x pos')) pos.line X.env = pure false := by rfl) (hf : X.fn x = true ∨ X.env.scope.names.lookup x = some .local := by first | exact .inl rfl | exact .inr rfl) :
    SS X Γ (.Assign [.Name x pos'] (.Call (.Attribute (.Name dn p) "setdefault" apos) [b, e] [] cpos) pos :: sts) Γo ΓL o (do let y ← mk; let z ← mv; let q ← setdM d y z; k q) (tSeq (tAsg (tDSetd (tVar i) tb te) (gName j)) tr) :=
  ⟨pss_cons (ps_set hN hi hx (pe_dsetd (pe_var hNi hv hd hcd) hk.pe he.pe ⟨hb, hfew, hline, htrees⟩) hs hf) (hr default).pss, fun HF0 G HF H σ g c hc D kk => by
    obtain ⟨ix, e1, hc⟩ := bind_ok hc
    obtain ⟨z, e2, hc⟩ := bind_ok hc
    obtain ⟨qq, e3, hc⟩ := bind_ok hc
    obtain ⟨w, e4, e3⟩ := bind_ok e3
    have e6 := of_decide_eq_true (gd_ok e4)
    obtain ⟨v, fo, hσ, ⟨q, kvs, h1, h2, h3, h4⟩, nd, hfo, back⟩ := g.take hl
    subst h1 h2
    refine ⟨.ref q, hσ, q, rfl, .inl ⟨kvs, .inl h3⟩, ?_⟩
    refine hk.sem HF0 G HF H σ g ix e1 _ fun v1 HF1 H1 fp st r _ _ => ?_
    refine he.sem HF0 G HF1 H1 σ (g.step st) z e2 _ fun v2 HF2 H2 fp2 st2 r2 _ _ => ?_
    have st12 := st.trans st2
    have h3' := st12.exH _ _ h3
    refine ⟨kvs, Ky.key ix, h3', ?_, by rw [h4.len]; exact e6, fun v' hv' => ?_, fun hn => ?_⟩
    · rw [Fl.sh_iff.mp r.1, ← Ky.kv]
    · have hget : ∃ y, dget d.l ix = some y := by
        cases q0 : dget d.l ix with
        | some y => exact ⟨y, rfl⟩
        | none => rw [(h4.get ix).2 q0] at hv'; cases hv'
      obtain ⟨y, hy⟩ := hget
      rw [hy] at e3
      cases pure_ok (show (pure (y, d) : M _) = .ok qq from e3)
      obtain ⟨v'', hv'', ry⟩ := (h4.get ix).1 y hy
      rw [hv'] at hv''
      cases hv''
      have gg := back (u' := Ow.d (κ := κ) (β := β)) (b := d) (v' := .ref q) (f' := [q]) (H' := H2) st12 (fun p w hp e => e)
        ⟨q, kvs, rfl, rfl, h3', Fk.mono (fun _ _ h => Rp.mono st12.exF h) h4⟩ (by simp) (fun p hp => .inl hp)
      rw [set_self hσ] at gg
      exact (hr (y, d)).sem HF0 G HF2 H2 _ (gg.putv (by rw [put_len]; exact of_blt hlt) (Rp.mono st12.exF ry)) c hc D (kk.mono st12.exF)
    · have hg0 : dget d.l ix = none := by
        cases q0 : dget d.l ix with
        | none => rfl
        | some y =>
          obtain ⟨v'', hv'', _⟩ := (h4.get ix).1 y q0
          rw [hn] at hv''; cases hv''
      rw [hg0] at e3
      cases pure_ok (show (pure (z, (⟨dput d.l ix z⟩ : Dc κ β)) : M _) = .ok qq from e3)
      have gg := back (u' := Ow.d (κ := κ) (β := β)) (b := ⟨dput d.l ix z⟩) (v' := .ref q) (f' := [q]) (H' := upd H2 q (.dK (putK kvs (Ky.key ix) v2))) st12 (fun p w hp e => by rw [upd_ne (fun z => hp (by rw [z]; exact List.mem_singleton.mpr rfl))]; exact e)
        ⟨q, _, rfl, rfl, upd_same, Fk.put ix r2.1 (Fk.mono (fun _ _ h => Rp.mono st12.exF h) h4)⟩ (by simp) (fun p hp => .inl hp)
      rw [set_self hσ] at gg
      exact (hr (z, ⟨dput d.l ix z⟩)).sem HF0 G HF2 _ _ (gg.putv (by rw [put_len]; exact of_blt hlt) r2.1) c hc D (kk.mono st12.exF)⟩
end
end Ty

set_option maxHeartbeats 1000000
/-! ## Ty45: reversed(text), at the library's level -/
namespace RS
open PySem PySem.Spec PyProof.Rows RT
theorem norev_str : typeLookup (.type "str") "__reversed__" = pure none := by rw [typeLookup_type, builtinLookup_eq_fast]; kernel_rfl
theorem sub_str_dict : isSubtype (.type "str") (.type "dict") = pure false := by rw [isSubtype_type]; kernel_rfl
theorem nolen_rs : typeLookup (.type "reversed") "__len__" = pure none := by rw [typeLookup_type, builtinLookup_eq_fast]; kernel_rfl
theorem slot_rs_hint : Slot "reversed" "__length_hint__" "reversed.__length_hint__" :=
  .of (owner := "reversed") (n := "__length_hint__") (by rw [typeLookup_type, builtinLookup_eq_fast]; kernel_rfl) (by decide +kernel) (by decide +kernel) (by decide +kernel)
    (by first | exact .inl (by decide +kernel) | exact .inr (by decide +kernel)) (by rw [isSubtype_type]; kernel_rfl)
theorem entry_rs_hint : entryFor table "reversed.__length_hint__" = some Builtin.«reversed.__length_hint__» := entryFor_of_tree (by kernel_rfl)
theorem args_rs_hint (a : Value) : argsOk "reversed.__length_hint__" ⟨[a], []⟩ := by
  unfold argsOk; rw [signature?_of (id := "reversed.__length_hint__") (n := ['_', '_', 't', 'n', 'i', 'h', '_', 'h', 't', 'g', 'n', 'e', 'l', '_', '_']) (o := ['d', 'e', 's', 'r', 'e', 'v', 'e', 'r']) (by kernel_rfl) owner_rt]; kernel_rfl
theorem type_rs_hint : typeOf (.builtin "reversed.__length_hint__") = pure (.type "method_descriptor") := by show builtinType _ = _; rw [builtinType_eq_fast]; kernel_rfl
def rsObj (x : Str) (t : Tok) (i : Int) : Obj := { cls := .type "reversed", data := .fields #[.str x t, rawInt i] }
def IsRs (h : Heap) (a : Addr) (x : Str) (t : Tok) (i : Int) : Prop := ∃ o, h.get? a = some o ∧ o.cls = .type "reversed" ∧ o.data = .fields #[.str x t, rawInt i]
theorem IsRs.at {h h' : Heap} {a : Addr} {x : Str} {t : Tok} {i : Int} (q : IsRs h a x t i) (e : ∀ o, h.get? a = some o → h'.get? a = some o) : IsRs h' a x t i := let ⟨o, ho, r⟩ := q; ⟨o, e _ ho, r⟩
section
variable {prog : Program} {w : World} {A : Around} {E : Value → Shared → Prop} {s : Shared} {x : Str} {t : Tok}
theorem IsRs.typeIs {a : Addr} {i : Int} (q : IsRs s.heap a x t i) : s.TypeIs (.ref a) "reversed" := let ⟨o, ho, hc, _⟩ := q; ⟨o, ho, hc⟩
theorem code_reversed_str {Q₁ : Value → Shared → Prop} (hx : x.length ≤ sizeLine)
    (h : Q₁ (.ref s.heap.objs.size) { s with heap := s.heap.push (rsObj x t ((x.length : Int) - 1)), toks := s.toks + 1 + 1 }) :
    codeAny (model prog w) A (.call (.builtin "reversed.__new__") ⟨[.type "reversed", .str x t], []⟩) (wants Q₁ E) s := by
  have hT : s.TypeIs (.str x t) "str" := typeIs_str _ _ _
  refine codeAny_of_tree ?_
  show wpAny _ A.in1 (do checkBuiltinCall "reversed.__new__" ⟨[.type "reversed", .str x t], []⟩; again (.builtin "reversed.__new__" ⟨[.type "reversed", .str x t], []⟩)) _ _ s
  refine wpAny_bind (wpAny_of_eq (F.newCall_reversed_1 _) (wpAny_pure ⟨plainId_quiet F.plain_reversed_new _, codeAny_builtin F.entry_reversed_new ?_⟩))
  rw [Around.under_plainId F.plain_reversed_new _]
  unfold Builtin.«reversed.__new__»
  refine wpAny_bind (wpAny_of_eq (newClass_reversed _) ?_)
  try dsimp only
  refine wpAny_bind (wpAny_of_eq (a := ()) (by first | rfl | kernel_rfl) ?_)
  try dsimp only
  refine wpAny_bind (wpAny_of_eq (a := ()) (by first | rfl | kernel_rfl) ?_)
  try dsimp only
  refine wpAny_bind (wpAny_specialOf hT norev_str ?_)
  try dsimp only
  refine wpAny_bind ?_
  wp_delta
  refine wpAny_bind (wpAny_isInstance (T := "str") (U := "dict") (b := false) hT sub_str_dict ?_)
  try dsimp only
  try rw [if_neg Bool.false_ne_true]
  try dsimp only
  refine wpAny_bind (wpAny_specialOf hT F.slot_str_getitem.lookup ?_)
  try dsimp only
  try rw [if_pos (by decide +kernel)]
  refine wpAny_pure ?_
  try dsimp only
  try rw [if_neg (by decide)]
  try dsimp only
  rw [sizeLine_eq] at hx
  refine wpAny_bind (PyProof.Rows.len_str (by omega) ?_)
  refine wpAny_bind (wpAny_of_eq (a := some ((x.length : Nat) : Int)) rfl ?_)
  try dsimp only
  refine wpAny_bind ?_
  show wpAny _ _ (newObj (.type "reversed") (.fields #[.str x t, rawInt ((x.length : Int) - 1)])) _ _ _
  refine wpAny_newObj_type ?_
  exact wpAny_pure h
theorem call_reversed_str {Q : Value → Shared → Prop} (hx : x.length ≤ sizeLine)
    (h : Q (.ref s.heap.objs.size) { s with heap := s.heap.push (rsObj x t ((x.length : Int) - 1)), toks := s.toks + 1 + 1 }) : wpAny (model prog w) A (call (.type "reversed") [.str x t]) Q E s := by
  refine callType_codes (Q₁ := fun obj s₁ => s₁.TypeIs obj "reversed" ∧ Q obj s₁) called_rt (F.typeCall_reversed_1 _) F.entry_object_init
    (code_reversed_str (A := A.in1) hx ⟨⟨_, Heap.get?_push_size _ rfl, rfl⟩, h⟩) fun obj s₁ h₁ => ?_
  exact ⟨h₁.1, F.args_object_init_2 obj _, object_init_meets called_rt.init.lookup called_rt.made (by decide) prog w A.in1 _ s₁ ⟨h₁.1, rfl, h₁.2⟩⟩
theorem next_rs_item {it : Addr} {i c : Nat} {Q : Option Value → Shared → Prop} (hit : IsRs s.heap it x t (i : Int)) (hx : x.cps[i]? = some c) (hsz : x.length ≤ sizeLine)
    (hQ : ∀ h', IsRs h' it x t ((i : Int) - 1) → Heap.SameBut it s.heap h' → Q (some (.str ⟨#[c]⟩ (s.toks + 1))) { s with heap := h', toks := s.toks + 1 + 1 }) : wpAny (model prog w) A (pyNext (.ref it)) Q E s := by
  obtain ⟨o, ho, hc, hd⟩ := id hit
  have hi : i < x.length := (Array.getElem?_eq_some_iff.mp hx).1
  have hT : s.TypeIs (.str x t) "str" := typeIs_str _ _ _
  rw [sizeLine_eq] at hsz
  unfold pyNext
  refine wpAny_bind (wpAny_attempt (wpAny_callSpecial?_slot (name := Str.ofString "__next__") hit.typeIs slot_rt_next
    (wpAny_call_entry slot_rt_next hit.typeIs entry_rt_next ?_ (args_rt_next _))))
  unfold Builtin.«reversed.__next__»
  refine wpAny_bind (wpAny_of_eq (a := (Value.ref it, [])) rfl ?_)
  try dsimp only
  refine wpAny_bind (wpAny_field ho hd (x := .str x t) rfl ?_)
  try dsimp only
  refine wpAny_bind (wpAny_field ho hd (x := rawInt (i : Int)) rfl ?_)
  show wpAny _ _ (if (i : Int) < 0 then _ else _) _ _ s
  rw [if_neg (by omega)]
  try dsimp only
  refine wpAny_bind (wpAny_specialOf hT F.slot_str_getitem.lookup ?_)
  try dsimp only
  try rw [if_neg (by decide)]
  try dsimp only
  refine wpAny_bind (wpAny_mkInt ?_)
  refine wpAny_bind (wpAny_attempt ?_)
  have fin : seqIndex? (i : Int) x.length = some i := seqIndex_of (by omega) (by omega)
  have hr : (decide ((i : Int) < -(2 ^ 63 : Int)) || decide ((i : Int) ≥ 2 ^ 63)) = false := by
    rw [Bool.or_eq_false_iff]; exact ⟨decide_eq_false (by omega), decide_eq_false (by omega)⟩
  refine PyProof.Rows.getItem_str (s := { s with toks := s.toks + 1 }) hr (by rw [fin]; exact hx) ?_
  try dsimp only
  refine wpAny_bind (wpAny_field (s := { s with toks := s.toks + 1 + 1 }) ho hd (x := rawInt (i : Int)) rfl ?_)
  try dsimp only
  refine wpAny_bind (wpAny_setField (s := { s with toks := s.toks + 1 + 1 }) ho hd (by simp) ?_)
  first
  | refine wpAny_pure ⟨_, rfl, wpAny_pure (hQ _ ?_ (Heap.SameBut.update ..))⟩
  | refine wpAny_bind (wpAny_pure (wpAny_pure ⟨_, rfl, wpAny_pure (hQ _ ?_ (Heap.SameBut.update ..))⟩))
  exact ⟨_, Heap.get?_update_self _ ho (Obj.isFreed_of_fields (Obj.data_mapFields hd _)), (Obj.cls_mapFields ..).trans hc, by
    rw [Obj.data_mapFields hd]; simp⟩
theorem next_rs_end {it : Addr} {Q : Option Value → Shared → Prop} (hh : A.handled = none) (hit : IsRs s.heap it x t (-1))
    (hQ : ∀ h', Heap.ExtBut it s.heap h' → Q none { s with heap := h' }) : wpAny (model prog w) A (pyNext (.ref it)) Q E s := by
  obtain ⟨o, ho, hc, hd⟩ := id hit
  unfold pyNext
  refine wpAny_bind (wpAny_attempt (wpAny_callSpecial?_slot (name := Str.ofString "__next__") hit.typeIs slot_rt_next
    (wpAny_call_entry slot_rt_next hit.typeIs entry_rt_next ?_ (args_rt_next _))))
  unfold Builtin.«reversed.__next__»
  refine wpAny_bind (wpAny_of_eq (a := (Value.ref it, [])) rfl ?_)
  try dsimp only
  refine wpAny_bind (wpAny_field ho hd (x := .str x t) rfl ?_)
  try dsimp only
  refine wpAny_bind (wpAny_field ho hd (x := rawInt (-1)) rfl ?_)
  show wpAny _ _ (if (-1 : Int) < 0 then _ else _) _ _ s
  rw [if_pos (by decide)]
  try dsimp only
  refine wpAny_bind (wpAny_rule ?_)
  refine wpAny_bind ?_
  wp_delta
  refine wpAny_bind (wpAny_setField ho hd (by simp) ?_)
  have ho2 := Heap.get?_update_self (Obj.mapFields (·.setIfInBounds 1 (rawInt (-1)))) ho (Obj.isFreed_of_fields (Obj.data_mapFields hd _))
  refine wpAny_setField (s := { s with heap := s.heap.update it (Obj.mapFields (·.setIfInBounds 1 (rawInt (-1)))) }) ho2 (Obj.data_mapFields hd _) (by simp) ?_
  try dsimp only
  first
  | show wpAny _ _ (newExc (.type "StopIteration") [] >>= _) _ _ _
  | (refine wpAny_bind ?_; show wpAny _ _ (newExc (.type "StopIteration") [] >>= _) _ _ _)
  | (refine wpAny_bind ?_; wp_delta; show wpAny _ _ (newExc (.type "StopIteration") [] >>= _) _ _ _)
  refine wpAny_bind ?_
  simp only [newExc, newTuple]
  refine wpAny_bind (wpAny_newObj_type ?_ (by size_fits))
  refine wpAny_bind (m := firstArgMember _ _) (wpAny_of_eq (a := Value.none) (by first | rfl | (simp only [firstArgMember]; rfl)) ?_)
  refine wpAny_newObj_type ?_ (by size_fits)
  simp only [raiseNew]
  refine wpAny_bind (wpAny_handled ?_)
  first | rw [show A.in1.handled = none from hh] | rw [hh]
  refine wpAny_bind (wpAny_pure (wpAny_throw ?_))
  refine wpAny_bind (wpAny_isInstance (T := "StopIteration") (b := true) ⟨_, Heap.get?_push_size _ rfl, rfl⟩ isSubtype_stop ?_)
  refine wpAny_pure (hQ _ ?_)
  refine ((?_ : Heap.ExtBut it s.heap _).push _).push _
  exact fun b ob hb e => (Heap.get?_update_other _ _ (Ne.symm hb)).trans ((Heap.get?_update_other _ _ (Ne.symm hb)).trans e)
theorem iter_rs {it : Addr} {i : Int} {Q : Value → Shared → Prop} (hit : IsRs s.heap it x t i) (h : Q (.ref it) s) : wpAny (model prog w) A (pyIter (.ref it)) Q E s := by
  refine wpAny_pyIter_slot hit.typeIs slot_rt_iter (wpAny_call_entry slot_rt_iter hit.typeIs entry_rt_iter ?_ (args_rt_iter _))
  show wpAny _ _ (ret (.ref it)) _ _ s
  exact wpAny_pure ⟨_, rfl, "reversed", _, hit.typeIs, slot_rt_next.lookup, h⟩
end
/-- what is drawn at place i -/
def RevAt (x : Str) (i : Nat) (v : Value) : Prop := ∃ c u, x.cps[x.length - 1 - i]? = some c ∧ v = .str ⟨#[c]⟩ u
theorem walks_rs {prog : Program} {w : World} {A : Around} (hh : A.handled = none) (I : Addr) (x : Str) (t : Tok) (hx : x.length ≤ sizeLine) :
    Walks prog w A I [I] [I] x.length (RevAt x) (fun i h => i ≤ x.length ∧ IsRs h I x t ((x.length : Int) - 1 - (i : Int))) where
  sub := fun b hb => by simpa using hb
  frame := fun _ _ _ q hk => ⟨q.1, q.2.at fun o e => hk I (by simp) o e⟩
  item := fun i s Q E hi q hQ => by
    have e : (x.length : Int) - 1 - (i : Int) = ((x.length - 1 - i : Nat) : Int) := by omega
    have hit := q.2
    rw [e] at hit
    have hc : x.cps[x.length - 1 - i]? = some (x.cps[x.length - 1 - i]'(by show _ < x.length; omega)) := Array.getElem?_eq_getElem _
    refine next_rs_item hit hc hx fun h' hit' hs' => ?_
    have e2 : ((x.length - 1 - i : Nat) : Int) - 1 = (x.length : Int) - 1 - ((i + 1 : Nat) : Int) := by omega
    rw [e2] at hit'
    exact hQ _ h' _ ⟨_, _, hc, rfl⟩ ⟨hi, hit'⟩ fun b o hb eo => hs'.extBut b o (fun h => hb (by simp [h])) eo
  done := fun s Q E q hQ => by
    have e : (x.length : Int) - 1 - (x.length : Int) = -1 := by omega
    have hit := q.2
    rw [e] at hit
    exact next_rs_end hh hit fun h' he' => hQ h' s.toks fun b o hb eo => he' b o (fun h => hb (by simp [h])) eo
  self := fun _ _ _ _ q hQ => iter_rs q.2 hQ
section
variable {prog : Program} {w : World} {A : Around} {E : Value → Shared → Prop} {s : Shared} {x : Str} {t : Tok}
theorem hint_rs {it : Addr} {i : Int} {Q : Bool → Shared → Prop} (hx : x.length ≤ sizeLine) (h0 : -1 ≤ i) (h1 : i < x.length) (hit : IsRs s.heap it x t i)
    (hQ : ∀ b tk, Q b { s with toks := tk }) : wpAny (model prog w) A (Builtin.List.listLengthHint (.ref it)) Q E s := by
  obtain ⟨o, ho, hc, hd⟩ := id hit
  have hT := hit.typeIs (s := s)
  unfold Builtin.List.listLengthHint
  refine wpAny_bind (wpAny_specialOf hT nolen_rs ?_)
  show wpAny _ A (specialOf (Value.ref it) (Str.ofString "__length_hint__") >>= _) _ _ _
  refine wpAny_bind (wpAny_specialOf hT slot_rs_hint.lookup ?_)
  generalize hid : ("reversed.__length_hint__" : String) = id0
  wp_delta
  rw [show splitId id0 = some ("reversed", "__length_hint__") from by subst hid; decide +kernel]
  subst hid
  refine wpAny_bind (wpAny_isInstance (b := true) hT (by rw [isSubtype_type]; kernel_rfl) ?_)
  rw [if_neg (by decide)]
  show wpAny _ A (ite _ _ _) _ _ _
  rw [if_neg (by decide +kernel)]
  refine wpAny_bind (wpAny_rule ?_)
  refine wpAny_bind ?_
  unfold bindSpecial
  refine wpAny_bind (wpAny_of_eq type_rs_hint ?_)
  rw [if_pos (by decide +kernel)]
  refine wpAny_pure ?_
  try dsimp only
  refine wpAny_bind (wpAny_attempt ?_)
  refine wpAny_call_entry slot_rs_hint hT entry_rs_hint ?_ (args_rs_hint _)
  unfold Builtin.«reversed.__length_hint__»
  refine wpAny_bind (wpAny_of_eq (a := Value.ref it) (by first | rfl | kernel_rfl) ?_)
  try dsimp only
  refine wpAny_bind (wpAny_field ho hd (x := .str x t) rfl ?_)
  rw [if_neg (by simp)]
  try dsimp only
  have hx2 := hx
  rw [sizeLine_eq] at hx2
  refine wpAny_bind (PyProof.Rows.len_str (by omega) ?_)
  refine wpAny_bind (wpAny_of_eq (a := some ((x.length : Nat) : Int)) rfl ?_)
  try dsimp only
  refine wpAny_bind (wpAny_field (s := { s with toks := s.toks + 1 + 1 }) ho hd (x := rawInt i) rfl ?_)
  try dsimp only
  show wpAny _ _ (if (x.length : Int) < i + 1 then _ else _) _ _ _
  rw [if_neg (by omega)]
  unfold retInt
  refine wpAny_bind (wpAny_mkInt ?_)
  refine wpAny_pure ⟨_, rfl, ?_⟩
  try dsimp only
  refine wpAny_bind (wpAny_of_eq (a := some (i + 1)) rfl ?_)
  try dsimp only
  have hfit : Builtin.List.listFitsIndex (i + 1) = true := by
    unfold Builtin.List.listFitsIndex
    simp
    omega
  rw [hfit, if_neg (by decide), if_neg (by omega), if_neg (by rw [L2.notLongL (by rw [sizeLine_eq]; omega)]; exact Bool.false_ne_true)]
  exact wpAny_pure (hQ _ _)
end
section
variable {prog : Program} {w : World} {A : Around} {s : Shared} {R : Result → Shared → Prop} {x : Str} {t : Tok}
abbrev StR (I : Addr) (x : Str) (t : Tok) : Nat → Shared → Prop := fun i s => i ≤ x.length ∧ IsRs s.heap I x t ((x.length : Int) - 1 - (i : Int))
theorem extend_rs {I : Addr} (hh : A.handled = none) (hx : x.length ≤ sizeLine) (S : Addr) (res : Value) (c₀ : Nat) (hst : StR I x t 0 s) (hSI : S ≠ I)
    (hS : s.heap.get? S = some { cls := .type "list", data := .seq #[] c₀ })
    (hR : ∀ (h' : Heap) (tk : Nat) (acc' : Array Value) (c' : Nat), (∀ b o, b ≠ S → b ≠ I → s.heap.get? b = some o → h'.get? b = some o) → h'.get? S = some { cls := .type "list", dict := none, data := .seq acc' c', slots := #[] } → ItemsOf (RevAt x) acc' x.length → R (.ok (.ret res)) { s with heap := h', toks := tk }) :
    wpAny (model prog w) A.in1 (Builtin.List.listExtendWith (.ref S) (.ref I) res)
      (fun fin s' => match fin with | .done f => R (.ok f) s' | .again c' => c'.quiet = true ∧ codeAny (model prog w) A c' R s') (fun e s' => R (.error e) s') s := by
  have W := (walks_rs (prog := prog) (w := w) (A := A.in1) hh I x t hx).toS
  have hSf : S ∉ [I] := by simpa using hSI
  have hT : s.TypeIs (.ref I) "reversed" := hst.2.typeIs
  unfold Builtin.List.listExtendWith
  refine wpAny_bind (wpAny_typeOf hT ?_)
  have h1 : Builtin.List.listSameRef (.ref S) (.ref I) = false := by simp [Builtin.List.listSameRef, hSI]
  have h2 : (Value.type "reversed" == Value.type "list") = false := by decide
  have h3 : (Value.type "reversed" == Value.type "tuple") = false := by decide
  simp only [h1, h2, h3, Bool.or_false, Bool.false_eq_true, if_false]
  refine wpAny_bind (W.self 0 _ _ _ hst ?_)
  refine wpAny_bind (wpAny_holding ?_)
  refine hint_rs hx (by omega) (by omega) hst.2 fun b tk => ?_
  have fin : ∀ (h2 : Heap) (c2 : Nat), (∀ b o, b ≠ S → s.heap.get? b = some o → h2.get? b = some o) → h2.get? S = some { cls := .type "list", data := .seq #[] c2 } →
      codeAny (model prog w) A (.builtin "list.extend.loop" ⟨[.ref S, .ref I, res], []⟩) R { s with heap := h2, toks := tk } := fun h2 c2 k hS2 => by
    have hst' : StR I x t 0 ({ s with heap := h2, toks := tk } : Shared) := ⟨hst.1, hst.2.at fun o e => k I o (Ne.symm hSI) e⟩
    refine codeAny_extend_loopS W hx _ hSf _ x.length 0 _ _ _ rfl (Nat.zero_le _) hst' hS2 (ItemsOf.nil _) fun s' acc' c' hm hS' hacc => ?_
    rw [Moved.eq_with hm]
    exact hR s'.heap s'.toks acc' c' (fun b o hb hb2 e => hm.heap b o (fun z => by
      rcases List.mem_cons.mp z with z | z
      · exact hb z
      · exact hb2 (List.mem_singleton.mp z)) (k b o hb e)) hS' hacc
  cases b with
  | false =>
    rw [if_neg (by decide +kernel)]
    exact wpAny_pure ⟨plainId_quiet F.plain_extend_loop _, fin s.heap c₀ (fun _ _ _ e => e) hS⟩
  | true =>
    rw [if_pos (by decide +kernel)]
    refine wpAny_bind (wpAny_rule ?_)
    refine wpAny_bind ?_
    show wpAny _ A.in1 (updateSeq S (·.push .none) >>= fun _ => updateSeq S (·.pop)) _ _ _
    refine wpAny_bind (wpAny_updateSeq hS rfl ?_)
    have hS₂ := Heap.get?_update_self (Obj.mapSeq (·.push Value.none)) hS rfl
    refine wpAny_updateSeq (hz := by seq_fits) hS₂ rfl ?_
    have hS₃ := Heap.get?_update_self (Obj.mapSeq (·.pop)) hS₂ rfl
    exact wpAny_pure ⟨plainId_quiet F.plain_extend_loop _, fin _ _ (fun b o hb e => (Heap.get?_update_other _ _ (Ne.symm hb)).trans ((Heap.get?_update_other _ _ (Ne.symm hb)).trans e)) hS₃⟩
theorem call_list_rs {E : Value → Shared → Prop} {Q : Value → Shared → Prop} {I : Addr} (hh : A.handled = none) (hx : x.length ≤ sizeLine) (hst : IsRs s.heap I x t ((x.length : Int) - 1))
    (hQ : ∀ (h' : Heap) (tk : Nat) (acc : Array Value) (c' : Nat), (∀ b o, b ≠ I → s.heap.get? b = some o → h'.get? b = some o) → h'.get? s.heap.objs.size = some { cls := .type "list", dict := none, data := .seq acc c', slots := #[] } → ItemsOf (RevAt x) acc x.length → Q (.ref s.heap.objs.size) { s with heap := h', toks := tk }) :
    wpAny (model prog w) A (call (.type "list") [.ref I]) Q E s := by
  obtain ⟨oi, hoi, _⟩ := id hst
  have hSi : s.heap.objs.size ≠ I := Nat.ne_of_gt (Heap.lt_size hoi)
  refine callType_codes (Q₁ := fun obj s₁ => obj = .ref s.heap.objs.size ∧ s₁ = { s with heap := s.heap.push { cls := .type "list", data := .seq #[] } }) F.called_list (F.typeCall_list_1 _) F.entry_list_init
    (code_list_new _ ⟨rfl, rfl⟩) fun obj s₁ h₁ => ?_
  obtain ⟨rfl, rfl⟩ := h₁
  have hS₁ : (s.heap.push { cls := .type "list", data := .seq #[] }).get? s.heap.objs.size = some { cls := .type "list", data := .seq #[] } := Heap.get?_push_size _ rfl
  refine ⟨⟨_, hS₁, rfl⟩, F.args_list_init_2 _ _, ?_⟩
  show wpAny _ A.in1.in1 (do let old ← Builtin.List.listItems (.ref s.heap.objs.size); Builtin.List.listUpdate (.ref s.heap.objs.size) (fun _ => #[]); letGo old.toList.reverse; Builtin.List.listExtendWith (.ref s.heap.objs.size) (.ref I) .none) _ _ _
  refine wpAny_bind ?_
  unfold Builtin.List.listItems
  refine wpAny_bind (wpAny_seqItems hS₁ rfl (wpAny_pure ?_))
  show wpAny _ A.in1.in1 (updateSeq s.heap.objs.size (fun _ => #[]) >>= fun _ => letGo (#[] : Array Value).toList.reverse >>= fun _ => Builtin.List.listExtendWith (.ref s.heap.objs.size) (.ref I) .none) _ _ _
  refine wpAny_bind (wpAny_updateSeq hS₁ rfl ?_)
  have hS₂ := Heap.get?_update_self (Obj.mapSeq (fun _ => (#[] : Array Value))) hS₁ rfl
  have oth : ∀ b o, b ≠ s.heap.objs.size → s.heap.get? b = some o → ((s.heap.push { cls := .type "list", data := .seq #[] }).update s.heap.objs.size (Obj.mapSeq (fun _ => (#[] : Array Value)))).get? b = some o :=
    fun b o hb e => (Heap.get?_update_other _ _ (Ne.symm hb)).trans (Heap.get?_push_of_some _ e)
  refine wpAny_bind (wpAny_letGo ?_)
  refine extend_rs (t := t) (A := A.in1) (s := { s with heap := (s.heap.push { cls := .type "list", data := .seq #[] }).update s.heap.objs.size (Obj.mapSeq (fun _ => (#[] : Array Value))) }) hh hx _ _ _ ⟨Nat.zero_le _, ?_⟩ hSi hS₂ fun h' tk acc c' k hS' hacc => ⟨rfl, ?_⟩
  · have := hst.at (h' := (s.heap.push { cls := .type "list", data := .seq #[] }).update s.heap.objs.size (Obj.mapSeq (fun _ => (#[] : Array Value)))) fun o e => oth _ _ (Ne.symm hSi) e
    simpa using this
  · exact hQ h' tk acc c' (fun b o hb e => k b o (Nat.ne_of_lt (Heap.lt_size e)) hb (oth b o (Nat.ne_of_lt (Heap.lt_size e)) e)) hS' hacc
theorem collect_rs {E : Value → Shared → Prop} {Q : List Value → Shared → Prop} {I : Addr} (hh : A.handled = none) (hx : x.length ≤ sizeLine) (hst : IsRs s.heap I x t ((x.length : Int) - 1))
    (hQ : ∀ (h' : Heap) (tk : Nat) (acc : Array Value), (∀ b o, b ≠ I → s.heap.get? b = some o → h'.get? b = some o) → ItemsOf (RevAt x) acc x.length → Q acc.toList { s with heap := h', toks := tk }) :
    wpAny (model prog w) A (collect (.ref I)) Q E s := by
  obtain ⟨oi, hoi, _⟩ := id hst
  have hSi : s.heap.objs.size ≠ I := Nat.ne_of_gt (Heap.lt_size hoi)
  unfold collect
  refine wpAny_bind (wpAny_runValue (codeAny_builtin F.entry_proto_collect ?_))
  rw [Around.under_plainId F.plain_proto_collect _]
  show wpAny _ A.in1 (newList [] >>= fun l => again (.builtin "list.__iadd__" ⟨[l, .ref I], []⟩)) _ _ s
  refine wpAny_bind (wpAny_newObj_type ?_)
  refine wpAny_pure ⟨plainId_quiet F.plain_list_iadd _, codeAny_builtin F.entry_list_iadd ?_⟩
  rw [Around.under_plainId F.plain_list_iadd _]
  have hS₁ : (s.heap.push { cls := .type "list", data := .seq ([] : List Value).toArray }).get? s.heap.objs.size = some { cls := .type "list", data := .seq ([] : List Value).toArray } := Heap.get?_push_size _ rfl
  show wpAny _ A.in1 (Builtin.List.listExtendWith (.ref s.heap.objs.size) (.ref I) (.ref s.heap.objs.size)) _ _ _
  have hst0 : StR I x t 0 ({ s with heap := s.heap.push { cls := .type "list", data := .seq ([] : List Value).toArray } } : Shared) := ⟨Nat.zero_le _, by
    have := hst.at (h' := s.heap.push { cls := .type "list", data := .seq ([] : List Value).toArray }) fun o e => Heap.get?_push_of_some _ e
    simpa using this⟩
  have key := extend_rs (prog := prog) (w := w) (A := A) (R := fun r s' => r = .ok (.ret (.ref s.heap.objs.size)) ∧ ∃ (h' : Heap) (tk : Nat) (acc : Array Value) (c' : Nat), s' = { s with heap := h', toks := tk } ∧ (∀ b o, b ≠ I → s.heap.get? b = some o → h'.get? b = some o) ∧ h'.get? s.heap.objs.size = some { cls := .type "list", dict := none, data := .seq acc c', slots := #[] } ∧ ItemsOf (RevAt x) acc x.length)
    hh hx s.heap.objs.size (.ref s.heap.objs.size) 0 hst0 hSi hS₁ fun h' tk acc c' k hS' hacc => ⟨rfl, h', tk, acc, c', rfl, fun b o hb e => k b o (Nat.ne_of_lt (Heap.lt_size e)) hb (Heap.get?_push_of_some _ e), hS', hacc⟩
  have fin : ∀ {r : Result} {s' : Shared}, (r = .ok (.ret (.ref s.heap.objs.size)) ∧ ∃ (h' : Heap) (tk : Nat) (acc : Array Value) (c' : Nat), s' = { s with heap := h', toks := tk } ∧ (∀ b o, b ≠ I → s.heap.get? b = some o → h'.get? b = some o) ∧ h'.get? s.heap.objs.size = some { cls := .type "list", dict := none, data := .seq acc c', slots := #[] } ∧ ItemsOf (RevAt x) acc x.length) →
      wpAny (model prog w) A (load s.heap.objs.size >>= fun (o : Obj) => match o.data with | .seq xs _ => pure xs.toList | _ => unsupported "internal:collect") Q E s' := by
    rintro r s' ⟨-, h', tk, acc, c', rfl, k, hS', hacc⟩
    refine wpAny_bind (wpAny_load hS' ?_)
    exact wpAny_pure (hQ h' tk acc k hacc)
  refine wpAny_mono key (fun f s' hf => ?_) (fun e s' he => ?_)
  · cases f with
    | done f =>
      obtain ⟨e1, _⟩ := id hf
      injection e1 with e1
      subst e1
      exact fin hf
    | again c' =>
      refine ⟨hf.1, codeAny_mono hf.2 fun r s'' hr => ?_⟩
      obtain ⟨e1, _⟩ := id hr
      subst e1
      exact fin hr
  · exact (by cases he.1)
end
end RS

set_option maxHeartbeats 1000000
/-! ## Ty46: sep.join(reversed(text)), list(reversed(text)) -/
namespace RS
open PySem PySem.Spec PyProof.Rows RT Builtin Builtin.Str
section
variable {prog : Program} {w : World} {A : Around} {E : Value → Shared → Prop} {s : Shared} {x sep : Str} {t u : Tok}
def revSg (x : Str) : List Str := x.cps.toList.reverse.map fun c => (⟨#[c]⟩ : Str)
theorem items_rev {acc : Array Value} (h : ItemsOf (RevAt x) acc x.length) : ∃ l : List (Str × Tok), strValues l = acc.toList ∧ l.map (·.1) = revSg x := by
  obtain ⟨l, hl⟩ := exists_strValues acc.toList fun v hv => by
    obtain ⟨j, hj, rfl⟩ := Array.mem_iff_getElem.mp (Array.mem_toList_iff.mp hv)
    obtain ⟨c, u, _, e⟩ := h.2 j _ (Array.getElem?_eq_getElem hj)
    exact ⟨_, u, e⟩
  refine ⟨l, hl, ?_⟩
  have hlen : l.length = x.length := by
    have h0 : acc.toList.length = x.length := by rw [Array.length_toList]; exact h.1
    rw [← hl] at h0
    simpa [strValues] using h0
  have hcl : x.cps.toList.length = x.length := Array.length_toList
  apply List.ext_getElem?
  intro i
  by_cases hi : i < x.length
  · have h1 : acc[i]? = some (Value.str (l[i]'(by omega)).1 (l[i]'(by omega)).2) := by
      rw [← Array.getElem?_toList, ← hl]
      have : i < l.length := by omega
      simp [strValues, this]
    obtain ⟨c, u, hc, e⟩ := h.2 i _ h1
    injection e with e1 e2
    unfold revSg
    rw [List.getElem?_map, List.getElem?_eq_getElem (by omega), List.getElem?_map, List.getElem?_reverse (by omega), hcl, Array.getElem?_toList, hc]
    show some (l[i]'(by omega)).1 = _
    rw [e1]; rfl
  · rw [List.getElem?_eq_none (by rw [List.length_map]; omega), List.getElem?_eq_none (by unfold revSg; rw [List.length_map, List.length_reverse]; omega)]
theorem join_rs {Q : Value → Shared → Prop} {I : Addr} (hh : A.handled = none) (hx : x.length ≤ sizeLine) (hst : IsRs s.heap I x t ((x.length : Int) - 1)) (hok : JoinOk sep (revSg x) = true)
    (hq : ∀ (h' : Heap) (t' : Tok) (k : Nat), (∀ b o, b ≠ I → s.heap.get? b = some o → h'.get? b = some o) → Q (.str (Txt.join sep (revSg x)) t') { s with heap := h', toks := k }) :
    wpAny (model prog w) A (call (.builtin "str.join") [.str sep u, .ref I]) Q E s := by
  have hT : s.TypeIs (.ref I) "reversed" := hst.typeIs
  refine wpAny_call (codeAny_call_builtin F.slot_str_join.plain F.entry_str_join (F.slot_str_join.check _ _ _ _ _ _ _ _ (typeIs_str _ _ _) (F.args_str_join_2 _ _) ?_))
  rw [join_tree_other]
  refine wpAny_bind (wpAny_typeOf hT ?_)
  show wpAny _ A.in1 ((pyIter (.ref I)).tryCatch _ >>= fun it => collect it >>= fun items => joinTail sep items) _ _ s
  refine wpAny_bind (wpAny_tryCatch (iter_rs hst ?_))
  refine wpAny_bind (collect_rs hh hx hst fun h' tk acc k hacc => ?_)
  obtain ⟨l, hl, hm⟩ := items_rev hacc
  rw [← hl]
  rw [← hm] at hok hq
  unfold JoinOk at hok
  rw [Bool.not_eq_true'] at hok
  have g : Gives (joinTail sep (strValues l)) (joinMade sep l) := by
    have g0 := gives_joinTail sep l hok
    cases l with
    | nil => exact g0
    | cons p r => cases r with
      | nil => exact g0
      | cons q r' => exact g0
  exact g prog w A (wants Q E) _ (post_join l ⟨joinFit_length hok, fun t' k2 => hq h' t' k2 k⟩)
end
end RS
namespace RS
open PySem PySem.Spec PyProof.Rows L2
section
variable {X : Cx}
def tLstRevS (te : TE) : TE := fun σ H Q => te σ H fun v H1 => ∃ z : Str, v = .str z ∧ z.length ≤ sizeLine ∧ ∀ q, H1 q = none → Q (.ref q) (upd H1 q (.lst ((revSg z).map V.str)))
theorem pe_listRevS {e : Expr} {te : TE} {p p2 pos pos2 : Pos} (hc : X.calm = true) (hg : Gl X "list") (hm : X.mg "list" = none) (hg2 : Gl X "reversed") (hm2 : X.mg "reversed" = none) (he : PE X e te)
    (hs : starEach [e] X.env = (false, eval e X.env) :: starEach [] X.env := by rfl)
    (hs2 : starEach [.Call (.Name "reversed" p2) [e] [] pos2] X.env = (false, eval (.Call (.Name "reversed" p2) [e] [] pos2) X.env) :: starEach [] X.env := by rfl) :
    PE X (.Call (.Name "list" p) [.Call (.Name "reversed" p2) [e] [] pos2] [] pos) (tLstRevS te) := by
  refine ⟨fun pins s σ H Q I h => ?_⟩
  refine Call_ (ld_blt I hg hm boot_list (PyProof.Rows.callWith_type1 (args_cons (Call_ (ld_blt I hg2 hm2 PyProof.Rows.boot_reversed (PyProof.Rows.callWith_type1 (args_cons (thn (he.run pins s σ H _ I h) fun u s1 ⟨v, H1, I1, r1, q1⟩ => args_nil ?_) hs) hs rfl))) hs2) hs2 rfl))
  obtain ⟨z, ev, hz, q⟩ := q1
  subst ev
  obtain ⟨t, rfl⟩ := r1
  refine call_reversed_str hz (args_nil ?_)
  have k0 : ∀ b o, s1.heap.get? b = some o → (s1.heap.push (rsObj z t ((z.length : Int) - 1))).get? b = some o := fun b o e => Heap.get?_push_of_some _ e
  have sz : s1.heap.objs.size ≤ (s1.heap.push (rsObj z t ((z.length : Int) - 1))).objs.size := by show s1.heap.objs.size ≤ (s1.heap.objs.push _).size; rw [Array.size_push]; exact Nat.le_succ _
  refine call_list_rs (s := { s1 with heap := s1.heap.push (rsObj z t ((z.length : Int) - 1)), toks := s1.toks + 1 + 1 }) (I1.ok.hd hc) hz ⟨_, Heap.get?_push_size _ rfl, rfl, rfl⟩ fun h' tk acc c' hk e' hi => ?_
  have hk1 : ∀ b o, s1.heap.get? b = some o → h'.get? b = some o := fun b o e => hk b o (Nat.ne_of_lt (Heap.lt_size e)) (k0 b o e)
  obtain ⟨l, hl, hm⟩ := items_rev hi
  have hv : Vals ((revSg z).map V.str) acc.toList := by
    rw [← hl, ← hm]
    clear hl hm
    induction l with
    | nil => exact .nil
    | cons p l ih => exact .cons ⟨p.2, rfl⟩ ih
  have hlen : ((revSg z).map V.str).length ≤ sizeLine := by
    have : ((revSg z).map V.str).length = z.length := by
      unfold revSg
      rw [List.length_map, List.length_map, List.length_reverse, Array.length_toList]; rfl
    rw [this]; exact hz
  refine ⟨.ref _, upd H1 _ (.lst ((revSg z).map V.str)), I1.laid hk1 sz (show ObjOk X.prog X.w _ _ _ (.lst ((revSg z).map V.str)) from ⟨hlen, acc.toList, c', hv, ?_⟩), rfl, q _ (I1.hok.fresh sz)⟩
  rw [Array.toArray_toList]
  exact e'
def tJoinRevS (to te : TE) : TE := fun σ H Q => to σ H fun x H1 => ∃ a : Str, x = .str a ∧ te σ H1 fun v H2 => ∃ z : Str, v = .str z ∧ z.length ≤ sizeLine ∧ ((revSg z).map (·.length)).sum + (revSg z).length * a.length ≤ 16777216 ∧ Q (.str (Txt.join a (revSg z))) H2
theorem pe_joinRevS {o e : Expr} {to te : TE} {p2 pos2 apos cpos : Pos} (hc : X.calm = true) (hg2 : Gl X "reversed") (hm2 : X.mg "reversed" = none) (ho : PE X o to) (he : PE X e te)
    (hbase : attributeBase o "join" X.env (eval o X.env) = eval o X.env := by rfl)
    (hfew : ((backTo cpos (starEach [.Call (.Name "reversed" p2) [e] [] pos2] X.env)).all (fun x => !x.1) && (backToKw cpos (keywordEach [] X.env)).all (fun x => x.1.isSome)
      && decide (([.Call (.Name "reversed" p2) [e] [] pos2] : List Expr).length + ([] : List Keyword).length + (if ([] : List Keyword).isEmpty then 0 else 1) < 30)) = true := by rfl)
    (hline : (apos.endLine == cpos.line) = true := by rfl) (htrees : backTo cpos (starEach [.Call (.Name "reversed" p2) [e] [] pos2] X.env) = [(false, eval (.Call (.Name "reversed" p2) [e] [] pos2) X.env)] := by rfl)
    (hs : starEach [e] X.env = (false, eval e X.env) :: starEach [] X.env := by rfl) :
    PE X (.Call (.Attribute o "join" apos) [.Call (.Name "reversed" p2) [e] [] pos2] [] cpos) (tJoinRevS to te) := by
  refine ⟨fun pins s σ H Q I h => ?_⟩
  refine wpAny_Call_method hbase hfew hline PySem.F.plainAttrs_str PySem.F.slot_str_join PySem.F.type_str_join (thn (ho.run pins s σ H _ I h) fun u s1 ⟨x, H1, I1, rx, a, ex, q1⟩ => ?_)
  subst ex
  obtain ⟨ta, rfl⟩ := rx
  refine ⟨typeIs_str _ _ _, fun b z => (by cases z), ?_⟩
  rw [htrees]
  refine Calls.callWith_builtin rfl (Calls.evalArgs_plain (Calls.spliced_cons (Call_ (ld_blt I1 hg2 hm2 PyProof.Rows.boot_reversed (PyProof.Rows.callWith_type1 (args_cons (thn (he.run pins s1 σ H1 _ I1 q1) fun u s2 ⟨v, H2, I2, r2, q2⟩ => args_nil ?_) hs) hs rfl)))))
  obtain ⟨z, ev, hz, hsum, q⟩ := q2
  subst ev
  obtain ⟨t, rfl⟩ := r2
  refine call_reversed_str hz (Calls.spliced_nil ?_)
  have k0 : ∀ b o, s2.heap.get? b = some o → (s2.heap.push (rsObj z t ((z.length : Int) - 1))).get? b = some o := fun b o e => Heap.get?_push_of_some _ e
  refine join_rs (s := { s2 with heap := s2.heap.push (rsObj z t ((z.length : Int) - 1)), toks := s2.toks + 1 + 1 }) (I2.ok.hd hc) hz ⟨_, Heap.get?_push_size _ rfl, rfl, rfl⟩ (joinOk_of hsum) fun h' t' k hk => ?_
  exact ⟨.str _, H2, I2.kept (t' := k) fun b o e => hk b o (Nat.ne_of_lt (Heap.lt_size e)) (k0 b o e), ⟨_, rfl⟩, q⟩
end
end RS
namespace Ty
open PySem PySem.Spec PyProof.Rows L2
section
variable {X : Cx} {Γ : Ctx} {e o : Expr} {te to : TE} {p p2 pos pos2 apos cpos : Pos}
def listRM (z : Str) : M (List Str) := do gd (decide (z.length ≤ sizeLine)); pure (RS.revSg z)
theorem ex_listRevS {m : M Str} (hc : X.calm = true) (ml : X.mg "list" = none) (mr : X.mg "reversed" = none) (h : EX X Γ e Ow.v m te) (hg : Gl X "list" := by rfl) (hg2 : Gl X "reversed" := by rfl) (h1 : starEach [e] X.env = (false, eval e X.env) :: starEach [] X.env := by rfl)
    (h2 : starEach [.Call (.Name "reversed" p) [e] [] pos] X.env = (false, eval (.Call (.Name "reversed" p) [e] [] pos) X.env) :: starEach [] X.env := by rfl) : EX X Γ (.Call (.Name "list" apos) [.Call (.Name "reversed" p) [e] [] pos] [] cpos) (Ow.l (Ow.v : Ow Str)) (do let a ← m; listRM a) (RS.tLstRevS te) :=
  ⟨RS.pe_listRevS hc hg ml hg2 mr h.pe h1 h2, fun HF0 G HF H σ g c hcc Q k => by
    obtain ⟨x, e1, hcc⟩ := bind_ok hcc
    obtain ⟨u, e2, hcc⟩ := bind_ok hcc
    cases pure_ok hcc
    refine h.sem HF0 G HF H σ g x e1 _ fun v HF1 H1 fp s1 r1 _ _ => ?_
    have r1 := Fl.sh_iff.mp r1.1
    subst r1
    refine ⟨x, rfl, of_decide_eq_true (gd_ok e2), fun p hp => ?_⟩
    exact k (.ref p) HF1 _ [p] (s1.trans (Step.own s1.sub hp)) ⟨p, _, [], rfl, rfl, upd_same, Rl.ofFa (Fa.flat.mpr rfl)⟩ (by simp) fun b hb => by
      rw [List.mem_singleton.mp hb]
      have hp0 : ∀ (M : Hp), Same M H1 → M p = none := fun M sm => by
        cases z : M p with
        | none => rfl
        | some u =>
          have := sm _ _ z
          rw [hp] at this; cases this
      exact ⟨hp0 H s1.exH, hp0 HF1 s1.sub⟩⟩
def joinRM (a z : Str) : M Str := do gd (decide (z.length ≤ sizeLine) && decide (((RS.revSg z).map (·.length)).sum + (RS.revSg z).length * a.length ≤ 16777216)); pure (Txt.join a (RS.revSg z))
theorem ex_joinRevS {mo m : M Str} (hc : X.calm = true) (mr : X.mg "reversed" = none) (ho : EX X Γ o Ow.v mo to) (h : EX X Γ e Ow.v m te) (hg2 : Gl X "reversed" := by rfl) (hbase : attributeBase o "join" X.env (eval o X.env) = eval o X.env := by rfl)
    (hfew : ((backTo cpos (starEach [.Call (.Name "reversed" p2) [e] [] pos2] X.env)).all (fun x => !x.1) && (backToKw cpos (keywordEach [] X.env)).all (fun x => x.1.isSome)
      && decide (([.Call (.Name "reversed" p2) [e] [] pos2] : List Expr).length + ([] : List Keyword).length + (if ([] : List Keyword).isEmpty then 0 else 1) < 30)) = true := by rfl)
    (hline : (apos.endLine == cpos.line) = true := by rfl) (htrees : backTo cpos (starEach [.Call (.Name "reversed" p2) [e] [] pos2] X.env) = [(false, eval (.Call (.Name "reversed" p2) [e] [] pos2) X.env)] := by rfl)
    (hs : starEach [e] X.env = (false, eval e X.env) :: starEach [] X.env := by rfl) :
    EX X Γ (.Call (.Attribute o "join" apos) [.Call (.Name "reversed" p2) [e] [] pos2] [] cpos) Ow.v (do let a ← mo; let z ← m; joinRM a z) (RS.tJoinRevS to te) :=
  ⟨RS.pe_joinRevS hc hg2 mr ho.pe h.pe hbase hfew hline htrees hs, fun HF0 G HF H σ g c hcc Q k => by
    obtain ⟨a, e0, hcc⟩ := bind_ok hcc
    obtain ⟨x, e1, hcc⟩ := bind_ok hcc
    obtain ⟨u, e2, hcc⟩ := bind_ok hcc
    cases pure_ok hcc
    have e2 := gd_ok e2
    rw [Bool.and_eq_true, decide_eq_true_eq, decide_eq_true_eq] at e2
    refine ho.sem HF0 G HF H σ g a e0 _ fun v HF1 H1 fp s1 r1 _ _ => ?_
    have r1 := Fl.sh_iff.mp r1.1
    subst r1
    refine ⟨a, rfl, ?_⟩
    refine h.sem HF0 G HF1 H1 σ (g.step s1) x e1 _ fun v HF2 H2 fp2 s2 r2 _ _ => ?_
    have r2 := Fl.sh_iff.mp r2.1
    subst r2
    exact ⟨x, rfl, e2.1, e2.2, (k.back (s1.trans s2)).flat s2.sub⟩⟩
end
end Ty

set_option maxHeartbeats 1000000
/-! ## Ty47: instances of own classes, fields set by __init__, methods told by the class -/
namespace L2
open PySem PySem.Spec PyProof.Rows
/-- C() of a class without __init__ -/
def tMkN (C : Addr) : TE := fun _ H Q => ∀ x dx, H x = none → H dx = none → dx ≠ x → Q (.ref x) (upd (upd H dx (.own x)) x (.ins C dx []))
theorem pe_mkN {X : Cx} {C : Addr} {x : Str} {p pos : Pos} (hmk : PySem.W.makesIn X.K C = true) (hi : PySem.W.findIn X.K (.ref C) "__init__" = some (some (.builtin "object.__init__"))) (hkp : PySem.W.keepIn X.K (.ref C) = true) (hm : X.mg x = some (.ref C)) (hg : Gl X x := by rfl) (hdb : (x == ("__debug__" : Str)) = false := by decide) :
    PE X (.Call (.Name x p) [] [] pos) (tMkN C) := by
  refine ⟨fun pins s σ H Q I h => ?_⟩
  refine wpAny_Call_Name_kw (ld_glob I hg hm ?_ hdb)
  refine PySem.W.callWith_K0 I.kIn hkp ?_
  have I2 := Inv.made (C := C) I
  have q := h (s.heap.objs.size + 1) s.heap.objs.size (I.hok.fresh (Nat.le_succ _)) (I.hok.fresh (Nat.le_refl _)) (Nat.ne_of_lt (Nat.lt_succ_self _))
  refine wpAny_call (make_map0 I.kIn hmk hi (fun self => PySem.W.Looks.of_pure (PySem.W.oi_bind self)) ?_)
  have e2 : ((s.heap.push PySem.W.emptyDict).push (PySem.W.instObj C s.heap.objs.size)).get? (s.heap.objs.size + 1) = some (PySem.W.instObj C s.heap.objs.size) := by
    have := Heap.get?_push_size (s.heap.push PySem.W.emptyDict) (o := PySem.W.instObj C s.heap.objs.size) rfl
    rwa [Heap.size_push] at this
  have Y := PySem.W.makes_of (M := model X.prog X.w) I.kIn hmk
  have t1 : PySem.W.Looks (model X.prog X.w) ((s.heap.push PySem.W.emptyDict).push (PySem.W.instObj C s.heap.objs.size)) (typeOf (.ref (s.heap.objs.size + 1))) (.ref C) := (PySem.W.Looks.ld e2).andThen .now
  have t2 : PySem.W.Looks (model X.prog X.w) ((s.heap.push PySem.W.emptyDict).push (PySem.W.instObj C s.heap.objs.size)) (isInstance (.ref (s.heap.objs.size + 1)) (.type "object")) true := t1.andThen (Y.top.keeps fun b o e => Heap.get?_push_of_some _ (Heap.get?_push_of_some _ e))
  refine codeAny_call_builtin PySem.W.oi_plain PySem.W.entry_oi (@PySem.W.check_slot (model X.prog X.w) _ _ _ "object.__init__" "object" "__init__" (.ref (s.heap.objs.size + 1)) [] [] _ PySem.W.oi_kind PySem.W.oi_split t2 (PySem.W.oi_args (.ref (s.heap.objs.size + 1))) ?_)
  rw [PySem.W.oi_run]
  exact wpAny_pure (And.intro rfl ⟨.ref (s.heap.objs.size + 1), _, I2, rfl, q⟩)
theorem PE.or {X : Cx} {e : Expr} {t1 t2 : TE} (h1 : PE X e t1) (h2 : PE X e t2) : PE X e (fun σ H Q => t1 σ H Q ∨ t2 σ H Q) := ⟨fun pins s σ H Q I h => h.elim (h1.run pins s σ H Q I) (h2.run pins s σ H Q I)⟩
end L2
namespace Ty
open PySem PySem.Spec PyProof.Rows L2
/-- an instance: its class's name, its fields -/
structure Ins where
  c : Str
  fs : List (Str × PV)
def fenc (fs : List (Str × PV)) : List (Str × V) := fs.map fun p => (p.1, p.2.enc)
instance : Rp Ins where
  sh K HF v x := ∃ a dx, v = .ref a ∧ HF a = some (.ins (He.ga K x.c) dx (fenc x.fs))
  mono := fun s ⟨a, dx, h1, h2⟩ => ⟨a, dx, h1, s _ _ h2⟩
instance : Inhabited Ins := ⟨⟨"", []⟩⟩
theorem fenc_lookup {f : Str} : ∀ fs : List (Str × PV), (fenc fs).lookup f = (fs.lookup f).map PV.enc
  | [] => rfl
  | (g, v) :: r => by
    show List.lookup f ((g, v.enc) :: fenc r) = _
    simp only [List.lookup]
    split
    · rfl
    · exact fenc_lookup r
/-- what is known of a class -/
structure OCls (K : PySem.W.Frag) (c : Str) : Prop where
  cl : Cls K (He.ga K c)
  ha : PySem.W.findIn K (clv K c) "__class__" = some (some (.builtin "object.__class__"))
  hn : PySem.W.specialIn K (.builtin "object.__class__") "__get__" = some (some (.builtin "getset_descriptor.__get__"))
  ht : PySem.W.takesIn K (.builtin "object.__class__") = some true
  hm : PySem.W.mroIn K (He.ga K c) (.type "object") = some true
def oclB (K : PySem.W.Frag) (c : Str) : Bool := PySem.W.plainGet K (He.ga K c) Str.empty && (PySem.W.hasDictIn K (He.ga K c) && (PySem.W.plainOver K (He.ga K c) && (decide (PySem.W.findIn K (clv K c) "__setattr__" = some (some (.builtin "object.__setattr__"))) &&
  (decide (PySem.W.findIn K (clv K c) "__class__" = some (some (.builtin "object.__class__"))) && (decide (PySem.W.specialIn K (.builtin "object.__class__") "__get__" = some (some (.builtin "getset_descriptor.__get__"))) && (decide (PySem.W.takesIn K (.builtin "object.__class__") = some true) && decide (PySem.W.mroIn K (He.ga K c) (.type "object") = some true)))))))
theorem ocl_of {K : PySem.W.Frag} {c : Str} (h : oclB K c = true) : OCls K c := by
  unfold oclB at h
  simp only [Bool.and_eq_true, decide_eq_true_eq] at h
  obtain ⟨b1, b2, b3, b4, b5, b6, b7, b8⟩ := h
  exact ⟨⟨b1, b2, b3, b4⟩, b5, b6, b7, b8⟩
class Pvl (α : Type) [Rp α] where
  pv : α → PV
  ok : ∀ {K : PySem.W.Frag} {HF : Hp} {v : V} {a : α}, Rp.sh K HF v a → v = (pv a).enc
instance : Pvl Int := ⟨.i, fun h => Fl.sh_iff.mp h⟩
instance : Pvl Str := ⟨.s, fun h => Fl.sh_iff.mp h⟩
def obI (names : List Str) (ft : List (Str × Str)) (x : Ins) (f : Str) : M Int := match x.fs.lookup f with
  | some (.i n) => do gd (names.contains x.c && ft.contains (x.c, f)); pure n
  | _ => no
def obS (names : List Str) (ft : List (Str × Str)) (x : Ins) (f : Str) : M Str := match x.fs.lookup f with
  | some (.s n) => do gd (names.contains x.c && ft.contains (x.c, f)); pure n
  | _ => no
/-- an __init__ that sets one field, two fields -/
def spO1 (K : PySem.W.Frag) (C : Addr) (f : Str) : Sp := fun vs H Q _ => ∃ (a dx : Addr) (y : V), vs = [.ref a, y] ∧ H a = some (.ins C dx []) ∧ Q .non (upd H a (.ins C dx [(f, y)]))
def spO2 (K : PySem.W.Frag) (C : Addr) (f g : Str) : Sp := fun vs H Q _ => ∃ (a dx : Addr) (y z : V), vs = [.ref a, y, z] ∧ H a = some (.ins C dx []) ∧ Q .non (upd H a (.ins C dx [(f, y), (g, z)]))
theorem upd_upd {H : Hp} {a : Addr} {o o' : HO} : upd (upd H a o) a o' = upd H a o' := by
  funext b
  by_cases h : b = a
  · subst h; rw [upd_same, upd_same]
  · rw [upd_ne h, upd_ne h, upd_ne h]
section
variable {P : Program} {w : World} {K : PySem.W.Frag} {mg : Str → Option Value} {base : Heap}
theorem fnO1_ok {f x qual : Str} {c : Str} {params : Arguments} {bd : List Stmt} {scope : Scope} {dvs : List V} {kws : List (Str × V)} {fI : Addr} {fd : FuncData} {y : Str} {k : Nat} (O : OCls K c) (N : PySem.W.findIn K (clv K c) f = some none) (F : FunD K x qual params bd scope dvs kws fI fd) (S : FnScope ["self", y] ["self", y] scope)
    (h : ∀ (cdv : Value) (A' : Around) (outer : List Env) (s : Shared) (H : Hp) (E : XK), PSs (cxOf CX0 P w K mg base ["self", y] qual scope fI cdv A' outer s H E).nox bd (tSeq (sFld K (tVar 0) (tVar 1) f) tNext)) :
    FnOk P w K mg base CX0 (k + 1) fI fd ["self", y] (spO1 K (He.ga K c) f) := by
  refine F.ok S (fun vs H Q E h => ?_) (fun cdv A' outer s H vs Q E hr h0 => ?_)
  · obtain ⟨a, dx, y, rfl, _⟩ := h
    rfl
  · obtain ⟨a, dx, v, rfl, ha, hq⟩ := h0
    refine ⟨_, (h cdv A' outer s H E).nox, ?_⟩
    have es : L2.start ["self", y] [V.ref a, v] = [some (V.ref a), some v] := rfl
    rw [es]
    exact ⟨v, rfl, .ref a, rfl, a, He.ga K c, dx, [], rfl, ha, O.cl, N, (by show 0 < 1000; decide), hq⟩
theorem fnO2_ok {f g x qual : Str} {c : Str} {params : Arguments} {bd : List Stmt} {scope : Scope} {dvs : List V} {kws : List (Str × V)} {fI : Addr} {fd : FuncData} {y z : Str} {k : Nat} (O : OCls K c) (N : PySem.W.findIn K (clv K c) f = some none) (N' : PySem.W.findIn K (clv K c) g = some none) (hfg : f ≠ g) (F : FunD K x qual params bd scope dvs kws fI fd) (S : FnScope ["self", y, z] ["self", y, z] scope)
    (h : ∀ (cdv : Value) (A' : Around) (outer : List Env) (s : Shared) (H : Hp) (E : XK), PSs (cxOf CX0 P w K mg base ["self", y, z] qual scope fI cdv A' outer s H E).nox bd (tSeq (sFld K (tVar 0) (tVar 1) f) (tSeq (sFld K (tVar 0) (tVar 2) g) tNext))) :
    FnOk P w K mg base CX0 (k + 1) fI fd ["self", y, z] (spO2 K (He.ga K c) f g) := by
  refine F.ok S (fun vs H Q E h => ?_) (fun cdv A' outer s H vs Q E hr h0 => ?_)
  · obtain ⟨a, dx, y, z, rfl, _⟩ := h
    rfl
  · obtain ⟨a, dx, v, u, rfl, ha, hq⟩ := h0
    refine ⟨_, (h cdv A' outer s H E).nox, ?_⟩
    have es : L2.start ["self", y, z] [V.ref a, v, u] = [some (V.ref a), some v, some u] := rfl
    rw [es]
    refine ⟨v, rfl, .ref a, rfl, a, He.ga K c, dx, [], rfl, ha, O.cl, N, (by show 0 < 1000; decide), ?_⟩
    refine ⟨u, rfl, .ref a, rfl, a, He.ga K c, dx, [(f, v)], rfl, upd_same, O.cl, N', (by show 1 < 1000; decide), ?_⟩
    show Q .non (upd (upd H a (.ins (He.ga K c) dx [(f, v)])) a (.ins (He.ga K c) dx (putF g u [(f, v)])))
    rw [upd_upd, show putF g u [(f, v)] = [(f, v), (g, u)] by unfold putF; rw [if_neg hfg]; rfl]
    exact hq
def HasO1 (P : Program) (w : World) (K : PySem.W.Frag) (mg : Str → Option Value) (base : Heap) (c f : Str) (k : Nat) (y : Str) : Prop := ∃ fI fd, Mk K (He.ga K c) fI ∧ FnOk P w K mg base CX0 k fI fd ["self", y] (spO1 K (He.ga K c) f) ∧ Binds K fd ["self", y] []
def HasO2 (P : Program) (w : World) (K : PySem.W.Frag) (mg : Str → Option Value) (base : Heap) (c f g : Str) (k : Nat) (y z : Str) : Prop := ∃ fI fd, Mk K (He.ga K c) fI ∧ FnOk P w K mg base CX0 k fI fd ["self", y, z] (spO2 K (He.ga K c) f g) ∧ Binds K fd ["self", y, z] []
/-- a class that has no __init__ -/
structure MkN (K : PySem.W.Frag) (c : Str) : Prop where
  makes : PySem.W.makesIn K (He.ga K c) = true
  init : PySem.W.findIn K (clv K c) "__init__" = some (some (.builtin "object.__init__"))
  kp : PySem.W.keepIn K (clv K c) = true
def HasM (P : Program) (w : World) (K : PySem.W.Frag) (mg : Str → Option Value) (base : Heap) (c m : Str) (k : Nat) (ps : List Str) (sp : Sp) : Prop := ∃ f fd, FnOk P w K mg base CX0 k f fd ps sp ∧ Meth K (He.ga K c) m f ∧ Binds K fd ps []
def mkB (K : PySem.W.Frag) (c : Str) : Bool := PySem.W.makesIn K (He.ga K c) && (decide (PySem.W.findIn K (clv K c) "__init__" = some (some (.ref (He.fAd K (c, some "__init__"))))) && (PySem.W.isFn K (.ref (He.fAd K (c, some "__init__"))) && PySem.W.keepIn K (clv K c)))
theorem mk_of {c : Str} (h : mkB K c = true) : Mk K (He.ga K c) (He.fAd K (c, some "__init__")) := by
  unfold mkB at h
  simp only [Bool.and_eq_true, decide_eq_true_eq] at h
  exact ⟨h.1, h.2.1, h.2.2.1, h.2.2.2⟩
def mkNB (K : PySem.W.Frag) (c : Str) : Bool := PySem.W.makesIn K (He.ga K c) && (decide (PySem.W.findIn K (clv K c) "__init__" = some (some (.builtin "object.__init__"))) && PySem.W.keepIn K (clv K c))
theorem mkN_of {c : Str} (h : mkNB K c = true) : MkN K c := by
  unfold mkNB at h
  simp only [Bool.and_eq_true, decide_eq_true_eq] at h
  exact ⟨h.1, h.2.1, h.2.2⟩
def metB (K : PySem.W.Frag) (c m d : Str) : Bool := decide (PySem.W.findIn K (clv K c) m = some (some (.ref (He.fAd K (d, some m))))) && (PySem.W.isFn K (.ref (He.fAd K (d, some m))) && PySem.W.keepIn K (.ref (He.fAd K (d, some m))))
theorem met_of {c m d : Str} (h : metB K c m d = true) : Meth K (He.ga K c) m (He.fAd K (d, some m)) := by
  unfold metB at h
  simp only [Bool.and_eq_true, decide_eq_true_eq] at h
  exact ⟨h.1, h.2.1, h.2.2⟩
end
/-- a table of who is an instance of what -/
def OT (K : PySem.W.Frag) (tab : CTab) : Prop := ∀ p ∈ tab, PySem.W.kitOne K (clv K p.1) (clv K p.2.1) = some p.2.2
section
variable {X : Cx} {Γ : Ctx} {α β γ A : Type} [Rp γ] {w : Ow γ} {a b e o : Expr} {es : List Expr} {pos p p1 apos cpos : Pos} {ta tb te to : TE} {t : TA}
def orM (m1 m2 : M γ) : M γ := match m1 with
  | .ok a => .ok a
  | .error _ => m2
theorem orM_ok {a : γ} {m : M γ} : orM (.ok a) m = .ok a := rfl
theorem orM_no {m : M γ} : orM (no : M γ) m = m := rfl
theorem ex_orE {m1 m2 : M γ} {t1 t2 : TE} (h1 : EX X Γ e w m1 t1) (h2 : EX X Γ e w m2 t2) : EX X Γ e w (orM m1 m2) (fun σ H Q => t1 σ H Q ∨ t2 σ H Q) :=
  ⟨h1.pe.or h2.pe, fun HF0 G HF H σ g c hc Q k => by
    cases m1 with
    | ok a => exact .inl (h1.sem HF0 G HF H σ g c hc Q k)
    | error e => exact .inr (h2.sem HF0 G HF H σ g c hc Q k)⟩
/-- o.m(e, ..) where o's class is c -/
theorem ex_methC {K : PySem.W.Frag} {k : Nat} {c m : Str} {f : Addr} {fd : FuncData} {ps : List Str} {r0 : As A} {fm : Ins × A → M γ} {mo : M Ins} {ma : M A} {pl : Sem Bool} (O : OCls X.K c) (hM : Meth X.K (He.ga X.K c) m f) (F : FnOk X.prog X.w X.K X.mg X.base CX0 k f fd ps (spF X.K (As.cons (α := Ins) r0) w fm)) (hr : Room k X.A) (hb : Binds X.K fd ps [])
    (ho : EX X Γ o Ow.v mo to) (h : EA X Γ (e :: es) r0 ma t)
    (hst : starEach (e :: es) X.env = (false, eval e X.env) :: starEach es X.env := by rfl) (hpl : (backTo pos (starEach es X.env)).any (·.1) = false := by rfl)
    (ht : eval (.Call (.Attribute o m apos) (e :: es) [] pos) X.env = (do
      let ov ← eval o X.env
      standAt apos.atName
      let (f, first) ← holding [ov] (getMethod ov m pl)
      callWith pos f first (backTo pos (starEach (e :: es) X.env)) (backToKw pos (keywordEach [] X.env))) := by rfl) (hK : X.K = K := by rfl) :
    EX X Γ (.Call (.Attribute o m apos) (e :: es) [] pos) w (do let x ← mo; gd (decide (x.c = c) && (x.fs.lookup m).isNone); let y ← ma; fm (x, y)) (tMeth (He.ga K c) m (spF K (As.cons (α := Ins) r0) w fm) [] E0 to t) := by
  subst hK
  refine ⟨pe_meth ho.pe O.cl hM F hr hb .nil pass0 h.pa hst hpl ht, fun HF0 G HF H σ g cc hc Q kk => ?_⟩
  · obtain ⟨x, e1, hc⟩ := bind_ok hc
    obtain ⟨u, e2, hc⟩ := bind_ok hc
    obtain ⟨y, e3, hc⟩ := bind_ok hc
    have e2 := gd_ok e2
    rw [Bool.and_eq_true, decide_eq_true_eq, Option.isNone_iff_eq_none] at e2
    refine ho.sem HF0 G HF H σ g x e1 _ fun v HF1 H1 fp s1 r1 _ _ => ?_
    obtain ⟨⟨q, dx, rfl, h2⟩, _⟩ := r1
    rw [e2.1] at h2
    refine ⟨q, dx, fenc x.fs, rfl, s1.sub _ _ h2, by rw [fenc_lookup, e2.2]; rfl, ?_⟩
    refine h.sem HF0 G HF1 H1 σ (g.step s1) y e3 _ fun vs HF2 H2 s2 r2 => ?_
    rw [List.append_nil]
    exact ⟨HF2, (x, y), cc, s2.sub, ⟨.ref q, vs, rfl, ⟨q, dx, rfl, by rw [e2.1]; exact s2.exF _ _ h2⟩, r2⟩, hc, kk.back (s1.trans s2)⟩
/-- o.f -/
theorem ex_obI {K : PySem.W.Frag} {names : List Str} {ft : List (Str × Str)} {f : Str} {m : M Ins} (O : ∀ c ∈ names, OCls X.K c) (F : FldT X.K ft) (h : EX X Γ e Ow.v m te) (hb : attributeBase e f X.env (eval e X.env) = eval e X.env := by rfl) (hK : X.K = K := by rfl) :
    EX X Γ (.Attribute e f pos) Ow.v (do let x ← m; obI names ft x f) (tFld K te f) := by
  subst hK
  exact ⟨pe_fld h.pe hb, fun HF0 G HF H σ g c hc Q k => by
    obtain ⟨x, e1, hc⟩ := bind_ok hc
    refine h.sem HF0 G HF H σ g x e1 _ fun v HF1 H1 fp s1 r1 _ _ => ?_
    obtain ⟨⟨q, dx, rfl, h2⟩, _⟩ := r1
    unfold obI at hc
    split at hc
    · rename_i n e2
      obtain ⟨u, e3, hc⟩ := bind_ok hc
      cases pure_ok hc
      have e3 := gd_ok e3
      rw [Bool.and_eq_true] at e3
      exact ⟨q, _, dx, fenc x.fs, .int c, rfl, s1.sub _ _ h2, (O _ (List.contains_iff_mem.mp e3.1)).cl, F _ (List.contains_iff_mem.mp e3.2), by rw [fenc_lookup, e2]; rfl, (k.back s1).flat s1.sub⟩
    · cases hc⟩
theorem ex_obS {K : PySem.W.Frag} {names : List Str} {ft : List (Str × Str)} {f : Str} {m : M Ins} (O : ∀ c ∈ names, OCls X.K c) (F : FldT X.K ft) (h : EX X Γ e Ow.v m te) (hb : attributeBase e f X.env (eval e X.env) = eval e X.env := by rfl) (hK : X.K = K := by rfl) :
    EX X Γ (.Attribute e f pos) Ow.v (do let x ← m; obS names ft x f) (tFld K te f) := by
  subst hK
  exact ⟨pe_fld h.pe hb, fun HF0 G HF H σ g c hc Q k => by
    obtain ⟨x, e1, hc⟩ := bind_ok hc
    refine h.sem HF0 G HF H σ g x e1 _ fun v HF1 H1 fp s1 r1 _ _ => ?_
    obtain ⟨⟨q, dx, rfl, h2⟩, _⟩ := r1
    unfold obS at hc
    split at hc
    · rename_i n e2
      obtain ⟨u, e3, hc⟩ := bind_ok hc
      cases pure_ok hc
      have e3 := gd_ok e3
      rw [Bool.and_eq_true] at e3
      exact ⟨q, _, dx, fenc x.fs, .str c, rfl, s1.sub _ _ h2, (O _ (List.contains_iff_mem.mp e3.1)).cl, F _ (List.contains_iff_mem.mp e3.2), by rw [fenc_lookup, e2]; rfl, (k.back s1).flat s1.sub⟩
    · cases hc⟩
/-- isinstance(o, D) -/
theorem ex_isO {K : PySem.W.Frag} {names : List Str} {tab : CTab} {D : Str} {m : M Ins} (O : ∀ c ∈ names, OCls X.K c) (T : OT X.K tab) (hm : X.mg "isinstance" = none) (gD : X.mg D = some (clv X.K D))
    (h : EX X Γ e Ow.v m te) (hg : Gl X "isinstance" := by rfl) (hgD : Gl X D := by rfl) (hdb : (D == ("__debug__" : Str)) = false := by decide)
    (h1 : starEach [e, .Name D p1] X.env = (false, eval e X.env) :: starEach [.Name D p1] X.env := by rfl) (h2 : starEach [.Name D p1] X.env = (false, eval (.Name D p1) X.env) :: starEach [] X.env := by rfl) (hpl : (backTo pos (starEach [.Name D p1] X.env)).any (·.1) = false := by rfl) (hK : X.K = K := by rfl) :
    EX X Γ (.Call (.Name "isinstance" p) [e, .Name D p1] [] pos) Ow.v (do let x ← m; gd (names.contains x.c); ofO (exLk tab x.c D)) (tCB (rIsi K) (tCons te (tCons (tC (.ref (He.ga K D))) tNil))) := by
  subst hK
  exact ⟨pe_callB call_isi hg hm (by decide +kernel) (pa_cons h.pe (pa_cons (pe_glob hgD gD rfl hdb) pa_nil h2) h1) (by decide) (by decide) h1 hpl, fun HF0 G HF H σ g b hc Q k => by
    obtain ⟨x, e1, hc⟩ := bind_ok hc
    obtain ⟨u, e3, hc⟩ := bind_ok hc
    refine h.sem HF0 G HF H σ g x e1 _ fun v HF1 H1 fp s1 r1 _ _ => ?_
    obtain ⟨⟨q, dx, rfl, h2⟩, _⟩ := r1
    have Oc := O _ (List.contains_iff_mem.mp (gd_ok e3))
    have e2 := T _ (exLk_mem (ofO_ok hc))
    exact ⟨.ref q, .ref (He.ga X.K D), clv X.K x.c, clv X.K D, b, rfl, .own _, .base (.ins (s1.sub _ _ h2) Oc.cl Oc.ha Oc.hn Oc.ht Oc.hm), e2, (k.back s1).flat s1.sub⟩⟩
/-! ### C(..) -/
theorem step_new {HF H : Hp} {x dx : Addr} {C : Addr} {fs : List (Str × V)} (s : Same HF H) (h1 : H x = none) (h2 : H dx = none) (ne : dx ≠ x) :
    Step HF H (upd (upd HF dx (.own x)) x (.ins C dx fs)) (upd (upd H dx (.own x)) x (.ins C dx fs)) := by
  have a := Step.shr (o := .own x) s h2
  have b := Step.shr (o := .ins C dx fs) (p := x) a.sub (by rw [upd_ne (Ne.symm ne)]; exact h1)
  exact a.trans b
theorem ex_mkO0 {K : PySem.W.Frag} {c : Str} (N : MkN X.K c) (gC : X.mg c = some (clv X.K c)) (hg : Gl X c := by rfl) (hdb : (c == ("__debug__" : Str)) = false := by decide) (hK : X.K = K := by rfl) :
    EX X Γ (.Call (.Name c p) [] [] pos) Ow.v (pure (⟨c, []⟩ : Ins)) (tMkN (He.ga K c)) := by
  subst hK
  exact ⟨pe_mkN N.makes N.init N.kp gC hg hdb, fun HF0 G HF H σ g r hc Q k => by
    cases pure_ok hc
    intro x dx h1 h2 ne
    have st := step_new (C := He.ga X.K c) (fs := []) g.sub h1 h2 ne
    exact k (.ref x) _ _ [] st ⟨⟨x, dx, rfl, upd_same⟩, rfl⟩ List.nodup_nil fun p hp => by cases hp⟩
theorem ex_mkO1 [Rp α] [Pvl α] {K : PySem.W.Frag} {k : Nat} {c f y : Str} {fI : Addr} {fd : FuncData} {m : M α} (Mc : Mk X.K (He.ga X.K c) fI) (F : FnOk X.prog X.w X.K X.mg X.base CX0 k fI fd ["self", y] (spO1 X.K (He.ga X.K c) f)) (hr : Room (k + 1) X.A) (hb : Binds X.K fd ["self", y] []) (gC : X.mg c = some (clv X.K c))
    (h : EX X Γ e Ow.v m te) (hg : Gl X c := by rfl) (hdb : (c == ("__debug__" : Str)) = false := by decide) (he : starEach [e] X.env = (false, eval e X.env) :: starEach [] X.env := by rfl) (hpl : (backTo pos (starEach [] X.env)).any (·.1) = false := by rfl) (hK : X.K = K := by rfl) :
    EX X Γ (.Call (.Name c p) [e] [] pos) Ow.v (do let a ← m; pure (⟨c, [(f, Pvl.pv a)]⟩ : Ins)) (tMake (He.ga K c) (spO1 K (He.ga K c) f) [] E0 (tCons te tNil)) := by
  subst hK
  exact ⟨pe_make Mc F hr hg gC hb .nil pass0 (pa_cons h.pe pa_nil he) hdb he hpl, fun HF0 G HF H σ g r hc Q kk => by
    obtain ⟨z, e1, hc⟩ := bind_ok hc
    cases pure_ok hc
    refine h.sem HF0 G HF H σ g z e1 _ fun v HF1 H1 fp s1 r1 _ _ => ?_
    have hv := Pvl.ok r1.1
    intro x dx h1 h2 ne
    refine ⟨x, dx, v, rfl, upd_same, rfl, ?_⟩
    rw [upd_upd]
    have st := step_new (C := He.ga X.K c) (fs := [(f, v)]) s1.sub h1 h2 ne
    refine kk (.ref x) _ _ [] (s1.trans st) ⟨⟨x, dx, rfl, ?_⟩, rfl⟩ List.nodup_nil fun p hp => by cases hp
    rw [upd_same, hv]; rfl⟩
theorem ex_mkO2 [Rp α] [Pvl α] [Rp β] [Pvl β] {K : PySem.W.Frag} {k : Nat} {c f1 f2 y z : Str} {fI : Addr} {fd : FuncData} {m : M α} {n : M β} (Mc : Mk X.K (He.ga X.K c) fI) (F : FnOk X.prog X.w X.K X.mg X.base CX0 k fI fd ["self", y, z] (spO2 X.K (He.ga X.K c) f1 f2)) (hr : Room (k + 1) X.A) (hb : Binds X.K fd ["self", y, z] []) (gC : X.mg c = some (clv X.K c))
    (ha : EX X Γ a Ow.v m ta) (h : EX X Γ b Ow.v n tb) (hg : Gl X c := by rfl) (hdb : (c == ("__debug__" : Str)) = false := by decide) (he : starEach [a, b] X.env = (false, eval a X.env) :: starEach [b] X.env := by rfl) (he2 : starEach [b] X.env = (false, eval b X.env) :: starEach [] X.env := by rfl) (hpl : (backTo pos (starEach [b] X.env)).any (·.1) = false := by rfl) (hK : X.K = K := by rfl) :
    EX X Γ (.Call (.Name c p) [a, b] [] pos) Ow.v (do let x ← m; let y ← n; pure (⟨c, [(f1, Pvl.pv x), (f2, Pvl.pv y)]⟩ : Ins)) (tMake (He.ga K c) (spO2 K (He.ga K c) f1 f2) [] E0 (tCons ta (tCons tb tNil))) := by
  subst hK
  exact ⟨pe_make Mc F hr hg gC hb .nil pass0 (pa_cons ha.pe (pa_cons h.pe pa_nil he2) he) hdb he hpl, fun HF0 G HF H σ g r hc Q kk => by
    obtain ⟨z1, e1, hc⟩ := bind_ok hc
    obtain ⟨z2, e2, hc⟩ := bind_ok hc
    cases pure_ok hc
    refine ha.sem HF0 G HF H σ g z1 e1 _ fun v HF1 H1 fp s1 r1 _ _ => ?_
    refine h.sem HF0 G HF1 H1 σ (g.step s1) z2 e2 _ fun v2 HF2 H2 fp2 s2 r2 _ _ => ?_
    have hv := Pvl.ok r1.1
    have hv2 := Pvl.ok r2.1
    intro x dx h1 h2 ne
    refine ⟨x, dx, v, v2, rfl, upd_same, rfl, ?_⟩
    rw [upd_upd]
    have st := step_new (C := He.ga X.K c) (fs := [(f1, v), (f2, v2)]) s2.sub h1 h2 ne
    refine kk (.ref x) _ _ [] ((s1.trans s2).trans st) ⟨⟨x, dx, rfl, ?_⟩, rfl⟩ List.nodup_nil fun p hp => by cases hp
    rw [upd_same, hv, hv2]; rfl⟩
end
end Ty

set_option maxHeartbeats 1000000
/-! ## Ty48: methods of own classes that may raise -/
namespace L2
open PySem PySem.Spec PyProof.Rows
/-- o.m(..) that may raise -/
def tMethE (C : Addr) (m : Str) (sp : Sp) (E : St → XK) (ta : TE) (t : TA) : TE := fun σ H Q => ta σ H fun x H1 => ∃ a dx fs, x = .ref a ∧ H1 a = some (.ins C dx fs) ∧ fs.lookup m = none ∧
  t σ H1 fun vs H2 => sp (x :: vs) H2 Q (E σ)
theorem pe_methE {X : Cx} {CX : CXT} {k : Nat} {f C : Addr} {fd : FuncData} {ps : List Str} {sp : Sp} {E : St → XK} {m : Str} {pos apos : Pos} {e o : Expr} {es : List Expr} {ta : TE} {t : TA} {pl : Sem Bool} (he : PE X o ta) (c : Cls X.K C) (hm : Meth X.K C m f) (F : FnOk X.prog X.w X.K X.mg X.base CX k f fd ps sp) (hr : Room k X.A) (hb : Binds X.K fd ps []) (hx : ∀ σ, PassesAt CX X σ (E σ)) (ha : PA X (e :: es) t)
    (hst : starEach (e :: es) X.env = (false, eval e X.env) :: starEach es X.env := by rfl) (hpl : (backTo pos (starEach es X.env)).any (·.1) = false := by rfl)
    (ht : eval (.Call (.Attribute o m apos) (e :: es) [] pos) X.env = (do
      let ov ← eval o X.env
      standAt apos.atName
      let (f, first) ← holding [ov] (getMethod ov m pl)
      callWith pos f first (backTo pos (starEach (e :: es) X.env)) (backToKw pos (keywordEach [] X.env))) := by rfl) :
    PE X (.Call (.Attribute o m apos) (e :: es) [] pos) (tMethE C m sp E ta t) := by
  refine ⟨fun pins s σ H Q I h => ?_⟩
  refine PySem.W.methodCall_KW (pl := pl) (thn (he.run pins s σ H _ I h) fun u s1 ⟨x, H1, I1, rx, a, dx, fs, ex, ea, l, q⟩ => ?_) ht
  subst ex
  obtain rfl : u = Value.ref a := rx
  refine getmeth_ok I1 ea c hm l ?_
  refine PySem.W.callWith_K (first := [.ref a]) (h₀ := X.base) I.ok.mod.kin hm.kp (thn (ha.run pos pins s1 σ H1 _ I1 q) fun us s2 ⟨vs, H2, I2, r, q2⟩ => ⟨I2.kIn, ?_⟩) hst hpl
  exact run_fnS (us := .ref a :: us) (vs := .ref a :: vs) F hr hb (hx σ) I2 (.cons rfl r) q2
/-! ### list.count of a text -/
theorem cntS_eq {k : Str} : ∀ {us : List Value} {ns : List Str}, StrsAre us ns → us.countP (isStrOf k) = ns.count k
  | _, _, .nil => rfl
  | _, _, .cons n t h => by
    have ih := cntS_eq (k := k) h
    rw [List.countP_cons, List.count_cons, ih] <;> rfl
def rCntS (K : PySem.W.Frag) : V → List V → Hp → VK → Prop := fun x xs H Q => ∃ (p : Addr) (ns : List Str) (k : Str), x = .ref p ∧ xs = [.str k] ∧ SqL K H p (ns.map V.str) ∧ Q (.int (ns.count k : Nat)) H
theorem mt_lcountS {X : Cx} : MtR X "list.count" (rCntS X.K) := by
  intro pins s σ H x xs v us Q I rx rxs h
  obtain ⟨p, ns, k, rfl, rfl, hs, q⟩ := h
  cases rx
  obtain ⟨u, rfl, ru⟩ := rxs.one
  obtain ⟨t, rfl⟩ := ru
  obtain ⟨its, rv, ⟨⟨cls, dd, data, sl⟩, n, ho, hc, hdn, hd⟩, hlen⟩ := I.list hs
  simp only at hc hd
  subst hc hd
  have hi := strs_of_vals rv
  refine call_meets PySem.F.slot_list_count ⟨_, ho, rfl⟩ PySem.F.entry_list_count (PySem.F.args_list_count_2 _ _)
    (SeqAt.list_countAt p its.toArray n dd sl (.str k t) (isStrOf k)) ⟨ho, fun y hy => (eq_isStrOf k t hi y (by simpa using hy)).at _ _, ?_⟩
  have ec : its.toArray.toList.countP (isStrOf k) = ns.count k := cntS_eq hi
  refine ⟨.int (ns.count k : Nat), H, I.tok _, ⟨s.toks, ?_⟩, q⟩
  show Value.int ((its.toArray.toList.countP (isStrOf k) : Nat) : Int) s.toks = Value.int ((ns.count k : Nat) : Int) s.toks
  rw [ec]
end L2
namespace Ty
open PySem PySem.Spec PyProof.Rows L2
section
variable {X : Cx} {Γ : Ctx} {α ρ A : Type} [Rp ρ] {o : Ow ρ} {a b e e0 : Expr} {es : List Expr} {pos p p1 apos cpos : Pos} {ta tb te to : TE} {t : TA}
theorem ex_unOS {m : M (Option Str)} (h : EX X Γ e Ow.v m te) : EX X Γ e Ow.v (do let a ← m; ofO a) te :=
  ⟨h.pe, fun HF0 G HF H σ g c hc Q k => by
    obtain ⟨i, e1, e2⟩ := bind_ok hc
    have e3 : i = some c := ofO_ok e2
    subst e3
    exact h.sem HF0 G HF H σ g _ e1 Q fun v HF' H' fp st r n f => k v HF' H' fp st ⟨r.1, r.2⟩ n f⟩
theorem ex_lcountS {K : PySem.W.Frag} {cpos : Pos} {mo : M (List Str)} {ma : M (Str × Unit)} (ho : EX X Γ e0 Ow.v mo to) (ha : EA X Γ [e] (As.cons (α := Str) As.nil) ma t) (hbase : attributeBase e0 "count" X.env (eval e0 X.env) = eval e0 X.env := by rfl)
    (hfew : ((backTo cpos (starEach [e] X.env)).all (fun x => !x.1) && (backToKw cpos (keywordEach [] X.env)).all (fun x => x.1.isSome)
      && decide ([e].length + ([] : List Keyword).length + (if ([] : List Keyword).isEmpty then 0 else 1) < 30)) = true := by rfl)
    (hline : (apos.endLine == cpos.line) = true := by rfl) (hs : starEach [e] X.env = (false, eval e X.env) :: starEach [] X.env := by rfl) (hplain : (backTo cpos (starEach [] X.env)).any (·.1) = false := by rfl) (hK : X.K = K := by rfl) :
    EX X Γ (.Call (.Attribute e0 "count" apos) [e] [] cpos) Ow.v (do let x ← mo; let y ← ma; pure (x.count y.1 : Int)) (tBM K "list" (rCntS K) to t) := by
  subst hK
  exact ex_lm (r := rCntS X.K) (α := Str) (A := Str × Unit) (γ := Int) (w := Ow.v) (f := fun (x : List Str) (y : Str × Unit) => (pure (x.count y.1 : Int) : M Int)) PySem.F.slot_list_count PySem.F.type_list_count mt_lcountS (fun HF H v x vs y c s hx h hc Q k => by
    obtain ⟨u, rfl, z⟩ := as1 h
    cases pure_ok hc
    obtain ⟨q, us, e2, h1, h2⟩ := hx
    have e3 := Fa.flat.mp h2
    subst e2 e3
    exact ⟨q, x, y.1, rfl, by rw [Fl.sh_iff.mp z]; rfl, SqL.of (s _ _ h1), k.flat s⟩) ho ha hbase hfew hline hs hplain rfl
theorem ex_methY {K : PySem.W.Frag} {W : WX} {k : Nat} {c m : Str} {f : Addr} {fd : FuncData} {ps : List Str} {r0 : As A} {fm : Ins × A → M (ρ ⊕ Exn)} {mo : M Ins} {ma : M A} {pl : Sem Bool} (O : OCls X.K c) (hM : Meth X.K (He.ga X.K c) m f) (F : FnOk X.prog X.w X.K X.mg X.base (L2.CX X.prog X.w) k f fd ps (spY X.K (As.cons (α := Ins) r0) o fm)) (hr : Room k X.A) (hb : Binds X.K fd ps [])
    (tk : Takes X W) (ho : EX X Γ e0 Ow.v mo to) (h : EA X Γ (e :: es) r0 ma t)
    (hst : starEach (e :: es) X.env = (false, eval e X.env) :: starEach es X.env := by rfl) (hpl : (backTo pos (starEach es X.env)).any (·.1) = false := by rfl)
    (ht : eval (.Call (.Attribute e0 m apos) (e :: es) [] pos) X.env = (do
      let ov ← eval e0 X.env
      standAt apos.atName
      let (f, first) ← holding [ov] (getMethod ov m pl)
      callWith pos f first (backTo pos (starEach (e :: es) X.env)) (backToKw pos (keywordEach [] X.env))) := by rfl) (hK : X.K = K := by rfl) :
    EXs X W Γ (.Call (.Attribute e0 m apos) (e :: es) [] pos) o (do let x ← mo; gd (decide (x.c = c) && (x.fs.lookup m).isNone); let y ← ma; fm (x, y)) (tMethE (He.ga K c) m (spY K (As.cons (α := Ins) r0) o fm) (WE W) to t) := by
  subst hK
  refine ⟨pe_methE ho.pe O.cl hM F hr hb (fun σ => passAt tk σ) h.pa hst hpl ht, fun HF0 G HF H σ g cc hc Q kk => ?_⟩
  · obtain ⟨x, e1, hc⟩ := bind_ok hc
    obtain ⟨u, e2, hc⟩ := bind_ok hc
    obtain ⟨y, e3, hc⟩ := bind_ok hc
    have e2 := gd_ok e2
    rw [Bool.and_eq_true, decide_eq_true_eq, Option.isNone_iff_eq_none] at e2
    refine ho.sem HF0 G HF H σ g x e1 _ fun v HF1 H1 fp s1 r1 _ _ => ?_
    obtain ⟨⟨q, dx, rfl, h2⟩, _⟩ := r1
    rw [e2.1] at h2
    refine ⟨q, dx, fenc x.fs, rfl, s1.sub _ _ h2, by rw [fenc_lookup, e2.2]; rfl, ?_⟩
    refine h.sem HF0 G HF1 H1 σ (g.step s1) y e3 _ fun vs HF2 H2 s2 r2 => ?_
    refine ⟨HF2, (x, y), cc, s2.sub, ⟨.ref q, vs, rfl, ⟨q, dx, rfl, by rw [e2.1]; exact s2.exF _ _ h2⟩, r2⟩, hc, ?_⟩
    cases cc with
    | inl r => exact RetK.back kk (s1.trans s2)
    | inr x => exact fun HF' H' d st xd => kk HF' H' d ((s1.trans s2).trans st) xd
/-- where it doesn't raise -/
theorem ex_methNY {K : PySem.W.Frag} {k : Nat} {c m : Str} {f : Addr} {fd : FuncData} {ps : List Str} {r0 : As A} {fm : Ins × A → M (ρ ⊕ Exn)} {mo : M Ins} {ma : M A} {pl : Sem Bool} (O : OCls X.K c) (hM : Meth X.K (He.ga X.K c) m f) (F : FnOk X.prog X.w X.K X.mg X.base (L2.CX X.prog X.w) k f fd ps (spY X.K (As.cons (α := Ins) r0) o fm)) (hr : Room k X.A) (hb : Binds X.K fd ps [])
    (ho : EX X Γ e0 Ow.v mo to) (h : EA X Γ (e :: es) r0 ma t)
    (hst : starEach (e :: es) X.env = (false, eval e X.env) :: starEach es X.env := by rfl) (hpl : (backTo pos (starEach es X.env)).any (·.1) = false := by rfl)
    (ht : eval (.Call (.Attribute e0 m apos) (e :: es) [] pos) X.env = (do
      let ov ← eval e0 X.env
      standAt apos.atName
      let (f, first) ← holding [ov] (getMethod ov m pl)
      callWith pos f first (backTo pos (starEach (e :: es) X.env)) (backToKw pos (keywordEach [] X.env))) := by rfl) (hK : X.K = K := by rfl) :
    EX X Γ (.Call (.Attribute e0 m apos) (e :: es) [] pos) o (do let x ← mo; gd (decide (x.c = c) && (x.fs.lookup m).isNone); let y ← ma; let r ← fm (x, y); noY r) (tMeth (He.ga K c) m (spY K (As.cons (α := Ins) r0) o fm) [] E0 to t) := by
  subst hK
  refine ⟨pe_meth ho.pe O.cl hM F hr hb .nil passL h.pa hst hpl ht, fun HF0 G HF H σ g cc hc Q kk => ?_⟩
  · obtain ⟨x, e1, hc⟩ := bind_ok hc
    obtain ⟨u, e2, hc⟩ := bind_ok hc
    obtain ⟨y, e3, hc⟩ := bind_ok hc
    obtain ⟨z, e4, hc⟩ := bind_ok hc
    have e2 := gd_ok e2
    rw [Bool.and_eq_true, decide_eq_true_eq, Option.isNone_iff_eq_none] at e2
    refine ho.sem HF0 G HF H σ g x e1 _ fun v HF1 H1 fp s1 r1 _ _ => ?_
    obtain ⟨⟨q, dx, rfl, h2⟩, _⟩ := r1
    rw [e2.1] at h2
    refine ⟨q, dx, fenc x.fs, rfl, s1.sub _ _ h2, by rw [fenc_lookup, e2.2]; rfl, ?_⟩
    refine h.sem HF0 G HF1 H1 σ (g.step s1) y e3 _ fun vs HF2 H2 s2 r2 => ?_
    rw [List.append_nil]
    refine ⟨HF2, (x, y), z, s2.sub, ⟨.ref q, vs, rfl, ⟨q, dx, rfl, by rw [e2.1]; exact s2.exF _ _ h2⟩, r2⟩, e4, ?_⟩
    cases z with
    | inl z =>
      cases pure_ok (show (pure z : M ρ) = .ok cc from hc)
      exact RetK.back kk (s1.trans s2)
    | inr z => cases hc
theorem ex_orS {W : WX} {m1 m2 : M (ρ ⊕ Exn)} {t1 t2 : TE} (h1 : EXs X W Γ e o m1 t1) (h2 : EXs X W Γ e o m2 t2) : EXs X W Γ e o (orM m1 m2) (fun σ H Q => t1 σ H Q ∨ t2 σ H Q) :=
  ⟨h1.pe.or h2.pe, fun HF0 G HF H σ g c hc Q k => by
    cases m1 with
    | ok a => exact .inl (h1.sem HF0 G HF H σ g c hc Q k)
    | error e => exact .inr (h2.sem HF0 G HF H σ g c hc Q k)⟩
end
section
variable {X : Cx} {Γ : Ctx} {S L ρ α β : Type} [Rp ρ] {o : Ow ρ} {Γo : S → Ctx} {ΓL : L → Ctx} {e f : Expr} {pos : Pos} {te tf : TE} {sts : List Stmt} {tr : TS}
/-- a, b = f(..) that may raise -/
theorem ss_asgTY [Rp α] [Inhabited α] {K : PySem.W.Frag} {E : XK} {tg : Expr} {g : TG} {Γt : α → Ctx} {js : List Nat} {m : M (α ⊕ Exn)} {k : α → M (Ctl S L (ρ ⊕ Exn))} (he : EXs X (fun cls d _ H => E cls d H) Γ e Ow.v m te) (hg : ∀ x, EG X Γ tg g x (Γt x) js) (hr : ∀ x, SS X (Γt x) sts Γo ΓL (Ow.y o (clv K) E) (k x) tr) (hs : swapsWithSole [tg] e pos.line X.env = pure false := by rfl) (hw : swappedStores [tg] e X.env = pure none := by rfl)
    (h1 : (assignEach [tg] X.env).map (·.2) = [assign tg X.env] := by rfl) (hK : X.K = K := by rfl) : SS X Γ (.Assign [tg] e pos :: sts) Γo ΓL (Ow.y o (clv K) E) (do let a ← m; raiseD a k) (tSeq (tAsg te g) tr) := by
  subst hK
  exact ⟨pss_cons (ps_asg he.pe (hg default).pg hs hw h1) (hr default).pss, fun HF0 G HF H σ gd c hc D kk => by
    obtain ⟨y, e1, hc⟩ := bind_ok hc
    refine he.sem HF0 G HF H σ gd y e1 _ ?_
    cases y with
    | inl y =>
      intro v HF1 H1 fp st r n f
      refine (hg y).sem HF0 G HF1 H1 σ v (gd.step st) r.1 _ fun σ' g' _ _ => ?_
      exact (hr y).sem HF0 G HF1 H1 σ' g' c hc D (kk.mono st.exF)
    | inr y =>
      intro HF' H' d st xd
      cases pure_ok (show (pure (.rt (.inr y)) : M (Ctl S L (ρ ⊕ Exn))) = .ok c from hc)
      exact raise_outY gd st xd kk⟩
theorem fa_flat {α : Type} [Fl α] {K : PySem.W.Frag} {H H' : Hp} : ∀ {zs : List V} {y : List α}, Fa (Rp.sh K H) zs y → Fa (Rp.sh K H') zs y
  | [], [], _ => True.intro
  | _ :: _, _ :: _, h => ⟨Fl.sh_iff.mpr (Fl.sh_iff.mp h.1), fa_flat h.2⟩
  | [], _ :: _, h => h.elim
  | _ :: _, [], h => h.elim
/-- x.extend(y), y an own list that stays -/
theorem ss_extV {α : Type} [Fl α] (i : Nat) {as : List α} {x : Str} {m : M (List α)} {k : List α → M (Ctl S L ρ)} {p apos cpos : Pos} (he : EX X (vw Γ) e Ow.v m te) (hr : ∀ l, SS X (put Γ i (.mk (Ow.l (Ow.v : Ow α)) l)) sts Γo ΓL o (k l) tr) (hl : look Γ i = .mk (Ow.l (Ow.v : Ow α)) as := by rfl) (hN : X.N[i]? = some x := by rfl) (hv : Vis X.env.scope x := by first | exact Or.inl rfl | exact Or.inr (Or.inl rfl) | exact Or.inr (Or.inr rfl)) (hd : (x == ("__debug__" : Str)) = false := by decide)
    (hcd : (x == ("__classdict__" : Str)) = false := by decide)
    (hpe : ∀ {to : TE} {tt : TA}, PE X (.Name x p) to → PA X [e] tt → PE X (.Call (.Attribute (.Name x p) "extend" apos) [e] [] cpos) (tBM X.K "list" rExtend to tt) := by exact fun h h' => pe_bm PySem.F.plainAttrs_list PySem.F.slot_list_extend PySem.F.type_list_extend mt_extend h h')
    (h1 : starEach [e] X.env = (false, eval e X.env) :: starEach [] X.env := by rfl)
    (hs : swapsWith (.Call (.Attribute (.Name x p) "extend" apos) [e] [] cpos) none pos.line X.env = pure false := by rfl) :
    SS X Γ (.Expr (.Call (.Attribute (.Name x p) "extend" apos) [e] [] cpos) pos :: sts) Γo ΓL o (do let a ← m; let l ← extM as a; k l) (tSeq (tDrop (tBM X.K "list" rExtend (tVar i) (tCons te tNil))) tr) :=
  ⟨pss_cons (ps_expr (hpe (pe_var hN hv hd hcd) (pa_cons he.pe pa_nil h1)) hs) (hr []).pss, fun HF0 G HF H σ g c hc D kk => by
    obtain ⟨y, e1, hc⟩ := bind_ok hc
    obtain ⟨l, e2, hc⟩ := bind_ok hc
    obtain ⟨w, e3, e2⟩ := bind_ok e2
    have e4 := pure_ok e2
    subst e4
    obtain ⟨v, fo, hσ, ⟨q, vs, fq, h1, h2, h3, h4⟩, nd, hfo, back⟩ := g.take hl
    subst h1 h2
    refine ⟨.ref q, hσ, .inl ⟨rfl, vs, SqL.of h3⟩, ?_⟩
    refine he.sem H H H H σ g.vw y e1 _ fun v' HF1 H1 fp st0 r n f => ?_
    have st : Step HF H HF H1 := ⟨Same.refl _, st0.exH, g.sub.trans st0.exH, fun p o a b => by rw [a] at b; cases b⟩
    obtain ⟨⟨b, zs, j1, j3, j4⟩, _⟩ := r
    subst j1
    have j5 := st0.sub _ _ j3
    have j6 : Fa (Rp.sh X.K HF) zs y := fa_flat j4
    refine ⟨q, b, vs, zs, rfl, rfl, st.exH _ _ h3, j5, by rw [h4.len, j4.len]; exact of_decide_eq_true (gd_ok e3), ?_⟩
    obtain ⟨fa, e5⟩ := h4.toFa
    subst e5
    have gg := back (u' := Ow.l (Ow.v : Ow α)) (b := as ++ y) (v' := .ref q) (f' := [q]) (H' := upd H1 q (.lst (vs ++ zs))) st (fun p w hp e => by rw [upd_ne (fun z => hp (by rw [z]; exact List.mem_cons_self ..))]; exact e)
      ⟨q, vs ++ zs, [], rfl, rfl, upd_same, Rl.append (f := []) (g := []) (Rl.ofFa fa) (Rl.ofFa j6)⟩ (by simp) (fun p hp => .inl hp)
    rw [set_self hσ] at gg
    exact (hr (as ++ y)).sem HF0 G HF _ σ gg c hc D (kk.mono st.exF)⟩
end
end Ty

/-! ## Ty49: rfind -/
namespace Ty
open PySem PySem.Spec PyProof.Rows L2
section
variable {X : Cx} {Γ : Ctx} {o e : Expr} {apos cpos : Pos} {to : TE} {t : TA}
def rRfind : V → List V → Hp → VK → Prop := fun x xs H Q => ∃ a b, x = .str a ∧ xs = [.str b] ∧ Q (.int (Txt.rfind a b)) H
theorem ex_rfind {K : PySem.W.Frag} {mo : M Str} {ma : M (Str × Unit)} (ho : EX X Γ o Ow.v mo to) (ha : EA X Γ [e] (As.cons (α := Str) As.nil) ma t) (hbase : attributeBase o "rfind" X.env (eval o X.env) = eval o X.env := by rfl)
    (hfew : ((backTo cpos (starEach [e] X.env)).all (fun x => !x.1) && (backToKw cpos (keywordEach [] X.env)).all (fun x => x.1.isSome)
      && decide ([e].length + ([] : List Keyword).length + (if ([] : List Keyword).isEmpty then 0 else 1) < 30)) = true := by rfl)
    (hline : (apos.endLine == cpos.line) = true := by rfl) (hs : starEach [e] X.env = (false, eval e X.env) :: starEach [] X.env := by rfl) (hplain : (backTo cpos (starEach [] X.env)).any (·.1) = false := by rfl) (hK : X.K = K := by rfl) :
    EX X Γ (.Call (.Attribute o "rfind" apos) [e] [] cpos) Ow.v (do let x ← mo; let y ← ma; pure (Txt.rfind x y.1)) (tBM K "str" rRfind to t) :=
  ex_tm (r := rRfind) (A := Str × Unit) (γ := Int) (w := Ow.v) (f := fun (x : Str) (y : Str × Unit) => (pure (Txt.rfind x y.1) : M Int)) PySem.F.slot_str_rfind PySem.F.type_str_rfind mt_rfind (fun HF H x vs y c s h hc Q k => by
    obtain ⟨v, rfl, z⟩ := as1 h
    cases pure_ok hc
    exact ⟨x, y.1, rfl, by rw [Fl.sh_iff.mp z]; rfl, k.flat s⟩) ho ha hbase hfew hline hs hplain hK
end
end Ty

/-! ## Ty50: values of one of several flat kinds -/
namespace Ty
open PySem PySem.Spec PyProof.Rows L2
/-- a number, a text or a truth value -/
inductive Uv where
  | i (n : Int)
  | s (x : Str)
  | b (x : Bool)
  deriving DecidableEq
def Uv.enc : Uv → V
  | .i n => .int n
  | .s x => .str x
  | .b x => .bl x
instance : Inhabited Uv := ⟨.i 0⟩
instance : Fl Uv := flOf Uv.enc
instance : Inhabited PV := ⟨.i 0⟩
instance : Fl PV := flOf PV.enc
def PV.py : PV → PyData
  | .i n => .int n
  | .s x => .str x
instance : Eqv PV := ⟨PV.py, fun u => match u with
    | .i _ => true
    | .s x => PySem.PyData.strOk x, 0, fun {K H v a} h => by
    cases a with
    | i n => cases h; exact .int _
    | s x => cases h; exact .str _, fun a h => by
    cases a with
    | i n => rfl
    | s x => simpa [PV.py, PyData.canLay0] using h, fun a => by cases a <;> simp [PV.py, PyData.depth], fun a b => by
    cases a <;> cases b <;> simp only [PV.py, PyData.eqv]
    · rename_i x y; by_cases h : x = y <;> simp [h]
    · simp
    · simp
    · rename_i x y; by_cases h : x = y <;> simp [h]⟩
def uvI (u : Uv) : M Int := match u with
  | .i n => pure n
  | _ => no
def uvS (u : Uv) : M Str := match u with
  | .s n => pure n
  | _ => no
def uvB (u : Uv) : M Bool := match u with
  | .b n => pure n
  | _ => no
def uvP (u : Uv) : M PV := match u with
  | .i n => pure (.i n)
  | .s n => pure (.s n)
  | _ => no
def uvPs : List Uv → M (List PV)
  | [] => pure []
  | u :: us => do let a ← uvP u; let b ← uvPs us; pure (a :: b)
def toPV (x : Tu Uv) : M (Tu PV) := do let a ← uvPs x.l; pure ⟨a⟩
section
variable {X : Cx} {Γ : Ctx} {e : Expr} {te : TE}
theorem ex_uvOfI {m : M Int} (h : EX X Γ e Ow.v m te) : EX X Γ e Ow.v (do let a ← m; pure (Uv.i a)) te :=
  ⟨h.pe, fun HF0 G HF H σ g c hc Q k => by
    obtain ⟨i, e1, e2⟩ := bind_ok hc
    cases pure_ok e2
    exact h.sem HF0 G HF H σ g _ e1 Q fun v HF' H' fp st r n f => k v HF' H' fp st ⟨r.1, r.2⟩ n f⟩
theorem ex_uvOfS {m : M Str} (h : EX X Γ e Ow.v m te) : EX X Γ e Ow.v (do let a ← m; pure (Uv.s a)) te :=
  ⟨h.pe, fun HF0 G HF H σ g c hc Q k => by
    obtain ⟨i, e1, e2⟩ := bind_ok hc
    cases pure_ok e2
    exact h.sem HF0 G HF H σ g _ e1 Q fun v HF' H' fp st r n f => k v HF' H' fp st ⟨r.1, r.2⟩ n f⟩
theorem ex_uvOfB {m : M Bool} (h : EX X Γ e Ow.v m te) : EX X Γ e Ow.v (do let a ← m; pure (Uv.b a)) te :=
  ⟨h.pe, fun HF0 G HF H σ g c hc Q k => by
    obtain ⟨i, e1, e2⟩ := bind_ok hc
    cases pure_ok e2
    exact h.sem HF0 G HF H σ g _ e1 Q fun v HF' H' fp st r n f => k v HF' H' fp st ⟨r.1, r.2⟩ n f⟩
theorem ex_pvOfI {m : M Int} (h : EX X Γ e Ow.v m te) : EX X Γ e Ow.v (do let a ← m; pure (PV.i a)) te :=
  ⟨h.pe, fun HF0 G HF H σ g c hc Q k => by
    obtain ⟨i, e1, e2⟩ := bind_ok hc
    cases pure_ok e2
    exact h.sem HF0 G HF H σ g _ e1 Q fun v HF' H' fp st r n f => k v HF' H' fp st ⟨r.1, r.2⟩ n f⟩
theorem ex_pvOfS {m : M Str} (h : EX X Γ e Ow.v m te) : EX X Γ e Ow.v (do let a ← m; pure (PV.s a)) te :=
  ⟨h.pe, fun HF0 G HF H σ g c hc Q k => by
    obtain ⟨i, e1, e2⟩ := bind_ok hc
    cases pure_ok e2
    exact h.sem HF0 G HF H σ g _ e1 Q fun v HF' H' fp st r n f => k v HF' H' fp st ⟨r.1, r.2⟩ n f⟩
theorem ex_uvI {m : M Uv} (h : EX X Γ e Ow.v m te) : EX X Γ e Ow.v (do let a ← m; uvI a) te :=
  ⟨h.pe, fun HF0 G HF H σ g c hc Q k => by
    obtain ⟨i, e1, e2⟩ := bind_ok hc
    cases i with
    | i n =>
      cases pure_ok (show (pure n : M Int) = .ok c from e2)
      exact h.sem HF0 G HF H σ g _ e1 Q fun v HF' H' fp st r n f => k v HF' H' fp st ⟨r.1, r.2⟩ n f
    | s n => cases e2
    | b n => cases e2⟩
theorem ex_uvS {m : M Uv} (h : EX X Γ e Ow.v m te) : EX X Γ e Ow.v (do let a ← m; uvS a) te :=
  ⟨h.pe, fun HF0 G HF H σ g c hc Q k => by
    obtain ⟨i, e1, e2⟩ := bind_ok hc
    cases i with
    | s n =>
      cases pure_ok (show (pure n : M Str) = .ok c from e2)
      exact h.sem HF0 G HF H σ g _ e1 Q fun v HF' H' fp st r n f => k v HF' H' fp st ⟨r.1, r.2⟩ n f
    | i n => cases e2
    | b n => cases e2⟩
theorem ex_uvB {m : M Uv} (h : EX X Γ e Ow.v m te) : EX X Γ e Ow.v (do let a ← m; uvB a) te :=
  ⟨h.pe, fun HF0 G HF H σ g c hc Q k => by
    obtain ⟨i, e1, e2⟩ := bind_ok hc
    cases i with
    | b n =>
      cases pure_ok (show (pure n : M Bool) = .ok c from e2)
      exact h.sem HF0 G HF H σ g _ e1 Q fun v HF' H' fp st r n f => k v HF' H' fp st ⟨r.1, r.2⟩ n f
    | i n => cases e2
    | s n => cases e2⟩
theorem uvP_enc {u : Uv} {p : PV} (h : uvP u = .ok p) : u.enc = p.enc := by
  cases u with
  | i n => cases pure_ok (show (pure (PV.i n) : M PV) = .ok p from h); rfl
  | s n => cases pure_ok (show (pure (PV.s n) : M PV) = .ok p from h); rfl
  | b n => cases h
theorem uvPs_fa {K : PySem.W.Frag} {H : Hp} : ∀ {us : List Uv} {ps : List PV} {vs : List V}, uvPs us = .ok ps → Fa (Rp.sh K H) vs us → Fa (Rp.sh K H) vs ps
  | [], ps, [], h, _ => by cases pure_ok (show (pure [] : M (List PV)) = .ok ps from h); exact True.intro
  | [], _, _ :: _, _, h => h.elim
  | _ :: _, _, [], _, h => h.elim
  | u :: us, ps, v :: vs, h, hf => by
    obtain ⟨a, e1, h⟩ := bind_ok h
    obtain ⟨b, e2, h⟩ := bind_ok h
    cases pure_ok h
    refine ⟨Fl.sh_iff.mpr ?_, uvPs_fa e2 hf.2⟩
    have := Fl.sh_iff.mp hf.1
    rw [this]
    exact uvP_enc e1
theorem ex_toPV {m : M (Tu Uv)} (h : EX X Γ e Ow.v m te) : EX X Γ e Ow.v (do let a ← m; toPV a) te :=
  ⟨h.pe, fun HF0 G HF H σ g c hc Q k => by
    obtain ⟨i, e1, e2⟩ := bind_ok hc
    obtain ⟨ps, e3, e2⟩ := bind_ok e2
    cases pure_ok e2
    refine h.sem HF0 G HF H σ g _ e1 Q fun v HF' H' fp st r n f => k v HF' H' fp st ⟨?_, r.2⟩ n f
    obtain ⟨q, vs, h1, h2, h3⟩ := r.1
    exact ⟨q, vs, h1, h2, uvPs_fa e3 h3⟩⟩
end
end Ty

/-! ## Ty51: sorted(text) -/
namespace L2
open PySem PySem.Spec PyProof.Rows
section
variable {X : Cx}
def rSortTx : List V → Hp → VK → Prop := fun xs H Q => ∃ b : Str, xs = [.str b] ∧ b.cps.size < 64 ∧
  ∀ p, H p = none → Q (.ref p) (upd H p (.lst ((Ty.tsort (b.cps.toList.map Ty.sgS)).map V.str)))
theorem cr_sortTx (hcalm : X.calm = true) : CallR X (.builtin "sorted") rSortTx := by
  intro pins s σ H xs us Q I r q
  obtain ⟨b, ex, h64, q⟩ := q
  subst ex
  obtain ⟨u, eu, rx⟩ := vals1 r
  subst eu
  obtain ⟨t, rfl⟩ := rx
  refine Calls.call_function_entry PyProof.Rows.kind_sorted PyProof.Rows.plain_sorted PyProof.Rows.entry_sorted (PyProof.Rows.args_sorted1 _) ?_
  unfold Builtin.«sorted»
  refine wpAny_bind (m := checkCount "sorted" 1 1 _) (wpAny_pure ?_)
  refine wpAny_bind (wpAny_collect_str (A := X.A.in1) (I.ok.hd hcalm) b t (fun s' acc hk g1 d1 o1 hacc => ?_) (by rw [sizeLine_eq]; omega))
  have hal : acc.toList.length = b.cps.size := by rw [Array.length_toList, hacc.1]
  have hS : StrsAre acc.toList (b.cps.toList.map Ty.sgS) := strs_at (by rw [hal, List.length_map, Array.length_toList]) fun j v e => by
    obtain ⟨c, t', hc, e2⟩ := hacc.2 j v (by rw [← Array.getElem?_toList]; exact e)
    exact ⟨Ty.sgS c, t', by simp [hc], e2⟩
  obtain ⟨h', g2, d', tk, os'⟩ := s'
  obtain rfl : g2 = s.gens := g1
  obtain rfl : d' = s.drawn := d1
  obtain rfl : os' = s.os := o1
  have I1 : Inv X pins σ H { s with heap := h', toks := tk } := I.kept hk
  refine wpAny_bind (wpAny_newList ?_ (by rw [hal, sizeLine_eq]; omega))
  have hoL : (h'.push (seqObj "list" acc.toList.toArray 0)).get? h'.objs.size = some (seqObj "list" acc.toList.toArray 0) := Heap.get?_push_size _ rfl
  show wpAny _ _ _ _ _ { s with heap := h'.push (seqObj "list" acc.toList.toArray 0), toks := tk }
  refine wpAny_bind (wpAny_holding (wpAny_call_entry PyProof.Rows.slot_list_sort ⟨_, hoL, rfl⟩ PyProof.Rows.entry_list_sort
    (list_sort_treeK strKind_oneLt (s := { s with heap := h'.push (seqObj "list" acc.toList.toArray 0), toks := tk }) hoL hS.keysOf (fun v₁ v₂ rest e => keyKind_strs (by rw [← e]; exact hS)) (by rw [hal]; exact h64) fun st' hp hs => ⟨_, rfl, ?_⟩)
    (PyProof.Rows.args_list_sort _)))
  obtain ⟨ys, g1, g2, g3⟩ := sorted_out_str hS hp hs
  obtain ⟨e', he'⟩ := PyProof.Rows.sortedHeap_at (vs := acc.toList) (out := (arrOf st').map (·.2)) hoL
  have hlen : (ys.map V.str).length ≤ sizeLine := by
    rw [List.length_map, g2.length_eq, List.length_map, Array.length_toList, sizeLine_eq]
    omega
  have ey := Ty.tsort_eq g2 g3
  refine wpAny_pure ⟨_, rfl, .ref h'.objs.size, upd H h'.objs.size (.lst (ys.map V.str)), I1.laid (t' := tk) (fun b u e => ?_) (Nat.le_refl _)
    (show ObjOk X.prog X.w _ _ _ (.lst (ys.map V.str)) from ⟨hlen, ((arrOf st').map (·.2)).toList, e', vals_of_strs g1, by rw [Array.toArray_toList]; exact he'⟩), rfl, by rw [ey]; exact q _ (I1.hok.fresh (Nat.le_refl _))⟩
  have hb : b < h'.objs.size := Heap.lt_size e
  rw [PyProof.Rows.sortedHeap_old (Nat.ne_of_lt hb) (by rw [size_push']; exact Nat.lt_succ_of_lt hb)]
  exact Heap.get?_push_of_some _ e
end
end L2
namespace Ty
open PySem PySem.Spec PyProof.Rows L2
section
variable {X : Cx} {Γ : Ctx} {e : Expr} {te : TE} {p pos : Pos}
def sortXM (x : Str) : M (List Str) := do gd (decide (x.cps.size < 64)); pure (tsort (x.cps.toList.map sgS))
theorem ex_sortTx {m : M Str} (hc : X.calm = true) (hm : X.mg "sorted" = none) (h : EX X Γ e Ow.v m te) (hg : Gl X "sorted" := by rfl) (h1 : starEach [e] X.env = (false, eval e X.env) :: starEach [] X.env := by rfl) : EX X Γ (.Call (.Name "sorted" p) [e] [] pos) (Ow.l (Ow.v : Ow Str)) (do let a ← m; sortXM a) (tCB rSortTx (tCons te tNil)) := by
  exact ex_b1 (cr_sortTx hc) (show SemC1 X.K rSortTx (Ow.l Ow.v) (fun (a : Str) => sortXM a) from fun HF H v a c s hv hc Q k => by
    obtain ⟨u, e1, hc⟩ := bind_ok hc
    cases pure_ok hc
    subst hv
    exact ⟨a, rfl, of_decide_eq_true (gd_ok e1), fun p hn => k.lst s (Fa.flat.mpr rfl) hn⟩) (by decide +kernel) hm h hg (h1 := h1)
end
end Ty
/-! ### range with a step -/
namespace Ty
open PySem PySem.Spec PyProof.Rows L2
def rangeC (lo c : Int) (n : Nat) : List Int := (List.range n).map fun (k : Nat) => lo + (k : Int) * c
theorem rangeC_len (lo c : Int) (n : Nat) : (rangeC lo c n).length = n := by unfold rangeC; rw [List.length_map, List.length_range]
theorem rangeC_get {lo c x : Int} {n i : Nat} (h : (rangeC lo c n)[i]? = some x) : i < n ∧ x = lo + i * c := by
  unfold rangeC at h
  rw [List.getElem?_map] at h
  cases q : (List.range n)[i]? with
  | none => rw [q] at h; cases h
  | some j =>
    rw [q] at h
    obtain ⟨hlt, e⟩ := List.getElem?_eq_some_iff.mp q
    rw [List.getElem_range] at e
    rw [List.length_range] at hlt
    cases h
    subst e
    exact ⟨hlt, rfl⟩
theorem walks_rangeC {K : PySem.W.Frag} {HF : Hp} (lo c : Int) (n : Nat) : Walks K (Itc lo c n) HF (rangeC lo c n) := fun HF2 H2 i s1 s2 => by
  refine ⟨fun x hx => ?_, fun hle => by rw [rangeC_len] at hle; exact hle⟩
  obtain ⟨h1, h2⟩ := rangeC_get hx
  refine ⟨h1, fun v H3 ⟨e, y⟩ => ?_⟩
  subst e
  exact ⟨HF2, Step.refl s2, by rw [y, h2]; rfl⟩
def rgC (i j c : Int) : Bool := decide (c ≠ 0) && decide (c.natAbs < 1073741824) && Builtin.Range.small i j c && decide (0 ≤ Builtin.Range.rangeSize i j c)
def range3 (i j c : Int) : M (List Int) := do gd (rgC i j c); pure (rangeC i c (Builtin.Range.rangeSize i j c).toNat)
section
variable {X : Cx} {Γ : Ctx} {a b c tg : Expr} {ta tb tc : TE} {p pos : Pos}
theorem ei_range3 {m n o : M Int} (hm : X.mg "range" = none) (h : EX X Γ a Ow.v m ta) (h' : EX X Γ b Ow.v n tb) (h'' : EX X Γ c Ow.v o tc) (hg : Gl X "range" := by rfl) (hs : starEach [a, b, c] X.env = (false, eval a X.env) :: starEach [b, c] X.env := by rfl) (hs2 : starEach [b, c] X.env = (false, eval b X.env) :: starEach [c] X.env := by rfl) (hs3 : starEach [c] X.env = (false, eval c X.env) :: starEach [] X.env := by rfl)
    (hpl : (backTo pos (starEach [b, c] X.env)).any (·.1) = false := by rfl) : EI X Γ tg (.Call (.Name "range" p) [a, b, c] [] pos) (do let a ← m; let b ← n; let c ← o; range3 a b c) (iRng3 (tCons ta (tCons tb (tCons tc tNil)))) :=
  ⟨pi_range3 hg hm (pa_cons h.pe (pa_cons h'.pe (pa_cons h''.pe pa_nil hs3) hs2) hs) hs hpl, fun HF0 G HF H σ g xs hc R k => by
    obtain ⟨x, e1, hc⟩ := bind_ok hc
    obtain ⟨y, e2, hc⟩ := bind_ok hc
    obtain ⟨z, e2', hc⟩ := bind_ok hc
    obtain ⟨u, e3, hc⟩ := bind_ok hc
    cases pure_ok hc
    have e4 := gd_ok e3
    unfold rgC at e4
    simp only [Bool.and_eq_true, decide_eq_true_eq] at e4
    refine h.sem HF0 G HF H σ g x e1 _ fun v HF1 H1 fp s1 r1 _ _ => ?_
    refine h'.sem HF0 G HF1 H1 σ (g.step s1) y e2 _ fun w HF2 H2 fp s2 r2 _ _ => ?_
    refine h''.sem HF0 G HF2 H2 σ ((g.step s1).step s2) z e2' _ fun w' HF3 H3 fp s3 r3 _ _ => ⟨x, y, z, _, by rw [Fl.sh_iff.mp r1.1, Fl.sh_iff.mp r2.1, Fl.sh_iff.mp r3.1]; rfl, ⟨e4.1.1.1, e4.1.1.2, e4.1.2, by rw [Int.toNat_of_nonneg e4.2]⟩, k _ HF3 H3 ((s1.trans s2).trans s3) (walks_rangeC x z _)⟩⟩
end
end Ty
/-! ### a name that a loop may have bound -/
namespace Ty
open PySem PySem.Spec PyProof.Rows L2
def opS {α : Type} [Rp α] (w : Ow α) : Option α → Sl
  | none => .un
  | some x => .mk w x
def optM {α β : Type} (x : Option α) (k : α → M β) : M β := match x with
  | none => no
  | some y => k y
theorem put_look : ∀ (Γ : Ctx) (i : Nat), put Γ i (look Γ i) = Γ
  | [], _ => rfl
  | _ :: _, 0 => rfl
  | s :: Γ, i + 1 => congrArg (s :: ·) (put_look Γ i)
section
variable {X : Cx} {Γ : Ctx} {S L ρ α : Type} [Rp ρ] {o : Ow ρ} {Γo : S → Ctx} {ΓL : L → Ctx} {sts : List Stmt} {tr : TS}
theorem ss_opt [Rp α] [Inhabited α] (i : Nat) {w : Ow α} {x : Option α} {k : α → M (Ctl S L ρ)} (hl : look Γ i = opS w x) (h : ∀ y, SS X (put Γ i (.mk w y)) sts Γo ΓL o (k y) tr) : SS X Γ sts Γo ΓL o (optM x k) tr := by
  cases x with
  | none => exact ⟨(h default).pss, fun HF0 G HF H σ g c hc => nomatch hc⟩
  | some y =>
    have q := h y
    have e : put Γ i (.mk w y) = Γ := by
      rw [show Sl.mk w y = look Γ i from hl.symm]
      exact put_look Γ i
    rw [e] at q
    exact q
end
end Ty

/-! ## Ty52: dict(enumerate(list)), dict(d), x = d.pop(k), d.pop(k), defs that call themselves, a default None -/
namespace L2
open PySem PySem.Spec PyProof.Rows
def enumK (xs : List V) : List (Key × V) := xs.zipIdx.map fun x => (Sum.inl (x.2 : Int), x.1)
theorem enumK_len (xs : List V) : (enumK xs).length = xs.length := by unfold enumK; rw [List.length_map, List.length_zipIdx]
theorem mergeK_new : ∀ (more acc : List (Key × V)), (more.map (·.1)).Nodup → (∀ p ∈ more, ∀ q ∈ acc, q.1 ≠ p.1) → mergeK acc more = acc ++ more
  | [], acc, _, _ => (List.append_nil acc).symm
  | p :: r, acc, hn, hd => by
    have h1 : putK acc p.1 p.2 = acc ++ [p] := by
      unfold putK
      rw [if_neg]
      intro h
      obtain ⟨q, hq, e⟩ := List.any_eq_true.mp h
      exact hd p List.mem_cons_self q hq (of_decide_eq_true e)
    have hn := List.nodup_cons.mp hn
    show mergeK (putK acc p.1 p.2) r = _
    rw [h1, mergeK_new r _ hn.2 fun p' hp' q hq e => ?_, List.append_assoc]
    · rfl
    · rcases List.mem_append.mp hq with z | z
      · exact hd p' (List.mem_cons_of_mem _ hp') q z e
      · rw [List.mem_singleton.mp z] at e
        exact hn.1 (List.mem_map.mpr ⟨p', hp', e.symm⟩)
theorem enumK_keys (xs : List V) : ((enumK xs).map (·.1)).Nodup := by
  unfold enumK
  rw [List.map_map, List.nodup_iff_pairwise_ne, List.pairwise_map, List.pairwise_iff_getElem]
  intro i j hi hj hij e
  rw [List.getElem_zipIdx, List.getElem_zipIdx] at e
  simp at e
  omega
theorem enumK_rel : ∀ (k : Nat) {xs : List V} {us : List Value}, Vals xs us → KV ((xs.zipIdx k).map fun x => ((Sum.inl (x.2 : Int) : Key), x.1)) ((us.zipIdx k).map fun x => ((Sum.inl (x.2 : Int) : Key), x.1)) := by
  intro k xs us r
  induction r generalizing k with
  | nil => exact .nil
  | cons h t ih => exact .cons ⟨rfl, h⟩ (ih (k + 1))
def tDEnum (K : PySem.W.Frag) (ta : TE) : TE := fun σ H Q => ta σ H fun x H1 => ∃ (a : Addr) (xs : List V), x = .ref a ∧ SqL K H1 a xs ∧ ∀ p, H1 p = none → Q (.ref p) (upd H1 p (.dK (enumK xs)))
section
variable {X : Cx} {a : Expr} {p p2 q pos : Pos} {ta : TE}
theorem pe_dEnum (hg : Gl X "dict") (hm : X.mg "dict" = none) (hg2 : Gl X "enumerate") (hm2 : X.mg "enumerate" = none) (ha : PE X a ta) (hc : X.calm = true := by rfl)
    (na : starEach [a] X.env = (false, eval a X.env) :: starEach [] X.env := by rfl) : PE X (.Call (.Name "dict" p) [.Call (.Name "enumerate" p2) [a] [] q] [] pos) (tDEnum X.K ta) := by
  refine ⟨fun pins s σ H Q I h => ?_⟩
  refine Call_ (ld_blt (u := .type "dict") I hg hm (by decide +kernel) ?_)
  refine PyProof.Rows.callWith_type1 (PyProof.Rows.args_cons ?_ rfl) rfl rfl
  refine Call_ (ld_blt (u := .type "enumerate") I hg2 hm2 (by decide +kernel) ?_)
  refine PyProof.Rows.callWith_type1 (PyProof.Rows.args_cons (thn (ha.run pins s σ H _ I h) fun v s1 ⟨x, H1, I1, r1, q1⟩ => PyProof.Rows.args_nil ?_) na) na rfl
  obtain ⟨l, xs, rfl, hq, q1⟩ := q1
  cases r1
  obtain ⟨its, r, pl, hz⟩ := I1.list hq
  have hll : l < s1.heap.objs.size := pl.lt
  have hzl : its.length = xs.length := r.length.symm
  refine call_enumerate_list pl.isList fun h' he hit hsz hk => PyProof.Rows.args_nil ?_
  have I2 : Inv X pins σ H1 { s1 with heap := h' } := I1.kept (t' := s1.toks) hk
  have pl2 : h'.IsList l its.toArray := pl.isList.at fun o e => hk _ o e
  refine PySem.call_dict_pairs (knd := mixKind X.prog X.w) (kvs := its.zipIdx.map fun x => ((Sum.inl (x.2 : Int) : Key), x.1)) (PairArg.enumerate (s1.heap.objs.size + 1) s1.heap.objs.size l (Nat.succ_ne_self _) (Nat.ne_of_lt (Nat.lt_succ_of_lt hll)) (Nat.ne_of_lt hll) its.toArray) (I2.ok.hd hc) ⟨⟨.none, he⟩, hit, pl2⟩
    ⟨by simp, fun i key v ⟨⟨t, e1⟩, e2⟩ => ⟨Sum.inl (i : Int), by
      rw [List.getElem?_map, List.getElem?_zipIdx]
      rw [List.getElem?_toArray] at e2
      rw [e2]
      simp, by rw [e1]; exact kV_is (k := Sum.inl (i : Int)) ⟨t, rfl⟩⟩⟩ (by rw [List.size_toArray]; omega) fun h2 tk hd hk2 => ?_
  have hm0 : (h'.objs.size == sysModules) = false := beq_eq_false_iff_ne.mpr (Nat.ne_of_gt (Nat.lt_of_lt_of_le I1.big (by rw [hsz]; omega)))
  have e0 : mergeK [] (enumK xs) = enumK xs := by
    rw [mergeK_new _ _ (enumK_keys xs) fun p _ q hq => absurd hq List.not_mem_nil]; rfl
  have kv := KV.merge (enumK_rel 0 r) (show KV [] [] from .nil)
  rw [show mergeK [] ((xs.zipIdx 0).map fun x => ((Sum.inl (x.2 : Int) : Key), x.1)) = enumK xs from e0] at kv
  have J : Inv X pins σ H1 { s1 with heap := h2, toks := tk } := I1.kept (t' := tk) fun b o e => hk2 b o (fun z => by
    have := Heap.lt_size e
    simp only [List.mem_cons, List.not_mem_nil, or_false] at z
    rcases z with z | z
    · rw [z] at this; exact absurd this (Nat.not_lt.mpr (Nat.le_succ _))
    · rw [z] at this; exact Nat.lt_irrefl _ this) (hk b o e)
  refine ⟨.ref h'.objs.size, upd H1 h'.objs.size (.dK (enumK xs)), ?_, rfl, q1 _ (I2.hok.fresh (Nat.le_refl _))⟩
  exact I1.laid (s := s1) (t' := tk) (h' := h2) (fun b o e => hk2 b o (fun z => by
    have := Heap.lt_size e
    simp only [List.mem_cons, List.not_mem_nil, or_false] at z
    rcases z with z | z
    · rw [z] at this; exact absurd this (Nat.not_lt.mpr (Nat.le_succ _))
    · rw [z] at this; exact Nat.lt_irrefl _ this) (hk b o e)) (by rw [hsz]; omega) (show ObjOk X.prog X.w _ _ _ (.dK (enumK xs)) from ⟨by rw [enumK_len]; omega, hm0, _, kv, hd⟩)
end
end L2
namespace Ty
open PySem PySem.Spec PyProof.Rows L2
section
variable {X : Cx} {Γ : Ctx} {S L ρ α β κ : Type} [Rp ρ] {o : Ow ρ} {Γo : S → Ctx} {ΓL : L → Ctx} {a b e : Expr} {pos p p1 p2 q apos cpos : Pos} {ta tb te : TE} {sts : List Stmt} {tr : TS}
theorem enumFk [Rp α] {R : V → α → Prop} : ∀ (k : Nat) {us : List V} {as : List α}, Fa R us as → Fk (κ := Int) R ((us.zipIdx k).map fun x => ((Sum.inl (x.2 : Int) : Key), x.1)) ((as.zipIdx k).map fun x => ((x.2 : Int), x.1))
  | _, [], [], _ => trivial
  | k, u :: us, a :: as, ⟨x, y⟩ => ⟨⟨rfl, x⟩, enumFk (k + 1) y⟩
  | _, [], _ :: _, h => h.elim
  | _, _ :: _, [], h => h.elim
theorem ex_dEnum {K : PySem.W.Frag} [Rp α] {m : M (List α)} (hc : X.calm = true) (hm : X.mg "dict" = none) (hm2 : X.mg "enumerate" = none) (h : EX X Γ a Ow.v m ta) (hg : Gl X "dict" := by rfl) (hg2 : Gl X "enumerate" := by rfl) (na : starEach [a] X.env = (false, eval a X.env) :: starEach [] X.env := by rfl) (hK : X.K = K := by rfl) :
    EX X Γ (.Call (.Name "dict" p) [.Call (.Name "enumerate" p2) [a] [] q] [] pos) (Ow.d (κ := Int) (β := α)) (do let a ← m; pure (⟨enumL a⟩ : Dc Int α)) (tDEnum K ta) := by
  subst hK
  exact ⟨pe_dEnum hg hm hg2 hm2 h.pe hc na, fun HF0 G HF H σ g c hcc Q k => by
    obtain ⟨x, e1, hcc⟩ := bind_ok hcc
    cases pure_ok hcc
    refine h.sem HF0 G HF H σ g x e1 _ fun v HF1 H1 fp s1 r1 _ _ => ?_
    obtain ⟨⟨q, us, e, h1, h2⟩, _⟩ := r1
    subst e
    refine ⟨q, us, rfl, SqL.of (s1.sub _ _ h1), fun p hp => ?_⟩
    have hp0 : ∀ (M : Hp), Same M H1 → M p = none := fun M sm => by
      cases z : M p with
      | none => rfl
      | some u =>
        have := sm _ _ z
        rw [hp] at this; cases this
    exact k (.ref p) HF1 _ [p] (s1.trans (Step.own s1.sub hp)) ⟨p, _, rfl, rfl, upd_same, enumFk 0 h2⟩ (by simp) fun b hb => by
      rw [List.mem_singleton.mp hb]
      exact ⟨hp0 H s1.exH, hp0 HF1 s1.sub⟩⟩
def rDictD : List V → Hp → VK → Prop := fun xs H Q => ∃ (a : Addr) (kvs : List (Key × V)), xs = [.ref a] ∧ Rd H a (.dK kvs) ∧ ∀ p, H p = none → Q (.ref p) (upd H p (.dK kvs))
theorem ex_dCopy [Ky κ] [DecidableEq κ] [Rp β] {m : M (Dc κ β)} (hm : X.mg "dict" = none) (h : EX X Γ a Ow.v m ta) (hg : Gl X "dict" := by rfl) (na : starEach [a] X.env = (false, eval a X.env) :: starEach [] X.env := by rfl) (hpl : (backTo pos (starEach [] X.env)).any (·.1) = false := by rfl) :
    EX X Γ (.Call (.Name "dict" p) [a] [] pos) (Ow.d (κ := κ) (β := β)) (m >>= fun a => pure a) (tCB rDictD (tCons ta tNil)) :=
  ⟨pe_callTy call_dictD hg hm (by decide +kernel) (pa_cons h.pe pa_nil na) (by decide) (by decide) na hpl, fun HF0 G HF H σ g c hcc Q k => by
    obtain ⟨x, e1, hcc⟩ := bind_ok hcc
    cases pure_ok hcc
    refine h.sem HF0 G HF H σ g _ e1 _ fun v HF1 H1 fp s1 r1 _ _ => ?_
    obtain ⟨⟨q, kvs, e, h1, h2⟩, _⟩ := r1
    subst e
    refine ⟨q, kvs, rfl, .inl (s1.sub _ _ h1), fun p hp => ?_⟩
    have hp0 : ∀ (M : Hp), Same M H1 → M p = none := fun M sm => by
      cases z : M p with
      | none => rfl
      | some u =>
        have := sm _ _ z
        rw [hp] at this; cases this
    exact k (.ref p) HF1 _ [p] (s1.trans (Step.own s1.sub hp)) ⟨p, kvs, rfl, rfl, upd_same, h2⟩ (by simp) fun b hb => by
      rw [List.mem_singleton.mp hb]
      exact ⟨hp0 H s1.exH, hp0 HF1 s1.sub⟩⟩
def dpopM [DecidableEq κ] (d : Dc κ β) (k : κ) : M (β × Dc κ β) := match dget d.l k with
  | some v => pure (v, ⟨ddrop d.l k⟩)
  | none => no
theorem ss_asgDpop [Ky κ] [DecidableEq κ] [Rp β] [Inhabited β] (i j : Nat) {d : Dc κ β} {dn x : Str} {mk : M κ} {k : β × Dc κ β → M (Ctl S L ρ)} {pos' : Pos} (hN : X.N.Nodup) (hk : EX X Γ b Ow.v mk tb)
    (hr : ∀ q : β × Dc κ β, SS X (put (put Γ i (.mk (Ow.d (κ := κ) (β := β)) q.2)) j (.mk (Ow.v : Ow β) q.1)) sts Γo ΓL o (k q) tr)
    (hl : look Γ i = .mk (Ow.d (κ := κ) (β := β)) d := by rfl) (hNi : X.N[i]? = some dn := by rfl) (hv : Vis X.env.scope dn := by first | exact Or.inl rfl | exact Or.inr (Or.inl rfl) | exact Or.inr (Or.inr rfl)) (hd : (dn == ("__debug__" : Str)) = false := by decide) (hcd : (dn == ("__classdict__" : Str)) = false := by decide)
    (hlt : Nat.blt j Γ.length = true := by rfl) (hi : X.N[j]? = some x := by rfl) (hx : Loc X.env.scope x := by first | exact .inl rfl | exact .inr rfl)
    (hm : M1 X (.Name dn p) "pop" apos b cpos := by exact ⟨rfl, rfl, rfl, rfl⟩)
    (hs : swapsWith (.Call (.Attribute (.Name dn p) "pop" apos) [b] [] cpos) (some (.Name x pos')) pos.line X.env = pure false := by rfl) (hf : X.fn x = true ∨ X.env.scope.names.lookup x = some .local := by first | exact .inl rfl | exact .inr rfl) :
    SS X Γ (.Assign [.Name x pos'] (.Call (.Attribute (.Name dn p) "pop" apos) [b] [] cpos) pos :: sts) Γo ΓL o (do let y ← mk; let q ← dpopM d y; k q) (tSeq (tAsg (tDPop1 (tVar i) tb) (gName j)) tr) :=
  ⟨pss_cons (ps_set hN hi hx (pe_dpop1 (pe_var hNi hv hd hcd) hk.pe hm) hs hf) (hr default).pss, fun HF0 G HF H σ g c hc D kk => by
    obtain ⟨ix, e1, hc⟩ := bind_ok hc
    obtain ⟨qq, e3, hc⟩ := bind_ok hc
    obtain ⟨v, fo, hσ, ⟨q, kvs, h1, h2, h3, h4⟩, nd, hfo, back⟩ := g.take hl
    subst h1 h2
    refine ⟨.ref q, hσ, q, rfl, .inl ⟨kvs, .inl h3⟩, ?_⟩
    refine hk.sem HF0 G HF H σ g ix e1 _ fun v1 HF1 H1 fp st r _ _ => ?_
    have h3' := st.exH _ _ h3
    unfold dpopM at e3
    cases hy : dget d.l ix with
    | none => rw [hy] at e3; cases e3
    | some y =>
      rw [hy] at e3
      cases pure_ok (show (pure (y, (⟨ddrop d.l ix⟩ : Dc κ β)) : M _) = .ok qq from e3)
      obtain ⟨v'', hv'', ry⟩ := (h4.get ix).1 y hy
      refine ⟨kvs, Ky.key ix, v'', h3', by rw [Fl.sh_iff.mp r.1, ← Ky.kv], hv'', ?_⟩
      have gg := back (u' := Ow.d (κ := κ) (β := β)) (b := ⟨ddrop d.l ix⟩) (v' := .ref q) (f' := [q]) (H' := upd H1 q (.dK (dropK kvs (Ky.key ix)))) st (fun p w hp e => by rw [upd_ne (fun z => hp (by rw [z]; exact List.mem_singleton.mpr rfl))]; exact e)
        ⟨q, _, rfl, rfl, upd_same, Fk.drop ix (Fk.mono (fun _ _ h => Rp.mono st.exF h) h4)⟩ (by simp) (fun p hp => .inl hp)
      rw [set_self hσ] at gg
      exact (hr (y, ⟨ddrop d.l ix⟩)).sem HF0 G HF1 _ _ (gg.putv (by rw [put_len]; exact of_blt hlt) (Rp.mono st.exF ry)) c hc D (kk.mono st.exF)⟩
theorem ss_dpop [Ky κ] [DecidableEq κ] [Rp β] [Inhabited β] (i : Nat) {d : Dc κ β} {dn : Str} {mk : M κ} {k : β × Dc κ β → M (Ctl S L ρ)} (hk : EX X Γ b Ow.v mk tb)
    (hr : ∀ q : β × Dc κ β, SS X (put Γ i (.mk (Ow.d (κ := κ) (β := β)) q.2)) sts Γo ΓL o (k q) tr)
    (hl : look Γ i = .mk (Ow.d (κ := κ) (β := β)) d := by rfl) (hNi : X.N[i]? = some dn := by rfl) (hv : Vis X.env.scope dn := by first | exact Or.inl rfl | exact Or.inr (Or.inl rfl) | exact Or.inr (Or.inr rfl)) (hd : (dn == ("__debug__" : Str)) = false := by decide) (hcd : (dn == ("__classdict__" : Str)) = false := by decide)
    (hm : M1 X (.Name dn p) "pop" apos b cpos := by exact ⟨rfl, rfl, rfl, rfl⟩)
    (hs : swapsWith (.Call (.Attribute (.Name dn p) "pop" apos) [b] [] cpos) none pos.line X.env = pure false := by rfl) :
    SS X Γ (.Expr (.Call (.Attribute (.Name dn p) "pop" apos) [b] [] cpos) pos :: sts) Γo ΓL o (do let y ← mk; let q ← dpopM d y; k q) (tSeq (tDrop (tDPop1 (tVar i) tb)) tr) :=
  ⟨pss_cons (ps_expr (pe_dpop1 (pe_var hNi hv hd hcd) hk.pe hm) hs) (hr (default, d)).pss, fun HF0 G HF H σ g c hc D kk => by
    obtain ⟨ix, e1, hc⟩ := bind_ok hc
    obtain ⟨qq, e3, hc⟩ := bind_ok hc
    obtain ⟨v, fo, hσ, ⟨q, kvs, h1, h2, h3, h4⟩, nd, hfo, back⟩ := g.take hl
    subst h1 h2
    refine ⟨.ref q, hσ, q, rfl, .inl ⟨kvs, .inl h3⟩, ?_⟩
    refine hk.sem HF0 G HF H σ g ix e1 _ fun v1 HF1 H1 fp st r _ _ => ?_
    have h3' := st.exH _ _ h3
    unfold dpopM at e3
    cases hy : dget d.l ix with
    | none => rw [hy] at e3; cases e3
    | some y =>
      rw [hy] at e3
      cases pure_ok (show (pure (y, (⟨ddrop d.l ix⟩ : Dc κ β)) : M _) = .ok qq from e3)
      obtain ⟨v'', hv'', ry⟩ := (h4.get ix).1 y hy
      refine ⟨kvs, Ky.key ix, v'', h3', by rw [Fl.sh_iff.mp r.1, ← Ky.kv], hv'', ?_⟩
      have gg := back (u' := Ow.d (κ := κ) (β := β)) (b := ⟨ddrop d.l ix⟩) (v' := .ref q) (f' := [q]) (H' := upd H1 q (.dK (dropK kvs (Ky.key ix)))) st (fun p w hp e => by rw [upd_ne (fun z => hp (by rw [z]; exact List.mem_singleton.mpr rfl))]; exact e)
        ⟨q, _, rfl, rfl, upd_same, Fk.drop ix (Fk.mono (fun _ _ h => Rp.mono st.exF h) h4)⟩ (by simp) (fun p hp => .inl hp)
      rw [set_self hσ] at gg
      exact (hr (y, ⟨ddrop d.l ix⟩)).sem HF0 G HF1 _ _ gg c hc D (kk.mono st.exF)⟩
end
/-! ### a def that calls itself, its turns told -/
section
variable {P : Program} {w : World} {K : PySem.W.Frag} {mg : Str → Option Value} {base : Heap}
theorem fn_none {A ρ : Type} [Rp ρ] {CX : CXT} {k : Nat} {f : Addr} {fd : FuncData} {ps : List Str} {r : As A} {o : Ow ρ} {fm : A → M ρ} (h : ∀ a, fm a = no) : FnOk P w K mg base CX k f fd ps (spF K r o fm) := by
  refine ⟨fun vs H Q E hs => ?_, fun A outer s H args us vs Q E hr he hb hv hs => ?_⟩
  · obtain ⟨HF, a, c, h1, h2, h3, h4⟩ := hs
    rw [h a] at h3
    cases h3
  · obtain ⟨HF, a, c, h1, h2, h3, h4⟩ := hs
    rw [h a] at h3
    cases h3
end
/-! ### a default None -/
section
variable {X : Cx} {Γ : Ctx} {A A' ρ : Type} {e : Expr} {es : List Expr} {p pos : Pos} {t : TA}
theorem ex_callD [Rp ρ] {K : PySem.W.Frag} {k : Nat} {f : Addr} {fd : FuncData} {ps : List Str} {x : Str} {r : As A} {r' : As A'} {o : Ow ρ} {fm : A → M ρ} {g : A' → M ρ} {m : M A'} (app : A' → A) (happ : ∀ HF vs a, r'.rep K HF vs a → r.rep K HF (vs ++ [.non]) (app a)) (F : FnOk X.prog X.w X.K X.mg X.base CX0 k f fd ps (spF K r o fm)) (hr : Room k X.A) (hm : X.mg x = some (.ref f)) (hk : PySem.W.keepIn X.K (.ref f) = true) (hb : Binds X.K fd ps [.none])
    (ha : EA X Γ (e :: es) r' m t) (hg : Gl X x := by rfl) (hdb : (x == ("__debug__" : Str)) = false := by decide) (he : starEach (e :: es) X.env = (false, eval e X.env) :: starEach es X.env := by rfl) (hpl : (backTo pos (starEach es X.env)).any (·.1) = false := by rfl) (hgg : ∀ a, g a = fm (app a) := by intro _; rfl) (hK : X.K = K := by rfl) :
    EX X Γ (.Call (.Name x p) (e :: es) [] pos) o (do let a ← m; g a) (tCall (spF K r o fm) [.non] E0 t) := by
  subst hK
  exact ⟨pe_call F hr hg hm hk hb (.cons rfl .nil) pass0 ha.pa hdb he hpl, fun HF0 G HF H σ gd c hc Q kk => by
    obtain ⟨x, e1, hc⟩ := bind_ok hc
    refine ha.sem HF0 G HF H σ gd x e1 _ fun vs HF1 H1 s1 r1 => ?_
    exact ⟨HF1, app x, c, s1.sub, happ _ _ _ r1, (hgg x) ▸ hc, kk.back s1⟩⟩
end
end Ty
namespace Ty
open PySem PySem.Spec PyProof.Rows L2
theorem happD1 {K : PySem.W.Frag} {α β : Type} [Rp α] [Rp β] : ∀ HF vs (a : α × Unit), (As.cons (α := α) As.nil).rep K HF vs a → (As.cons (α := α) (As.cons (α := Op β) As.nil)).rep K HF (vs ++ [.non]) (a.1, ((⟨none⟩ : Op β), ())) := by
  intro HF vs a ⟨v, ws, e, h1, h2⟩
  have h2 : ws = [] := h2
  subst e h2
  exact ⟨v, [.non], rfl, h1, .non, [], rfl, rfl, rfl⟩
end Ty

set_option maxHeartbeats 1000000
/-! ## Ty53: list(reversed(range(..))) -/
namespace RT
open PySem PySem.Spec PyProof.Rows L2
section
variable {prog : Program} {w : World} {A : Around} {E : Value → Shared → Prop} {s : Shared}
theorem call_hint_ri {it : Addr} {x left step : Int} {Q : Value → Shared → Prop} (h : IsRangeIter s.heap it x left step) (q : Q (.int left s.toks) { s with toks := s.toks + 1 }) : wpAny (model prog w) A (call (.builtin "range_iterator.__length_hint__") [.ref it]) Q E s := by
  refine wpAny_call_entry F.slot_range_iterator_length_hint ⟨_, h, rfl⟩ F.entry_range_iterator_length_hint ?_ (F.args_range_iterator_length_hint_1 _)
  show wpAny _ _ (field (.ref it) 1 >>= _) _ _ _
  refine wpAny_bind (wpAny_field h rfl (x := rawInt left) rfl ?_)
  obtain ⟨hp, g, d, tk, os⟩ := s
  wp_walk
  exact ⟨_, rfl, q⟩
theorem call_list_ri {it : Addr} {x step : Int} {n : Nat} {Q : Value → Shared → Prop} (hh : A.handled = none) (hit : IsRangeIter s.heap it x n step) (hn : n ≤ sizeLine)
    (hQ : ∀ (h' : Heap) (tk : Nat) (acc : Array Value) (c' : Nat), (∀ b o, b ≠ it → s.heap.get? b = some o → h'.get? b = some o) → h'.get? s.heap.objs.size = some { cls := .type "list", dict := none, data := .seq acc c', slots := #[] } → ItemsOf (fun i v => ∃ t, v = .int (x + i * step) t) acc n → Q (.ref s.heap.objs.size) { s with heap := h', toks := tk }) :
    wpAny (model prog w) A (call (.type "list") [.ref it]) Q E s := by
  have W := (Walks.range (prog := prog) (w := w) (A := A.in1.in1) hh it x step n).toS
  have hSi : s.heap.objs.size ≠ it := Nat.ne_of_gt (Heap.lt_size hit)
  have hSf : s.heap.objs.size ∉ [it] := by simp only [List.mem_cons, List.not_mem_nil, or_false]; exact hSi
  refine callType_codes (Q₁ := fun obj s₁ => obj = .ref s.heap.objs.size ∧ s₁ = { s with heap := s.heap.push { cls := .type "list", data := .seq #[] } }) F.called_list (F.typeCall_list_1 _) F.entry_list_init
    (code_list_new _ ⟨rfl, rfl⟩) fun obj s₁ h₁ => ?_
  obtain ⟨rfl, rfl⟩ := h₁
  have hS₁ : (s.heap.push { cls := .type "list", data := .seq #[] }).get? s.heap.objs.size = some { cls := .type "list", data := .seq #[] } := Heap.get?_push_size _ rfl
  refine ⟨⟨_, hS₁, rfl⟩, F.args_list_init_2 _ _, ?_⟩
  show wpAny _ A.in1.in1 (do let old ← Builtin.List.listItems (.ref s.heap.objs.size); Builtin.List.listUpdate (.ref s.heap.objs.size) (fun _ => #[]); letGo old.toList.reverse; Builtin.List.listExtendWith (.ref s.heap.objs.size) (.ref it) .none) _ _ _
  refine wpAny_bind ?_
  unfold Builtin.List.listItems
  refine wpAny_bind (wpAny_seqItems hS₁ rfl (wpAny_pure ?_))
  show wpAny _ A.in1.in1 (updateSeq s.heap.objs.size (fun _ => #[]) >>= fun _ => letGo (#[] : Array Value).toList.reverse >>= fun _ => Builtin.List.listExtendWith (.ref s.heap.objs.size) (.ref it) .none) _ _ _
  refine wpAny_bind (wpAny_updateSeq hS₁ rfl ?_)
  have hS₂ := Heap.get?_update_self (Obj.mapSeq (fun _ => (#[] : Array Value))) hS₁ rfl
  have oth : ∀ b o, b ≠ s.heap.objs.size → s.heap.get? b = some o → ((s.heap.push { cls := .type "list", data := .seq #[] }).update s.heap.objs.size (Obj.mapSeq (fun _ => (#[] : Array Value)))).get? b = some o :=
    fun b o hb e => (Heap.get?_update_other _ _ (Ne.symm hb)).trans (Heap.get?_push_of_some _ e)
  refine wpAny_bind (wpAny_letGo ?_)
  generalize hh2 : (s.heap.push { cls := .type "list", data := .seq #[] }).update s.heap.objs.size (Obj.mapSeq (fun _ => (#[] : Array Value))) = h2 at *
  have hit1 : IsRangeIter h2 it x n step := oth _ _ (Ne.symm hSi) hit
  have hT : ({ s with heap := h2 } : Shared).TypeIs (.ref it) "range_iterator" := ⟨_, hit1, rfl⟩
  have h1 : Builtin.List.listSameRef (.ref s.heap.objs.size) (.ref it) = false := by simp [Builtin.List.listSameRef, hSi]
  unfold Builtin.List.listExtendWith
  refine wpAny_bind (wpAny_typeOf hT ?_)
  rw [if_neg (by rw [h1]; decide)]
  refine wpAny_bind (wpAny_pyIter_rangeiter (s := { s with heap := h2 }) hit1 ?_)
  refine wpAny_bind (wpAny_holding ?_)
  unfold Builtin.List.listLengthHint
  refine wpAny_bind (wpAny_specialOf hT F.nolen_ra ?_)
  show wpAny _ A.in1.in1 (specialOf (Value.ref it) (Str.ofString "__length_hint__") >>= _) _ _ _
  refine wpAny_bind (wpAny_specialOf hT F.hint_ra ?_)
  generalize hid : ("range_iterator.__length_hint__" : String) = id0
  (fail_if_success (clear hid id0))
  wp_delta
  rw [show splitId id0 = some ("range_iterator", "__length_hint__") from by subst hid; decide +kernel]
  subst hid
  refine wpAny_bind (wpAny_isInstance (b := true) hT (by rw [isSubtype_type]; kernel_rfl) ?_)
  show wpAny _ A.in1.in1 (call (.builtin "range_iterator.__length_hint__") [.ref it] >>= _) _ _ _
  refine wpAny_bind (call_hint_ri hit1 ?_)
  refine wpAny_bind (m := asInt? _) (wpAny_pure ?_)
  dsimp only
  have htl : Builtin.List.listTooLong ((n : Int).toNat) = false := by simp [Builtin.List.listTooLong]; omega
  rw [if_neg (by rw [htl]; decide)]
  refine wpAny_pure ?_
  rw [if_neg (by decide)]
  have e0 : (n : Int) - ((0 : Nat) : Int) = n := by omega
  have e1 : x + ((0 : Nat) : Int) * step = x := by simp
  refine wpAny_pure ⟨plainId_quiet F.plain_extend_loop _, codeAny_extend_loopS W hn _ hSf _ n 0 _ _ _ rfl (Nat.zero_le _) (by show IsRangeIter _ _ _ _ _; rw [e0, e1]; exact hit1) hS₂ (ItemsOf.nil _) fun s' acc' c' hm hS' hacc => ?_⟩
  refine ⟨rfl, ?_⟩
  rw [Moved.eq_with hm]
  refine hQ s'.heap s'.toks acc' c' (fun b o hb e => hm.heap b o (fun hmem => ?_) (oth b o (Nat.ne_of_lt (Heap.lt_size e)) e)) hS' hacc
  rcases List.mem_cons.mp hmem with e' | hmem
  · exact absurd (Heap.lt_size e) (by rw [e']; exact Nat.lt_irrefl _)
  · exact hb (List.mem_singleton.mp hmem)
end
section
variable {X : Cx}
def tLstRevR (te : TE) : TE := fun σ H Q => tRg1 te σ H fun a b H1 => a = 0 ∧ -(2 ^ 62) ≤ b ∧ b < 2 ^ 62 ∧ b.toNat ≤ sizeLine ∧ ∀ q, H1 q = none → Q (.ref q) (upd H1 q (.lst ((Ty.rangeL 0 b).reverse.map V.int)))
theorem vals_ri {n : Nat} {acc : Array Value} (h : ItemsOf (fun i v => ∃ t, v = .int ((n : Int) - 1 + i * (-1)) t) acc n) : Vals ((Ty.rangeL 0 (n : Int)).reverse.map V.int) acc.toList := by
  refine vals_of_idx _ _ (by rw [List.length_map, List.length_reverse, Ty.rangeL_len, Array.length_toList, h.1]; omega) fun j u hj => ?_
  obtain ⟨t, e⟩ := h.2 j u (by rw [← Array.getElem?_toList]; exact hj)
  have hlt : j < n := by
    have := (List.getElem?_eq_some_iff.mp hj).1
    rw [Array.length_toList, h.1] at this
    exact this
  refine ⟨.int ((n : Int) - 1 + j * (-1)), ?_, ⟨t, e⟩⟩
  rw [List.getElem?_map, List.getElem?_reverse (by rw [Ty.rangeL_len]; omega), Ty.rangeL_len]
  unfold Ty.rangeL
  rw [List.getElem?_map, List.getElem?_range (by omega)]
  simp
  omega
theorem pe_listRevR {e : Expr} {te : TE} {p p2 p3 pos pos2 pos3 : Pos} (hc : X.calm = true) (hg : Gl X "list") (hm : X.mg "list" = none) (hg2 : Gl X "reversed") (hm2 : X.mg "reversed" = none) (hg3 : Gl X "range") (hm3 : X.mg "range" = none) (he : PE X e te)
    (hs : starEach [e] X.env = (false, eval e X.env) :: starEach [] X.env := by rfl)
    (hs1 : starEach [.Call (.Name "range" p3) [e] [] pos3] X.env = (false, eval (.Call (.Name "range" p3) [e] [] pos3) X.env) :: starEach [] X.env := by rfl)
    (hs2 : starEach [.Call (.Name "reversed" p2) [.Call (.Name "range" p3) [e] [] pos3] [] pos2] X.env = (false, eval (.Call (.Name "reversed" p2) [.Call (.Name "range" p3) [e] [] pos3] [] pos2) X.env) :: starEach [] X.env := by rfl) :
    PE X (.Call (.Name "list" p) [.Call (.Name "reversed" p2) [.Call (.Name "range" p3) [e] [] pos3] [] pos2] [] pos) (tLstRevR te) := by
  refine ⟨fun pins s σ H Q I h => ?_⟩
  have hp := prg_1 (p := p3) (pos := pos3) hg3 hm3 he hs
  refine Call_ (ld_blt I hg hm boot_list (PyProof.Rows.callWith_type1 (args_cons (Call_ (ld_blt I hg2 hm2 PyProof.Rows.boot_reversed (PyProof.Rows.callWith_type1 (args_cons (thn (hp pins s σ H (fun a b H1 => a = 0 ∧ -(2 ^ 62) ≤ b ∧ b < 2 ^ 62 ∧ b.toNat ≤ sizeLine ∧ ∀ q, H1 q = none → Q (.ref q) (upd H1 q (.lst ((Ty.rangeL 0 b).reverse.map V.int)))) I ?_) fun u s1 hx => args_nil ?_) hs1) hs1 rfl))) hs2) hs2 rfl))
  · exact h
  obtain ⟨r, a, b, t, w1, v, H1, eu, hr, I1, ea, b3, b4, b5, q⟩ := hx
  subst eu ea
  have hn : Builtin.Range.rangeSize 0 b 1 = ((b.toNat : Nat) : Int) := by rw [rangeSize_nat]; congr 2; omega
  refine call_reversed_range hr (smallRev_one (by decide) (by decide) b3 b4) (args_nil ?_)
  have k0 : ∀ p o, s1.heap.get? p = some o → (s1.heap.push (rngRevObj 0 b 1)).get? p = some o := fun p o e => Heap.get?_push_of_some _ e
  have I2 : Inv X pins σ H1 { s1 with heap := s1.heap.push (rngRevObj 0 b 1) } := I1.kept (t' := s1.toks) k0
  have hit : IsRangeIter (s1.heap.push (rngRevObj 0 b 1)) s1.heap.objs.size ((b.toNat : Int) - 1) ((b.toNat : Nat) : Int) (-1) := by
    have : (s1.heap.push (rngRevObj 0 b 1)).get? s1.heap.objs.size = some (rngRevObj 0 b 1) := Heap.get?_push_size _ rfl
    show (s1.heap.push (rngRevObj 0 b 1)).get? s1.heap.objs.size = _
    rw [this]
    unfold rngRevObj
    rw [hn, show (0 : Int) + (((b.toNat : Nat) : Int) - 1) * 1 = (b.toNat : Int) - 1 by omega]
  refine call_list_ri (s := { s1 with heap := s1.heap.push (rngRevObj 0 b 1) }) (n := b.toNat) (I1.ok.hd hc) hit b5 fun h' tk acc c' hk e' hi => ?_
  have hk1 : ∀ p o, s1.heap.get? p = some o → h'.get? p = some o := fun p o e => hk p o (Nat.ne_of_lt (Heap.lt_size e)) (k0 p o e)
  have sz : s1.heap.objs.size ≤ (s1.heap.push (rngRevObj 0 b 1)).objs.size := by show s1.heap.objs.size ≤ (s1.heap.objs.push _).size; rw [Array.size_push]; exact Nat.le_succ _
  have hrl : Ty.rangeL 0 b = Ty.rangeL 0 ((b.toNat : Nat) : Int) := by unfold Ty.rangeL; congr 2; omega
  refine ⟨.ref _, upd H1 _ (.lst ((Ty.rangeL 0 b).reverse.map V.int)), I1.laid hk1 sz (show ObjOk X.prog X.w _ _ _ (.lst ((Ty.rangeL 0 b).reverse.map V.int)) from ⟨by rw [List.length_map, List.length_reverse, Ty.rangeL_len]; simpa using b5, acc.toList, c', by rw [hrl]; exact vals_ri hi, ?_⟩), rfl, q _ (I1.hok.fresh sz)⟩
  rw [Array.toArray_toList]
  exact e'
end
end RT
namespace Ty
open PySem PySem.Spec PyProof.Rows L2
section
variable {X : Cx} {Γ : Ctx} {e : Expr} {p p2 pos pos2 apos cpos : Pos} {te : TE}
def revRgM (n : Int) : M (List Int) := do gd (decide (-(2 ^ 62) ≤ n) && (decide (n < 2 ^ 62) && decide (n.toNat ≤ sizeLine))); pure (rangeL 0 n).reverse
theorem ex_listRevR {m : M Int} (hc : X.calm = true) (ml : X.mg "list" = none) (mr : X.mg "reversed" = none) (mg : X.mg "range" = none) (h : EX X Γ e Ow.v m te) (hg : Gl X "list" := by rfl) (hg2 : Gl X "reversed" := by rfl) (hg3 : Gl X "range" := by rfl) (h1 : starEach [e] X.env = (false, eval e X.env) :: starEach [] X.env := by rfl)
    (h2 : starEach [.Call (.Name "range" p2) [e] [] pos2] X.env = (false, eval (.Call (.Name "range" p2) [e] [] pos2) X.env) :: starEach [] X.env := by rfl)
    (h3 : starEach [.Call (.Name "reversed" p) [.Call (.Name "range" p2) [e] [] pos2] [] pos] X.env = (false, eval (.Call (.Name "reversed" p) [.Call (.Name "range" p2) [e] [] pos2] [] pos) X.env) :: starEach [] X.env := by rfl) : EX X Γ (.Call (.Name "list" apos) [.Call (.Name "reversed" p) [.Call (.Name "range" p2) [e] [] pos2] [] pos] [] cpos) (Ow.l (Ow.v : Ow Int)) (do let a ← m; revRgM a) (RT.tLstRevR te) :=
  ⟨RT.pe_listRevR hc hg ml hg2 mr hg3 mg h.pe h1 h2 h3, fun HF0 G HF H σ g c hc' Q k => by
    obtain ⟨x, e1, hc'⟩ := bind_ok hc'
    obtain ⟨u, e2, hc'⟩ := bind_ok hc'
    cases pure_ok hc'
    have e3 := gd_ok e2
    simp only [Bool.and_eq_true, decide_eq_true_eq] at e3
    refine h.sem HF0 G HF H σ g x e1 _ fun v HF1 H1 fp st r n f => ?_
    refine ⟨x, by rw [Fl.sh_iff.mp r.1]; rfl, rfl, e3.1, e3.2.1, e3.2.2, fun q' hq => ?_⟩
    exact (show RetK X.K HF1 H1 (Ow.l (Ow.v : Ow Int)) (rangeL 0 x).reverse Q from fun v' HF' H' fp' st' r' n' f' => k v' HF' H' fp' (st.trans st') r' n' (fun p hp => ⟨st.exH.free (f' p hp).1, (f' p hp).2⟩)).lst st.sub (Fa.flat.mpr rfl) hq⟩
end
end Ty

/-! ## Ty54: a loop that takes the own things of a list no one else has -/
namespace Ty
open PySem PySem.Spec PyProof.Rows L2
theorem Good.less {K : PySem.W.Frag} {HF0 G G' HF H : Hp} {Γ : Ctx} {σ : L2.St} (g : Good K HF0 G Γ HF H σ) (h : Same G' G) : Good K HF0 G' Γ HF H σ := by
  have hn : ∀ p, G p = none → G' p = none := fun p e => by
    cases q : G' p with
    | none => rfl
    | some u => rw [h p u q] at e; cases e
  obtain ⟨fs, h1, h2, h3⟩ := g.held
  exact ⟨g.sub, g.f0, h.trans g.g0, fun p o a b => hn p (g.nf p o a b), fs, h1, h2, fun p hp => ⟨(h3 p hp).1, hn p (h3 p hp).2⟩⟩
/-- without some of it -/
def lessH (G : Hp) (f : List Addr) : Hp := fun p => if p ∈ f then none else G p
theorem less_sub (G : Hp) (f : List Addr) : Same (lessH G f) G := fun p o e => by
  unfold lessH at e
  split at e
  · cases e
  · exact e
theorem Good.giveG {α : Type} [Rp α] {K : PySem.W.Frag} {HF0 G HF H : Hp} {Γ : Ctx} {σ : L2.St} {i : Nat} {v : V} {a : α} {o : Ow α} {f : List Addr} (g : Good K HF0 G Γ HF H σ) (hi : i < Γ.length) (r : o.rep K HF H v a f) (nd : f.Nodup) (hG : ∀ p ∈ f, ∃ u, G p = some u) (h0 : ∀ p ∈ f, HF0 p = none) : Good K HF0 (lessH G f) (put Γ i (.mk o a)) HF H (σ.set i (some v)) := by
  have hF : ∀ p ∈ f, HF p = none := fun p hp => by
    cases q : HF p with
    | none => rfl
    | some u =>
      obtain ⟨w, hw⟩ := hG p hp
      rw [g.nf p u q (h0 p hp)] at hw; cases hw
  obtain ⟨fs, h1, h2, h3⟩ := g.held
  obtain ⟨fo, fr', q1, q2, q3, q4⟩ := h1.put hi
  obtain ⟨n1, n2, n3⟩ := q3 h2
  obtain ⟨fs', w1, w2, w3⟩ := q4 (HF' := HF) (H' := H) (s := .mk o a) (x := some v) (f := f) (fun _ h => h) (fun _ h => h) ⟨v, rfl, r⟩
  have gl := g.less (less_sub G f)
  refine ⟨gl.sub, gl.f0, gl.g0, gl.nf, fs', w1, w3 n1 nd fun p hp hq => ?_, fun p hp => ?_⟩
  · obtain ⟨w, hw⟩ := hG p hp
    rw [(h3 p ((q2 p).mpr (.inr hq))).2] at hw; cases hw
  · rcases (w2 p).mp hp with z | z
    · exact ⟨hF p z, if_pos z⟩
    · have := h3 p ((q2 p).mpr (.inr z))
      refine ⟨this.1, ?_⟩
      unfold lessH
      split
      · rfl
      · exact this.2
section
variable {X : Cx} {Γ : Ctx} {S L ρ α S' : Type} [Rp ρ] {o : Ow ρ} {Γo : S → Ctx} {ΓL : L → Ctx} {e : Expr} {pos p1 : Pos} {te : TE} {sts : List Stmt} {tr : TS}
theorem ss_forD [Rp α] [Inhabited α] {K : PySem.W.Frag} {u : Ow α} (r : Nat) {y : Str} {body : List Stmt} {tb : TS} {m : M (List α)} {Γs : S' → Ctx} {f : α → S' → M (Ctl S' S' ρ)} {k : S' → M (Ctl S L ρ)} (s0 : S') (hN : X.N.Nodup) (hc : X.calm = true) (hxe : PassesOwn (model X.prog X.w) X.A X.env X.xe) (he : EX X Γ e (Ow.l u) m te) (h0 : Sub Γ (Γs s0))
    (hb : ∀ s x, SS X (put (Γs s) r (.mk u x)) body Γs Γs o (f x s) tb) (hr : ∀ s, SS X (Γs s) sts Γo ΓL o (k s) tr) (hrl : ∀ s, Nat.blt r (Γs s).length = true := by intro _; rfl)
    (hN2 : X.N[r]? = some y := by rfl) (hx : Loc X.env.scope y := by first | exact .inl rfl | exact .inr rfl) (hf : X.fn y = true ∨ X.env.scope.names.lookup y = some .local := by first | exact .inl rfl | exact .inr rfl) (hK : X.K = K := by rfl)
    (hs2 : ∀ z, foldedSetIterable e X.env z = pure z := by intro _; rfl) :
    SS X Γ (.For (.Name y p1) e body [] pos :: sts) Γo ΓL o (do let xs ← m; let c ← loopM f xs s0; thenL c k) (tSeq (tFor (iList K te) (gName r) tb) tr) := by
  subst hK
  exact ⟨pss_cons (ps_for hxe hc (pi_list he.pe) (pg_name hN hN2 hx hf) (hb s0 default).pss hs2) (hr s0).pss, fun HF0 G HF H σ gd cc hcc D kk => by
    obtain ⟨xs, e1, hcc⟩ := bind_ok hcc
    obtain ⟨c1, e2, hcc⟩ := bind_ok hcc
    refine he.sem HF0 G HF H σ gd xs e1 _ fun v HF1 H1 fp st ⟨q, vs, fq, hv, hfp, hq, hrl1⟩ nd hfr => ?_
    subst hv hfp
    obtain ⟨nq, ndq⟩ := List.nodup_cons.mp nd
    obtain ⟨q0, q1⟩ := hfr q List.mem_cons_self
    have f0 : ∀ p ∈ fq, H p = none ∧ HF1 p = none := fun p hp => hfr p (List.mem_cons_of_mem _ hp)
    have hG0 : ∀ p, H p = none → G p = none := fun p e => gd.g0.free e
    have hF0 : ∀ p, H p = none → HF0 p = none := fun p e => by
      cases z : HF0 p with
      | none => rfl
      | some w => rw [gd.sub p w (gd.f0 p w z)] at e; cases e
    let HF2 : Hp := plus HF1 H1 [q]
    let G0 : Hp := fun p => if p ∈ fq then H1 p else G p
    have sF : Same HF1 HF2 := plus_same fun p hp => by rw [List.mem_singleton.mp hp]; exact q1
    have hq2 : HF2 q = some (.lst vs) := plus_at q (List.mem_singleton.mpr rfl) _ hq
    have GG0 : Same G G0 := fun p w e => by
      show (if p ∈ fq then H1 p else G p) = some w
      rw [if_neg fun z => by rw [hG0 p (f0 p z).1] at e; cases e]
      exact e
    obtain ⟨fs, h1, h2, h3⟩ := gd.held
    have good0 : Good X.K HF0 G0 Γ HF2 H1 σ := by
      refine ⟨plus_sub st.sub, (gd.f0.trans st.exF).trans sF, fun p w e => ?_, fun p w a b => ?_, fs, h1.mono (st.exF.trans sF) fun p _ o e => st.exH p o e, h2, fun p hp => ?_⟩
      · have e : (if p ∈ fq then H1 p else G p) = some w := e
        split at e
        · exact e
        · exact st.exH p w (gd.g0 p w e)
      · show (if p ∈ fq then H1 p else G p) = none
        by_cases hpq : p = q
        · subst hpq
          rw [if_neg nq]
          exact hG0 p q0
        · have a : HF1 p = some w := by
            have := a
            rw [show HF2 p = HF1 p from plus_out fun z => hpq (List.mem_singleton.mp z)] at this
            exact this
          rw [if_neg fun z => by rw [(f0 p z).2] at a; cases a]
          cases z : HF p with
          | some w' => exact gd.nf p w' z b
          | none => exact hG0 p (st.new p w a z)
      · obtain ⟨w, hw⟩ := h1.dom p hp
        have hpq : p ≠ q := fun z => by subst z; rw [q0] at hw; cases hw
        refine ⟨?_, ?_⟩
        · rw [show HF2 p = HF1 p from plus_out fun z => hpq (List.mem_singleton.mp z)]
          exact st.nn (h3 p hp).1 hw
        · show (if p ∈ fq then H1 p else G p) = none
          rw [if_neg fun z => by rw [(f0 p z).1] at hw; cases hw]
          exact (h3 p hp).2
    have kk' := kk.mono (st.exF.trans sF)
    have nxt : ∀ s HFn Gn H2 σ2, c1 = .inl s → Same HF2 HFn → Same G Gn → Good X.K HF0 Gn (Γs s) HFn H2 σ2 → tr D σ2 H2 := fun s HFn Gn H2 σ2 e a b g2 => by
      subst e
      exact (hr s).sem HF0 G HFn H2 σ2 (g2.less b) cc hcc D (kk'.mono a)
    have hlen := hrl1.len
    refine ⟨q, rfl, ⟨vs, SqL.of hq⟩, ?_⟩
    refine ⟨fun n c σ2 H2 => c = xs.length - n ∧ n ≤ xs.length ∧ ∃ s HFn Gn fn, Same HF2 HFn ∧ Good X.K HF0 Gn (Γs s) HFn H2 σ2 ∧ Same G Gn ∧ Rl (u.rep X.K HFn H2) (vs.drop n) (xs.drop n) fn ∧ fn.Nodup ∧ (∀ p ∈ fn, (∃ w, Gn p = some w) ∧ G p = none ∧ HF0 p = none) ∧ loopM f (xs.drop n) s = .ok c1, ⟨xs.length, rfl, Nat.zero_le _, s0, HF2, G0, fq, Same.refl _, h0.good good0, GG0, Rl.mono (fun v a f hf h => u.mono sF (fun p _ o e => e) h) hrl1, ndq, fun p hp => ⟨?_, hG0 p (f0 p hp).1, hF0 p (f0 p hp).1⟩, e2⟩, ?_⟩
    · obtain ⟨w, hw⟩ := hrl1.dom (D := fun p => ∃ w, H1 p = some w) (fun v a f h p hp => u.dom h p hp) p hp
      exact ⟨w, by show (if p ∈ fq then H1 p else G p) = some w; rw [if_pos hp]; exact hw⟩
    rintro n c σ2 H2 ⟨rfl, hn, s, HFn, Gn, fn, a, g2, sG, hR, ndn, hfn, hl⟩
    have hqn : H2 q = some (.lst vs) := g2.sub q _ (a q _ hq2)
    by_cases hlt : n < xs.length
    · have hltv : n < vs.length := by omega
      rw [List.drop_eq_getElem_cons hlt, List.drop_eq_getElem_cons hltv] at hR
      obtain ⟨f1, f2, ef, r1, r2⟩ := hR
      subst ef
      obtain ⟨nd1, nd2, nd3⟩ := List.nodup_append.mp ndn
      rw [List.drop_eq_getElem_cons hlt] at hl
      obtain ⟨c2, e3, hl⟩ := bind_ok hl
      refine .inr ⟨⟨vs, vs[n], SqL.of hqn, List.getElem?_eq_getElem hltv⟩, fun σ' H' => ∃ s HFn Gn fn, Same HF2 HFn ∧ Good X.K HF0 Gn (Γs s) HFn H' σ' ∧ Same G Gn ∧ Rl (u.rep X.K HFn H') (vs.drop (n + 1)) (xs.drop (n + 1)) fn ∧ fn.Nodup ∧ (∀ p ∈ fn, (∃ w, Gn p = some w) ∧ G p = none ∧ HF0 p = none) ∧ loopM f (xs.drop (n + 1)) s = .ok c1, fun σ' H' h' => ⟨xs.length - (n + 1), by omega, rfl, hlt, h'⟩, fun z H3 hz => ?_⟩
      obtain ⟨rfl, hz⟩ := hz
      have hz := hz vs (SqL.of hqn)
      rw [List.getElem?_eq_getElem hltv] at hz
      injection hz with hz
      subst hz
      have g3 := g2.giveG (of_blt (hrl s)) r1 nd1 (fun p hp => (hfn p (List.mem_append_left _ hp)).1) fun p hp => (hfn p (List.mem_append_left _ hp)).2.2
      have sG' : Same G (lessH Gn f1) := fun p w e => by
        unfold lessH
        rw [if_neg fun z => by rw [(hfn p (List.mem_append_left _ z)).2.1] at e; cases e]
        exact sG p w e
      have hf2 : ∀ p ∈ f2, ∃ w, lessH Gn f1 p = some w := fun p hp => by
        obtain ⟨w, hw⟩ := (hfn p (List.mem_append_right _ hp)).1
        refine ⟨w, ?_⟩
        unfold lessH
        rw [if_neg fun z => nd3 p z p hp rfl]
        exact hw
      refine (hb s xs[n]).sem HF0 (lessH Gn f1) HFn H3 (σ2.set r (some vs[n])) g3 c2 e3 _ ?_
      have cont : ∀ s' HF5 H5 σ5, Same HFn HF5 → Good X.K HF0 (lessH Gn f1) (Γs s') HF5 H5 σ5 → loopM f (xs.drop (n + 1)) s' = .ok c1 → ∃ s HFn Gn fn, Same HF2 HFn ∧ Good X.K HF0 Gn (Γs s) HFn H5 σ5 ∧ Same G Gn ∧ Rl (u.rep X.K HFn H5) (vs.drop (n + 1)) (xs.drop (n + 1)) fn ∧ fn.Nodup ∧ (∀ p ∈ fn, (∃ w, Gn p = some w) ∧ G p = none ∧ HF0 p = none) ∧ loopM f (xs.drop (n + 1)) s = .ok c1 := fun s' HF5 H5 σ5 b g5 hl' => by
        refine ⟨s', HF5, lessH Gn f1, f2, a.trans b, g5, sG', Rl.mono (fun v a f hf h => u.mono b (fun p hp w e => ?_) h) r2, nd2, fun p hp => ⟨hf2 p hp, (hfn p (List.mem_append_right _ hp)).2⟩, hl'⟩
        obtain ⟨w', hw'⟩ := hf2 p (hf p hp)
        have e5 := g5.g0 p w' hw'
        have e3 := g3.g0 p w' hw'
        rw [e] at e3
        rw [e5, e3]
      cases c2 with
      | nx s' => exact fun HF5 H5 σ5 b g5 => cont s' HF5 H5 σ5 b g5 hl
      | ct s' => exact fun HF5 H5 σ5 b g5 => cont s' HF5 H5 σ5 b g5 hl
      | bk s' =>
        have e4 := pure_ok (show (pure (.inl s') : M (S' ⊕ ρ)) = .ok c1 from hl)
        exact fun HF5 H5 σ5 b g5 => nxt s' HF5 (lessH Gn f1) H5 σ5 e4.symm (a.trans b) sG' g5
      | rt r' =>
        have e4 := pure_ok (show (pure (.inr r') : M (S' ⊕ ρ)) = .ok c1 from hl)
        subst e4
        cases pure_ok (show (pure (.rt r') : M (Ctl S L ρ)) = .ok cc from hcc)
        intro v HF5 H5 fp a1 a2 a3 a4 a5 a6 a7
        have hn : ∀ p, lessH Gn f1 p = none → G p = none := fun p e => by
          cases q : G p with
          | none => rfl
          | some w => rw [sG' p w q] at e; cases e
        exact kk' v HF5 H5 fp a1 a2 (sG'.trans a3) (fun p w b1 b2 => hn p (a4 p w b1 b2)) a5 a6 fun p hp => ⟨(a7 p hp).1, hn p (a7 p hp).2⟩
    · have hnil : xs.drop n = [] := List.drop_eq_nil_of_le (by omega)
      rw [hnil] at hl
      exact .inl ⟨⟨vs, SqL.of hqn, by omega⟩, nxt s HFn Gn H2 σ2 (pure_ok hl).symm a sG g2⟩⟩
end
end Ty

/-! ## Ty55: sorted(d.values()), texts; d[k] = ..pop.. -/
namespace L2
open PySem PySem.Spec PyProof.Rows
section
variable {X : Cx}
theorem call_sortedVals {Q : Value → Shared → Prop} (hcalm : X.calm = true) {pins : List (Addr × Obj)} {σ : L2.St} {H : Hp} {s : Shared} {r a : Addr} {kvs : List (Key × V)} {vs : List (Key × Value)} {ep : Nat} {ks : List Str} (I : Inv X pins σ H s) (hv : s.heap.IsValuesView r a) (hat : s.heap.DictAt (mixKind X.prog X.w) a vs ep) (rel : KV kvs vs) (hks : kvs.map (·.2) = ks.map V.str) (h64 : ks.length < 64)
    (hQ : ∀ (s' : Shared) ys p, ys.Perm ks → sortedS ys = true → H p = none → Inv X pins σ (upd H p (.lst (ys.map V.str))) s' → Q (.ref p) s') : wpAny (model X.prog X.w) X.A (call (.builtin "sorted") [.ref r]) Q X.xe s := by
  have hl : vs.length = ks.length := by
    have e := congrArg List.length hks
    rw [List.length_map, List.length_map] at e
    rw [← e]
    exact (KV.length rel).symm
  have h16 : vs.length ≤ sizeLine := by rw [hl, sizeLine_eq]; omega
  refine Calls.call_function_entry PyProof.Rows.kind_sorted PyProof.Rows.plain_sorted PyProof.Rows.entry_sorted (PyProof.Rows.args_sorted1 _) ?_
  unfold Builtin.«sorted»
  refine wpAny_bind (m := checkCount "sorted" 1 1 _) (wpAny_pure ?_)
  refine wpAny_bind (PySem.W.kdu_collect (A := X.A.in1) (PySem.W.kdl_values (knd := mixKind X.prog X.w) (kvs := vs) (ep := ep)) (I.ok.hd hcalm) ⟨hv, hat⟩ h16 fun h' tk acc hk hacc => ?_)
  have hal : acc.toList.length = ks.length := by rw [Array.length_toList, hacc.1, hl]
  have hS : StrsAre acc.toList ks := strs_at hal fun j v e => by
    obtain ⟨k, e1⟩ := hacc.2 j v (by rw [← Array.getElem?_toList]; exact e)
    obtain ⟨x, e2, e3⟩ := KV.at' rel e1
    have e4 : (kvs.map (·.2))[j]? = some x := by rw [List.getElem?_map, e2]; all_goals rfl
    rw [hks, List.getElem?_map] at e4
    cases e5 : ks[j]? with
    | none => rw [e5] at e4; cases e4
    | some y =>
      rw [e5] at e4
      have e6 : V.str y = x := Option.some.inj e4
      subst e6
      obtain ⟨t, ev⟩ := e3
      exact ⟨y, t, rfl, ev⟩
  have I1 : Inv X pins σ H { s with heap := h', toks := tk } := I.kept hk
  refine wpAny_bind (wpAny_newList ?_ (by rw [hal, sizeLine_eq]; omega))
  have hoL : (h'.push (seqObj "list" acc.toList.toArray 0)).get? h'.objs.size = some (seqObj "list" acc.toList.toArray 0) := Heap.get?_push_size _ rfl
  show wpAny _ _ _ _ _ { s with heap := h'.push (seqObj "list" acc.toList.toArray 0), toks := tk }
  refine wpAny_bind (wpAny_holding (wpAny_call_entry PyProof.Rows.slot_list_sort ⟨_, hoL, rfl⟩ PyProof.Rows.entry_list_sort
    (list_sort_treeK strKind_oneLt (s := { s with heap := h'.push (seqObj "list" acc.toList.toArray 0), toks := tk }) hoL hS.keysOf (fun v₁ v₂ rest e => keyKind_strs (by rw [← e]; exact hS)) (by rw [hal]; exact h64) fun st' hp hs => ⟨_, rfl, ?_⟩)
    (PyProof.Rows.args_list_sort _)))
  obtain ⟨ys, g1, g2, g3⟩ := sorted_out_str hS hp hs
  obtain ⟨e', he'⟩ := PyProof.Rows.sortedHeap_at (vs := acc.toList) (out := (arrOf st').map (·.2)) hoL
  have hlen : (ys.map V.str).length ≤ sizeLine := by
    rw [List.length_map, g2.length_eq]
    exact Nat.le_trans (Nat.le_of_lt h64) (by decide)
  refine wpAny_pure ⟨_, rfl, hQ _ ys _ g2 g3 (I1.hok.fresh (Nat.le_refl _)) (I1.laid (t' := tk) (fun b u e => ?_) (Nat.le_refl _)
    (show ObjOk X.prog X.w _ _ _ (.lst (ys.map V.str)) from ⟨hlen, ((arrOf st').map (·.2)).toList, e', vals_of_strs g1, by rw [Array.toArray_toList]; exact he'⟩))⟩
  have hb : b < h'.objs.size := Heap.lt_size e
  rw [PyProof.Rows.sortedHeap_old (Nat.ne_of_lt hb) (by rw [size_push']; exact Nat.lt_succ_of_lt hb)]
  exact Heap.get?_push_of_some _ e
def tSortVals (td : TE) : TE := fun σ H Q => td σ H fun x H1 => ∃ a kvs ks, x = V.ref a ∧ H1 a = some (.dK kvs) ∧ kvs.map (·.2) = ks.map V.str ∧ ks.length < 64 ∧ ∀ ys p, ys.Perm ks → sortedS ys = true → H1 p = none → Q (.ref p) (upd H1 p (.lst (ys.map V.str)))
variable {o : Expr} {p pos apos mpos : Pos} {td : TE}
theorem pe_sortedVals (hc : X.calm = true) (hg : Gl X "sorted") (hm : X.mg "sorted" = none) (hd : PE X o td) (hbase : attributeBase o "values" X.env (eval o X.env) = eval o X.env := by rfl) (hline : (apos.endLine == mpos.line) = true := by rfl)
    (hse : starEach [Expr.Call (.Attribute o "values" apos) [] [] mpos] X.env = [(false, eval (Expr.Call (.Attribute o "values" apos) [] [] mpos) X.env)] := by rfl) :
    PE X (.Call (.Name "sorted" p) [.Call (.Attribute o "values" apos) [] [] mpos] [] pos) (tSortVals td) := by
  refine ⟨fun pins s σ H Q I h => ?_⟩
  refine wpAny_Call_Name_kw (ld_blt I hg hm (u := .builtin "sorted") (by first | rfl | decide +kernel) ?_ (by first | decide +kernel | decide) (by first | decide +kernel | decide))
  rw [hse]
  refine PySem.callWith_builtin1 (wpAny_Call_method0_late hbase hline (thn (hd.run pins s σ H _ I h) fun v s1 ⟨x, H1, I1, r1, a, kvs, ks, ex, ha, hv, h64, q⟩ => ?_))
  subst ex
  obtain rfl : v = Value.ref a := r1
  obtain ⟨_, hsys, vs, rel, dof⟩ := dk_of I1.hok ha
  obtain ⟨ep, dat⟩ := dof.dictAt
  have dat' := dat
  obtain ⟨ob, es, ho, ex, hdat, hko, hpr, hnd⟩ := dat'
  refine ⟨"dict", "dict.values", F.plainAttrs_dict, F.slot_dict_values, F.type_dict_values, ⟨ob, ho, ex.1⟩, fun b e => ?_, Calls.callWith_builtin rfl (PySem.evalArgs_none ?_)⟩
  · cases e
    exact ⟨ob, ho, ex.2.1⟩
  refine call_meetsIn F.slot_dict_values ⟨ob, ho, ex.1⟩ F.entry_dict_values (F.args_dict_values_1 _) (meets_dict_values (mixKind X.prog X.w) a hsys) ⟨⟨vs, dof⟩, ?_⟩
  have k1 : ∀ b u, s1.heap.get? b = some u → (s1.heap.push { cls := .type "dict_values", data := .fields #[.ref a] }).get? b = some u := fun b u e => Heap.get?_push_of_some _ e
  have dat1 : (s1.heap.push { cls := .type "dict_values", data := .fields #[.ref a] }).DictAt (mixKind X.prog X.w) a vs ep := dat.keep k1
  have I2 : Inv X pins σ H1 { s1 with heap := s1.heap.push { cls := .type "dict_values", data := .fields #[.ref a] } } := I1.kept (t' := s1.toks) k1
  exact call_sortedVals hc I2 (r := s1.heap.objs.size) (a := a) ⟨_, Heap.get?_push_size _ rfl, rfl, rfl⟩ dat1 rel hv h64 fun s' ys p hp hs hn I3 => ⟨.ref p, _, I3, rfl, q ys p hp hs hn⟩
end
end L2
namespace Ty
open PySem PySem.Spec PyProof.Rows L2
theorem Fk.vals {κ : Type} [Ky κ] {K : PySem.W.Frag} {HF : Hp} : ∀ {ps : List (Key × V)} {qs : List (κ × Str)}, Fk (Rp.sh K HF) ps qs → ps.map (·.2) = (qs.map (·.2)).map V.str
  | [], [], _ => rfl
  | p :: ps, q :: qs, h => by
    rw [List.map_cons, List.map_cons, List.map_cons, Fk.vals h.2, Fl.sh_iff.mp h.1.2]
    rfl
  | [], _ :: _, h => h.elim
  | _ :: _, [], h => h.elim
section
variable {X : Cx} {Γ : Ctx} {S L ρ α β γ κ : Type} [Rp ρ] {o : Ow ρ} {Γo : S → Ctx} {ΓL : L → Ctx} {a b e f : Expr} {pos p p1 apos cpos mpos : Pos} {ta tb te tf : TE} {t : TA} {sts : List Stmt} {tr : TS}
theorem ex_sortedVals [Ky κ] [DecidableEq κ] {K : PySem.W.Frag} {m : M (Dc κ Str)} (hc : X.calm = true) (hm : X.mg "sorted" = none) (h : EX X Γ e Ow.v m te) (hg : Gl X "sorted" := by rfl) (hbase : attributeBase e "values" X.env (eval e X.env) = eval e X.env := by rfl) (hline : (apos.endLine == mpos.line) = true := by rfl)
    (hse : starEach [Expr.Call (.Attribute e "values" apos) [] [] mpos] X.env = [(false, eval (Expr.Call (.Attribute e "values" apos) [] [] mpos) X.env)] := by rfl) :
    EX X Γ (.Call (.Name "sorted" p) [.Call (.Attribute e "values" apos) [] [] mpos] [] pos) (Ow.l Ow.v) (do let d ← m; sortTM (d.l.map (·.2))) (tSortVals te) :=
  ⟨pe_sortedVals hc hg hm h.pe hbase hline hse, fun HF0 G HF H σ g c hc' Q k => by
    obtain ⟨d, e1, hc'⟩ := bind_ok hc'
    obtain ⟨u, e2, hc'⟩ := bind_ok hc'
    cases pure_ok hc'
    refine h.sem HF0 G HF H σ g d e1 _ fun v HF1 H1 fp st r n f => ?_
    obtain ⟨⟨q, kvs, rfl, h2, h3⟩, _⟩ := r
    refine ⟨q, kvs, d.l.map (·.2), rfl, st.sub _ _ h2, Fk.vals h3, of_decide_eq_true (gd_ok e2), fun ys p hp hs hn => ?_⟩
    have e3 := tsort_eq hp hs
    subst e3
    exact (show RetK X.K HF1 H1 (Ow.l Ow.v) (tsort (d.l.map (·.2))) Q from fun v' HF' H' fp' st' r' n' f' => k v' HF' H' fp' (st.trans st') r' n' (fun p hp => ⟨st.exH.free (f' p hp).1, (f' p hp).2⟩)).lst st.sub (Fa.flat.mpr rfl) hn⟩
/-- d[k] = ..pop.. -/
theorem ss_dputP [Ky κ] [DecidableEq κ] [Rp β] [Rp α] [Inhabited β] (j i : Nat) {d : Dc κ β} {x : Str} {m : M (β × List α)} {mk : M κ} {k : β × List α → Dc κ β → M (Ctl S L ρ)} (hu : X.A.units + 64 < cLine) (he : EP X Γ j e m te) (hk : ∀ l : List α, EX X (put Γ j (.mk (Ow.l (Ow.v : Ow α)) l)) b Ow.v mk tb)
    (hr : ∀ (q : β × List α) y, SS X (put (put Γ j (.mk (Ow.l (Ow.v : Ow α)) q.2)) i (.mk (Ow.d (κ := κ) (β := β)) y)) sts Γo ΓL o (k q y) tr) (hl0 : look Γ i = .mk (Ow.d (κ := κ) (β := β)) d := by rfl) (hl : ∀ l, look (put Γ j (.mk (Ow.l (Ow.v : Ow α)) l)) i = .mk (Ow.d (κ := κ) (β := β)) d := by intro; rfl) (hN : X.N[i]? = some x := by rfl) (hv : Vis X.env.scope x := by first | exact Or.inl rfl | exact Or.inr (Or.inl rfl) | exact Or.inr (Or.inr rfl)) (hd : (x == ("__debug__" : Str)) = false := by decide)
    (hcd : (x == ("__classdict__" : Str)) = false := by decide) (hs : swapsWith e (some (.Subscript (.Name x p) b p1)) pos.line X.env = pure false := by rfl) :
    SS X Γ (.Assign [.Subscript (.Name x p) b p1] e pos :: sts) Γo ΓL o (do let a ← m; let b ← mk; let y ← dputM d b a.1; k a y) (tSeq (sDPut (tVar i) tb te) tr) :=
  ⟨pss_cons (ps_dput (hu1 hu) (pe_var hN hv hd hcd) (hk []).pe he.pe hs) (hr default default).pss, fun HF0 G HF H σ g c hc D kk => by
    obtain ⟨⟨y, l⟩, e1, hc⟩ := bind_ok hc
    obtain ⟨ix, e2, hc⟩ := bind_ok hc
    obtain ⟨l2, e3, hc⟩ := bind_ok hc
    obtain ⟨w, e4, e3⟩ := bind_ok e3
    have e5 := pure_ok e3
    subst e5
    have e6 := of_decide_eq_true (gd_ok e4)
    refine he.sem HF0 G HF H σ g y l e1 _ fun v' HF1 H1 st r gg => ?_
    obtain ⟨v, fo, hσ, ⟨q, kvs, h1, h2, h3, h4⟩, nd, hfo, back⟩ := gg.take (hl l)
    subst h1 h2
    refine ⟨.ref q, hσ, ?_⟩
    refine (hk l).sem HF0 G HF1 H1 σ gg ix e2 _ fun w HF2 H2 fp2 st2 r2 _ _ => ?_
    have h3' := st2.exH _ _ h3
    refine ⟨q, upd H2 q (.dK (putK kvs (Ky.key ix) v')), rfl, ?_, ?_⟩
    · rw [Fl.sh_iff.mp r2.1, ← Ky.kv]
      exact DPut.k h3' (by rw [h4.len]; exact e6)
    · have g2 := back (u' := Ow.d (κ := κ) (β := β)) (b := ⟨dput d.l ix y⟩) (v' := .ref q) (f' := [q]) (H' := upd H2 q (.dK (putK kvs (Ky.key ix) v'))) st2 (fun p w hp e => by rw [upd_ne (fun z => hp (by rw [z]; exact List.mem_singleton.mpr rfl))]; exact e)
        ⟨q, _, rfl, rfl, upd_same, Fk.put ix (Rp.mono st2.exF r) (Fk.mono (fun _ _ h => Rp.mono st2.exF h) h4)⟩ (by simp) (fun p hp => .inl hp)
      rw [set_self hσ] at g2
      exact (hr (y, l) ⟨dput d.l ix y⟩).sem HF0 G HF2 _ σ g2 c hc D (kk.mono (st.trans st2.exF))⟩
end
end Ty

/-! ## Ty56: text.split(sep), max(d), int(text) -/
namespace L2
open PySem PySem.Spec PyProof.Rows
section
variable {X : Cx}
/-- max(d), a dict with int keys, one at least -/
def rMaxDI : List V → Hp → VK → Prop := fun xs H Q => ∃ (a : Addr) (kvs : List (Key × V)) (ks : List Int), xs = [.ref a] ∧ H a = some (.dK kvs) ∧ kvs.map (·.1) = ks.map Sum.inl ∧ ks ≠ [] ∧ ∀ m, m ∈ ks → (∀ j ∈ ks, j ≤ m) → Q (.int m) H
theorem cr_maxDI (hc : X.calm = true) : CallR X (.builtin "max") rMaxDI := by
  intro pins s σ H xs us Q I r q
  obtain ⟨a, kvs, ks, ex, ha, hks, hne, q⟩ := q
  subst ex
  obtain ⟨u, eu, rx⟩ := vals1 r
  subst eu
  cases rx
  obtain ⟨_, hsys, vs, rel, dof⟩ := dk_of I.hok ha
  obtain ⟨ep, dat⟩ := dof.dictAt
  have hkeys : vs.map (·.1) = ks.map Sum.inl := rel.keys.symm.trans hks
  have hl : vs.length = ks.length := by
    have e := congrArg List.length hkeys
    rw [List.length_map, List.length_map] at e
    exact e
  have hlen : 0 < vs.length := by
    rw [hl]
    exact List.length_pos_iff.mpr hne
  have hlt : a < s.heap.objs.size := dat.lt_size
  have hval : ∀ (i : Nat) (v : Value), (∃ k x, vs[i]? = some (k, x) ∧ (mixKind X.prog X.w).is k v = true) → ∃ t, v = Value.int (ks.getD i 0) t := fun i v ⟨k, x, hk, hi⟩ => by
    have e3 : (vs.map (·.1))[i]? = some k := by rw [List.getElem?_map, hk]; rfl
    rw [hkeys, List.getElem?_map] at e3
    cases e4 : ks[i]? with
    | none => rw [e4] at e3; cases e3
    | some y =>
      rw [e4] at e3
      have e5 : Sum.inl y = k := Option.some.inj e3
      subst e5
      rcases keyIs_shape (k := Sum.inl y) (v := v) hi with ⟨i', t, ek, ev⟩ | ⟨z, t, ek, ev⟩
      · cases ek
        exact ⟨t, by rw [ev, List.getD_eq_getElem?_getD, e4]; rfl⟩
      · cases ek
  refine call_max_walk (wpAny_pyIter_dict hsys dat ?_)
  refine ⟨_, _, _, _, _, _, _, rfl, Walks.dictKeys (knd := mixKind X.prog X.w) (A := X.A.in1) (I.ok.hd hc) s.heap.objs.size a (Nat.ne_of_lt hlt) vs ep,
    ⟨⟨_, Heap.get?_push_size _ rfl, rfl, rfl⟩, dat.push _⟩, fun b hb => ?_, hlen, CmpOf.ints_gt (fun i => ks.getD i 0) hval, fun v h' tk hP hk => ?_⟩
  · show b < (s.heap.push _).objs.size
    rw [Heap.size_push]
    rcases List.mem_cons.mp hb with e | hb
    · rw [e]; exact Nat.lt_succ_self _
    · have e : b = a := List.mem_singleton.mp hb
      rw [e]
      exact Nat.lt_succ_of_lt hlt
  · obtain ⟨t, rfl⟩ := hval _ v hP
    obtain ⟨b1, b2⟩ := argBest_gt (fun i => ks.getD i 0) (vs.length - 1)
    refine ⟨.int _, H, I.kept (t' := tk) fun b u e => hk b u (fun hmem => ?_) (Heap.get?_push_of_some _ e), ⟨t, rfl⟩, q _ ?_ fun j hj => ?_⟩
    · have e1 : b = s.heap.objs.size := List.mem_singleton.mp hmem
      have e2 := Heap.lt_size e
      rw [e1] at e2
      exact absurd e2 (Nat.lt_irrefl _)
    · have hb : argBest (fun i j => decide (ks.getD i 0 > ks.getD j 0)) (vs.length - 1) < ks.length := by omega
      rw [List.getD_eq_getElem?_getD, List.getElem?_eq_getElem hb]
      exact List.getElem_mem hb
    · obtain ⟨i, hi, e⟩ := List.mem_iff_getElem.mp hj
      have e2 : ks.getD i 0 = j := by rw [List.getD_eq_getElem?_getD, List.getElem?_eq_getElem hi, ← e] <;> rfl
      rw [← e2]
      exact b2 i (by omega)
end
end L2
namespace Ty
open PySem PySem.Spec PyProof.Rows L2
def maxI : List Int → Int
  | [] => 0
  | [x] => x
  | x :: y :: l => if maxI (y :: l) < x then x else maxI (y :: l)
theorem maxI_mem : ∀ {l : List Int}, l ≠ [] → maxI l ∈ l ∧ ∀ j ∈ l, j ≤ maxI l
  | [], h => absurd rfl h
  | [x], _ => ⟨List.mem_cons_self, fun j hj => by rw [List.mem_singleton.mp hj]; exact Int.le_refl _⟩
  | x :: y :: l, _ => by
    obtain ⟨h1, h2⟩ := maxI_mem (l := y :: l) (by simp)
    rw [show maxI (x :: y :: l) = if maxI (y :: l) < x then x else maxI (y :: l) from rfl]
    by_cases h : maxI (y :: l) < x
    · rw [if_pos h]
      exact ⟨List.mem_cons_self, fun j hj => by
        rcases List.mem_cons.mp hj with e | hj
        · rw [e]; exact Int.le_refl _
        · have := h2 j hj; omega⟩
    · rw [if_neg h]
      exact ⟨List.mem_cons_of_mem _ h1, fun j hj => by
        rcases List.mem_cons.mp hj with e | hj
        · rw [e]; omega
        · exact h2 j hj⟩
def maxDM {β : Type} (d : Dc Int β) : M Int := do gd (!d.l.isEmpty); pure (maxI (d.l.map (·.1)))
def splitM (x y : Str) : M (List Str) := do gd (decide (0 < y.length) && decide (x.length ≤ 1000000)); pure (Txt.split x y)
theorem Fk.keysI {β : Type} {R : V → β → Prop} : ∀ {ps : List (Key × V)} {qs : List (Int × β)}, Fk R ps qs → ps.map (·.1) = (qs.map (·.1)).map Sum.inl
  | [], [], _ => rfl
  | p :: ps, q :: qs, h => by
    rw [List.map_cons, List.map_cons, List.map_cons, Fk.keysI h.2, h.1.1]
    rfl
  | [], _ :: _, h => h.elim
  | _ :: _, [], h => h.elim
def rSplitS : V → List V → Hp → VK → Prop := fun x xs H Q => ∃ a b, x = .str a ∧ xs = [.str b] ∧ (b.length == 0) = false ∧ a.length + 2 ≤ sizeLine ∧ rNewStrs (Txt.split a b) H Q
section
variable {X : Cx} {Γ : Ctx} {S L ρ α β γ κ : Type} [Rp ρ] {o : Expr} {a b e f : Expr} {pos p p1 apos cpos mpos : Pos} {ta tb te tf to : TE} {t : TA} {sts : List Stmt} {tr : TS}
theorem ex_maxD [Rp β] {m : M (Dc Int β)} (hc : X.calm = true) (hm : X.mg "max" = none) (h : EX X Γ e Ow.v m te) (hg : Gl X "max" := by rfl) (h1 : starEach [e] X.env = (false, eval e X.env) :: starEach [] X.env := by rfl) : EX X Γ (.Call (.Name "max" p) [e] [] pos) Ow.v (do let a ← m; maxDM a) (tCB rMaxDI (tCons te tNil)) :=
  ex_b1 (cr_maxDI hc) (show SemC1 X.K rMaxDI Ow.v (fun (a : Dc Int β) => maxDM a) from fun HF H v d c s ⟨q, kvs, e, h1, h2⟩ hcc Q k => by
    subst e
    obtain ⟨u, e1, hcc⟩ := bind_ok hcc
    cases pure_ok hcc
    have hne : d.l.map (·.1) ≠ [] := fun z => by
      have := gd_ok e1
      rw [List.map_eq_nil_iff.mp z] at this
      cases this
    obtain ⟨m1, m2⟩ := maxI_mem hne
    refine ⟨q, kvs, d.l.map (·.1), rfl, s _ _ h1, Fk.keysI h2, hne, fun m hm hle => ?_⟩
    have : m = maxI (d.l.map (·.1)) := by
      have := hle _ m1
      have := m2 _ hm
      omega
    subst this
    exact k.flat s) (by decide +kernel) hm h hg (h1 := h1)
theorem ex_split {K : PySem.W.Frag} {mo : M Str} {ma : M (Str × Unit)} (ho : EX X Γ o Ow.v mo to) (ha : EA X Γ [e] (As.cons (α := Str) As.nil) ma t) (hbase : attributeBase o "split" X.env (eval o X.env) = eval o X.env := by rfl)
    (hfew : ((backTo cpos (starEach [e] X.env)).all (fun x => !x.1) && (backToKw cpos (keywordEach [] X.env)).all (fun x => x.1.isSome)
      && decide ([e].length + ([] : List Keyword).length + (if ([] : List Keyword).isEmpty then 0 else 1) < 30)) = true := by rfl)
    (hline : (apos.endLine == cpos.line) = true := by rfl) (hs : starEach [e] X.env = (false, eval e X.env) :: starEach [] X.env := by rfl) (hplain : (backTo cpos (starEach [] X.env)).any (·.1) = false := by rfl) (hK : X.K = K := by rfl) :
    EX X Γ (.Call (.Attribute o "split" apos) [e] [] cpos) (Ow.l Ow.v) (do let x ← mo; let y ← ma; splitM x y.1) (tBM K "str" rSplitS to t) :=
  ex_tm (r := rSplitS) (A := Str × Unit) (γ := List Str) (w := Ow.l Ow.v) (f := fun (x : Str) (y : Str × Unit) => splitM x y.1) PySem.F.slot_str_split PySem.F.type_str_split mt_split (fun HF H x vs y c s h hc Q k => by
    obtain ⟨v, rfl, z⟩ := as1 h
    obtain ⟨u, e1, hc⟩ := bind_ok hc
    cases pure_ok hc
    have e2 := gd_ok e1
    rw [Bool.and_eq_true, decide_eq_true_eq, decide_eq_true_eq] at e2
    refine ⟨x, y.1, rfl, by rw [Fl.sh_iff.mp z]; rfl, by rw [beq_eq_false_iff_ne]; omega, by rw [sizeLine_eq]; omega, fun p hp => ?_⟩
    exact k.lst s (Fa.flat.mpr rfl) hp) ho ha hbase hfew hline hs hplain hK
def rIntS : List V → Hp → VK → Prop := fun xs H Q => ∃ a n, xs = [.str a] ∧ PySem.intText? a = some n ∧ a.length ≤ 640 ∧ Q (.int n) H
def intSM (a : Str) : M Int := do gd (decide (a.length ≤ 640)); ofO (PySem.intText? a)
theorem ex_intS {m : M Str} (hm : X.mg "int" = none) (h : EX X Γ e Ow.v m te) (hg : Gl X "int" := by rfl) (h1 : starEach [e] X.env = (false, eval e X.env) :: starEach [] X.env := by rfl) : EX X Γ (.Call (.Name "int" p) [e] [] pos) Ow.v (do let a ← m; intSM a) (tCB rIntS (tCons te tNil)) :=
  ex_t1 call_int_str (show SemC1 X.K rIntS Ow.v (fun (a : Str) => intSM a) from fun HF H v a c s ra hc Q k => by
    obtain ⟨u, e1, hc⟩ := bind_ok hc
    cases ra
    exact ⟨a, c, rfl, ofO_ok hc, of_decide_eq_true (gd_ok e1), k.flat s⟩) boot_int hm h hg (h1 := h1)
end
end Ty

/-! ## Ty57: sorted(d), int keys -/
namespace Ty
open PySem PySem.Spec PyProof.Rows L2
def rSortDI : List V → Hp → VK → Prop := fun xs H Q => ∃ (a : Addr) (kvs : List (Key × V)) (ks : List Int), xs = [.ref a] ∧ Rd H a (.dK kvs) ∧ kvs.map (·.1) = ks.map Sum.inl ∧ ks.length < 64 ∧
    ∀ (ys : List Int) (p : Addr), ys.Perm ks → ys.Pairwise (· ≤ ·) → H p = none → Q (.ref p) (upd H p (.lst (ys.map V.int)))
def sortDM {β : Type} (d : Dc Int β) : M (List Int) := do gd (decide (d.l.length < 64)); pure (isort (d.l.map (·.1)))
section
variable {X : Cx} {Γ : Ctx} {α β : Type} {e : Expr} {pos p : Pos} {te : TE}
theorem ex_sortedD [Rp β] {m : M (Dc Int β)} (hc : X.calm = true) (hm : X.mg "sorted" = none) (h : EX X Γ e Ow.v m te) (hg : Gl X "sorted" := by rfl) (h1 : starEach [e] X.env = (false, eval e X.env) :: starEach [] X.env := by rfl) : EX X Γ (.Call (.Name "sorted" p) [e] [] pos) (Ow.l Ow.v) (do let a ← m; sortDM a) (tCB rSortDI (tCons te tNil)) :=
  ex_b1 (call_sortedDI hc) (show SemC1 X.K rSortDI (Ow.l Ow.v) (fun (a : Dc Int β) => sortDM a) from fun HF H v d c s ⟨q, kvs, e, h1, h2⟩ hcc Q k => by
    subst e
    obtain ⟨u, e1, hcc⟩ := bind_ok hcc
    cases pure_ok hcc
    refine ⟨q, kvs, d.l.map (·.1), rfl, .inl (s _ _ h1), Fk.keysI h2, by rw [List.length_map]; exact of_decide_eq_true (gd_ok e1), fun ys p hp hs hn => ?_⟩
    have e3 := isort_eq hp hs
    subst e3
    exact k.lst s (Fa.flat.mpr rfl) hn) (by decide +kernel) hm h hg (h1 := h1)
end
end Ty

/-! ## Ty58: statements that are not come to -/
namespace Ty
open PySem PySem.Spec PyProof.Rows L2
theorem ss_no {S L ρ : Type} [Rp ρ] {X : Cx} {Γ : Ctx} {sts : List Stmt} {Γo : S → Ctx} {ΓL : L → Ctx} {o : Ow ρ} : SS X Γ sts Γo ΓL o (no : M (Ctl S L ρ)) (fun _ _ _ => False) :=
  ⟨⟨fun _ _ _ _ _ _ h => h.elim⟩, fun _ _ _ _ _ _ c hc => by cases hc⟩
end Ty

/-! ## Ty59: sorted(tuple), min of two tuples, tuple + tuple, list[a:b:c] -/
namespace PySem.W
open PySem PySem.Calls PyProof.Rows PyProof.V PySem.Spec
section
variable {prog : Program} {w : World} {A : Around} {E : Value → Shared → Prop} {s : Shared}
/-- min(a, b), two things compared where H stands -/
theorem call_min_twoH {a b : Value} {Q : Value → Shared → Prop}
    (h : wpAny (model prog w) A.in1 (pyIter (.ref s.heap.objs.size)) (fun it s₂ => ∃ I fp wr G n P St H bt, it = .ref I ∧ WalksS prog w A.in1 I fp wr G n P St ∧ St 0 s₂ ∧ (∀ b ∈ fp, b < s₂.heap.objs.size) ∧ 0 < n ∧
      (∀ b o, H.get? b = some o → b ∉ wr) ∧ (∀ b o, H.get? b = some o → s₂.heap.get? b = some o) ∧ CmpIn prog w A.in1 .Lt H P bt ∧ ∀ v s', P (argBest bt (n - 1)) v → Moved wr G s₂ s' → Q v s') E { s with heap := s.heap.push { cls := .type "tuple", data := .seq #[a, b] } }) :
    wpAny (model prog w) A (call (.builtin "min") [a, b]) Q E s := by
  have hname : (toString "min" ++ toString ".loop" : String) = "min.loop" := by decide
  refine call_function_tree F.kind_min F.plain_min F.entry_min (F.args_min2 _ _) ?_
  show wpAny _ A.in1 (Builtin.Builtins.bindParams "min" ["key", "default"] 0 ⟨[], []⟩ >>= _) _ _ s
  refine wpAny_bind (wpAny_of_eq (show Builtin.Builtins.bindParams "min" ["key", "default"] 0 ⟨[], []⟩ = pure [none, none] from rfl) ?_)
  show wpAny _ A.in1 (newTuple [a, b] >>= _) _ _ s
  refine wpAny_bind (wpAny_newObj_type ?_)
  refine wpAny_bind (wpAny_mono h (fun it s₂ h₂ => ?_) fun _ _ e => e)
  obtain ⟨I, fp, wr, G, n, P, St, H, bt, rfl, W, hst, hfp, hn, hw, hkeep, hcmp, hQ⟩ := h₂
  refine wpAny_bind (wpAny_newObj_type ?_)
  have hSf : s₂.heap.objs.size ∉ fp := fun hm => Nat.lt_irrefl _ (hfp _ hm)
  rw [hname]
  refine wpAny_pure ⟨plainId_quiet F.plain_min_loop _, codeAny_min_loop_firstH W H hw bt hcmp s₂.heap.objs.size hSf (fresh_in hkeep) _ hn (fun b o e => Heap.get?_push_of_some _ (hkeep b o e)) (W.frame 0 s₂ _ s₂.toks hst (Nat.le_refl _) fun b _ o e => Heap.get?_push_of_some _ e) (Heap.get?_push_size _ rfl) fun v s' hP hm => ?_⟩
  exact hQ v s' hP (Moved.drop_new (tk := s₂.toks) hm (Nat.le_refl _))
end
end PySem.W
namespace L2
open PySem PySem.Spec PyProof.Rows
theorem reads_int_list {h : Heap} : ∀ {us : List Value} {ns : List Int}, Vals (ns.map V.int) us → PySem.ReadsAll h us (ns.map .int) []
  | [], [], _ => .nil
  | u :: us, n :: ns, .cons r rs => by
    obtain ⟨t, rfl⟩ := r
    exact PySem.ReadsAll.cons (as := []) (bs := []) (.int n t) (reads_int_list rs)
  | [], _ :: _, h => by cases h
  | _ :: _, [], h => by cases h
section
variable {X : Cx}
/-- min of two tuples of ints: pairs -/
def rMin2P (K : PySem.W.Frag) : List V → Hp → VK → Prop := fun xs H Q => ∃ (a b : Addr) (i j k l : Int), xs = [.ref a, .ref b] ∧ SqT K H a [.int i, .int j] ∧ SqT K H b [.int k, .int l] ∧ Q (if k < i ∨ (k = i ∧ l < j) then .ref b else .ref a) H
theorem cr_min2P (hc : X.calm = true) (hu : X.A.units + 64 < cLine) : CallR X (.builtin "min") (rMin2P X.K) := by
  intro pins s σ H xs us Q I r h
  obtain ⟨a, b, i, j, k, l, rfl, ha, hb, q⟩ := h
  obtain ⟨u, u', rfl, r1, r2⟩ := vals2 r
  cases r1
  cases r2
  obtain ⟨its, v1, p1, _⟩ := I.tuple ha
  obtain ⟨its2, v2, p2, _⟩ := I.tuple hb
  refine PySem.W.call_min_twoH ?_
  have hk0 : ∀ x o, s.heap.get? x = some o → (s.heap.push { cls := .type "tuple", data := .seq #[Value.ref a, Value.ref b] }).get? x = some o := fun x o e => Heap.get?_push_of_some _ e
  have hT : (s.heap.push { cls := .type "tuple", data := .seq #[Value.ref a, Value.ref b] }).IsTuple s.heap.objs.size #[Value.ref a, Value.ref b] := ⟨_, Heap.get?_push_size _ rfl, rfl, _, rfl⟩
  have hR : PySem.ReadsAll (s.heap.push { cls := .type "tuple", data := .seq #[Value.ref a, Value.ref b] }) (#[Value.ref a, Value.ref b] : Array Value).toList [.tuple [.int i, .int j], .tuple [.int k, .int l]] [] := by
    obtain ⟨o1, e1, c1, n1, d1⟩ := p1
    obtain ⟨o2, e2, c2, n2, d2⟩ := p2
    refine PySem.ReadsAll.cons (as := []) (bs := []) (.tuple (hk0 _ _ e1) c1 d1 (by have := reads_int_list (h := s.heap.push { cls := .type "tuple", data := .seq #[Value.ref a, Value.ref b] }) (ns := [i, j]) v1; simpa using this)) (PySem.ReadsAll.cons (as := []) (bs := []) (.tuple (hk0 _ _ e2) c2 d2 (by have := reads_int_list (h := s.heap.push { cls := .type "tuple", data := .seq #[Value.ref a, Value.ref b] }) (ns := [k, l]) v2; simpa using this)) .nil)
  have hA : PySem.W.AlikeAll [PyData.tuple [.int i, .int j], .tuple [.int k, .int l]] := by
    constructor
    · intro d hd e he
      rcases List.mem_cons.mp hd with rfl | hd
      · rcases List.mem_cons.mp he with rfl | he
        · rfl
        · rw [List.mem_singleton.mp he]; rfl
      · rw [List.mem_singleton.mp hd]
        rcases List.mem_cons.mp he with rfl | he
        · rfl
        · rw [List.mem_singleton.mp he]; rfl
    · intro d hd
      rcases List.mem_cons.mp hd with rfl | hd
      · exact fun h => by cases h
      · rw [List.mem_singleton.mp hd]
        exact fun h => by cases h
  refine PySem.W.iter_tupleW (A := X.A.in1) (I.ok.hd hc) hT fun s₂ e W st hfp hw hk => ?_
  refine ⟨_, _, _, _, _, _, _, s.heap.push { cls := .type "tuple", data := .seq #[Value.ref a, Value.ref b] }, _, rfl, W, st, hfp, by show 0 < 2; decide, hw, hk, PySem.W.cmpIn_lt (s := { s with heap := s.heap.push { cls := .type "tuple", data := .seq #[Value.ref a, Value.ref b] } }) (A := X.A.in1) hR hA ?_, fun v s' hP m => ?_⟩
  · show X.A.units + 1 + _ < _
    have : PyData.depthAll [PyData.tuple [.int i, .int j], .tuple [.int k, .int l]] ≤ 8 := by simp [PyData.depthAll, PyData.depth]
    omega
  obtain ⟨h', tk, rfl, hk'⟩ := PySem.W.moved_old e rfl m
  have hlt : PySem.W.dataLt (.tuple [.int k, .int l]) (.tuple [.int i, .int j]) = decide (k < i ∨ (k = i ∧ l < j)) := PySem.W.dataLt_ii k l i j
  have hb : argBest (fun i' j' => PySem.W.dataLt (([PyData.tuple [.int i, .int j], .tuple [.int k, .int l]] : List PyData).getD i' .none) (([PyData.tuple [.int i, .int j], .tuple [.int k, .int l]] : List PyData).getD j' .none)) 1 = if k < i ∨ (k = i ∧ l < j) then 1 else 0 := by
    show (if PySem.W.dataLt (.tuple [.int k, .int l]) (.tuple [.int i, .int j]) = true then 1 else 0) = _
    rw [hlt]
    by_cases z : k < i ∨ (k = i ∧ l < j)
    · rw [if_pos z, decide_eq_true z]; rfl
    · rw [if_neg z, decide_eq_false z]; rfl
  have hP : (#[Value.ref a, Value.ref b] : Array Value)[argBest (fun i' j' => PySem.W.dataLt (([PyData.tuple [.int i, .int j], .tuple [.int k, .int l]] : List PyData).getD i' .none) (([PyData.tuple [.int i, .int j], .tuple [.int k, .int l]] : List PyData).getD j' .none)) 1]? = some v := hP
  rw [hb] at hP
  by_cases z : k < i ∨ (k = i ∧ l < j)
  · rw [if_pos z] at hP q
    have hv : some (Value.ref b) = some v := hP
    cases hv
    exact ⟨.ref b, H, I.kept (t' := tk) fun x o e => hk' x o (hk0 x o e), rfl, q⟩
  · rw [if_neg z] at hP q
    have hv : some (Value.ref a) = some v := hP
    cases hv
    exact ⟨.ref a, H, I.kept (t' := tk) fun x o e => hk' x o (hk0 x o e), rfl, q⟩
end
end L2
namespace L2
open PySem PySem.Spec PyProof.Rows
section
variable {X : Cx}
/-- sorted(t), a tuple of ints -/
def rSortTu (K : PySem.W.Frag) : List V → Hp → VK → Prop := fun xs H Q => ∃ (a : Addr) (ns : List Int), xs = [.ref a] ∧ SqT K H a (ns.map V.int) ∧ ns.length < 64 ∧
  ∀ (ys : List Int) (p : Addr), ys.Perm ns → ys.Pairwise (· ≤ ·) → H p = none → Q (.ref p) (upd H p (.lst (ys.map V.int)))
theorem cr_sortedTu (hcalm : X.calm = true) : CallR X (.builtin "sorted") (rSortTu X.K) := by
  intro pins s σ H xs us Q I r q
  obtain ⟨a, ks, ex, ha, h64, q⟩ := q
  subst ex
  obtain ⟨u, eu, rx⟩ := vals1 r
  subst eu
  cases rx
  obtain ⟨its, rv, p1, _⟩ := I.tuple ha
  obtain ⟨o1, e1, c1, n1, d1⟩ := p1
  have hS : IntsAre its ks := Vals.ints rv
  have hal : its.length = ks.length := hS.length
  refine Calls.call_function_entry PyProof.Rows.kind_sorted PyProof.Rows.plain_sorted PyProof.Rows.entry_sorted (PyProof.Rows.args_sorted1 _) ?_
  unfold Builtin.«sorted»
  refine wpAny_bind (m := checkCount "sorted" 1 1 _) (wpAny_pure ?_)
  refine wpAny_bind (wpAny_collect_seq (A := X.A.in1) a (.inr rfl) e1 c1 d1 (fun h' hk => ?_) (by rw [List.size_toArray, hal, sizeLine_eq]; omega))
  have I1 : Inv X pins σ H { s with heap := h', toks := s.toks } := I.kept hk
  rw [show its.toArray.toList = its by simp]
  refine wpAny_bind (wpAny_newList ?_ (by rw [hal, sizeLine_eq]; omega))
  have hoL : (h'.push (seqObj "list" its.toArray 0)).get? h'.objs.size = some (seqObj "list" its.toArray 0) := Heap.get?_push_size _ rfl
  show wpAny _ _ _ _ _ { s with heap := h'.push (seqObj "list" its.toArray 0), toks := s.toks }
  refine wpAny_bind (wpAny_holding (wpAny_call_entry PyProof.Rows.slot_list_sort ⟨_, hoL, rfl⟩ PyProof.Rows.entry_list_sort
    (PyProof.Rows.list_sort_tree (s := { s with heap := h'.push (seqObj "list" its.toArray 0), toks := s.toks }) hoL hS (by rw [hal]; exact h64) fun out ys g1 g2 g3 => ⟨_, rfl, ?_⟩) (PyProof.Rows.args_list_sort _)))
  obtain ⟨e', he'⟩ := PyProof.Rows.sortedHeap_at (vs := its) (out := out) hoL
  have hlen : (ys.map V.int).length ≤ sizeLine := by
    rw [List.length_map, g2.length_eq]
    exact Nat.le_trans (Nat.le_of_lt h64) (by decide)
  refine wpAny_pure ⟨_, rfl, .ref h'.objs.size, upd H h'.objs.size (.lst (ys.map V.int)), I1.laid (t' := s.toks) (fun b u e => ?_) (Nat.le_refl _)
    (show ObjOk X.prog X.w _ _ _ (.lst (ys.map V.int)) from ⟨hlen, out.toList, e', vals_of_ints g1, by rw [Array.toArray_toList]; exact he'⟩), rfl, q ys _ g2 g3 (I1.hok.fresh (Nat.le_refl _))⟩
  have hb : b < h'.objs.size := Heap.lt_size e
  rw [PyProof.Rows.sortedHeap_old (Nat.ne_of_lt hb) (by rw [size_push']; exact Nat.lt_succ_of_lt hb)]
  exact Heap.get?_push_of_some _ e
end
end L2
namespace Ty
open PySem PySem.Spec PyProof.Rows L2
/-- a pair of ints in the heap -/
theorem pair_ii {K : PySem.W.Frag} {HF : Hp} {v : V} {x : Int × Int} (h : Rp.sh K HF v x) : ∃ p, v = .ref p ∧ SqT K HF p [.int x.1, .int x.2] := by
  obtain ⟨p, va, vb, h1, h2, h3, h4⟩ := h
  rw [Fl.sh_iff.mp h3, Fl.sh_iff.mp h4] at h2
  exact ⟨p, h1, h2⟩
section
variable {X : Cx} {Γ : Ctx} {S L ρ α β γ : Type} [Rp ρ] {o : Ow ρ} {Γo : S → Ctx} {ΓL : L → Ctx} {a b e f : Expr} {pos p p1 p2 p3 apos cpos mpos pos2 : Pos} {ta tb te tf to : TE} {t : TA} {sts : List Stmt} {tr : TS}
/-- pair + pair -/
theorem ex_catPP {K : PySem.W.Frag} {m n : M (Int × Int)} (ha : EX X Γ a Ow.v m ta) (hb : EX X Γ b Ow.v n tb) (hK : X.K = K := by rfl) : EX X Γ (.BinOp a .Add b pos) Ow.v (do let x ← m; let y ← n; pure (Tu.mk [x.1, x.2, y.1, y.2])) (tOp (rCatT K) ta tb) := by
  subst hK
  exact ex_op op_catT (show SemR2 X.K (rCatT X.K) Ow.v (fun (x y : Int × Int) => pure (Tu.mk [x.1, x.2, y.1, y.2])) from fun HF H v w x y c s ra rb hc Q k => by
    cases pure_ok hc
    obtain ⟨q, e1, h1⟩ := pair_ii ra
    obtain ⟨q', e2, h2⟩ := pair_ii rb
    subst e1 e2
    refine ⟨q, q', _, _, rfl, rfl, sqT_mono s h1, sqT_mono s h2, by simp, by simp [sizeLine_eq], fun z => by simp at z, fun _ r hr => ?_⟩
    have st := Step.shr (o := .tup [.int x.1, .int x.2, .int y.1, .int y.2]) s hr
    exact k (.ref r) _ _ [] st ⟨⟨r, _, rfl, SqT.of upd_same, ⟨Fl.sh_iff.mpr rfl, Fl.sh_iff.mpr rfl, Fl.sh_iff.mpr rfl, Fl.sh_iff.mpr rfl, True.intro⟩⟩, rfl⟩ List.nodup_nil fun p hp => by cases hp) ha hb
/-- sorted(tuple of ints) -/
def sortTuM (x : Tu Int) : M (List Int) := do gd (decide (x.l.length < 64)); pure (isort x.l)
theorem ex_sortTu {K : PySem.W.Frag} {m : M (Tu Int)} (hc : X.calm = true) (hm : X.mg "sorted" = none) (h : EX X Γ e Ow.v m te) (hg : Gl X "sorted" := by rfl) (h1 : starEach [e] X.env = (false, eval e X.env) :: starEach [] X.env := by rfl) (hK : X.K = K := by rfl) : EX X Γ (.Call (.Name "sorted" p) [e] [] pos) (Ow.l Ow.v) (do let a ← m; sortTuM a) (tCB (rSortTu K) (tCons te tNil)) := by
  subst hK
  exact ex_b1 (cr_sortedTu hc) (show SemC1 X.K (rSortTu X.K) (Ow.l Ow.v) (fun (a : Tu Int) => sortTuM a) from fun HF H v x c s ⟨q, us, e, h1, h2⟩ hcc Q k => by
    subst e
    obtain ⟨u, e1, hcc⟩ := bind_ok hcc
    cases pure_ok hcc
    have e2 := Fa.flat.mp h2
    subst e2
    refine ⟨q, x.l, rfl, sqT_mono s h1, of_decide_eq_true (gd_ok e1), fun ys p hp hs hn => ?_⟩
    have e3 := isort_eq hp hs
    subst e3
    exact k.lst s (Fa.flat.mpr rfl) hn) (by decide +kernel) hm h hg (h1 := h1)
/-- min of two pairs -/
def minPP (x y : Int × Int) : Int × Int := if y.1 < x.1 ∨ (y.1 = x.1 ∧ y.2 < x.2) then y else x
theorem ex_minPP {K : PySem.W.Frag} {m n : M (Int × Int)} (hc : X.calm = true) (hu : X.A.units + 64 < cLine) (hm : X.mg "min" = none) (ha : EX X Γ a Ow.v m ta) (hb : EX X Γ b Ow.v n tb) (hg : Gl X "min" := by rfl) (h1 : starEach [a, b] X.env = (false, eval a X.env) :: starEach [b] X.env := by rfl) (h2 : starEach [b] X.env = (false, eval b X.env) :: starEach [] X.env := by rfl) (hpl : (backTo pos (starEach [b] X.env)).any (·.1) = false := by rfl) (hK : X.K = K := by rfl) : EX X Γ (.Call (.Name "min" p) [a, b] [] pos) Ow.v (do let x ← m; let y ← n; pure (minPP x y)) (tCB (rMin2P K) (tCons ta (tCons tb tNil))) := by
  subst hK
  exact ex_b2 (cr_min2P hc hu) (show SemC2 X.K (rMin2P X.K) Ow.v (fun (x y : Int × Int) => pure (minPP x y)) from fun HF H v w x y c s ra rb hcc Q k => by
    cases pure_ok hcc
    obtain ⟨q, e1, h1⟩ := pair_ii ra
    obtain ⟨q', e2, h2⟩ := pair_ii rb
    subst e1 e2
    refine ⟨q, q', _, _, _, _, rfl, sqT_mono s h1, sqT_mono s h2, ?_⟩
    unfold minPP at k
    by_cases z : y.1 < x.1 ∨ (y.1 = x.1 ∧ y.2 < x.2)
    · rw [if_pos z] at k ⊢
      exact k.shv s rb
    · rw [if_neg z] at k ⊢
      exact k.shv s ra) (by decide +kernel) hm ha hb hg (h1 := h1) (h2 := h2) (hpl := hpl)
/-- list(pair) -/
theorem ex_pTu {m : M (Int × Int)} (h : EX X Γ e Ow.v m te) : EX X Γ e Ow.v (do let x ← m; pure (Tu.mk [x.1, x.2])) te :=
  ⟨h.pe, fun HF0 G HF H σ g c hc Q k => by
    obtain ⟨x, e1, hc⟩ := bind_ok hc
    cases pure_ok hc
    refine h.sem HF0 G HF H σ g x e1 _ fun v HF1 H1 fp st r n f => ?_
    obtain ⟨r, rfl⟩ := r
    obtain ⟨q, e2, h2⟩ := pair_ii r
    subst e2
    exact k (.ref q) HF1 H1 [] st ⟨⟨q, _, rfl, h2, ⟨Fl.sh_iff.mpr rfl, Fl.sh_iff.mpr rfl, True.intro⟩⟩, rfl⟩ List.nodup_nil fun p hp => by cases hp⟩
end
end Ty
namespace L2
open PySem PySem.Spec PyProof.Rows
section
variable {X : Cx} {e : Expr} {te : TE}
/-- xs[lo:hi:k] -/
def stepB {α : Type} (lo hi k : Nat) (xs : List α) : List α := (sliceRange ((min lo xs.length : Nat) : Int) ((min hi xs.length : Nat) : Int) (k : Int)).filterMap fun i => xs[i]?
def tStepB (K : PySem.W.Frag) (lo hi k : Nat) (te : TE) : TE := fun σ H Q => te σ H fun x H1 => ∃ a xs, x = .ref a ∧ SqL K H1 a xs ∧ ∀ p, H1 p = none → Q (.ref p) (upd H1 p (.lst (stepB lo hi k xs)))
theorem stepB_len {α : Type} {lo hi k : Nat} (hk : 0 < k) (xs : List α) : (stepB lo hi k xs).length ≤ xs.length :=
  Nat.le_trans (List.length_filterMap_le _ _) (sliceRange_length_le ((min lo xs.length : Nat) : Int) ((min hi xs.length : Nat) : Int) (k : Int) xs.length (fun _ => ⟨by omega, by omega⟩) (fun h => absurd (show (k : Int) > 0 by omega) h))
theorem pe_stepB {l h n : Nat} {k k1 k2 : Nat} {p1 p2 p4 p3 pos : Pos} (hn : 0 < n) (he : PE X e te) : PE X (.Subscript e (.Slice (some (.Constant (.int (l : Int)) k1 p2)) (some (.Constant (.int (h : Int)) k2 p4)) (some (.Constant (.int (n : Int)) k p1)) p3) pos) (tStepB X.K l h n te) := by
  refine ⟨fun pins s σ H Q I hh => ?_⟩
  refine Subscript_ (thn (he.run pins s σ H _ I hh) fun v s1 ⟨x, H1, I1, r1, q1⟩ => ?_)
  obtain ⟨a, xs, ex, hx, q⟩ := q1
  subst ex
  cases r1
  have hlo : PO X (some (.Constant (.int (l : Int)) k1 p2)) (tPart (tC (.int (l : Int)))) := po_some pe_int
  have hhi : PO X (some (.Constant (.int (h : Int)) k2 p4)) (tPart (tC (.int (h : Int)))) := po_some pe_int
  have hst : PO X (some (.Constant (.int (n : Int)) k p1)) (tPart (tC (.int (n : Int)))) := po_some pe_int
  refine wpAny_Slice (thn (hlo.run pins s1 σ H1 (fun o H2 => o = some (l : Int) ∧ H2 = H1) I1 ⟨(l : Int), rfl, rfl, rfl⟩) fun vl s2 ⟨lo, H2, I2, pl, el, e2⟩ => ?_)
  subst el e2
  refine thn (hhi.run pins s2 σ H2 (fun o H3 => o = some (h : Int) ∧ H3 = H2) I2 ⟨(h : Int), rfl, rfl, rfl⟩) fun vu s3 ⟨u, H3, I3, pu, eu, e3⟩ => ?_
  subst eu e3
  refine thn (hst.run pins s3 σ H3 (fun o H4 => o = some (n : Int) ∧ H4 = H3) I3 ⟨(n : Int), rfl, rfl, rfl⟩) fun vs s4 ⟨o, H4, I4, ps, eo, e4⟩ => ?_
  subst eo e4
  have I5 : Inv X pins σ H4 { s4 with heap := s4.heap.push { cls := .type "slice", data := .fields #[vl, vu, vs] } } := I4.kept (t' := s4.toks) fun b ob q => Heap.get?_push_of_some _ q
  obtain ⟨its, r, ht, hz⟩ := I5.list hx
  have hlen := r.length
  show wpAny (model X.prog X.w) X.A (subscriptTail e (.Slice (some (.Constant (.int (l : Int)) k1 p2)) (some (.Constant (.int (h : Int)) k2 p4)) (some (.Constant (.int (n : Int)) k p1)) p3) (.ref a) (.ref s4.heap.objs.size)) (EP X pins σ Q) X.xe { s4 with heap := s4.heap.push { cls := .type "slice", data := .fields #[vl, vu, vs] } }
  refine tail_any (ops := [.ref a, .ref s4.heap.objs.size]) ht.isList.typeIs (PySem.slot_list_getitem.lookup) ?_ (by with_unfolding_all rfl)
  refine wpAny_getItem_list_slice ht.isList (Heap.IsSliceOf.new _ vl vu vs) pl pu ps (by intro h; injection h with h; omega) ?_ (by rw [List.size_toArray]; omega)
  have hp : slicePick its.toArray (some (l : Int)) (some (h : Int)) (some (n : Int)) = (stepB l h n its).toArray := by
    unfold slicePick stepB
    have hb : sliceBounds (some (l : Int)) (some (h : Int)) (some (n : Int)) its.toArray.size = (((min l its.length : Nat) : Int), ((min h its.length : Nat) : Int), (n : Int)) := by
      unfold sliceBounds
      simp only [Option.getD_some, List.size_toArray]
      rw [if_neg (show ¬ (l : Int) < 0 by omega), if_neg (show ¬ (h : Int) < 0 by omega), if_pos (show (n : Int) > 0 by omega), if_pos (show (n : Int) > 0 by omega)]
      refine Prod.ext ?_ (Prod.ext ?_ rfl)
      · show max 0 (min (l : Int) (its.length : Int)) = ((min l its.length : Nat) : Int)
        omega
      · show max 0 (min (h : Int) (its.length : Int)) = ((min h its.length : Nat) : Int)
        omega
    rw [hb]
    congr 1
    have : (fun i : Nat => its.toArray[i]?) = fun i => its[i]? := funext fun i => by simp
    rw [this]
  rw [hp]
  have hv : Vals (stepB l h n xs) (stepB l h n its) := by
    unfold stepB
    rw [show its.length = xs.length by omega]
    exact vals_fm r _
  refine ⟨.ref _, _, I5.laid (t' := s4.toks) (o := .lst (stepB l h n xs)) (fun b ob q => Heap.get?_push_of_some _ q) (Nat.le_refl _) ?_, rfl, q _ (I5.hok.fresh (Nat.le_refl _))⟩
  exact ⟨Nat.le_trans (stepB_len hn xs) hz, _, 0, hv, Heap.get?_push_size _ rfl⟩
end
end L2
namespace Ty
open PySem PySem.Spec PyProof.Rows L2
def fourM {α : Type} : List α → M (α × α × α × α)
  | [x, y, z, w] => pure (x, y, z, w)
  | _ => no
theorem fourM_ok {α : Type} {a : List α} {u : α × α × α × α} (h : fourM a = .ok u) : a = [u.1, u.2.1, u.2.2.1, u.2.2.2] := by
  unfold fourM at h
  split at h
  · cases pure_ok h; rfl
  · cases h
section
variable {X : Cx} {Γ : Ctx} {S L ρ α β γ : Type} [Rp ρ] {o : Ow ρ} {Γo : S → Ctx} {ΓL : L → Ctx} {a b e f : Expr} {pos p p1 p2 p3 p4 apos cpos mpos pos2 : Pos} {ta tb te tf to : TE} {t : TA} {sts : List Stmt} {tr : TS}
theorem ex_stepB {α : Type} {K : PySem.W.Frag} [Rp α] (l h n : Nat) {k k1 k2 : Nat} {m : M (List α)} (hn : 0 < n) (hh : EX X Γ e Ow.v m te) (hK : X.K = K := by rfl) : EX X Γ (.Subscript e (.Slice (some (.Constant (.int (l : Int)) k1 p2)) (some (.Constant (.int (h : Int)) k2 p4)) (some (.Constant (.int (n : Int)) k p1)) p3) pos) (Ow.l (Ow.v : Ow α)) (do let a ← m; pure (stepB l h n a)) (tStepB K l h n te) := by
  subst hK
  exact ⟨pe_stepB hn hh.pe, fun HF0 G HF H σ g c hcc Q kk => by
    obtain ⟨x, e1, hcc⟩ := bind_ok hcc
    cases pure_ok hcc
    refine hh.sem HF0 G HF H σ g x e1 _ fun v HF1 H1 fp st r n' f => ?_
    obtain ⟨⟨q, us, e2, h3, h4⟩, _⟩ := r
    refine ⟨q, us, e2, SqL.of (st.sub _ _ h3), fun q' hq => ?_⟩
    refine (show RetK X.K HF1 H1 (Ow.l (Ow.v : Ow α)) (stepB l h n x) Q from fun v' HF' H' fp' st' r' n' f' => kk v' HF' H' fp' (st.trans st') r' n' (fun p hp => ⟨st.exH.free (f' p hp).1, (f' p hp).2⟩)).lst st.sub ?_ hq
    unfold stepB
    rw [h4.len]
    exact fa_fm h4 _⟩
theorem ss_asgU4 {K : PySem.W.Frag} [Rp α] [Inhabited α] {x y z w : Expr} {kk : Nat} {g1 g2 g3 g4 : TG} {Γ1 : α → Ctx} {Γ2 : α → α → Ctx} {Γ3 : α → α → α → Ctx} {Γ4 : α → α → α → α → Ctx} {js1 js2 js3 js4 : List Nat} {m : M (List α)} {k : α × α × α × α → M (Ctl S L ρ)} (hcm : X.calm = true) (he : EX X Γ e Ow.v m te) (hg1 : ∀ u, EG X Γ x g1 u (Γ1 u) js1) (hg2 : ∀ u v, EG X (Γ1 u) y g2 v (Γ2 u v) js2) (hg3 : ∀ u v r, EG X (Γ2 u v) z g3 r (Γ3 u v r) js3) (hg4 : ∀ u v r s, EG X (Γ3 u v r) w g4 s (Γ4 u v r s) js4) (hr : ∀ u : α × α × α × α, SS X (Γ4 u.1 u.2.1 u.2.2.1 u.2.2.2) sts Γo ΓL o (k u) tr)
    (hs4 : (assignEach [w] X.env).map (fun x => x.2) = assign w X.env :: (assignEach [] X.env).map (fun x => x.2) := by rfl) (hs3 : (assignEach [z, w] X.env).map (fun x => x.2) = assign z X.env :: (assignEach [w] X.env).map (fun x => x.2) := by rfl) (hs2 : (assignEach [y, z, w] X.env).map (fun x => x.2) = assign y X.env :: (assignEach [z, w] X.env).map (fun x => x.2) := by rfl) (hs1 : (assignEach [x, y, z, w] X.env).map (fun x => x.2) = assign x X.env :: (assignEach [y, z, w] X.env).map (fun x => x.2) := by rfl)
    (hpg : PGs X [x, y, z, w] (gCons g1 (gCons g2 (gCons g3 (gCons g4 gNil)))) → PG X (.Tuple [x, y, z, w] kk pos2) (gUnl X.K 4 (gCons g1 (gCons g2 (gCons g3 (gCons g4 gNil))))) := by exact fun h => pg_unl (by first | rfl | assumption) h)
    (hs : swapsWithSole [.Tuple [x, y, z, w] kk pos2] e pos.line X.env = pure false := by rfl) (hw : swappedStores [.Tuple [x, y, z, w] kk pos2] e X.env = pure none := by rfl)
    (h1 : (assignEach [.Tuple [x, y, z, w] kk pos2] X.env).map (·.2) = [assign (.Tuple [x, y, z, w] kk pos2) X.env] := by rfl) (hK : X.K = K := by rfl) :
    SS X Γ (.Assign [.Tuple [x, y, z, w] kk pos2] e pos :: sts) Γo ΓL o (do let a ← m; let u ← fourM a; k u) (tSeq (tAsg te (gUnl K 4 (gCons g1 (gCons g2 (gCons g3 (gCons g4 gNil)))))) tr) := by
  subst hK
  exact ⟨pss_cons (ps_asg he.pe (hpg (pgs_cons (hg1 default).pg (pgs_cons (hg2 default default).pg (pgs_cons (hg3 default default default).pg (pgs_cons (hg4 default default default default).pg pgs_nil hs4) hs3) hs2) hs1)) hs hw h1) (hr default).pss, fun HF0 G HF H σ gd c hc D kk => by
    obtain ⟨a, e1, hc⟩ := bind_ok hc
    obtain ⟨u, e2, hc⟩ := bind_ok hc
    have e3 := fourM_ok e2
    subst e3
    refine he.sem HF0 G HF H σ gd _ e1 _ fun v HF1 H1 fp st r n f => ?_
    obtain ⟨q, us, e4, e5, e6⟩ := r.1
    match us, e6 with
    | [va, vb, vc, vd], ⟨e7, e8, e9, e10, _⟩ =>
      refine ⟨q, [va, vb, vc, vd], e4, SqL.of (st.sub _ _ e5), rfl, va, [vb, vc, vd], rfl, ?_⟩
      refine (hg1 u.1).sem HF0 G HF1 H1 σ va (gd.step st) e7 _ fun σ1 G1 l1 s1 => ⟨vb, [vc, vd], rfl, ?_⟩
      refine (hg2 u.1 u.2.1).sem HF0 G HF1 H1 σ1 vb G1 e8 _ fun σ2 G2 l2 s2 => ⟨vc, [vd], rfl, ?_⟩
      refine (hg3 u.1 u.2.1 u.2.2.1).sem HF0 G HF1 H1 σ2 vc G2 e9 _ fun σ3 G3 l3 s3 => ⟨vd, [], rfl, ?_⟩
      refine (hg4 u.1 u.2.1 u.2.2.1 u.2.2.2).sem HF0 G HF1 H1 σ3 vd G3 e10 _ fun σ4 G4 l4 s4 => ⟨rfl, ?_⟩
      exact (hr u).sem HF0 G HF1 H1 σ4 G4 c hc D (kk.mono st.exF)⟩
end
end Ty

/-! ## Ty60: a value that is None, a text or a list of truth values -/
namespace Ty
open PySem PySem.Spec PyProof.Rows L2
inductive Jv where
  | n
  | s (x : Str)
  | l (xs : List Bool)
instance : Inhabited Jv := ⟨.n⟩
instance : Rp Jv where
  sh K H v j := match j with
    | .n => v = .non
    | .s x => v = .str x
    | .l xs => Rp.sh K H v xs
  mono {K H H' v a} e h := by
    cases a with
    | n => exact h
    | s x => exact h
    | l xs => exact Rp.mono (α := List Bool) e h
def jS (u : Jv) : M Str := match u with
  | .s x => pure x
  | _ => no
def jL (u : Jv) : M (List Bool) := match u with
  | .l x => pure x
  | _ => no
def jOf (r : Str ⊕ Exn) : Jv ⊕ Exn := match r with
  | .inl a => .inl (.s a)
  | .inr x => .inr x
section
variable {X : Cx} {Γ : Ctx} {e : Expr} {te : TE}
theorem ex_jN {j pos} : EX X Γ (.Constant .none j pos) Ow.v (pure Jv.n) (tC .non) :=
  ⟨pe_non, fun HF0 G HF H σ g c hc Q k => by
    cases pure_ok hc
    exact (ex_nonS (X := X) (Γ := Γ) (j := j) (pos := pos)).sem HF0 G HF H σ g none rfl Q fun v HF' H' fp st r n f => k v HF' H' fp st ⟨r.1, r.2⟩ n f⟩
theorem ex_jOfS {m : M Str} (h : EX X Γ e Ow.v m te) : EX X Γ e Ow.v (do let a ← m; pure (Jv.s a)) te :=
  ⟨h.pe, fun HF0 G HF H σ g c hc Q k => by
    obtain ⟨i, e1, e2⟩ := bind_ok hc
    cases pure_ok e2
    exact h.sem HF0 G HF H σ g _ e1 Q fun v HF' H' fp st r n f => k v HF' H' fp st ⟨r.1, r.2⟩ n f⟩
theorem ex_jOfL {m : M (List Bool)} (h : EX X Γ e Ow.v m te) : EX X Γ e Ow.v (do let a ← m; pure (Jv.l a)) te :=
  ⟨h.pe, fun HF0 G HF H σ g c hc Q k => by
    obtain ⟨i, e1, e2⟩ := bind_ok hc
    cases pure_ok e2
    exact h.sem HF0 G HF H σ g _ e1 Q fun v HF' H' fp st r n f => k v HF' H' fp st ⟨r.1, r.2⟩ n f⟩
theorem ex_jS {m : M Jv} (h : EX X Γ e Ow.v m te) : EX X Γ e Ow.v (do let a ← m; jS a) te :=
  ⟨h.pe, fun HF0 G HF H σ g c hc Q k => by
    obtain ⟨i, e1, e2⟩ := bind_ok hc
    cases i with
    | s n =>
      cases pure_ok (show (pure n : M Str) = .ok c from e2)
      exact h.sem HF0 G HF H σ g _ e1 Q fun v HF' H' fp st r n f => k v HF' H' fp st ⟨r.1, r.2⟩ n f
    | n => cases e2
    | l n => cases e2⟩
theorem ex_jL {m : M Jv} (h : EX X Γ e Ow.v m te) : EX X Γ e Ow.v (do let a ← m; jL a) te :=
  ⟨h.pe, fun HF0 G HF H σ g c hc Q k => by
    obtain ⟨i, e1, e2⟩ := bind_ok hc
    cases i with
    | l n =>
      cases pure_ok (show (pure n : M (List Bool)) = .ok c from e2)
      exact h.sem HF0 G HF H σ g _ e1 Q fun v HF' H' fp st r n f => k v HF' H' fp st ⟨r.1, r.2⟩ n f
    | n => cases e2
    | s n => cases e2⟩
theorem exs_jOf {W : WX} {m : M (Str ⊕ Exn)} (h : EXs X W Γ e Ow.v m te) : EXs X W Γ e Ow.v (do let a ← m; pure (jOf a)) te :=
  ⟨h.pe, fun HF0 G HF H σ g c hc Q k => by
    obtain ⟨i, e1, e2⟩ := bind_ok hc
    cases pure_ok e2
    cases i with
    | inl r => exact h.sem HF0 G HF H σ g _ e1 Q fun v HF' H' fp st r n f => k v HF' H' fp st ⟨r.1, r.2⟩ n f
    | inr x => exact h.sem HF0 G HF H σ g _ e1 Q fun HF' H' d st xd => k HF' H' d st xd⟩
end
end Ty


namespace Law
open PySem PySem.Spec PyProof.Rows L2 Ty
/-! ### the mirror -/
def exN : List Str := ["RoundError", "NoCross"]
def exT : CTab := ([("RoundError", "RoundError", true), ("RoundError", "NoCross", false), ("RoundError", "NoLetter", false), ("RoundError", "ValueError", true), ("NoCross", "RoundError", true), ("NoCross", "NoCross", true), ("NoCross", "NoLetter", false), ("NoCross", "ValueError", true), ("NoLetter", "RoundError", true), ("NoLetter", "NoCross", false), ("NoLetter", "NoLetter", true), ("NoLetter", "ValueError", true)] : CTab)
def exY : List Str := ["RoundError", "NoCross", "NoLetter"]
def exF : List (Str × Str) := [("NoLetter", "letter")]
def exI : List (Str × Str × Str) := [("NoLetter", "letter", "RoundError")]
def exNN : List Str := []
def obN : List Str := ["Swap"]
def obF : List (Str × Str) := [("Swap", "one"), ("Swap", "other")]
def obT : CTab := [("Swap", "Change", true)]
def mir_places_of (p0 : Str) (p1 : Str) : M ((Int × Int) ⊕ Exn) := runC ((fun (ar : Str × Str × Unit) => (((bOr (((pure ar.2.1) >>= fun a => lenS a) >>= fun a => (pure (1 : Int)) >>= fun b => pure (!decide (a = b))) ((pure ar.2.1) >>= fun a => (pure ar.1) >>= fun b => pure (!inS a b))) >>= fun x => if x then ((((pure ar.2.1) >>= fun b => pure (.rt (.inr (⟨"NoLetter", some ("letter", PV.s b)⟩ : Exn)))) : M (Ctl Empty Empty ((Int × Int) ⊕ Exn))) >>= fun y => thenC y nofun) else (((pure ar.1) >>= fun x => ((pure ar.2.1) >>= fun a => (pure ()) >>= fun b => pure (a, b)) >>= fun y => pure (Txt.find x y.1)) >>= fun (first1 : Int) => (((pure first1) >>= fun a => ((pure ar.1) >>= fun x => ((pure ar.2.1) >>= fun a => (((pure first1) >>= fun a => (pure (1 : Int)) >>= fun b => pure (a + b)) >>= fun a => (pure ()) >>= fun b => pure (a, b)) >>= fun b => pure (a, b)) >>= fun y => pure (Txt.find3 x y.1 y.2.1)) >>= fun b => pure (a, b)) >>= fun r => pure (.rt (.inl r))))) : M (Ctl Unit Empty ((Int × Int) ⊕ Exn)))) (p0, p1, ()))
def mir__law_mixed (p0 : Scr) (p1 : Int) : M (List Int) := runC ((fun (ar : Scr × Int × Unit) => ((((pure ([] : List Int)) >>= fun a => lstM a) >>= fun (made1 : (List Int)) => ((((pure ar.2.1) >>= fun a => ((pure (63 : Int)) >>= fun a => ((pure ar.1) >>= fun a => pure (a.l.length : Int)) >>= fun b => pure (if b < a then b else a)) >>= fun b => pure (if b > a then b else a)) >>= fun a => range1 a) >>= fun xs => loopM (S := ((List Int))) (ρ := (List Int)) (fun (k2 : Int) (s3 : ((List Int))) => ((pure (0 : Int)) >>= fun (cell4 : Int) => (((pure k2) >>= fun a => ((pure ar.1) >>= fun a => pure (a.l.length : Int)) >>= fun b => pure (decide (a < b))) >>= fun x => ((if x then ((((pure ar.1) >>= fun a => (pure k2) >>= fun b => atM a.l b) >>= fun a => pure (a % (1000003 : Int))) >>= fun (cell6 : Int) => (pure (.nx (cell6)))) else (pure (.nx (cell4)))) : M (Ctl (Int) ((List Int)) (List Int))) >>= fun y => thenC y (fun (s5 : (Int)) => ((((((((pure s5) >>= fun a => (pure (1 : Int)) >>= fun b => pure (a + b)) >>= fun a => pure (a * (48271 : Int))) >>= fun a => (((pure k2) >>= fun a => (pure k2) >>= fun b => mulM a b) >>= fun a => pure (a * (7919 : Int))) >>= fun b => pure (a + b)) >>= fun a => pure (a % (1000000007 : Int))) >>= fun a => pure (a * (40692 : Int))) >>= fun a => pure (a % (2147483399 : Int))) >>= fun (first7 : Int) => ((((pure first7) >>= fun a => pure (a * (2147483647 : Int))) >>= fun a => ((((pure first7) >>= fun a => pure (a * (69621 : Int))) >>= fun a => (pure k2) >>= fun b => pure (a + b)) >>= fun a => pure (a % (2147483647 : Int))) >>= fun b => pure (a + b)) >>= fun a => appM s3 a >>= fun (made8 : (List Int)) => (pure (.nx (made8))))))))) xs (made1) >>= fun c => thenL c (fun (s3 : ((List Int))) => (pure (.rt s3))))) : M (Ctl Unit Empty (List Int)))) (p0, p1, ()))
def mir__law_word (p0 : (List Int)) (p1 : Int) : M Str := runC ((fun (ar : (List Int) × Int × Unit) => (((pure ("abcdefghijklmnopqrstuvwxyz" : Str)) >>= fun (letters1 : Str) => ((pure ("" : Str)) >>= fun (word_here2 : Str) => ((((pure (1 : Int)) >>= fun a => (((pure ar.1) >>= fun a => (pure (0 : Int)) >>= fun b => atM a b) >>= fun a => (pure ar.2.1) >>= fun b => modM a b) >>= fun b => pure (a + b)) >>= fun a => range1 a) >>= fun xs => loopM (S := (Str)) (ρ := Str) (fun (k3 : Int) (s4 : (Str)) => (((pure letters1) >>= fun a => (((((pure ar.1) >>= fun a => (pure (0 : Int)) >>= fun b => atM a b) >>= fun a => pure (a / (16 : Int))) >>= fun a => (((((pure (1 : Int)) >>= fun a => ((pure (3 : Int)) >>= fun a => ((pure (5 : Int)) >>= fun a => ((pure (7 : Int)) >>= fun a => ((pure (9 : Int)) >>= fun a => ((pure (11 : Int)) >>= fun a => (pure ([] : List Int)) >>= fun b => pure (a :: b)) >>= fun b => pure (a :: b)) >>= fun b => pure (a :: b)) >>= fun b => pure (a :: b)) >>= fun b => pure (a :: b)) >>= fun b => pure (a :: b)) >>= fun a => lstM a) >>= fun a => ((((pure ar.1) >>= fun a => (pure (0 : Int)) >>= fun b => atM a b) >>= fun a => pure (a / (512 : Int))) >>= fun a => pure (a % (6 : Int))) >>= fun b => atM a b) >>= fun a => (pure k3) >>= fun b => mulM a b) >>= fun b => pure (a + b)) >>= fun a => pure (a % (26 : Int))) >>= fun b => atS a b) >>= fun (letter_here5 : Str) => (((((((pure ar.1) >>= fun a => ((pure (1 : Int)) >>= fun a => (pure k3) >>= fun b => pure (a + b)) >>= fun b => atM a b) >>= fun a => (((pure s4) >>= fun a => lenS a) >>= fun a => (pure (1 : Int)) >>= fun b => pure (a + b)) >>= fun b => modM a b) >>= fun a => (((((pure ar.1) >>= fun a => ((pure (1 : Int)) >>= fun a => (pure k3) >>= fun b => pure (a + b)) >>= fun b => atM a b) >>= fun a => pure (a / (32 : Int))) >>= fun a => (((pure s4) >>= fun a => lenS a) >>= fun a => (pure (2 : Int)) >>= fun b => pure (a + b)) >>= fun b => modM a b) >>= fun a => (pure ([] : List Int)) >>= fun b => pure (a :: b)) >>= fun b => pure (a :: b)) >>= fun a => lstM a >>= fun b => pure (Tu.mk b)) >>= fun a => pure a.l) >>= fun xs => loopM (S := (Str)) (ρ := Str) (fun (place6 : Int) (s7 : (Str)) => (((((pure s7) >>= fun a => (pure none) >>= fun l => ((pure place6) >>= fun i => pure (some i)) >>= fun u => cutSM a l u) >>= fun a => (pure letter_here5) >>= fun b => addSM a b) >>= fun a => ((pure s7) >>= fun a => ((pure place6) >>= fun i => pure (some i)) >>= fun l => (pure none) >>= fun u => cutSM a l u) >>= fun b => addSM a b) >>= fun (word_here8 : Str) => (pure (.nx (word_here8))))) xs (s4) >>= fun c => thenL c (fun (s7 : (Str)) => (pure (.nx (s7))))))) xs (word_here2) >>= fun c => thenL c (fun (s4 : (Str)) => ((pure s4) >>= fun r => pure (.rt r)))))) : M (Ctl Unit Empty Str))) (p0, p1, ()))
def mir__law_strange (p0 : Str) : M Str := runC ((fun (ar : Str × Unit) => ((((pure ("jqxbzmaetkw" : Str)) >>= fun a => pure (a.cps.toList.map sgS)) >>= fun xs => loopM (S := Unit) (ρ := Str) (fun (letter_here1 : Str) (s2 : Unit) => (((pure letter_here1) >>= fun a => (pure ar.1) >>= fun b => pure (!inS a b)) >>= fun x => if x then ((((pure letter_here1) >>= fun r => pure (.rt r)) : M (Ctl Empty Unit Str)) >>= fun y => thenC y nofun) else (pure (.nx ())))) xs () >>= fun c => thenL c (fun (s2 : Unit) => ((pure ("" : Str)) >>= fun r => pure (.rt r)))) : M (Ctl Unit Empty Str))) (p0, ()))
def mir__law_due (p0 : Str) (p1 : Str) (p2 : Str) : M (Option Str) := runC ((fun (ar : Str × Str × Str × Unit) => (((((pure ar.1) >>= fun a => pure (enumL (a.cps.toList.map sgS))) >>= fun xs => compM xs (fun (k1 : (Int × Str)) => ((pure k1.2) >>= fun a => (((pure ar.2.1) >>= fun a => ((pure ar.2.2.1) >>= fun a => (pure ([] : List Str)) >>= fun b => pure (a :: b)) >>= fun b => pure (a :: b)) >>= fun a => lstM a >>= fun b => pure (Tu.mk b)) >>= fun b => pure (decide (a ∈ b.l)))) (fun (k1 : (Int × Str)) => (pure k1.1))) >>= fun (spots2 : (List Int)) => ((bOr (((pure spots2) >>= fun a => pure (a.length : Int)) >>= fun a => (pure (4 : Int)) >>= fun b => pure (!decide (a = b))) (bOr (((pure ar.1) >>= fun a => ((pure spots2) >>= fun a => (pure (0 : Int)) >>= fun b => atM a b) >>= fun b => atS a b) >>= fun a => ((pure ar.1) >>= fun a => ((pure spots2) >>= fun a => (pure (1 : Int)) >>= fun b => atM a b) >>= fun b => atS a b) >>= fun b => pure (decide (a = b))) (((pure ar.1) >>= fun a => ((pure spots2) >>= fun a => (pure (0 : Int)) >>= fun b => atM a b) >>= fun b => atS a b) >>= fun a => ((pure ar.1) >>= fun a => ((pure spots2) >>= fun a => (pure (2 : Int)) >>= fun b => atM a b) >>= fun b => atS a b) >>= fun b => pure (!decide (a = b))))) >>= fun x => if x then ((((pure (none : Option Str)) >>= fun r => pure (.rt r)) : M (Ctl Empty Empty (Option Str))) >>= fun y => thenC y nofun) else (((((pure ar.1) >>= fun a => (pure none) >>= fun l => ((((pure spots2) >>= fun a => (pure (0 : Int)) >>= fun b => atM a b) >>= fun a => (pure (1 : Int)) >>= fun b => pure (a + b)) >>= fun i => pure (some i)) >>= fun u => cutSM a l u) >>= fun a => (pure ([] : List Str)) >>= fun b => pure (a :: b)) >>= fun a => lstM a) >>= fun (parts3 : (List Str)) => (((pure (3 : Int)) >>= fun a => range1 a) >>= fun xs => loopM (S := ((List Str))) (ρ := (Option Str)) (fun (k4 : Int) (s5 : ((List Str))) => (((pure ar.1) >>= fun a => ((((pure spots2) >>= fun a => (pure k4) >>= fun b => atM a b) >>= fun a => (pure (1 : Int)) >>= fun b => pure (a + b)) >>= fun i => pure (some i)) >>= fun l => (((pure spots2) >>= fun a => ((pure k4) >>= fun a => (pure (1 : Int)) >>= fun b => pure (a + b)) >>= fun b => atM a b) >>= fun i => pure (some i)) >>= fun u => cutSM a l u) >>= fun a => appM s5 a >>= fun (parts6 : (List Str)) => (pure (.nx (parts6))))) xs (parts3) >>= fun c => thenL c (fun (s5 : ((List Str))) => (((((pure ar.1) >>= fun a => ((pure spots2) >>= fun a => (pure (1 : Int)) >>= fun b => atM a b) >>= fun b => atS a b) >>= fun a => ((pure s5) >>= fun a => (pure (2 : Int)) >>= fun b => atM a b) >>= fun b => addSM a b) >>= fun a => ((pure ar.1) >>= fun a => ((pure spots2) >>= fun a => (pure (2 : Int)) >>= fun b => atM a b) >>= fun b => atS a b) >>= fun b => addSM a b) >>= fun (middle7 : Str) => ((((((((pure s5) >>= fun a => (pure (0 : Int)) >>= fun b => atM a b) >>= fun a => ((pure s5) >>= fun a => (pure (3 : Int)) >>= fun b => atM a b) >>= fun b => addSM a b) >>= fun a => (pure middle7) >>= fun b => addSM a b) >>= fun a => ((pure s5) >>= fun a => (pure (1 : Int)) >>= fun b => atM a b) >>= fun b => addSM a b) >>= fun a => ((pure ar.1) >>= fun a => (((pure spots2) >>= fun a => (pure (3 : Int)) >>= fun b => atM a b) >>= fun i => pure (some i)) >>= fun l => (pure none) >>= fun u => cutSM a l u) >>= fun b => addSM a b) >>= fun a => pure (some a)) >>= fun r => pure (.rt r)))))))) : M (Ctl Unit Empty (Option Str)))) (p0, p1, p2, ()))
def mir_Swap__done (p0 : Ins) (p1 : Str) : M (Str ⊕ Exn) := runC ((fun (ar : Ins × Str × Unit) => (((((pure ar.2.1) >>= fun a => (((pure ar.1) >>= fun x => obS obN obF x "one") >>= fun a => (pure ()) >>= fun b => pure (a, b)) >>= fun b => pure (a, b)) >>= fun a => mir_places_of a.1 a.2.1) >>= fun a => raiseD a (fun (one1 : (Int × Int)) => ((((pure ar.2.1) >>= fun a => (((pure ar.1) >>= fun x => obS obN obF x "other") >>= fun a => (pure ()) >>= fun b => pure (a, b)) >>= fun b => pure (a, b)) >>= fun a => mir_places_of a.1 a.2.1) >>= fun a => raiseD a (fun (other2 : (Int × Int)) => ((((pure one1) >>= fun x => (pure other2) >>= fun y => pure (Tu.mk [x.1, x.2, y.1, y.2])) >>= fun a => sortTuM a) >>= fun (spots3 : (List Int)) => ((bOr (((pure spots3) >>= fun a => pure (stepB 0 3 2 a)) >>= fun a => ((((pure one1) >>= fun x => (pure other2) >>= fun y => pure (minPP x y)) >>= fun x => pure (Tu.mk [x.1, x.2])) >>= fun a => pure a.l) >>= fun b => neM a b) ((pure one1) >>= fun a => (pure other2) >>= fun b => eqM a b)) >>= fun x => if x then (((pure (.rt (.inr (⟨"NoCross", none⟩ : Exn)))) : M (Ctl Empty Empty (Str ⊕ Exn))) >>= fun y => thenC y nofun) else ((pure spots3) >>= fun a => fourM a >>= fun (u4 : Int × Int × Int × Int) => (((((((pure ar.2.1) >>= fun a => (pure none) >>= fun l => (((pure u4.1) >>= fun a => (pure (1 : Int)) >>= fun b => pure (a + b)) >>= fun i => pure (some i)) >>= fun u => cutSM a l u) >>= fun a => ((pure ar.2.1) >>= fun a => (((pure u4.2.2.1) >>= fun a => (pure (1 : Int)) >>= fun b => pure (a + b)) >>= fun i => pure (some i)) >>= fun l => ((pure u4.2.2.2) >>= fun i => pure (some i)) >>= fun u => cutSM a l u) >>= fun b => addSM a b) >>= fun a => ((pure ar.2.1) >>= fun a => ((pure u4.2.1) >>= fun i => pure (some i)) >>= fun l => (((pure u4.2.2.1) >>= fun a => (pure (1 : Int)) >>= fun b => pure (a + b)) >>= fun i => pure (some i)) >>= fun u => cutSM a l u) >>= fun b => addSM a b) >>= fun a => ((pure ar.2.1) >>= fun a => (((pure u4.1) >>= fun a => (pure (1 : Int)) >>= fun b => pure (a + b)) >>= fun i => pure (some i)) >>= fun l => ((pure u4.2.1) >>= fun i => pure (some i)) >>= fun u => cutSM a l u) >>= fun b => addSM a b) >>= fun a => ((pure ar.2.1) >>= fun a => ((pure u4.2.2.2) >>= fun i => pure (some i)) >>= fun l => (pure none) >>= fun u => cutSM a l u) >>= fun b => addSM a b) >>= fun r => pure (.rt (.inl r)))))))))) : M (Ctl Unit Empty (Str ⊕ Exn)))) (p0, p1, ()))
def mir__law_told (p0 : Str) (p1 : Str) (p2 : Str) : M Jv := runC ((fun (ar : Str × Str × Str × Unit) => (((pure Jv.n) >>= fun (told_here1 : Jv) => (((pure ar.1) >>= fun a => (pure ar.2.1) >>= fun b => pure (⟨"Swap", [("one", Pvl.pv a), ("other", Pvl.pv b)]⟩ : Ins)) >>= fun (change2 : Ins) => ((bOr (bNot ((pure change2) >>= fun x => gd (obN.contains x.c) >>= fun _ => ofO (exLk obT x.c "Change"))) (bOr (((pure change2) >>= fun x => obS obN obF x "one") >>= fun a => (pure ar.1) >>= fun b => pure (!decide (a = b))) (((pure change2) >>= fun x => obS obN obF x "other") >>= fun a => (pure ar.2.1) >>= fun b => pure (!decide (a = b))))) >>= fun x => if x then (((((pure ("none" : Str)) >>= fun a => pure (Jv.s a)) >>= fun r => pure (.rt r)) : M (Ctl Empty Empty Jv)) >>= fun y => thenC y nofun) else ((((pure change2) >>= fun x => gd (decide (x.c = "Swap") && (x.fs.lookup ("done" : Str)).isNone) >>= fun _ => ((pure ar.2.2.1) >>= fun a => (pure ()) >>= fun b => pure (a, b)) >>= fun y => mir_Swap__done x y.1) >>= fun a => pure (jOf a)) >>= fun (r3 : Jv ⊕ Exn) => (tryCY exT exY "RoundError" r3 (fun (r3 : Jv) => (r3)) (fun (c6 : Exn) => (((((ofO (exLk exT c6.c "NoCross")) >>= fun a => ((ofO (exLk exT c6.c "NoLetter")) >>= fun a => ((ofO (exLk exT c6.c "ValueError")) >>= fun a => (pure ([] : List Bool)) >>= fun b => pure (a :: b)) >>= fun b => pure (a :: b)) >>= fun b => pure (a :: b)) >>= fun a => lstM a) >>= fun a => pure (Jv.l a)) >>= fun (told_here8 : Jv) => (pure (.nx (told_here8))))) : M (Ctl (Jv) Empty Jv)) >>= fun y => thenE y (fun (s4 : (Jv)) => ((pure s4) >>= fun r => pure (.rt r))))))) : M (Ctl Unit Empty Jv))) (p0, p1, p2, ()))
def mir__law_letter (p0 : Str) (p1 : Str) (p2 : Str) : M (Option Str) := runC ((fun (ar : Str × Str × Str × Unit) => (((pure (none : Option Str)) >>= fun (told_here1 : (Option Str)) => ((((pure ar.1) >>= fun a => (pure ar.2.1) >>= fun b => pure (⟨"Swap", [("one", Pvl.pv a), ("other", Pvl.pv b)]⟩ : Ins)) >>= fun x => gd (decide (x.c = "Swap") && (x.fs.lookup ("done" : Str)).isNone) >>= fun _ => ((pure ar.2.2.1) >>= fun a => (pure ()) >>= fun b => pure (a, b)) >>= fun y => mir_Swap__done x y.1) >>= fun (r2 : Str ⊕ Exn) => (tryCY exT exY "NoLetter" r2 (fun (r2 : Str) => (told_here1)) (fun (c5 : Exn) => (((fldS exF c5 "letter") >>= fun a => pure (some a)) >>= fun (told_here7 : (Option Str)) => (pure (.nx (told_here7))))) : M (Ctl ((Option Str)) Empty (Option Str))) >>= fun y => thenE y (fun (s3 : ((Option Str))) => ((pure s3) >>= fun r => pure (.rt r))))) : M (Ctl Unit Empty (Option Str)))) (p0, p1, p2, ()))
def mir_law (p0 : Scr) : M Bool := runC ((fun (ar : Scr × Unit) => (((((pure ar.1) >>= fun a => ((pure (12 : Int)) >>= fun a => (pure ()) >>= fun b => pure (a, b)) >>= fun b => pure (a, b)) >>= fun a => mir__law_mixed a.1 a.2.1) >>= fun (cells1 : (List Int)) => ((((pure cells1) >>= fun a => ((pure (10 : Int)) >>= fun a => (pure ()) >>= fun b => pure (a, b)) >>= fun b => pure (a, b)) >>= fun a => mir__law_word a.1 a.2.1) >>= fun (word_here2 : Str) => (((pure word_here2) >>= fun a => sortTxtM a) >>= fun (letters3 : (List Str)) => ((pure letters3) >>= fun xs => loopM (S := Unit) (ρ := Bool) (fun (one4 : Str) (s5 : Unit) => ((pure letters3) >>= fun xs => loopM (S := Unit) (ρ := Bool) (fun (other6 : Str) (s7 : Unit) => ((((pure word_here2) >>= fun a => ((pure one4) >>= fun a => ((pure other6) >>= fun a => (pure ()) >>= fun b => pure (a, b)) >>= fun b => pure (a, b)) >>= fun b => pure (a, b)) >>= fun a => mir__law_due a.1 a.2.1 a.2.2.1) >>= fun (due_here8 : (Option Str)) => ((((pure one4) >>= fun a => ((pure other6) >>= fun a => ((pure word_here2) >>= fun a => (pure ()) >>= fun b => pure (a, b)) >>= fun b => pure (a, b)) >>= fun b => pure (a, b)) >>= fun a => mir__law_told a.1 a.2.1 a.2.2.1) >>= fun (found9 : Jv) => ((bAnd ((pure due_here8) >>= fun a => pure a.isNone) (((pure found9) >>= fun a => jL a) >>= fun a => (((pure true) >>= fun a => ((pure false) >>= fun a => ((pure true) >>= fun a => (pure ([] : List Bool)) >>= fun b => pure (a :: b)) >>= fun b => pure (a :: b)) >>= fun b => pure (a :: b)) >>= fun a => lstM a) >>= fun b => neM a b)) >>= fun x => if x then ((((pure false) >>= fun r => pure (.rt r)) : M (Ctl Empty Unit Bool)) >>= fun y => thenC y nofun) else ((bAnd ((pure due_here8) >>= fun a => pure a.isSome) (bOr (bNot (((pure found9) >>= fun a => jS a) >>= fun _ => pure true)) (((pure found9) >>= fun a => jS a) >>= fun a => ((pure due_here8) >>= fun a => ofO a) >>= fun b => pure (!decide (a = b))))) >>= fun x => if x then ((((pure false) >>= fun r => pure (.rt r)) : M (Ctl Empty Unit Bool)) >>= fun y => thenC y nofun) else ((bAnd ((pure due_here8) >>= fun a => pure a.isSome) ((((pure one4) >>= fun a => (pure other6) >>= fun b => pure (⟨"Swap", [("one", Pvl.pv a), ("other", Pvl.pv b)]⟩ : Ins)) >>= fun x => gd (decide (x.c = "Swap") && (x.fs.lookup ("done" : Str)).isNone) >>= fun _ => (((pure found9) >>= fun a => jS a) >>= fun a => (pure ()) >>= fun b => pure (a, b)) >>= fun y => mir_Swap__done x y.1 >>= fun r => noY r) >>= fun a => (pure word_here2) >>= fun b => pure (!decide (a = b)))) >>= fun x => if x then ((((pure false) >>= fun r => pure (.rt r)) : M (Ctl Empty Unit Bool)) >>= fun y => thenC y nofun) else (pure (.nx ())))))))) xs () >>= fun c => thenL c (fun (s7 : Unit) => (pure (.nx ()))))) xs () >>= fun c => thenL c (fun (s5 : Unit) => ((((pure word_here2) >>= fun a => (pure ()) >>= fun b => pure (a, b)) >>= fun a => mir__law_strange a.1) >>= fun (strange_here10 : Str) => (((pure letters3) >>= fun a => (((pure cells1) >>= fun a => (pure (11 : Int)) >>= fun b => atM a b) >>= fun a => ((pure letters3) >>= fun a => pure (a.length : Int)) >>= fun b => modM a b) >>= fun b => atM a b) >>= fun (letter_here11 : Str) => (((((pure cells1) >>= fun a => (pure (11 : Int)) >>= fun b => atM a b) >>= fun a => pure (a / (32 : Int))) >>= fun a => (((pure word_here2) >>= fun a => lenS a) >>= fun a => (pure (1 : Int)) >>= fun b => pure (a - b)) >>= fun b => modM a b) >>= fun (at12 : Int) => ((((pure strange_here10) >>= fun a => ((pure ("" : Str)) >>= fun a => (((pure word_here2) >>= fun a => ((pure at12) >>= fun i => pure (some i)) >>= fun l => (((pure at12) >>= fun a => (pure (2 : Int)) >>= fun b => pure (a + b)) >>= fun i => pure (some i)) >>= fun u => cutSM a l u) >>= fun a => ((pure word_here2) >>= fun a => (((pure letter_here11) >>= fun x => upperM x) >>= fun a => (pure ([] : List Str)) >>= fun b => pure (a :: b)) >>= fun b => pure (a :: b)) >>= fun b => pure (a :: b)) >>= fun b => pure (a :: b)) >>= fun b => pure (a :: b)) >>= fun a => lstM a) >>= fun xs => loopM (S := Unit) (ρ := Bool) (fun (text13 : Str) (s14 : Unit) => (((((pure text13) >>= fun a => (pure letter_here11) >>= fun b => pure (a, b)) >>= fun a => (((pure letter_here11) >>= fun a => (pure text13) >>= fun b => pure (a, b)) >>= fun a => (((pure text13) >>= fun a => (pure strange_here10) >>= fun b => pure (a, b)) >>= fun a => (pure ([] : List (Str × Str))) >>= fun b => pure (a :: b)) >>= fun b => pure (a :: b)) >>= fun b => pure (a :: b)) >>= fun a => lstM a) >>= fun xs => loopM (S := Unit) (ρ := Bool) (fun (one15 : (Str × Str)) (s16 : Unit) => ((bOr (((((pure one15.1) >>= fun a => ((pure one15.2) >>= fun a => ((pure word_here2) >>= fun a => (pure ()) >>= fun b => pure (a, b)) >>= fun b => pure (a, b)) >>= fun b => pure (a, b)) >>= fun a => mir__law_told a.1 a.2.1 a.2.2.1) >>= fun a => jL a) >>= fun a => (((pure false) >>= fun a => ((pure true) >>= fun a => ((pure true) >>= fun a => (pure ([] : List Bool)) >>= fun b => pure (a :: b)) >>= fun b => pure (a :: b)) >>= fun b => pure (a :: b)) >>= fun a => lstM a) >>= fun b => neM a b) (((((pure one15.1) >>= fun a => ((pure one15.2) >>= fun a => ((pure word_here2) >>= fun a => (pure ()) >>= fun b => pure (a, b)) >>= fun b => pure (a, b)) >>= fun b => pure (a, b)) >>= fun a => mir__law_letter a.1 a.2.1 a.2.2.1) >>= fun a => ofO a) >>= fun a => (pure text13) >>= fun b => pure (!decide (a = b)))) >>= fun x => if x then ((((pure false) >>= fun r => pure (.rt r)) : M (Ctl Empty Unit Bool)) >>= fun y => thenC y nofun) else (pure (.nx ())))) xs () >>= fun c => thenL c (fun (s16 : Unit) => (pure (.nx ()))))) xs () >>= fun c => thenL c (fun (s14 : Unit) => ((pure true) >>= fun r => pure (.rt r)))))))))))) : M (Ctl Unit Empty Bool))) (p0, ()))
/-! ### the text -/
def top (i : Nat) : Stmt := PySem.Challenge.pw_fourway_k52_swap_of_two_letters.main.body.getD i (.Pass ⟨0, 0, 0, 0⟩)
abbrev FnP (K : PySem.W.Frag) (x : Str) (st : Stmt) (f : Addr) (fd : FuncData) : Prop := FunD K x x (defArgs st) (defBody st) (defScope st) [] [] f fd
structure Txt (K : PySem.W.Frag) (mg : Str → Option Value) : Prop where
  n_ValueError : mg "ValueError" = none
  n_enumerate : mg "enumerate" = none
  n_isinstance : mg "isinstance" = none
  n_len : mg "len" = none
  n_list : mg "list" = none
  n_max : mg "max" = none
  n_min : mg "min" = none
  n_range : mg "range" = none
  n_set : mg "set" = none
  n_sorted : mg "sorted" = none
  n_str : mg "str" = none
  ex : ExF K exN exT
  c_RoundError : mg "RoundError" = some (clv K "RoundError")
  c_NoCross : mg "NoCross" = some (clv K "NoCross")
  c_NoLetter : mg "NoLetter" = some (clv K "NoLetter")
  ey : ∀ c ∈ exY, ExcC K (He.ga K c)
  fl : FldT K exF
  oc : ∀ c ∈ obN, OCls K c
  ofl : FldT K obF
  ot : OT K obT
  cc_Swap : mg "Swap" = some (clv K "Swap")
  cc_Change : mg "Change" = some (clv K "Change")
  me_Swap_done : Meth K (He.ga K "Swap") "done" (He.fAd K ("Swap", some "done"))
section
variable {P : Program} {w : World} {K : PySem.W.Frag} {mg : Str → Option Value} {base : Heap}
set_option maxHeartbeats 4000000
abbrev s_places_of : Stmt := top 6
theorem sc_places_of : FnScope ["word", "letter", "first"] ["word", "letter"] (defScope s_places_of) := ⟨rfl, rfl, rfl, by decide +kernel, rfl, by decide +kernel, by decide +kernel⟩
abbrev sp_places_of (K : PySem.W.Frag) : Sp := spY K (As.cons (α := Str) (As.cons (α := Str) As.nil)) (Ow.v : Ow (Int × Int)) (fun a => mir_places_of a.1 a.2.1)
theorem ok0_places_of (T : Txt K mg) {f : Addr} {fd : FuncData} (F : FnP K "places_of" s_places_of f fd) (HI_NoLetter : HasI P w K mg base "NoLetter" "letter" "letter") : FnOk P w K mg base (L2.CX P w) 3 f fd ["word", "letter"] (sp_places_of K) := by
  obtain ⟨fI_NoLetter, fdI_NoLetter, O_NoLetter, FI_NoLetter, BI_NoLetter⟩ := HI_NoLetter
  refine fn_okY (r := (As.cons (α := Str) (As.cons (α := Str) As.nil))) (o := Ow.v) (m := fun ar => ((bOr (((pure ar.2.1) >>= fun a => lenS a) >>= fun a => (pure (1 : Int)) >>= fun b => pure (!decide (a = b))) ((pure ar.2.1) >>= fun a => (pure ar.1) >>= fun b => pure (!inS a b))) >>= fun x => if x then ((((pure ar.2.1) >>= fun b => pure (.rt (.inr (⟨"NoLetter", some ("letter", PV.s b)⟩ : Exn)))) : M (Ctl Empty Empty ((Int × Int) ⊕ Exn))) >>= fun y => thenC y nofun) else (((pure ar.1) >>= fun x => ((pure ar.2.1) >>= fun a => (pure ()) >>= fun b => pure (a, b)) >>= fun y => pure (Txt.find x y.1)) >>= fun (first1 : Int) => (((pure first1) >>= fun a => ((pure ar.1) >>= fun x => ((pure ar.2.1) >>= fun a => (((pure first1) >>= fun a => (pure (1 : Int)) >>= fun b => pure (a + b)) >>= fun a => (pure ()) >>= fun b => pure (a, b)) >>= fun b => pure (a, b)) >>= fun y => pure (Txt.find3 x y.1 y.2.1)) >>= fun b => pure (a, b)) >>= fun r => pure (.rt (.inl r)))))) F sc_places_of rfl rfl (fun cdv A' outer s H E hr ar => ?_)
  have hr2 := hr.mono (show 1 + 1 ≤ 2 by decide)
  exact ⟨_, (ss_ifR (ew_pt (ew_or (et_c (ec_ne (ex_lenS T.n_len (ex_var 1)) ex_int)) (ew_or1 (et_c (ec_ninS (ex_var 1) (ex_var 0)))))) (ss_raiseY PV.s (fun _ => rfl) O_NoLetter FI_NoLetter hr2 BI_NoLetter T.c_NoLetter (takes_of rfl rfl rfl rfl) (ex_var 1)) (ss_asg 2 sc_places_of.nd (ex_find (K := K) (ex_var 0) (ea_cons (ex_var 1) ea_nil)) (fun first1 => (ss_retY (ex_frz (ex_pair (ex_var 2) (ex_find3 (K := K) (ex_var 0) (ea_cons (ex_var 1) (ea_cons (ex_add (ex_var 2) ex_int) ea_nil)))))))))⟩
theorem ok_places_of (T : Txt K mg) {f : Addr} {fd : FuncData} (F : FnP K "places_of" s_places_of f fd) (hm : mg "places_of" = some (.ref f)) (HI_NoLetter : HasI P w K mg base "NoLetter" "letter" "letter") : HasY P w K mg base "places_of" 3 ["word", "letter"] (sp_places_of K) :=
  ⟨f, fd, ok0_places_of T F HI_NoLetter, hm, F.kp, F.bindsN fun _ _ _ _ _ _ us hl => match us, hl with | [_, _], _ => rfl⟩
abbrev s__law_mixed : Stmt := top 11
theorem sc__law_mixed : FnScope ["_law_script", "_law_least", "_law_made", "_law_k", "_law_cell", "_law_first"] ["_law_script", "_law_least"] (defScope s__law_mixed) := ⟨rfl, rfl, rfl, by decide +kernel, rfl, by decide +kernel, by decide +kernel⟩
abbrev sp__law_mixed (K : PySem.W.Frag) : Sp := spF K (As.cons (α := Scr) (As.cons (α := Int) As.nil)) ((Ow.l Ow.v) : Ow (List Int)) (fun a => mir__law_mixed a.1 a.2.1)
theorem ok0__law_mixed (T : Txt K mg) {f : Addr} {fd : FuncData} (F : FnP K "_law_mixed" s__law_mixed f fd)  : FnOk P w K mg base CX0 1 f fd ["_law_script", "_law_least"] (sp__law_mixed K) := by
  refine fn_okD (r := (As.cons (α := Scr) (As.cons (α := Int) As.nil))) (o := (Ow.l Ow.v)) (m := fun ar => (((pure ([] : List Int)) >>= fun a => lstM a) >>= fun (made1 : (List Int)) => ((((pure ar.2.1) >>= fun a => ((pure (63 : Int)) >>= fun a => ((pure ar.1) >>= fun a => pure (a.l.length : Int)) >>= fun b => pure (if b < a then b else a)) >>= fun b => pure (if b > a then b else a)) >>= fun a => range1 a) >>= fun xs => loopM (S := ((List Int))) (ρ := (List Int)) (fun (k2 : Int) (s3 : ((List Int))) => ((pure (0 : Int)) >>= fun (cell4 : Int) => (((pure k2) >>= fun a => ((pure ar.1) >>= fun a => pure (a.l.length : Int)) >>= fun b => pure (decide (a < b))) >>= fun x => ((if x then ((((pure ar.1) >>= fun a => (pure k2) >>= fun b => atM a.l b) >>= fun a => pure (a % (1000003 : Int))) >>= fun (cell6 : Int) => (pure (.nx (cell6)))) else (pure (.nx (cell4)))) : M (Ctl (Int) ((List Int)) (List Int))) >>= fun y => thenC y (fun (s5 : (Int)) => ((((((((pure s5) >>= fun a => (pure (1 : Int)) >>= fun b => pure (a + b)) >>= fun a => pure (a * (48271 : Int))) >>= fun a => (((pure k2) >>= fun a => (pure k2) >>= fun b => mulM a b) >>= fun a => pure (a * (7919 : Int))) >>= fun b => pure (a + b)) >>= fun a => pure (a % (1000000007 : Int))) >>= fun a => pure (a * (40692 : Int))) >>= fun a => pure (a % (2147483399 : Int))) >>= fun (first7 : Int) => ((((pure first7) >>= fun a => pure (a * (2147483647 : Int))) >>= fun a => ((((pure first7) >>= fun a => pure (a * (69621 : Int))) >>= fun a => (pure k2) >>= fun b => pure (a + b)) >>= fun a => pure (a % (2147483647 : Int))) >>= fun b => pure (a + b)) >>= fun a => appM s3 a >>= fun (made8 : (List Int)) => (pure (.nx (made8))))))))) xs (made1) >>= fun c => thenL c (fun (s3 : ((List Int))) => (pure (.rt s3)))))) F sc__law_mixed rfl rfl (fun cdv A' outer s H E hr ar => ?_)
  exact ⟨_, (ss_asg 2 sc__law_mixed.nd (ex_lst (el_nil (o := Ow.v))) (fun made1 => (ss_for (Γs := (fun (s3 : ((List Int))) => [.mk Ow.v ar.1, .mk Ow.v ar.2.1, .mk (Ow.l Ow.v) (s3 : (List Int)), .un, .un, .un])) (made1) rfl PassesOwn.never (ei_range1 T.n_range (ex_max2 rfl T.n_max (ex_var 1) (ex_min2 rfl T.n_min ex_int (ex_lenScr (K := K) T.n_len (ex_var 0))))) (.k (.k (.k (.w (.w (.w .n)))))) (fun s3 k2 => (eg_name 3 sc__law_mixed.nd)) (fun s3 k2 => (ss_asg 4 sc__law_mixed.nd ex_int (fun cell4 => (ss_if (Γ1 := (fun (s5 : (Int)) => [.mk Ow.v ar.1, .mk Ow.v ar.2.1, .mk (Ow.l Ow.v) s3, .mk Ow.v k2, .mk Ow.v (s5 : Int), .un])) (et_c (ec_lt (ex_var 3) (ex_lenScr (K := K) T.n_len (ex_var 0)))) (ss_asg 4 sc__law_mixed.nd (ex_modc (ex_ixScr (K := K) (ex_var 0) (ex_var 3))) (fun cell6 => (ss_nil (cell6) (.k (.k (.k (.k (.k (.w .n))))))))) (ss_nil (cell4) (.k (.k (.k (.k (.k (.w .n))))))) (fun s5 => (ss_asg 5 sc__law_mixed.nd (ex_modc (ex_mulc (ex_modc (ex_add (ex_mulc (ex_add (ex_var 4) ex_int)) (ex_mulc (ex_mul (ex_var 3) (ex_var 3))))))) (fun first7 => (ss_app 2 (ex_add (ex_mulc (ex_var 5)) (ex_modc (ex_add (ex_mulc (ex_var 5)) (ex_var 3)))) (fun made8 => (ss_nil (made8) (.k (.k (.k (.w (.w (.w .n)))))))))))))))) (fun s3 => (ss_retO 2)))))⟩
theorem ok__law_mixed (T : Txt K mg) {f : Addr} {fd : FuncData} (F : FnP K "_law_mixed" s__law_mixed f fd) (hm : mg "_law_mixed" = some (.ref f))  : Has P w K mg base "_law_mixed" 1 ["_law_script", "_law_least"] (sp__law_mixed K) :=
  ⟨f, fd, ok0__law_mixed T F , hm, F.kp, F.bindsN fun _ _ _ _ _ _ us hl => match us, hl with | [_, _], _ => rfl⟩
abbrev s__law_word : Stmt := top 12
theorem sc__law_word : FnScope ["_law_cells", "_law_most", "_law_letters", "_law_word_here", "_law_k", "_law_letter_here", "_law_place"] ["_law_cells", "_law_most"] (defScope s__law_word) := ⟨rfl, rfl, rfl, by decide +kernel, rfl, by decide +kernel, by decide +kernel⟩
abbrev sp__law_word (K : PySem.W.Frag) : Sp := spF K (As.cons (α := (List Int)) (As.cons (α := Int) As.nil)) (Ow.v : Ow Str) (fun a => mir__law_word a.1 a.2.1)
theorem ok0__law_word (T : Txt K mg) {f : Addr} {fd : FuncData} (F : FnP K "_law_word" s__law_word f fd)  : FnOk P w K mg base CX0 1 f fd ["_law_cells", "_law_most"] (sp__law_word K) := by
  refine fn_okD (r := (As.cons (α := (List Int)) (As.cons (α := Int) As.nil))) (o := Ow.v) (m := fun ar => ((pure ("abcdefghijklmnopqrstuvwxyz" : Str)) >>= fun (letters1 : Str) => ((pure ("" : Str)) >>= fun (word_here2 : Str) => ((((pure (1 : Int)) >>= fun a => (((pure ar.1) >>= fun a => (pure (0 : Int)) >>= fun b => atM a b) >>= fun a => (pure ar.2.1) >>= fun b => modM a b) >>= fun b => pure (a + b)) >>= fun a => range1 a) >>= fun xs => loopM (S := (Str)) (ρ := Str) (fun (k3 : Int) (s4 : (Str)) => (((pure letters1) >>= fun a => (((((pure ar.1) >>= fun a => (pure (0 : Int)) >>= fun b => atM a b) >>= fun a => pure (a / (16 : Int))) >>= fun a => (((((pure (1 : Int)) >>= fun a => ((pure (3 : Int)) >>= fun a => ((pure (5 : Int)) >>= fun a => ((pure (7 : Int)) >>= fun a => ((pure (9 : Int)) >>= fun a => ((pure (11 : Int)) >>= fun a => (pure ([] : List Int)) >>= fun b => pure (a :: b)) >>= fun b => pure (a :: b)) >>= fun b => pure (a :: b)) >>= fun b => pure (a :: b)) >>= fun b => pure (a :: b)) >>= fun b => pure (a :: b)) >>= fun a => lstM a) >>= fun a => ((((pure ar.1) >>= fun a => (pure (0 : Int)) >>= fun b => atM a b) >>= fun a => pure (a / (512 : Int))) >>= fun a => pure (a % (6 : Int))) >>= fun b => atM a b) >>= fun a => (pure k3) >>= fun b => mulM a b) >>= fun b => pure (a + b)) >>= fun a => pure (a % (26 : Int))) >>= fun b => atS a b) >>= fun (letter_here5 : Str) => (((((((pure ar.1) >>= fun a => ((pure (1 : Int)) >>= fun a => (pure k3) >>= fun b => pure (a + b)) >>= fun b => atM a b) >>= fun a => (((pure s4) >>= fun a => lenS a) >>= fun a => (pure (1 : Int)) >>= fun b => pure (a + b)) >>= fun b => modM a b) >>= fun a => (((((pure ar.1) >>= fun a => ((pure (1 : Int)) >>= fun a => (pure k3) >>= fun b => pure (a + b)) >>= fun b => atM a b) >>= fun a => pure (a / (32 : Int))) >>= fun a => (((pure s4) >>= fun a => lenS a) >>= fun a => (pure (2 : Int)) >>= fun b => pure (a + b)) >>= fun b => modM a b) >>= fun a => (pure ([] : List Int)) >>= fun b => pure (a :: b)) >>= fun b => pure (a :: b)) >>= fun a => lstM a >>= fun b => pure (Tu.mk b)) >>= fun a => pure a.l) >>= fun xs => loopM (S := (Str)) (ρ := Str) (fun (place6 : Int) (s7 : (Str)) => (((((pure s7) >>= fun a => (pure none) >>= fun l => ((pure place6) >>= fun i => pure (some i)) >>= fun u => cutSM a l u) >>= fun a => (pure letter_here5) >>= fun b => addSM a b) >>= fun a => ((pure s7) >>= fun a => ((pure place6) >>= fun i => pure (some i)) >>= fun l => (pure none) >>= fun u => cutSM a l u) >>= fun b => addSM a b) >>= fun (word_here8 : Str) => (pure (.nx (word_here8))))) xs (s4) >>= fun c => thenL c (fun (s7 : (Str)) => (pure (.nx (s7))))))) xs (word_here2) >>= fun c => thenL c (fun (s4 : (Str)) => ((pure s4) >>= fun r => pure (.rt r))))))) F sc__law_word rfl rfl (fun cdv A' outer s H E hr ar => ?_)
  exact ⟨_, (ss_asg 2 sc__law_word.nd ex_str (fun letters1 => (ss_asg 3 sc__law_word.nd ex_str (fun word_here2 => (ss_for (Γs := (fun (s4 : (Str)) => [.mk Ow.v ar.1, .mk Ow.v ar.2.1, .mk Ow.v letters1, .mk Ow.v (s4 : Str), .un, .un, .un])) (word_here2) rfl PassesOwn.never (ei_range1 T.n_range (ex_add ex_int (ex_mod (ex_ixL (K := K) (ex_var 0) ex_int) (ex_var 1)))) (.k (.k (.k (.k (.w (.w (.w .n))))))) (fun s4 k3 => (eg_name 4 sc__law_word.nd)) (fun s4 k3 => (ss_asg 5 sc__law_word.nd (ex_ixS (ex_var 2) (ex_modc (ex_add (ex_fdivc (ex_ixL (K := K) (ex_var 0) ex_int)) (ex_mul (ex_ixL (K := K) (ex_frz (ex_lst (el_cons ex_int (el_cons ex_int (el_cons ex_int (el_cons ex_int (el_cons ex_int (el_cons ex_int (el_nil (o := Ow.v)))))))))) (ex_modc (ex_fdivc (ex_ixL (K := K) (ex_var 0) ex_int)))) (ex_var 4))))) (fun letter_here5 => (ss_for (Γs := (fun (s7 : (Str)) => [.mk Ow.v ar.1, .mk Ow.v ar.2.1, .mk Ow.v letters1, .mk Ow.v (s7 : Str), .mk Ow.v k3, .mk Ow.v letter_here5, .un])) (s4) rfl PassesOwn.never (ei_tu (K := K) (ex_tu (el_cons (ex_mod (ex_ixL (K := K) (ex_var 0) (ex_add ex_int (ex_var 4))) (ex_add (ex_lenS T.n_len (ex_var 3)) ex_int)) (el_cons (ex_mod (ex_fdivc (ex_ixL (K := K) (ex_var 0) (ex_add ex_int (ex_var 4)))) (ex_add (ex_lenS T.n_len (ex_var 3)) ex_int)) (el_nil (o := Ow.v)))))) (.k (.k (.k (.k (.k (.k (.w .n))))))) (fun s7 place6 => (eg_name 6 sc__law_word.nd)) (fun s7 place6 => (ss_asg 3 sc__law_word.nd (ex_addS (ex_addS (ex_cutS (ex_var 3) eo_none (eo_some (ex_var 6))) (ex_var 5)) (ex_cutS (ex_var 3) (eo_some (ex_var 6)) eo_none)) (fun word_here8 => (ss_nil (word_here8) (.k (.k (.k (.k (.k (.k (.w .n))))))))))) (fun s7 => (ss_nil (s7) (.k (.k (.k (.k (.w (.w (.w .n))))))))))))) (fun s4 => (ss_ret (ex_var 3))))))))⟩
theorem ok__law_word (T : Txt K mg) {f : Addr} {fd : FuncData} (F : FnP K "_law_word" s__law_word f fd) (hm : mg "_law_word" = some (.ref f))  : Has P w K mg base "_law_word" 1 ["_law_cells", "_law_most"] (sp__law_word K) :=
  ⟨f, fd, ok0__law_word T F , hm, F.kp, F.bindsN fun _ _ _ _ _ _ us hl => match us, hl with | [_, _], _ => rfl⟩
abbrev s__law_strange : Stmt := top 13
theorem sc__law_strange : FnScope ["_law_word_here", "_law_letter_here"] ["_law_word_here"] (defScope s__law_strange) := ⟨rfl, rfl, rfl, by decide +kernel, rfl, by decide +kernel, by decide +kernel⟩
abbrev sp__law_strange (K : PySem.W.Frag) : Sp := spF K (As.cons (α := Str) As.nil) (Ow.v : Ow Str) (fun a => mir__law_strange a.1)
theorem ok0__law_strange (T : Txt K mg) {f : Addr} {fd : FuncData} (F : FnP K "_law_strange" s__law_strange f fd)  : FnOk P w K mg base CX0 1 f fd ["_law_word_here"] (sp__law_strange K) := by
  refine fn_okD (r := (As.cons (α := Str) As.nil)) (o := Ow.v) (m := fun ar => (((pure ("jqxbzmaetkw" : Str)) >>= fun a => pure (a.cps.toList.map sgS)) >>= fun xs => loopM (S := Unit) (ρ := Str) (fun (letter_here1 : Str) (s2 : Unit) => (((pure letter_here1) >>= fun a => (pure ar.1) >>= fun b => pure (!inS a b)) >>= fun x => if x then ((((pure letter_here1) >>= fun r => pure (.rt r)) : M (Ctl Empty Unit Str)) >>= fun y => thenC y nofun) else (pure (.nx ())))) xs () >>= fun c => thenL c (fun (s2 : Unit) => ((pure ("" : Str)) >>= fun r => pure (.rt r))))) F sc__law_strange rfl rfl (fun cdv A' outer s H E hr ar => ?_)
  exact ⟨_, (ss_for (Γs := (fun (s2 : Unit) => [.mk Ow.v ar.1, .un])) () rfl PassesOwn.never (ei_str ex_str) (.k (.w .n)) (fun s2 letter_here1 => (eg_name 1 sc__law_strange.nd)) (fun s2 letter_here1 => (ss_ifR (et_c (ec_ninS (ex_var 1) (ex_var 0))) (ss_ret (ex_var 1)) (ss_nil () (.k (.w .n))))) (fun s2 => (ss_ret ex_str)))⟩
theorem ok__law_strange (T : Txt K mg) {f : Addr} {fd : FuncData} (F : FnP K "_law_strange" s__law_strange f fd) (hm : mg "_law_strange" = some (.ref f))  : Has P w K mg base "_law_strange" 1 ["_law_word_here"] (sp__law_strange K) :=
  ⟨f, fd, ok0__law_strange T F , hm, F.kp, F.bindsN fun _ _ _ _ _ _ us hl => match us, hl with | [_], _ => rfl⟩
abbrev s__law_due : Stmt := top 14
theorem sc__law_due : FnScope ["_law_word_here", "_law_one", "_law_other", "_law_spots", "_law_parts", "_law_k", "_law_middle", "_law_sign"] ["_law_word_here", "_law_one", "_law_other"] (defScope s__law_due) := ⟨rfl, rfl, rfl, by decide +kernel, rfl, by decide +kernel, by decide +kernel⟩
abbrev sp__law_due (K : PySem.W.Frag) : Sp := spF K (As.cons (α := Str) (As.cons (α := Str) (As.cons (α := Str) As.nil))) (Ow.v : Ow (Option Str)) (fun a => mir__law_due a.1 a.2.1 a.2.2.1)
theorem ok0__law_due (T : Txt K mg) {f : Addr} {fd : FuncData} (F : FnP K "_law_due" s__law_due f fd)  : FnOk P w K mg base CX0 1 f fd ["_law_word_here", "_law_one", "_law_other"] (sp__law_due K) := by
  refine fn_okD (r := (As.cons (α := Str) (As.cons (α := Str) (As.cons (α := Str) As.nil)))) (o := Ow.v) (m := fun ar => ((((pure ar.1) >>= fun a => pure (enumL (a.cps.toList.map sgS))) >>= fun xs => compM xs (fun (k1 : (Int × Str)) => ((pure k1.2) >>= fun a => (((pure ar.2.1) >>= fun a => ((pure ar.2.2.1) >>= fun a => (pure ([] : List Str)) >>= fun b => pure (a :: b)) >>= fun b => pure (a :: b)) >>= fun a => lstM a >>= fun b => pure (Tu.mk b)) >>= fun b => pure (decide (a ∈ b.l)))) (fun (k1 : (Int × Str)) => (pure k1.1))) >>= fun (spots2 : (List Int)) => ((bOr (((pure spots2) >>= fun a => pure (a.length : Int)) >>= fun a => (pure (4 : Int)) >>= fun b => pure (!decide (a = b))) (bOr (((pure ar.1) >>= fun a => ((pure spots2) >>= fun a => (pure (0 : Int)) >>= fun b => atM a b) >>= fun b => atS a b) >>= fun a => ((pure ar.1) >>= fun a => ((pure spots2) >>= fun a => (pure (1 : Int)) >>= fun b => atM a b) >>= fun b => atS a b) >>= fun b => pure (decide (a = b))) (((pure ar.1) >>= fun a => ((pure spots2) >>= fun a => (pure (0 : Int)) >>= fun b => atM a b) >>= fun b => atS a b) >>= fun a => ((pure ar.1) >>= fun a => ((pure spots2) >>= fun a => (pure (2 : Int)) >>= fun b => atM a b) >>= fun b => atS a b) >>= fun b => pure (!decide (a = b))))) >>= fun x => if x then ((((pure (none : Option Str)) >>= fun r => pure (.rt r)) : M (Ctl Empty Empty (Option Str))) >>= fun y => thenC y nofun) else (((((pure ar.1) >>= fun a => (pure none) >>= fun l => ((((pure spots2) >>= fun a => (pure (0 : Int)) >>= fun b => atM a b) >>= fun a => (pure (1 : Int)) >>= fun b => pure (a + b)) >>= fun i => pure (some i)) >>= fun u => cutSM a l u) >>= fun a => (pure ([] : List Str)) >>= fun b => pure (a :: b)) >>= fun a => lstM a) >>= fun (parts3 : (List Str)) => (((pure (3 : Int)) >>= fun a => range1 a) >>= fun xs => loopM (S := ((List Str))) (ρ := (Option Str)) (fun (k4 : Int) (s5 : ((List Str))) => (((pure ar.1) >>= fun a => ((((pure spots2) >>= fun a => (pure k4) >>= fun b => atM a b) >>= fun a => (pure (1 : Int)) >>= fun b => pure (a + b)) >>= fun i => pure (some i)) >>= fun l => (((pure spots2) >>= fun a => ((pure k4) >>= fun a => (pure (1 : Int)) >>= fun b => pure (a + b)) >>= fun b => atM a b) >>= fun i => pure (some i)) >>= fun u => cutSM a l u) >>= fun a => appM s5 a >>= fun (parts6 : (List Str)) => (pure (.nx (parts6))))) xs (parts3) >>= fun c => thenL c (fun (s5 : ((List Str))) => (((((pure ar.1) >>= fun a => ((pure spots2) >>= fun a => (pure (1 : Int)) >>= fun b => atM a b) >>= fun b => atS a b) >>= fun a => ((pure s5) >>= fun a => (pure (2 : Int)) >>= fun b => atM a b) >>= fun b => addSM a b) >>= fun a => ((pure ar.1) >>= fun a => ((pure spots2) >>= fun a => (pure (2 : Int)) >>= fun b => atM a b) >>= fun b => atS a b) >>= fun b => addSM a b) >>= fun (middle7 : Str) => ((((((((pure s5) >>= fun a => (pure (0 : Int)) >>= fun b => atM a b) >>= fun a => ((pure s5) >>= fun a => (pure (3 : Int)) >>= fun b => atM a b) >>= fun b => addSM a b) >>= fun a => (pure middle7) >>= fun b => addSM a b) >>= fun a => ((pure s5) >>= fun a => (pure (1 : Int)) >>= fun b => atM a b) >>= fun b => addSM a b) >>= fun a => ((pure ar.1) >>= fun a => (((pure spots2) >>= fun a => (pure (3 : Int)) >>= fun b => atM a b) >>= fun i => pure (some i)) >>= fun l => (pure none) >>= fun u => cutSM a l u) >>= fun b => addSM a b) >>= fun a => pure (some a)) >>= fun r => pure (.rt r))))))))) F sc__law_due rfl rfl (fun cdv A' outer s H E hr ar => ?_)
  exact ⟨_, (ss_asgLc 3 rfl sc__law_due.nd (ei_enumS T.n_enumerate (ex_var 0)) (own := [("_law_k", 5), ("_law_sign", 7)]) (by kernel_rfl) rfl rfl (fun _ _ _ _ _ k1 => (eg_pair (K := K) rfl (eg_name 5 sc__law_due.nd) (eg_name 7 sc__law_due.nd))) (fun _ _ _ _ _ k1 => (ef_one (et_c (ec_inT (K := K) (ex_var 7) (ex_tu (el_cons (ex_var 1) (el_cons (ex_var 2) (el_nil (o := Ow.v))))))))) (fun _ _ _ _ _ k1 => (ex_var 5)) (fun spots2 => (ss_ifR (et_view (ew_pt (ew_or (et_c (ec_ne (ex_lenL (K := K) T.n_len (ex_var 3)) ex_int)) (ew_or (et_c (ec_eq (ex_ixS (ex_var 0) (ex_ixL (K := K) (ex_var 3) ex_int)) (ex_ixS (ex_var 0) (ex_ixL (K := K) (ex_var 3) ex_int)))) (ew_or1 (et_c (ec_ne (ex_ixS (ex_var 0) (ex_ixL (K := K) (ex_var 3) ex_int)) (ex_ixS (ex_var 0) (ex_ixL (K := K) (ex_var 3) ex_int))))))))) (ss_ret ex_nonS) (ss_asg 4 sc__law_due.nd (ex_view (ex_lst (el_cons (ex_cutS (ex_var 0) eo_none (eo_some (ex_add (ex_ixL (K := K) (ex_var 3) ex_int) ex_int))) (el_nil (o := Ow.v))))) (fun parts3 => (ss_for (Γs := (fun (s5 : ((List Str))) => [.mk Ow.v ar.1, .mk Ow.v ar.2.1, .mk Ow.v ar.2.2.1, .mk (Ow.l Ow.v) spots2, .mk (Ow.l Ow.v) (s5 : (List Str)), .un, .un, .un])) (parts3) rfl PassesOwn.never (ei_range1 T.n_range ex_int) (.k (.k (.k (.k (.k (.w (.w (.w .n)))))))) (fun s5 k4 => (eg_name 5 sc__law_due.nd)) (fun s5 k4 => (ss_app 4 (ex_view (ex_cutS (ex_var 0) (eo_some (ex_add (ex_ixL (K := K) (ex_var 3) (ex_var 5)) ex_int)) (eo_some (ex_ixL (K := K) (ex_var 3) (ex_add (ex_var 5) ex_int))))) (fun parts6 => (ss_nil (parts6) (.k (.k (.k (.k (.k (.w (.w (.w .n)))))))))))) (fun s5 => (ss_asg 6 sc__law_due.nd (ex_view (ex_addS (ex_addS (ex_ixS (ex_var 0) (ex_ixL (K := K) (ex_var 3) ex_int)) (ex_ixL (K := K) (ex_var 4) ex_int)) (ex_ixS (ex_var 0) (ex_ixL (K := K) (ex_var 3) ex_int)))) (fun middle7 => (ss_ret (ex_view (ex_someS (ex_addS (ex_addS (ex_addS (ex_addS (ex_ixL (K := K) (ex_var 4) ex_int) (ex_ixL (K := K) (ex_var 4) ex_int)) (ex_var 6)) (ex_ixL (K := K) (ex_var 4) ex_int)) (ex_cutS (ex_var 0) (eo_some (ex_ixL (K := K) (ex_var 3) ex_int)) eo_none))))))))))))))⟩
theorem ok__law_due (T : Txt K mg) {f : Addr} {fd : FuncData} (F : FnP K "_law_due" s__law_due f fd) (hm : mg "_law_due" = some (.ref f))  : Has P w K mg base "_law_due" 1 ["_law_word_here", "_law_one", "_law_other"] (sp__law_due K) :=
  ⟨f, fd, ok0__law_due T F , hm, F.kp, F.bindsN fun _ _ _ _ _ _ us hl => match us, hl with | [_, _, _], _ => rfl⟩
abbrev s_Swap__done : Stmt := (clsB (top 9)).getD 1 (.Pass ⟨0, 0, 0, 0⟩)
theorem sc_Swap__done : FnScope ["self", "word", "one", "other", "spots", "a", "b", "c", "d"] ["self", "word"] (defScope s_Swap__done) := ⟨rfl, rfl, rfl, by decide +kernel, rfl, by decide +kernel, by decide +kernel⟩
abbrev sp_Swap__done (K : PySem.W.Frag) : Sp := spY K (As.cons (α := Ins) (As.cons (α := Str) As.nil)) (Ow.v : Ow Str) (fun a => mir_Swap__done a.1 a.2.1)
theorem ok0_Swap__done (T : Txt K mg) {fd : FuncData} (F : FunD K "done" "Swap.done" (defArgs s_Swap__done) (defBody s_Swap__done) (defScope s_Swap__done) [] [] (He.fAd K ("Swap", some "done")) fd) (H_places_of : HasY P w K mg base "places_of" 3 ["word", "letter"] (sp_places_of K)) : FnOk P w K mg base (L2.CX P w) 4 (He.fAd K ("Swap", some "done")) fd ["self", "word"] (sp_Swap__done K) := by
  obtain ⟨f_places_of, fd_places_of, F_places_of, m_places_of, k_places_of, b_places_of⟩ := H_places_of
  refine fn_okY (r := (As.cons (α := Ins) (As.cons (α := Str) As.nil))) (o := Ow.v) (m := fun ar => ((((pure ar.2.1) >>= fun a => (((pure ar.1) >>= fun x => obS obN obF x "one") >>= fun a => (pure ()) >>= fun b => pure (a, b)) >>= fun b => pure (a, b)) >>= fun a => mir_places_of a.1 a.2.1) >>= fun a => raiseD a (fun (one1 : (Int × Int)) => ((((pure ar.2.1) >>= fun a => (((pure ar.1) >>= fun x => obS obN obF x "other") >>= fun a => (pure ()) >>= fun b => pure (a, b)) >>= fun b => pure (a, b)) >>= fun a => mir_places_of a.1 a.2.1) >>= fun a => raiseD a (fun (other2 : (Int × Int)) => ((((pure one1) >>= fun x => (pure other2) >>= fun y => pure (Tu.mk [x.1, x.2, y.1, y.2])) >>= fun a => sortTuM a) >>= fun (spots3 : (List Int)) => ((bOr (((pure spots3) >>= fun a => pure (stepB 0 3 2 a)) >>= fun a => ((((pure one1) >>= fun x => (pure other2) >>= fun y => pure (minPP x y)) >>= fun x => pure (Tu.mk [x.1, x.2])) >>= fun a => pure a.l) >>= fun b => neM a b) ((pure one1) >>= fun a => (pure other2) >>= fun b => eqM a b)) >>= fun x => if x then (((pure (.rt (.inr (⟨"NoCross", none⟩ : Exn)))) : M (Ctl Empty Empty (Str ⊕ Exn))) >>= fun y => thenC y nofun) else ((pure spots3) >>= fun a => fourM a >>= fun (u4 : Int × Int × Int × Int) => (((((((pure ar.2.1) >>= fun a => (pure none) >>= fun l => (((pure u4.1) >>= fun a => (pure (1 : Int)) >>= fun b => pure (a + b)) >>= fun i => pure (some i)) >>= fun u => cutSM a l u) >>= fun a => ((pure ar.2.1) >>= fun a => (((pure u4.2.2.1) >>= fun a => (pure (1 : Int)) >>= fun b => pure (a + b)) >>= fun i => pure (some i)) >>= fun l => ((pure u4.2.2.2) >>= fun i => pure (some i)) >>= fun u => cutSM a l u) >>= fun b => addSM a b) >>= fun a => ((pure ar.2.1) >>= fun a => ((pure u4.2.1) >>= fun i => pure (some i)) >>= fun l => (((pure u4.2.2.1) >>= fun a => (pure (1 : Int)) >>= fun b => pure (a + b)) >>= fun i => pure (some i)) >>= fun u => cutSM a l u) >>= fun b => addSM a b) >>= fun a => ((pure ar.2.1) >>= fun a => (((pure u4.1) >>= fun a => (pure (1 : Int)) >>= fun b => pure (a + b)) >>= fun i => pure (some i)) >>= fun l => ((pure u4.2.1) >>= fun i => pure (some i)) >>= fun u => cutSM a l u) >>= fun b => addSM a b) >>= fun a => ((pure ar.2.1) >>= fun a => ((pure u4.2.2.2) >>= fun i => pure (some i)) >>= fun l => (pure none) >>= fun u => cutSM a l u) >>= fun b => addSM a b) >>= fun r => pure (.rt (.inl r))))))))))) F sc_Swap__done rfl rfl (fun cdv A' outer s H E hr ar => ?_)
  have hr_places_of := hr.mono (show 3 ≤ 3 by decide)
  exact ⟨_, (ss_asgY 2 sc_Swap__done.nd (ex_callY F_places_of hr_places_of m_places_of k_places_of b_places_of (takes_of rfl rfl rfl rfl) (ea_cons (ex_var 1) (ea_cons (ex_obS (K := K) T.oc T.ofl (ex_var 0)) ea_nil))) (fun one1 => (ss_asgY 3 sc_Swap__done.nd (ex_callY F_places_of hr_places_of m_places_of k_places_of b_places_of (takes_of rfl rfl rfl rfl) (ea_cons (ex_var 1) (ea_cons (ex_obS (K := K) T.oc T.ofl (ex_var 0)) ea_nil))) (fun other2 => (ss_asg 4 sc_Swap__done.nd (ex_sortTu (K := K) rfl T.n_sorted (ex_catPP (K := K) (ex_var 2) (ex_var 3))) (fun spots3 => (ss_ifR (et_view (ew_pt (ew_or (et_c (ec_neD (K := K) hr.units (ex_frz (ex_stepB (K := K) 0 3 2 (by decide) (ex_var 4))) (ex_frz (ex_listTu (K := K) T.n_list (ex_pTu (ex_minPP (K := K) rfl hr.units T.n_min (ex_var 2) (ex_var 3))))))) (ew_or1 (et_c (ec_eqD (K := K) hr.units (ex_var 2) (ex_var 3))))))) (ss_raiseY0 T.ex (by decide) T.c_NoCross (takes_of rfl rfl rfl rfl)) (ss_frz 4 rfl (ss_asgU4 (K := K) rfl (ex_var 4) (fun a5 => (eg_name 5 sc_Swap__done.nd)) (fun a5 b6 => (eg_name 6 sc_Swap__done.nd)) (fun a5 b6 c7 => (eg_name 7 sc_Swap__done.nd)) (fun a5 b6 c7 d8 => (eg_name 8 sc_Swap__done.nd)) (fun u4 => (ss_retY (ex_addS (ex_addS (ex_addS (ex_addS (ex_cutS (ex_var 1) eo_none (eo_some (ex_add (ex_var 5) ex_int))) (ex_cutS (ex_var 1) (eo_some (ex_add (ex_var 7) ex_int)) (eo_some (ex_var 8)))) (ex_cutS (ex_var 1) (eo_some (ex_var 6)) (eo_some (ex_add (ex_var 7) ex_int)))) (ex_cutS (ex_var 1) (eo_some (ex_add (ex_var 5) ex_int)) (eo_some (ex_var 6)))) (ex_cutS (ex_var 1) (eo_some (ex_var 8)) eo_none)))))))))))))⟩
theorem ok_Swap__done (T : Txt K mg) {fd : FuncData} (F : FunD K "done" "Swap.done" (defArgs s_Swap__done) (defBody s_Swap__done) (defScope s_Swap__done) [] [] (He.fAd K ("Swap", some "done")) fd) (H_places_of : HasY P w K mg base "places_of" 3 ["word", "letter"] (sp_places_of K)) : ∃ fd, FnOk P w K mg base (L2.CX P w) 4 (He.fAd K ("Swap", some "done")) fd ["self", "word"] (sp_Swap__done K) ∧ Binds K fd ["self", "word"] [] :=
  ⟨fd, ok0_Swap__done T F H_places_of, F.bindsN fun _ _ _ _ _ _ us hl => match us, hl with | [_, _], _ => rfl⟩
abbrev s__law_told : Stmt := top 15
theorem sc__law_told : FnScope ["_law_one", "_law_other", "_law_word_here", "_law_told_here", "_law_change", "e"] ["_law_one", "_law_other", "_law_word_here"] (defScope s__law_told) := ⟨rfl, rfl, rfl, by decide +kernel, rfl, by decide +kernel, by decide +kernel⟩
abbrev sp__law_told (K : PySem.W.Frag) : Sp := spF K (As.cons (α := Str) (As.cons (α := Str) (As.cons (α := Str) As.nil))) (Ow.v : Ow Jv) (fun a => mir__law_told a.1 a.2.1 a.2.2.1)
theorem ok0__law_told (T : Txt K mg) {f : Addr} {fd : FuncData} (F : FnP K "_law_told" s__law_told f fd) (H_Swap__done : ∃ fd, FnOk P w K mg base (L2.CX P w) 4 (He.fAd K ("Swap", some "done")) fd ["self", "word"] (sp_Swap__done K) ∧ Binds K fd ["self", "word"] []) (HO_Swap : HasO2 P w K mg base "Swap" "one" "other" 1 "one" "other") : FnOk P w K mg base CX0 5 f fd ["_law_one", "_law_other", "_law_word_here"] (sp__law_told K) := by
  obtain ⟨fd_Swap__done, FM_Swap__done, BM_Swap__done⟩ := H_Swap__done
  obtain ⟨fO_Swap, fdO_Swap, MO_Swap, FO_Swap, BO_Swap⟩ := HO_Swap
  refine fn_okD (r := (As.cons (α := Str) (As.cons (α := Str) (As.cons (α := Str) As.nil)))) (o := Ow.v) (m := fun ar => ((pure Jv.n) >>= fun (told_here1 : Jv) => (((pure ar.1) >>= fun a => (pure ar.2.1) >>= fun b => pure (⟨"Swap", [("one", Pvl.pv a), ("other", Pvl.pv b)]⟩ : Ins)) >>= fun (change2 : Ins) => ((bOr (bNot ((pure change2) >>= fun x => gd (obN.contains x.c) >>= fun _ => ofO (exLk obT x.c "Change"))) (bOr (((pure change2) >>= fun x => obS obN obF x "one") >>= fun a => (pure ar.1) >>= fun b => pure (!decide (a = b))) (((pure change2) >>= fun x => obS obN obF x "other") >>= fun a => (pure ar.2.1) >>= fun b => pure (!decide (a = b))))) >>= fun x => if x then (((((pure ("none" : Str)) >>= fun a => pure (Jv.s a)) >>= fun r => pure (.rt r)) : M (Ctl Empty Empty Jv)) >>= fun y => thenC y nofun) else ((((pure change2) >>= fun x => gd (decide (x.c = "Swap") && (x.fs.lookup ("done" : Str)).isNone) >>= fun _ => ((pure ar.2.2.1) >>= fun a => (pure ()) >>= fun b => pure (a, b)) >>= fun y => mir_Swap__done x y.1) >>= fun a => pure (jOf a)) >>= fun (r3 : Jv ⊕ Exn) => (tryCY exT exY "RoundError" r3 (fun (r3 : Jv) => (r3)) (fun (c6 : Exn) => (((((ofO (exLk exT c6.c "NoCross")) >>= fun a => ((ofO (exLk exT c6.c "NoLetter")) >>= fun a => ((ofO (exLk exT c6.c "ValueError")) >>= fun a => (pure ([] : List Bool)) >>= fun b => pure (a :: b)) >>= fun b => pure (a :: b)) >>= fun b => pure (a :: b)) >>= fun a => lstM a) >>= fun a => pure (Jv.l a)) >>= fun (told_here8 : Jv) => (pure (.nx (told_here8))))) : M (Ctl (Jv) Empty Jv)) >>= fun y => thenE y (fun (s4 : (Jv)) => ((pure s4) >>= fun r => pure (.rt r)))))))) F sc__law_told rfl rfl (fun cdv A' outer s H E hr ar => ?_)
  have hrO := hr.mono (show 1 + 1 ≤ 4 by decide)
  have hr_Swap__done := hr.mono (show 4 ≤ 4 by decide)
  exact ⟨_, (ss_asg 3 sc__law_told.nd ex_jN (fun told_here1 => (ss_asg 4 sc__law_told.nd (ex_mkO2 (K := K) MO_Swap FO_Swap hrO BO_Swap T.cc_Swap (ex_var 0) (ex_var 1)) (fun change2 => (ss_ifR (ew_pt (ew_or (et_not (et_val (ex_isO (K := K) T.oc T.ot T.n_isinstance T.cc_Change (ex_var 4)))) (ew_or (et_c (ec_ne (ex_obS (K := K) T.oc T.ofl (ex_var 4)) (ex_var 0))) (ew_or1 (et_c (ec_ne (ex_obS (K := K) T.oc T.ofl (ex_var 4)) (ex_var 1))))))) (ss_ret (ex_jOfS ex_str)) (ss_tryY (Γ1 := (fun (s4 : (Jv)) => [.mk Ow.v ar.1, .mk Ow.v ar.2.1, .mk Ow.v ar.2.2.1, .mk Ow.v (s4 : Jv), .mk Ow.v change2, .un])) (Γs := (fun (s4 : (Jv)) => [.mk Ow.v ar.1, .mk Ow.v ar.2.1, .mk Ow.v ar.2.2.1, .mk Ow.v (s4 : Jv), .mk Ow.v change2, .un])) 5 (fun (r3 : Jv) => (r3)) T.ex T.ey rfl rfl sc__law_told.nd T.c_RoundError (fun _ _ _ tk => (by_asg 3 sc__law_told.nd (exs_jOf (ex_methY (K := K) (c := "Swap") (fm := fun (a : Ins × Str × Unit) => mir_Swap__done a.1 a.2.1) (T.oc "Swap" (by decide)) T.me_Swap_done FM_Swap__done hr_Swap__done BM_Swap__done tk (ex_var 4) (ea_cons (ex_var 2) ea_nil))))) (fun r3 => (.k (.k (.k (.k (.k (.w .n))))))) (fun ad5 d7 c6 _ _ hP => (ss_asg 3 sc__law_told.nd (ex_jOfL (ex_frz (ex_lst (el_cons (ex_isY T.ex T.n_isinstance T.c_NoCross hP (ex_var 5)) (el_cons (ex_isY T.ex T.n_isinstance T.c_NoLetter hP (ex_var 5)) (el_cons (ex_isYV T.ex T.n_isinstance T.n_ValueError hP (ex_var 5)) (el_nil (o := Ow.v)))))))) (fun told_here8 => (ss_nil (told_here8) (.k (.k (.k (.k (.k (.w .n)))))))))) (fun _ => Sub.rfl' _) (fun _ => rfl) (fun s4 => (ss_ret (ex_var 3))) default))))))⟩
theorem ok__law_told (T : Txt K mg) {f : Addr} {fd : FuncData} (F : FnP K "_law_told" s__law_told f fd) (hm : mg "_law_told" = some (.ref f)) (H_Swap__done : ∃ fd, FnOk P w K mg base (L2.CX P w) 4 (He.fAd K ("Swap", some "done")) fd ["self", "word"] (sp_Swap__done K) ∧ Binds K fd ["self", "word"] []) (HO_Swap : HasO2 P w K mg base "Swap" "one" "other" 1 "one" "other") : Has P w K mg base "_law_told" 5 ["_law_one", "_law_other", "_law_word_here"] (sp__law_told K) :=
  ⟨f, fd, ok0__law_told T F H_Swap__done HO_Swap, hm, F.kp, F.bindsN fun _ _ _ _ _ _ us hl => match us, hl with | [_, _, _], _ => rfl⟩
abbrev s__law_letter : Stmt := top 16
theorem sc__law_letter : FnScope ["_law_one", "_law_other", "_law_word_here", "_law_told_here", "e"] ["_law_one", "_law_other", "_law_word_here"] (defScope s__law_letter) := ⟨rfl, rfl, rfl, by decide +kernel, rfl, by decide +kernel, by decide +kernel⟩
abbrev sp__law_letter (K : PySem.W.Frag) : Sp := spF K (As.cons (α := Str) (As.cons (α := Str) (As.cons (α := Str) As.nil))) (Ow.v : Ow (Option Str)) (fun a => mir__law_letter a.1 a.2.1 a.2.2.1)
theorem ok0__law_letter (T : Txt K mg) {f : Addr} {fd : FuncData} (F : FnP K "_law_letter" s__law_letter f fd) (H_Swap__done : ∃ fd, FnOk P w K mg base (L2.CX P w) 4 (He.fAd K ("Swap", some "done")) fd ["self", "word"] (sp_Swap__done K) ∧ Binds K fd ["self", "word"] []) (HO_Swap : HasO2 P w K mg base "Swap" "one" "other" 1 "one" "other") : FnOk P w K mg base CX0 5 f fd ["_law_one", "_law_other", "_law_word_here"] (sp__law_letter K) := by
  obtain ⟨fd_Swap__done, FM_Swap__done, BM_Swap__done⟩ := H_Swap__done
  obtain ⟨fO_Swap, fdO_Swap, MO_Swap, FO_Swap, BO_Swap⟩ := HO_Swap
  refine fn_okD (r := (As.cons (α := Str) (As.cons (α := Str) (As.cons (α := Str) As.nil)))) (o := Ow.v) (m := fun ar => ((pure (none : Option Str)) >>= fun (told_here1 : (Option Str)) => ((((pure ar.1) >>= fun a => (pure ar.2.1) >>= fun b => pure (⟨"Swap", [("one", Pvl.pv a), ("other", Pvl.pv b)]⟩ : Ins)) >>= fun x => gd (decide (x.c = "Swap") && (x.fs.lookup ("done" : Str)).isNone) >>= fun _ => ((pure ar.2.2.1) >>= fun a => (pure ()) >>= fun b => pure (a, b)) >>= fun y => mir_Swap__done x y.1) >>= fun (r2 : Str ⊕ Exn) => (tryCY exT exY "NoLetter" r2 (fun (r2 : Str) => (told_here1)) (fun (c5 : Exn) => (((fldS exF c5 "letter") >>= fun a => pure (some a)) >>= fun (told_here7 : (Option Str)) => (pure (.nx (told_here7))))) : M (Ctl ((Option Str)) Empty (Option Str))) >>= fun y => thenE y (fun (s3 : ((Option Str))) => ((pure s3) >>= fun r => pure (.rt r)))))) F sc__law_letter rfl rfl (fun cdv A' outer s H E hr ar => ?_)
  have hrO := hr.mono (show 1 + 1 ≤ 4 by decide)
  have hr_Swap__done := hr.mono (show 4 ≤ 4 by decide)
  exact ⟨_, (ss_asg 3 sc__law_letter.nd ex_nonS (fun told_here1 => (ss_tryY (Γ1 := (fun (s3 : ((Option Str))) => [.mk Ow.v ar.1, .mk Ow.v ar.2.1, .mk Ow.v ar.2.2.1, .mk Ow.v (s3 : (Option Str)), .un])) (Γs := (fun (s3 : ((Option Str))) => [.mk Ow.v ar.1, .mk Ow.v ar.2.1, .mk Ow.v ar.2.2.1, .mk Ow.v (s3 : (Option Str)), .un])) 4 (fun (r2 : Str) => (told_here1)) T.ex T.ey rfl rfl sc__law_letter.nd T.c_NoLetter (fun _ _ _ tk => (by_drop (ex_methY (K := K) (c := "Swap") (fm := fun (a : Ins × Str × Unit) => mir_Swap__done a.1 a.2.1) (T.oc "Swap" (by decide)) T.me_Swap_done FM_Swap__done hr_Swap__done BM_Swap__done tk (ex_mkO2 (K := K) MO_Swap FO_Swap hrO BO_Swap T.cc_Swap (ex_var 0) (ex_var 1)) (ea_cons (ex_var 2) ea_nil)))) (fun r2 => (.k (.k (.k (.k (.w .n)))))) (fun ad4 d6 c5 _ _ hP => (ss_asg 3 sc__law_letter.nd (ex_someS (ex_fldS T.fl hP (ex_var 4))) (fun told_here7 => (ss_nil (told_here7) (.k (.k (.k (.k (.w .n))))))))) (fun _ => Sub.rfl' _) (fun _ => rfl) (fun s3 => (ss_ret (ex_var 3))) default)))⟩
theorem ok__law_letter (T : Txt K mg) {f : Addr} {fd : FuncData} (F : FnP K "_law_letter" s__law_letter f fd) (hm : mg "_law_letter" = some (.ref f)) (H_Swap__done : ∃ fd, FnOk P w K mg base (L2.CX P w) 4 (He.fAd K ("Swap", some "done")) fd ["self", "word"] (sp_Swap__done K) ∧ Binds K fd ["self", "word"] []) (HO_Swap : HasO2 P w K mg base "Swap" "one" "other" 1 "one" "other") : Has P w K mg base "_law_letter" 5 ["_law_one", "_law_other", "_law_word_here"] (sp__law_letter K) :=
  ⟨f, fd, ok0__law_letter T F H_Swap__done HO_Swap, hm, F.kp, F.bindsN fun _ _ _ _ _ _ us hl => match us, hl with | [_, _, _], _ => rfl⟩
abbrev s_law : Stmt := top 17
theorem sc_law : FnScope ["_law_script", "_law_cells", "_law_word_here", "_law_letters", "_law_one", "_law_other", "_law_due_here", "_law_found", "_law_strange_here", "_law_letter_here", "_law_at", "_law_text"] ["_law_script"] (defScope s_law) := ⟨rfl, rfl, rfl, by decide +kernel, rfl, by decide +kernel, by decide +kernel⟩
abbrev sp_law (K : PySem.W.Frag) : Sp := spF K (As.cons (α := Scr) As.nil) (Ow.v : Ow Bool) (fun a => mir_law a.1)
theorem ok0_law (T : Txt K mg) {f : Addr} {fd : FuncData} (F : FnP K "law" s_law f fd) (H_Swap__done : ∃ fd, FnOk P w K mg base (L2.CX P w) 4 (He.fAd K ("Swap", some "done")) fd ["self", "word"] (sp_Swap__done K) ∧ Binds K fd ["self", "word"] []) (HO_Swap : HasO2 P w K mg base "Swap" "one" "other" 1 "one" "other") (H__law_mixed : Has P w K mg base "_law_mixed" 1 ["_law_script", "_law_least"] (sp__law_mixed K)) (H__law_word : Has P w K mg base "_law_word" 1 ["_law_cells", "_law_most"] (sp__law_word K)) (H__law_due : Has P w K mg base "_law_due" 1 ["_law_word_here", "_law_one", "_law_other"] (sp__law_due K)) (H__law_told : Has P w K mg base "_law_told" 5 ["_law_one", "_law_other", "_law_word_here"] (sp__law_told K)) (H__law_strange : Has P w K mg base "_law_strange" 1 ["_law_word_here"] (sp__law_strange K)) (H__law_letter : Has P w K mg base "_law_letter" 5 ["_law_one", "_law_other", "_law_word_here"] (sp__law_letter K)) : FnOk P w K mg base CX0 6 f fd ["_law_script"] (sp_law K) := by
  obtain ⟨fd_Swap__done, FM_Swap__done, BM_Swap__done⟩ := H_Swap__done
  obtain ⟨fO_Swap, fdO_Swap, MO_Swap, FO_Swap, BO_Swap⟩ := HO_Swap
  obtain ⟨f__law_mixed, fd__law_mixed, F__law_mixed, m__law_mixed, k__law_mixed, b__law_mixed⟩ := H__law_mixed
  obtain ⟨f__law_word, fd__law_word, F__law_word, m__law_word, k__law_word, b__law_word⟩ := H__law_word
  obtain ⟨f__law_due, fd__law_due, F__law_due, m__law_due, k__law_due, b__law_due⟩ := H__law_due
  obtain ⟨f__law_told, fd__law_told, F__law_told, m__law_told, k__law_told, b__law_told⟩ := H__law_told
  obtain ⟨f__law_strange, fd__law_strange, F__law_strange, m__law_strange, k__law_strange, b__law_strange⟩ := H__law_strange
  obtain ⟨f__law_letter, fd__law_letter, F__law_letter, m__law_letter, k__law_letter, b__law_letter⟩ := H__law_letter
  refine fn_okD (r := (As.cons (α := Scr) As.nil)) (o := Ow.v) (m := fun ar => ((((pure ar.1) >>= fun a => ((pure (12 : Int)) >>= fun a => (pure ()) >>= fun b => pure (a, b)) >>= fun b => pure (a, b)) >>= fun a => mir__law_mixed a.1 a.2.1) >>= fun (cells1 : (List Int)) => ((((pure cells1) >>= fun a => ((pure (10 : Int)) >>= fun a => (pure ()) >>= fun b => pure (a, b)) >>= fun b => pure (a, b)) >>= fun a => mir__law_word a.1 a.2.1) >>= fun (word_here2 : Str) => (((pure word_here2) >>= fun a => sortTxtM a) >>= fun (letters3 : (List Str)) => ((pure letters3) >>= fun xs => loopM (S := Unit) (ρ := Bool) (fun (one4 : Str) (s5 : Unit) => ((pure letters3) >>= fun xs => loopM (S := Unit) (ρ := Bool) (fun (other6 : Str) (s7 : Unit) => ((((pure word_here2) >>= fun a => ((pure one4) >>= fun a => ((pure other6) >>= fun a => (pure ()) >>= fun b => pure (a, b)) >>= fun b => pure (a, b)) >>= fun b => pure (a, b)) >>= fun a => mir__law_due a.1 a.2.1 a.2.2.1) >>= fun (due_here8 : (Option Str)) => ((((pure one4) >>= fun a => ((pure other6) >>= fun a => ((pure word_here2) >>= fun a => (pure ()) >>= fun b => pure (a, b)) >>= fun b => pure (a, b)) >>= fun b => pure (a, b)) >>= fun a => mir__law_told a.1 a.2.1 a.2.2.1) >>= fun (found9 : Jv) => ((bAnd ((pure due_here8) >>= fun a => pure a.isNone) (((pure found9) >>= fun a => jL a) >>= fun a => (((pure true) >>= fun a => ((pure false) >>= fun a => ((pure true) >>= fun a => (pure ([] : List Bool)) >>= fun b => pure (a :: b)) >>= fun b => pure (a :: b)) >>= fun b => pure (a :: b)) >>= fun a => lstM a) >>= fun b => neM a b)) >>= fun x => if x then ((((pure false) >>= fun r => pure (.rt r)) : M (Ctl Empty Unit Bool)) >>= fun y => thenC y nofun) else ((bAnd ((pure due_here8) >>= fun a => pure a.isSome) (bOr (bNot (((pure found9) >>= fun a => jS a) >>= fun _ => pure true)) (((pure found9) >>= fun a => jS a) >>= fun a => ((pure due_here8) >>= fun a => ofO a) >>= fun b => pure (!decide (a = b))))) >>= fun x => if x then ((((pure false) >>= fun r => pure (.rt r)) : M (Ctl Empty Unit Bool)) >>= fun y => thenC y nofun) else ((bAnd ((pure due_here8) >>= fun a => pure a.isSome) ((((pure one4) >>= fun a => (pure other6) >>= fun b => pure (⟨"Swap", [("one", Pvl.pv a), ("other", Pvl.pv b)]⟩ : Ins)) >>= fun x => gd (decide (x.c = "Swap") && (x.fs.lookup ("done" : Str)).isNone) >>= fun _ => (((pure found9) >>= fun a => jS a) >>= fun a => (pure ()) >>= fun b => pure (a, b)) >>= fun y => mir_Swap__done x y.1 >>= fun r => noY r) >>= fun a => (pure word_here2) >>= fun b => pure (!decide (a = b)))) >>= fun x => if x then ((((pure false) >>= fun r => pure (.rt r)) : M (Ctl Empty Unit Bool)) >>= fun y => thenC y nofun) else (pure (.nx ())))))))) xs () >>= fun c => thenL c (fun (s7 : Unit) => (pure (.nx ()))))) xs () >>= fun c => thenL c (fun (s5 : Unit) => ((((pure word_here2) >>= fun a => (pure ()) >>= fun b => pure (a, b)) >>= fun a => mir__law_strange a.1) >>= fun (strange_here10 : Str) => (((pure letters3) >>= fun a => (((pure cells1) >>= fun a => (pure (11 : Int)) >>= fun b => atM a b) >>= fun a => ((pure letters3) >>= fun a => pure (a.length : Int)) >>= fun b => modM a b) >>= fun b => atM a b) >>= fun (letter_here11 : Str) => (((((pure cells1) >>= fun a => (pure (11 : Int)) >>= fun b => atM a b) >>= fun a => pure (a / (32 : Int))) >>= fun a => (((pure word_here2) >>= fun a => lenS a) >>= fun a => (pure (1 : Int)) >>= fun b => pure (a - b)) >>= fun b => modM a b) >>= fun (at12 : Int) => ((((pure strange_here10) >>= fun a => ((pure ("" : Str)) >>= fun a => (((pure word_here2) >>= fun a => ((pure at12) >>= fun i => pure (some i)) >>= fun l => (((pure at12) >>= fun a => (pure (2 : Int)) >>= fun b => pure (a + b)) >>= fun i => pure (some i)) >>= fun u => cutSM a l u) >>= fun a => ((pure word_here2) >>= fun a => (((pure letter_here11) >>= fun x => upperM x) >>= fun a => (pure ([] : List Str)) >>= fun b => pure (a :: b)) >>= fun b => pure (a :: b)) >>= fun b => pure (a :: b)) >>= fun b => pure (a :: b)) >>= fun b => pure (a :: b)) >>= fun a => lstM a) >>= fun xs => loopM (S := Unit) (ρ := Bool) (fun (text13 : Str) (s14 : Unit) => (((((pure text13) >>= fun a => (pure letter_here11) >>= fun b => pure (a, b)) >>= fun a => (((pure letter_here11) >>= fun a => (pure text13) >>= fun b => pure (a, b)) >>= fun a => (((pure text13) >>= fun a => (pure strange_here10) >>= fun b => pure (a, b)) >>= fun a => (pure ([] : List (Str × Str))) >>= fun b => pure (a :: b)) >>= fun b => pure (a :: b)) >>= fun b => pure (a :: b)) >>= fun a => lstM a) >>= fun xs => loopM (S := Unit) (ρ := Bool) (fun (one15 : (Str × Str)) (s16 : Unit) => ((bOr (((((pure one15.1) >>= fun a => ((pure one15.2) >>= fun a => ((pure word_here2) >>= fun a => (pure ()) >>= fun b => pure (a, b)) >>= fun b => pure (a, b)) >>= fun b => pure (a, b)) >>= fun a => mir__law_told a.1 a.2.1 a.2.2.1) >>= fun a => jL a) >>= fun a => (((pure false) >>= fun a => ((pure true) >>= fun a => ((pure true) >>= fun a => (pure ([] : List Bool)) >>= fun b => pure (a :: b)) >>= fun b => pure (a :: b)) >>= fun b => pure (a :: b)) >>= fun a => lstM a) >>= fun b => neM a b) (((((pure one15.1) >>= fun a => ((pure one15.2) >>= fun a => ((pure word_here2) >>= fun a => (pure ()) >>= fun b => pure (a, b)) >>= fun b => pure (a, b)) >>= fun b => pure (a, b)) >>= fun a => mir__law_letter a.1 a.2.1 a.2.2.1) >>= fun a => ofO a) >>= fun a => (pure text13) >>= fun b => pure (!decide (a = b)))) >>= fun x => if x then ((((pure false) >>= fun r => pure (.rt r)) : M (Ctl Empty Unit Bool)) >>= fun y => thenC y nofun) else (pure (.nx ())))) xs () >>= fun c => thenL c (fun (s16 : Unit) => (pure (.nx ()))))) xs () >>= fun c => thenL c (fun (s14 : Unit) => ((pure true) >>= fun r => pure (.rt r))))))))))))) F sc_law rfl rfl (fun cdv A' outer s H E hr ar => ?_)
  have hrO := hr.mono (show 1 + 1 ≤ 5 by decide)
  have hr_Swap__done := hr.mono (show 4 ≤ 5 by decide)
  have hr__law_mixed := hr.mono (show 1 ≤ 5 by decide)
  have hr__law_word := hr.mono (show 1 ≤ 5 by decide)
  have hr__law_due := hr.mono (show 1 ≤ 5 by decide)
  have hr__law_told := hr.mono (show 5 ≤ 5 by decide)
  have hr__law_strange := hr.mono (show 1 ≤ 5 by decide)
  have hr__law_letter := hr.mono (show 5 ≤ 5 by decide)
  exact ⟨_, (ss_asg 1 sc_law.nd (ex_call F__law_mixed hr__law_mixed m__law_mixed k__law_mixed b__law_mixed (ea_cons (ex_var 0) (ea_cons ex_int ea_nil))) (fun cells1 => (ss_asg 2 sc_law.nd (ex_view (ex_call F__law_word hr__law_word m__law_word k__law_word b__law_word (ea_cons (ex_var 1) (ea_cons ex_int ea_nil)))) (fun word_here2 => (ss_asg 3 sc_law.nd (ex_sortSetX (K := K) rfl T.n_sorted T.n_set (ex_var 2)) (fun letters3 => (ss_frz 3 rfl (ss_for (Γs := (fun (s5 : Unit) => [.mk Ow.v ar.1, .mk (Ow.l Ow.v) cells1, .mk Ow.v word_here2, .mk Ow.v letters3, .un, .un, .un, .un, .un, .un, .un, .un])) () rfl PassesOwn.never (ei_list (K := K) (ex_var 3)) (.k (.k (.k (.k (.w (.w (.w (.w (.w (.w (.w (.w .n)))))))))))) (fun s5 one4 => (eg_name 4 sc_law.nd)) (fun s5 one4 => (ss_for (Γs := (fun (s7 : Unit) => [.mk Ow.v ar.1, .mk (Ow.l Ow.v) cells1, .mk Ow.v word_here2, .mk Ow.v letters3, .mk Ow.v one4, .un, .un, .un, .un, .un, .un, .un])) () rfl PassesOwn.never (ei_list (K := K) (ex_var 3)) (.k (.k (.k (.k (.k (.w (.w (.w (.w (.w (.w (.w .n)))))))))))) (fun s7 other6 => (eg_name 5 sc_law.nd)) (fun s7 other6 => (ss_asg 6 sc_law.nd (ex_call F__law_due hr__law_due m__law_due k__law_due b__law_due (ea_cons (ex_var 2) (ea_cons (ex_var 4) (ea_cons (ex_var 5) ea_nil)))) (fun due_here8 => (ss_asg 7 sc_law.nd (ex_call F__law_told hr__law_told m__law_told k__law_told b__law_told (ea_cons (ex_var 4) (ea_cons (ex_var 5) (ea_cons (ex_var 2) ea_nil)))) (fun found9 => (ss_ifR (ew_pt (ew_and (et_c (ec_isN (ex_var 6))) (ew_and1 (et_c (ec_neD (K := K) hr.units (ex_jL (ex_var 7)) (ex_frz (ex_lst (el_cons ex_bl (el_cons ex_bl (el_cons ex_bl (el_nil (o := Ow.v)))))))))))) (ss_ret ex_bl) (ss_ifR (ew_pt (ew_and (et_c (ec_notN (ex_var 6))) (ew_and1 (ew_pt (ew_or (et_not (et_val (ex_isi (K := K) T.n_isinstance T.n_str boot_str (ex_jS (ex_var 7)) (by decide +kernel)))) (ew_or1 (et_c (ec_ne (ex_jS (ex_var 7)) (ex_unOS (ex_var 6)))))))))) (ss_ret ex_bl) (ss_ifR (ew_pt (ew_and (et_c (ec_notN (ex_var 6))) (ew_and1 (et_c (ec_ne (ex_methNY (K := K) (c := "Swap") (fm := fun (a : Ins × Str × Unit) => mir_Swap__done a.1 a.2.1) (T.oc "Swap" (by decide)) T.me_Swap_done FM_Swap__done hr_Swap__done BM_Swap__done (ex_mkO2 (K := K) MO_Swap FO_Swap hrO BO_Swap T.cc_Swap (ex_var 4) (ex_var 5)) (ea_cons (ex_jS (ex_var 7)) ea_nil)) (ex_var 2)))))) (ss_ret ex_bl) (ss_nil () (.k (.k (.k (.k (.k (.w (.w (.w (.w (.w (.w (.w .n))))))))))))))))))))) (fun s7 => (ss_nil () (.k (.k (.k (.k (.w (.w (.w (.w (.w (.w (.w (.w .n)))))))))))))))) (fun s5 => (ss_asg 8 sc_law.nd (ex_call F__law_strange hr__law_strange m__law_strange k__law_strange b__law_strange (ea_cons (ex_var 2) ea_nil)) (fun strange_here10 => (ss_asg 9 sc_law.nd (ex_view (ex_ixL (K := K) (ex_var 3) (ex_mod (ex_ixL (K := K) (ex_var 1) ex_int) (ex_lenL (K := K) T.n_len (ex_var 3))))) (fun letter_here11 => (ss_asg 10 sc_law.nd (ex_view (ex_mod (ex_fdivc (ex_ixL (K := K) (ex_var 1) ex_int)) (ex_sub (ex_lenS T.n_len (ex_var 2)) ex_int))) (fun at12 => (ss_for (Γs := (fun (s14 : Unit) => [.mk Ow.v ar.1, .mk (Ow.l Ow.v) cells1, .mk Ow.v word_here2, .mk Ow.v letters3, .un, .un, .un, .un, .mk Ow.v strange_here10, .mk Ow.v letter_here11, .mk Ow.v at12, .un])) () rfl PassesOwn.never (ei_list (K := K) (ex_frz (ex_lst (el_cons (ex_var 8) (el_cons ex_str (el_cons (ex_cutS (ex_var 2) (eo_some (ex_var 10)) (eo_some (ex_add (ex_var 10) ex_int))) (el_cons (ex_var 2) (el_cons (ex_upper (K := K) (ex_var 9)) (el_nil (o := Ow.v)))))))))) (.k (.k (.k (.k (.w (.w (.w (.w (.k (.k (.k (.w .n)))))))))))) (fun s14 text13 => (eg_name 11 sc_law.nd)) (fun s14 text13 => (ss_for (Γs := (fun (s16 : Unit) => [.mk Ow.v ar.1, .mk (Ow.l Ow.v) cells1, .mk Ow.v word_here2, .mk Ow.v letters3, .un, .un, .un, .un, .mk Ow.v strange_here10, .mk Ow.v letter_here11, .mk Ow.v at12, .mk Ow.v text13])) () rfl PassesOwn.never (ei_list (K := K) (ex_frz (ex_lst (el_cons (ex_pair (ex_var 11) (ex_var 9)) (el_cons (ex_pair (ex_var 9) (ex_var 11)) (el_cons (ex_pair (ex_var 11) (ex_var 8)) (el_nil (o := (Ow.p Ow.v Ow.v))))))))) (.k (.k (.k (.k (.w (.w (.w (.w (.k (.k (.k (.k .n)))))))))))) (fun s16 one15 => (eg_pair (K := K) rfl (eg_name 4 sc_law.nd) (eg_name 5 sc_law.nd))) (fun s16 one15 => (ss_ifR (ew_pt (ew_or (et_c (ec_neD (K := K) hr.units (ex_jL (ex_call F__law_told hr__law_told m__law_told k__law_told b__law_told (ea_cons (ex_var 4) (ea_cons (ex_var 5) (ea_cons (ex_var 2) ea_nil))))) (ex_frz (ex_lst (el_cons ex_bl (el_cons ex_bl (el_cons ex_bl (el_nil (o := Ow.v))))))))) (ew_or1 (et_c (ec_ne (ex_unOS (ex_call F__law_letter hr__law_letter m__law_letter k__law_letter b__law_letter (ea_cons (ex_var 4) (ea_cons (ex_var 5) (ea_cons (ex_var 2) ea_nil))))) (ex_var 11)))))) (ss_ret ex_bl) (ss_nil () (.k (.k (.k (.k (.w (.w (.w (.w (.k (.k (.k (.k .n))))))))))))))) (fun s16 => (ss_nil () (.k (.k (.k (.k (.w (.w (.w (.w (.k (.k (.k (.w .n)))))))))))))))) (fun s14 => (ss_ret ex_bl))))))))))))))))))⟩
theorem ok_law (T : Txt K mg) {f : Addr} {fd : FuncData} (F : FnP K "law" s_law f fd) (hm : mg "law" = some (.ref f)) (H_Swap__done : ∃ fd, FnOk P w K mg base (L2.CX P w) 4 (He.fAd K ("Swap", some "done")) fd ["self", "word"] (sp_Swap__done K) ∧ Binds K fd ["self", "word"] []) (HO_Swap : HasO2 P w K mg base "Swap" "one" "other" 1 "one" "other") (H__law_mixed : Has P w K mg base "_law_mixed" 1 ["_law_script", "_law_least"] (sp__law_mixed K)) (H__law_word : Has P w K mg base "_law_word" 1 ["_law_cells", "_law_most"] (sp__law_word K)) (H__law_due : Has P w K mg base "_law_due" 1 ["_law_word_here", "_law_one", "_law_other"] (sp__law_due K)) (H__law_told : Has P w K mg base "_law_told" 5 ["_law_one", "_law_other", "_law_word_here"] (sp__law_told K)) (H__law_strange : Has P w K mg base "_law_strange" 1 ["_law_word_here"] (sp__law_strange K)) (H__law_letter : Has P w K mg base "_law_letter" 5 ["_law_one", "_law_other", "_law_word_here"] (sp__law_letter K)) : Has P w K mg base "law" 6 ["_law_script"] (sp_law K) :=
  ⟨f, fd, ok0_law T F H_Swap__done HO_Swap H__law_mixed H__law_word H__law_due H__law_told H__law_strange H__law_letter, hm, F.kp, F.bindsN fun _ _ _ _ _ _ us hl => match us, hl with | [_], _ => rfl⟩
abbrev s_NoLetter__init : Stmt := (clsB (top 3)).getD 0 (.Pass ⟨0, 0, 0, 0⟩)
theorem scI_NoLetter : FnScope ["self", "letter"] ["self", "letter"] (defScope s_NoLetter__init) := ⟨rfl, rfl, rfl, by decide +kernel, rfl, by decide +kernel, by decide +kernel⟩
theorem okI_NoLetter (T : Txt K mg) (hre : reiB K "RoundError" = true) {fI : Addr} {fd : FuncData} (O : OexF K "NoLetter" "letter" fI) (F : FunD K "__init__" "NoLetter.__init__" (defArgs s_NoLetter__init) (defBody s_NoLetter__init) (defScope s_NoLetter__init) [] [] fI fd) : HasI P w K mg base "NoLetter" "letter" "letter" :=
  ⟨fI, fd, O, fnI_ok (m := "no such letter") F scI_NoLetter (fun cdv A' outer s H E => pss_cons (ps_expr (pe_reinit (c := "RoundError") hre T.c_RoundError (pa_cons (pe_var (i := 0) (x := "self") rfl (.inl rfl)) (pa_cons pe_str pa_nil)))) (pss_cons (ps_ost (pe_var (i := 0) (x := "self") rfl (.inl rfl)) (pe_var (i := 1) (x := "letter") rfl (.inl rfl))) pss_nil)), F.bindsN fun _ _ _ _ _ _ us hl => match us, hl with | [_, _], _ => rfl⟩
abbrev sO_Swap : Stmt := (clsB (top 9)).getD 0 (.Pass ⟨0, 0, 0, 0⟩)
theorem scO_Swap : FnScope ["self", "one", "other"] ["self", "one", "other"] (defScope sO_Swap) := ⟨rfl, rfl, rfl, by decide +kernel, rfl, by decide +kernel, by decide +kernel⟩
theorem okO_Swap (T : Txt K mg) (MO : Mk K (He.ga K "Swap") (He.fAd K ("Swap", some "__init__"))) {fd : FuncData} (F : FunD K "__init__" "Swap.__init__" (defArgs sO_Swap) (defBody sO_Swap) (defScope sO_Swap) [] [] (He.fAd K ("Swap", some "__init__")) fd) : HasO2 P w K mg base "Swap" "one" "other" 1 "one" "other" :=
  ⟨_, fd, MO, fnO2_ok (T.oc "Swap" (by decide)) (T.ofl ("Swap", "one") (by decide)) (T.ofl ("Swap", "other") (by decide)) (by decide) F scO_Swap (fun cdv A' outer s H E => (pss_cons (ps_fld (pe_var (i := 0) (x := "self") rfl (.inl rfl)) (pe_var (i := 1) (x := "one") rfl (.inl rfl)) rfl) (pss_cons (ps_fld (pe_var (i := 0) (x := "self") rfl (.inl rfl)) (pe_var (i := 2) (x := "other") rfl (.inl rfl)) rfl) pss_nil))), F.bindsN fun _ _ _ _ _ _ us hl => match us, hl with | [_, _, _], _ => rfl⟩
end
/-! ### the head -/
def dO_Swap : He.DefD := ⟨("Swap", some "__init__"), "__init__", "Swap.__init__", defArgs sO_Swap, defBody sO_Swap, defScope sO_Swap, [], []⟩
def dI_NoLetter : He.DefD := ⟨("NoLetter", some "__init__"), "__init__", "NoLetter.__init__", defArgs s_NoLetter__init, defBody s_NoLetter__init, defScope s_NoLetter__init, [], []⟩
def d_places_of : He.DefD := ⟨("places_of", none), "places_of", "places_of", defArgs s_places_of, defBody s_places_of, defScope s_places_of, [], []⟩
def d__law_mixed : He.DefD := ⟨("_law_mixed", none), "_law_mixed", "_law_mixed", defArgs s__law_mixed, defBody s__law_mixed, defScope s__law_mixed, [], []⟩
def d__law_word : He.DefD := ⟨("_law_word", none), "_law_word", "_law_word", defArgs s__law_word, defBody s__law_word, defScope s__law_word, [], []⟩
def d__law_strange : He.DefD := ⟨("_law_strange", none), "_law_strange", "_law_strange", defArgs s__law_strange, defBody s__law_strange, defScope s__law_strange, [], []⟩
def d__law_due : He.DefD := ⟨("_law_due", none), "_law_due", "_law_due", defArgs s__law_due, defBody s__law_due, defScope s__law_due, [], []⟩
def d_Swap__done : He.DefD := ⟨("Swap", some "done"), "done", "Swap.done", defArgs s_Swap__done, defBody s_Swap__done, defScope s_Swap__done, [], []⟩
def d__law_told : He.DefD := ⟨("_law_told", none), "_law_told", "_law_told", defArgs s__law_told, defBody s__law_told, defScope s__law_told, [], []⟩
def d__law_letter : He.DefD := ⟨("_law_letter", none), "_law_letter", "_law_letter", defArgs s__law_letter, defBody s__law_letter, defScope s__law_letter, [], []⟩
def d_law : He.DefD := ⟨("law", none), "law", "law", defArgs s_law, defBody s_law, defScope s_law, [], []⟩
def fn : List He.DefD := [d_places_of, d__law_mixed, d__law_word, d__law_strange, d__law_due, d_Swap__done, d__law_told, d__law_letter, d_law, dI_NoLetter, dO_Swap]
def fa : List He.Fa := [.glo "places_of", .glo "_law_mixed", .glo "_law_word", .glo "_law_strange", .glo "_law_due", .glo "_law_told", .glo "_law_letter", .glo "law", .free "ValueError", .free "enumerate", .free "isinstance", .free "len", .free "list", .free "max", .free "min", .free "range", .free "set", .free "sorted", .free "str"]
abbrev R : PySem.W.OpenRow := PySem.W.OpenLaw.row PySem.Challenge.rw_fourway_k52_swap_of_two_letters
def obB (K : PySem.W.Frag) : Bool := obN.all (oclB K) && (obF.all (fun p => decide (PySem.W.findIn K (clv K p.1) p.2 = some none)) && (obT.all (fun p => decide (PySem.W.kitOne K (clv K p.1) (clv K p.2.1) = some p.2.2)) && ((["Swap", "Change"] : List Str).all (fun c => decide (PySem.W.nsIn K mainGlobals c = some (some (clv K c)))) && ((["Swap"] : List Str).all (mkB K) && (([] : List Str).all (mkNB K) && ([("Swap", "done", "Swap")] : List (Str × Str × Str)).all (fun p => metB K p.1 p.2.1 p.2.2))))))
def exB (K : PySem.W.Frag) : Bool := exfB exN exT K && decide (PySem.W.nsIn K mainGlobals "NoLetter" = some (some (clv K "NoLetter"))) && exyB exY exF exNN K && initB exI K && obB K
abbrev hk : PySem.W.Hook := hookZ 4 fa fn exB
def ob (s : PySem.W.SharedT) : He.AlD × Bool := obsZ 4 fa fn exB (HandSHeadRun.getT s)
theorem ob_eq (s : PySem.W.SharedT) : ob s = hk.obs s.abs := obsZ_eq (HandSHeadRun.getT_eq s)
theorem run (w : World) : HandSHeadRun.RunEq R (PySem.W.view R.prog [17]) hk ob 4000 ((["_wall", "RoundError", "NoLetter", "NoCross", "places_of", "Change", "Swap", "_law_mixed", "_law_word", "_law_strange", "_law_due", "_law_told", "_law_letter"] : List PySem.Str)) w := by
  intro os
  kernel_rfl
theorem facts {P : Program} {w : World} {K : PySem.W.Frag} {h : Heap} {mg : Str → Option Value} {f : Addr} (X : K.In h) (G : h.Ns mainGlobals mg) (hfa : mg ("law" : Str) = some (.ref f)) (c : SaysZ fa fn exB K) :
    ∃ fd : FuncData, (∀ (s : Shared) (v : Value), BindsTo s fd ⟨[v], []⟩ [("_law_script", v)]) ∧ ∀ base : Heap, K.In base → base.Ns mainGlobals mg → FnOk P w K mg base CX0 6 f fd ["_law_script"] (sp_law K) := by
  have cx := c.more
  have c := c.d
  unfold exB at cx
  simp only [Bool.and_eq_true] at cx
  have TE : ExF K exN exT := exf_of (cx.1.1.1.1)
  obtain ⟨fd_places_of, F_places_of⟩ := c.def_ 0 (d := d_places_of) rfl
  obtain ⟨fd__law_mixed, F__law_mixed⟩ := c.def_ 1 (d := d__law_mixed) rfl
  obtain ⟨fd__law_word, F__law_word⟩ := c.def_ 2 (d := d__law_word) rfl
  obtain ⟨fd__law_strange, F__law_strange⟩ := c.def_ 3 (d := d__law_strange) rfl
  obtain ⟨fd__law_due, F__law_due⟩ := c.def_ 4 (d := d__law_due) rfl
  obtain ⟨fd_Swap__done, F_Swap__done⟩ := c.def_ 5 (d := d_Swap__done) rfl
  obtain ⟨fd__law_told, F__law_told⟩ := c.def_ 6 (d := d__law_told) rfl
  obtain ⟨fd__law_letter, F__law_letter⟩ := c.def_ 7 (d := d__law_letter) rfl
  obtain ⟨fd_law, F_law⟩ := c.def_ 8 (d := d_law) rfl
  obtain ⟨fdI_NoLetter, FI_NoLetter⟩ := c.def_ 9 (d := dI_NoLetter) rfl
  obtain ⟨fdO_Swap, FO_Swap⟩ := c.def_ 10 (d := dO_Swap) rfl
  have TB := (cx.2)
  unfold obB at TB
  simp only [Bool.and_eq_true, List.all_eq_true] at TB
  obtain ⟨tb1, tb2, tb3, tb4, tb5, tb6, tb7⟩ := TB
  have TY := (cx.1.1.2)
  have TI := (cx.1.2)
  have m_places_of := He.glo_ok X G (c.fact 0 (f := .glo "places_of") rfl)
  have m__law_mixed := He.glo_ok X G (c.fact 1 (f := .glo "_law_mixed") rfl)
  have m__law_word := He.glo_ok X G (c.fact 2 (f := .glo "_law_word") rfl)
  have m__law_strange := He.glo_ok X G (c.fact 3 (f := .glo "_law_strange") rfl)
  have m__law_due := He.glo_ok X G (c.fact 4 (f := .glo "_law_due") rfl)
  have m__law_told := He.glo_ok X G (c.fact 5 (f := .glo "_law_told") rfl)
  have m__law_letter := He.glo_ok X G (c.fact 6 (f := .glo "_law_letter") rfl)
  have m_law := He.glo_ok X G (c.fact 7 (f := .glo "law") rfl)
  have T : Txt K mg := ⟨He.free_ok X G (c.fact 8 (f := .free "ValueError") rfl), He.free_ok X G (c.fact 9 (f := .free "enumerate") rfl), He.free_ok X G (c.fact 10 (f := .free "isinstance") rfl), He.free_ok X G (c.fact 11 (f := .free "len") rfl), He.free_ok X G (c.fact 12 (f := .free "list") rfl), He.free_ok X G (c.fact 13 (f := .free "max") rfl), He.free_ok X G (c.fact 14 (f := .free "min") rfl), He.free_ok X G (c.fact 15 (f := .free "range") rfl), He.free_ok X G (c.fact 16 (f := .free "set") rfl), He.free_ok X G (c.fact 17 (f := .free "sorted") rfl), He.free_ok X G (c.fact 18 (f := .free "str") rfl), TE, PySem.W.mg_of X G (TE.ok "RoundError" (by decide)).2.2.2.2, PySem.W.mg_of X G (TE.ok "NoCross" (by decide)).2.2.2.2, PySem.W.mg_of X G (of_decide_eq_true (cx.1.1.1.2)), exy_c TY, exy_f TY, fun c hc => ocl_of (tb1 c hc), fun p hp => of_decide_eq_true (tb2 p hp), fun p hp => of_decide_eq_true (tb3 p hp), PySem.W.mg_of X G (of_decide_eq_true (tb4 "Swap" (by decide))), PySem.W.mg_of X G (of_decide_eq_true (tb4 "Change" (by decide))), met_of (tb7 ("Swap", "done", "Swap") (by decide))⟩
  have e := hfa.symm.trans m_law
  cases e
  refine ⟨fd_law, fun s v => FunD.bindsA (ps := ["_law_script"]) F_law (fun _ _ _ _ _ _ us hl => match us, hl with | [_], _ => rfl) s [v] rfl, fun base _ _ => ?_⟩
  have HI_NoLetter : HasI P w K mg base "NoLetter" "letter" "letter" := okI_NoLetter T (init_of TI (c := "NoLetter") (f := "letter") (B := "RoundError") (by decide)).2 (init_of TI (c := "NoLetter") (f := "letter") (B := "RoundError") (by decide)).1 FI_NoLetter
  have HO_Swap : HasO2 P w K mg base "Swap" "one" "other" 1 "one" "other" := okO_Swap T (mk_of (tb5 "Swap" (by decide))) FO_Swap
  have H_places_of : HasY P w K mg base "places_of" 3 ["word", "letter"] (sp_places_of K) := ok_places_of T F_places_of m_places_of HI_NoLetter
  have H__law_mixed : Has P w K mg base "_law_mixed" 1 ["_law_script", "_law_least"] (sp__law_mixed K) := ok__law_mixed T F__law_mixed m__law_mixed 
  have H__law_word : Has P w K mg base "_law_word" 1 ["_law_cells", "_law_most"] (sp__law_word K) := ok__law_word T F__law_word m__law_word 
  have H__law_strange : Has P w K mg base "_law_strange" 1 ["_law_word_here"] (sp__law_strange K) := ok__law_strange T F__law_strange m__law_strange 
  have H__law_due : Has P w K mg base "_law_due" 1 ["_law_word_here", "_law_one", "_law_other"] (sp__law_due K) := ok__law_due T F__law_due m__law_due 
  have H_Swap__done : ∃ fd, FnOk P w K mg base (L2.CX P w) 4 (He.fAd K ("Swap", some "done")) fd ["self", "word"] (sp_Swap__done K) ∧ Binds K fd ["self", "word"] [] := ok_Swap__done T F_Swap__done H_places_of
  have H__law_told : Has P w K mg base "_law_told" 5 ["_law_one", "_law_other", "_law_word_here"] (sp__law_told K) := ok__law_told T F__law_told m__law_told H_Swap__done HO_Swap
  have H__law_letter : Has P w K mg base "_law_letter" 5 ["_law_one", "_law_other", "_law_word_here"] (sp__law_letter K) := ok__law_letter T F__law_letter m__law_letter H_Swap__done HO_Swap
  exact ok0_law T F_law H_Swap__done HO_Swap H__law_mixed H__law_word H__law_due H__law_told H__law_strange H__law_letter
end Law

/-! ## Gf1: rows of bits as numbers, what they span, ranks -/
namespace Gf
theorem xs (a b : Nat) : (a ^^^ b) ^^^ b = a := by rw [Nat.xor_assoc, Nat.xor_self, Nat.xor_zero]
theorem xs' (a b : Nat) : b ^^^ (b ^^^ a) = a := by rw [← Nat.xor_assoc, Nat.xor_self, Nat.zero_xor]
/-- all sums of some of the rows, one for each choice of rows -/
def sp : List Nat → List Nat
  | [] => [0]
  | k :: ks => sp ks ++ (sp ks).map (· ^^^ k)
theorem sp_len : ∀ ks : List Nat, (sp ks).length = 2 ^ ks.length
  | [] => rfl
  | k :: ks => by
    show (sp ks ++ (sp ks).map (· ^^^ k)).length = _
    rw [List.length_append, List.length_map, sp_len ks, List.length_cons, Nat.pow_succ]; omega
theorem sp_cons {k : Nat} {ks : List Nat} {v : Nat} : v ∈ sp (k :: ks) ↔ v ∈ sp ks ∨ v ^^^ k ∈ sp ks := by
  show v ∈ sp ks ++ (sp ks).map (· ^^^ k) ↔ _
  rw [List.mem_append, List.mem_map]
  constructor
  · rintro (h | ⟨w, h, rfl⟩)
    · exact .inl h
    · exact .inr (by rw [xs]; exact h)
  · rintro (h | h)
    · exact .inl h
    · exact .inr ⟨_, h, xs _ _⟩
theorem sp_zero : ∀ ks : List Nat, 0 ∈ sp ks
  | [] => by simp [sp]
  | k :: ks => sp_cons.mpr (.inl (sp_zero ks))
theorem sp_xor : ∀ {ks : List Nat} {u v : Nat}, u ∈ sp ks → v ∈ sp ks → u ^^^ v ∈ sp ks
  | [], u, v, h, h' => by
    simp [sp] at h h' ⊢
    rw [h, h']; rfl
  | k :: ks, u, v, h, h' => by
    rw [sp_cons] at h h' ⊢
    rcases h with h | h <;> rcases h' with h' | h'
    · exact .inl (sp_xor h h')
    · exact .inr (by rw [Nat.xor_assoc]; exact sp_xor h h')
    · refine .inr ?_
      have := sp_xor h h'
      rwa [Nat.xor_assoc, Nat.xor_comm k v, ← Nat.xor_assoc] at this
    · refine .inl ?_
      have := sp_xor h h'
      rwa [Nat.xor_comm v k, ← Nat.xor_assoc, xs] at this
theorem sp_mem : ∀ {ks : List Nat} {k : Nat}, k ∈ ks → k ∈ sp ks
  | j :: ks, k, h => by
    rw [sp_cons]
    rcases List.mem_cons.mp h with e | h
    · subst e; exact .inr (by rw [Nat.xor_self]; exact sp_zero ks)
    · exact .inl (sp_mem h)
theorem sp_sub : ∀ {ks ls : List Nat}, (∀ k ∈ ks, k ∈ sp ls) → ∀ v ∈ sp ks, v ∈ sp ls
  | [], ls, _, v, hv => by
    simp [sp] at hv
    subst hv; exact sp_zero ls
  | k :: ks, ls, h, v, hv => by
    have h' := fun x hx => h x (List.mem_cons_of_mem _ hx)
    rcases sp_cons.mp hv with hv | hv
    · exact sp_sub h' v hv
    · have := sp_xor (sp_sub h' _ hv) (h k (List.mem_cons_self ..))
      rwa [xs] at this
def Eqs (ks ls : List Nat) : Prop := ∀ v, v ∈ sp ks ↔ v ∈ sp ls
theorem Eqs.of {ks ls : List Nat} (h : ∀ k ∈ ks, k ∈ sp ls) (h' : ∀ k ∈ ls, k ∈ sp ks) : Eqs ks ls := fun v => ⟨sp_sub h v, sp_sub h' v⟩
theorem Eqs.refl (ks : List Nat) : Eqs ks ks := fun _ => Iff.rfl
theorem Eqs.symm {ks ls : List Nat} (h : Eqs ks ls) : Eqs ls ks := fun v => (h v).symm
theorem Eqs.trans {ks ls ms : List Nat} (h : Eqs ks ls) (h' : Eqs ls ms) : Eqs ks ms := fun v => (h v).trans (h' v)
theorem Eqs.cons {ks ls : List Nat} (h : Eqs ks ls) (k : Nat) : Eqs (k :: ks) (k :: ls) := fun v => by rw [sp_cons, sp_cons, h, h]
theorem Eqs.perm {ks ls : List Nat} (h : ks.Perm ls) : Eqs ks ls := Eqs.of (fun k hk => sp_mem (h.mem_iff.mp hk)) (fun k hk => sp_mem (h.mem_iff.mpr hk))
theorem sp_in {n : Nat} : ∀ {ks : List Nat}, (∀ k ∈ ks, k < 2 ^ n) → ∀ v ∈ sp ks, v < 2 ^ n
  | [], _, v, hv => by
    simp [sp] at hv
    subst hv; exact Nat.two_pow_pos n
  | k :: ks, h, v, hv => by
    have h' := fun x hx => h x (List.mem_cons_of_mem _ hx)
    rcases sp_cons.mp hv with hv | hv
    · exact sp_in h' v hv
    · have := Nat.xor_lt_two_pow (sp_in h' _ hv) (h k (List.mem_cons_self ..))
      rwa [xs] at this
/-- no row is a sum of others -/
def Ind (ks : List Nat) : Prop := (sp ks).Nodup
theorem Ind.nil : Ind [] := by simp [Ind, sp]
theorem nodup_le {α : Type} [DecidableEq α] : ∀ {l m : List α}, l.Nodup → (∀ x ∈ l, x ∈ m) → l.length ≤ m.length
  | [], m, _, _ => Nat.zero_le _
  | x :: l, m, nd, h => by
    obtain ⟨h1, h2⟩ := List.nodup_cons.mp nd
    have hx := h x (List.mem_cons_self ..)
    have := nodup_le (m := m.erase x) h2 fun y hy => (List.mem_erase_of_ne (fun e => h1 (by rw [← e]; exact hy))).mpr (h y (List.mem_cons_of_mem _ hy))
    rw [List.length_erase_of_mem hx] at this
    have := List.length_pos_of_mem hx
    rw [List.length_cons]; omega
theorem Ind.le {ks ls : List Nat} (h : Ind ks) (hs : ∀ k ∈ ks, k ∈ sp ls) : ks.length ≤ ls.length := by
  have := nodup_le h (sp_sub hs)
  rw [sp_len, sp_len] at this
  exact (Nat.pow_le_pow_iff_right (by decide)).mp this
theorem Ind.cons {k : Nat} {ks : List Nat} : Ind (k :: ks) ↔ Ind ks ∧ k ∉ sp ks := by
  show (sp ks ++ (sp ks).map (· ^^^ k)).Nodup ↔ (sp ks).Nodup ∧ _
  rw [List.nodup_append]
  constructor
  · rintro ⟨h1, h2, h3⟩
    refine ⟨h1, fun hk => ?_⟩
    exact h3 k hk (0 ^^^ k) (List.mem_map.mpr ⟨0, sp_zero ks, rfl⟩) (by simp)
  · rintro ⟨h1, h2⟩
    refine ⟨h1, List.Pairwise.map _ (fun a b hab e => hab (by
      have := congrArg (· ^^^ k) e
      simpa [xs] using this)) h1, fun a ha b hb e => ?_⟩
    obtain ⟨c, hc, rfl⟩ := List.mem_map.mp hb
    subst e
    have := sp_xor hc ha
    rw [xs'] at this
    exact h2 this
/-- the rank of rows -/
def Rk (ks : List Nat) (r : Nat) : Prop := ∃ bs, Ind bs ∧ bs.length = r ∧ Eqs bs ks
theorem Rk.uniq {ks : List Nat} {r r' : Nat} (h : Rk ks r) (h' : Rk ks r') : r = r' := by
  obtain ⟨b, b1, b2, b3⟩ := h
  obtain ⟨c, c1, c2, c3⟩ := h'
  have e1 := b1.le (ls := c) fun k hk => (c3 k).mpr ((b3 k).mp (sp_mem hk))
  have e2 := c1.le (ls := b) fun k hk => (b3 k).mpr ((c3 k).mp (sp_mem hk))
  omega
theorem Rk.eqs {ks ls : List Nat} {r : Nat} (h : Rk ks r) (e : Eqs ks ls) : Rk ls r := by
  obtain ⟨b, b1, b2, b3⟩ := h
  exact ⟨b, b1, b2, b3.trans e⟩
theorem Rk.ind {ks : List Nat} (h : Ind ks) : Rk ks ks.length := ⟨ks, h, rfl, Eqs.refl _⟩
theorem Rk.ex : ∀ ks : List Nat, ∃ r, r ≤ ks.length ∧ Rk ks r
  | [] => ⟨0, Nat.le_refl _, [], Ind.nil, rfl, Eqs.refl _⟩
  | k :: ks => by
    obtain ⟨r, hr, b, b1, b2, b3⟩ := Rk.ex ks
    by_cases h : k ∈ sp ks
    · exact ⟨r, by rw [List.length_cons]; omega, b, b1, b2, b3.trans (Eqs.of (fun x hx => sp_cons.mpr (.inl (sp_mem hx))) fun x hx => by
        rcases List.mem_cons.mp hx with e | hx
        · subst e; exact h
        · exact sp_mem hx)⟩
    · exact ⟨r + 1, by rw [List.length_cons]; omega, k :: b, Ind.cons.mpr ⟨b1, fun hk => h ((b3 k).mp hk)⟩, by rw [List.length_cons, b2], b3.cons k⟩
theorem Rk.full {ks : List Nat} (h : Rk ks ks.length) : Ind ks := by
  induction ks with
  | nil => exact Ind.nil
  | cons k ks ih =>
    rw [Ind.cons]
    obtain ⟨r, hr, hR⟩ := Rk.ex ks
    have hk : k ∉ sp ks := fun hk => by
      have e : Eqs ks (k :: ks) := Eqs.of (fun x hx => sp_cons.mpr (.inl (sp_mem hx))) fun x hx => by
        rcases List.mem_cons.mp hx with e | hx
        · subst e; exact hk
        · exact sp_mem hx
      have := (hR.eqs e).uniq h
      rw [List.length_cons] at this
      omega
    refine ⟨ih ?_, hk⟩
    have h2 : Rk (k :: ks) (r + 1) := by
      obtain ⟨b, b1, b2, b3⟩ := hR
      exact ⟨k :: b, Ind.cons.mpr ⟨b1, fun h => hk ((b3 k).mp h)⟩, by rw [List.length_cons, b2], b3.cons k⟩
    have := h2.uniq h
    rw [List.length_cons] at this
    have e : r = ks.length := by omega
    rw [← e]; exact hR
/-- one row added to another one -/
theorem Eqs.add {ks : List Nat} {i j : Nat} {a b : Nat} (hi : ks[i]? = some a) (hj : ks[j]? = some b) (hij : i ≠ j) : Eqs (ks.set j (b ^^^ a)) ks := by
  have hjl : j < ks.length := by
    rcases Nat.lt_or_ge j ks.length with h | h
    · exact h
    · rw [List.getElem?_eq_none h] at hj; cases hj
  have ma : a ∈ ks := List.mem_of_getElem? hi
  have mb : b ∈ ks := List.mem_of_getElem? hj
  have ma' : a ∈ ks.set j (b ^^^ a) := List.mem_of_getElem? (i := i) (by rw [List.getElem?_set_ne (Ne.symm hij)]; exact hi)
  have mb' : b ^^^ a ∈ ks.set j (b ^^^ a) := List.mem_of_getElem? (i := j) (List.getElem?_set_self hjl)
  refine Eqs.of (fun k hk => ?_) fun k hk => ?_
  · rcases List.mem_or_eq_of_mem_set hk with h | h
    · exact sp_mem h
    · subst h; exact sp_xor (sp_mem mb) (sp_mem ma)
  · obtain ⟨m, hm, e⟩ := List.getElem_of_mem hk
    by_cases h : m = j
    · subst h
      have : ks[m]? = some k := by rw [List.getElem?_eq_getElem hm, e]
      rw [hj] at this
      cases this
      have := sp_xor (sp_mem mb') (sp_mem ma')
      rwa [xs] at this
    · exact sp_mem (List.mem_of_getElem? (i := m) (by rw [List.getElem?_set_ne (Ne.symm h), List.getElem?_eq_getElem hm, e]))
/-! ### maps that keep sums -/
def Lin (f : Nat → Nat) : Prop := f 0 = 0 ∧ ∀ a b, f (a ^^^ b) = f a ^^^ f b
theorem sp_map {f : Nat → Nat} (hf : Lin f) : ∀ ks : List Nat, sp (ks.map f) = (sp ks).map f
  | [] => by simp [sp, hf.1]
  | k :: ks => by
    show sp (ks.map f) ++ (sp (ks.map f)).map (· ^^^ f k) = (sp ks ++ (sp ks).map (· ^^^ k)).map f
    rw [sp_map hf ks, List.map_append, List.map_map, List.map_map]
    congr 1
    apply List.map_congr_left
    intro x _
    exact (hf.2 x k).symm
theorem Rk.map {f : Nat → Nat} (hf : Lin f) (hi : ∀ a, f a = 0 → a = 0) {ks : List Nat} {r : Nat} (h : Rk ks r) : Rk (ks.map f) r := by
  obtain ⟨b, b1, b2, b3⟩ := h
  have inj : ∀ x y, f x = f y → x = y := fun x y e => by
    have := hi (x ^^^ y) (by rw [hf.2, e, Nat.xor_self])
    have h := congrArg (· ^^^ y) this
    simpa [xs] using h
  refine ⟨b.map f, ?_, by rw [List.length_map, b2], fun v => ?_⟩
  · show (sp (b.map f)).Nodup
    rw [sp_map hf]
    exact List.Pairwise.map _ (fun a c hac e => hac (inj _ _ e)) b1
  · rw [sp_map hf, sp_map hf, List.mem_map, List.mem_map]
    exact ⟨fun ⟨w, h, e⟩ => ⟨w, (b3 w).mp h, e⟩, fun ⟨w, h, e⟩ => ⟨w, (b3 w).mpr h, e⟩⟩
/-! ### rows, each of which has a bit that no later one has -/
def Tri : List Nat → Prop
  | [] => True
  | k :: ks => k.testBit k.log2 = true ∧ (∀ x ∈ ks, x.testBit k.log2 = false) ∧ Tri ks
theorem sp_bit {t : Nat} : ∀ {ks : List Nat}, (∀ k ∈ ks, k.testBit t = false) → ∀ v ∈ sp ks, v.testBit t = false
  | [], _, v, hv => by
    simp [sp] at hv
    subst hv; simp
  | k :: ks, h, v, hv => by
    have h' := fun x hx => h x (List.mem_cons_of_mem _ hx)
    rcases sp_cons.mp hv with hv | hv
    · exact sp_bit h' v hv
    · have := sp_bit h' _ hv
      rw [Nat.testBit_xor, h k (List.mem_cons_self ..)] at this
      simpa using this
theorem Tri.ind : ∀ {ks : List Nat}, Tri ks → Ind ks
  | [], _ => Ind.nil
  | k :: ks, ⟨h1, h2, h3⟩ => Ind.cons.mpr ⟨h3.ind, fun hk => by
    have := sp_bit h2 k hk
    rw [h1] at this; cases this⟩
theorem top_bit {k : Nat} (h : k ≠ 0) : k.testBit k.log2 = true := by
  rw [Nat.testBit, Nat.shiftRight_eq_div_pow]
  have h1 := Nat.log2_self_le h
  have h2 := Nat.lt_log2_self (n := k)
  have : k / 2 ^ k.log2 = 1 := by
    apply Nat.div_eq_of_lt_le
    · omega
    · rw [Nat.pow_succ] at h2; omega
  rw [this]; rfl
theorem above_bit {k j : Nat} (h : k.log2 < j) : k.testBit j = false := by
  apply Nat.testBit_lt_two_pow
  exact Nat.lt_of_lt_of_le Nat.lt_log2_self (Nat.pow_le_pow_right (by decide) h)
theorem lt_bit {x y : Nat} (i : Nat) (hx : x.testBit i = false) (hy : y.testBit i = true) (h : ∀ j, i < j → x.testBit j = y.testBit j) : x < y := by
  have e : x / 2 ^ (i + 1) = y / 2 ^ (i + 1) := by
    apply Nat.eq_of_testBit_eq
    intro j
    rw [Nat.testBit_div_two_pow, Nat.testBit_div_two_pow]
    exact h _ (by omega)
  have hp := Nat.two_pow_pos i
  have bx : x / 2 ^ i % 2 = 0 := by
    rw [Nat.testBit_eq_decide_div_mod_eq] at hx
    have := of_decide_eq_false hx
    omega
  have by' : y / 2 ^ i % 2 = 1 := by
    rw [Nat.testBit_eq_decide_div_mod_eq] at hy
    exact of_decide_eq_true hy
  rw [Nat.pow_succ, ← Nat.div_div_eq_div_mul, ← Nat.div_div_eq_div_mul] at e
  have : x / 2 ^ i < y / 2 ^ i := by omega
  rcases Nat.lt_or_ge x y with h | h
  · exact h
  · have := Nat.div_le_div_right (c := 2 ^ i) h
    omega
theorem min_bit {m k : Nat} (h : k ≠ 0) : min m (m ^^^ k) = if m.testBit k.log2 then m ^^^ k else m := by
  have hb := top_bit h
  have hab : ∀ j, k.log2 < j → m.testBit j = (m ^^^ k).testBit j := fun j hj => by rw [Nat.testBit_xor, above_bit hj]; simp
  split
  · rename_i hm
    have := lt_bit k.log2 (x := m ^^^ k) (y := m) (by rw [Nat.testBit_xor, hm, hb]; rfl) hm fun j hj => (hab j hj).symm
    omega
  · rename_i hm
    have hm : m.testBit k.log2 = false := by simpa using hm
    have := lt_bit k.log2 (x := m) (y := m ^^^ k) hm (by rw [Nat.testBit_xor, hm, hb]; rfl) hab
    omega
/-- a row lowered by rows -/
def low (m : Nat) (ks : List Nat) : Nat := ks.foldl (fun m k => min m (m ^^^ k)) m
theorem low_sp : ∀ {ks : List Nat} {m : Nat}, (∀ k ∈ ks, k ≠ 0) → low m ks ^^^ m ∈ sp ks
  | [], m, _ => by simp [low, sp]
  | k :: ks, m, h => by
    have ih := low_sp (ks := ks) (m := min m (m ^^^ k)) fun x hx => h x (List.mem_cons_of_mem _ hx)
    rw [sp_cons]
    show low (min m (m ^^^ k)) ks ^^^ m ∈ sp ks ∨ _
    rw [show low m (k :: ks) = low (min m (m ^^^ k)) ks from rfl]
    rw [min_bit (h k (List.mem_cons_self ..))] at ih ⊢
    by_cases hm : m.testBit k.log2 = true
    · rw [if_pos hm] at ih ⊢
      right
      rw [Nat.xor_assoc]; exact ih
    · rw [if_neg hm] at ih ⊢
      exact .inl ih
theorem low_bit : ∀ {ks : List Nat} {m t : Nat}, (∀ k ∈ ks, k ≠ 0) → (∀ k ∈ ks, k.testBit t = false) → (low m ks).testBit t = m.testBit t
  | [], m, t, _, _ => rfl
  | k :: ks, m, t, h, h' => by
    show (low (min m (m ^^^ k)) ks).testBit t = _
    rw [low_bit (fun x hx => h x (List.mem_cons_of_mem _ hx)) fun x hx => h' x (List.mem_cons_of_mem _ hx), min_bit (h k (List.mem_cons_self ..))]
    split
    · rw [Nat.testBit_xor, h' k (List.mem_cons_self ..)]; simp
    · rfl
theorem Tri.ne : ∀ {ks : List Nat}, Tri ks → ∀ k ∈ ks, k ≠ 0
  | k :: ks, ⟨h1, h2, h3⟩, x, hx => by
    rcases List.mem_cons.mp hx with e | hx
    · subst e
      intro e
      rw [e] at h1
      simp at h1
    · exact h3.ne x hx
theorem low_clear : ∀ {ks : List Nat} {m : Nat}, Tri ks → ∀ k ∈ ks, (low m ks).testBit k.log2 = false
  | k :: ks, m, h, x, hx => by
    have hne := h.ne
    obtain ⟨h1, h2, h3⟩ := h
    show (low (min m (m ^^^ k)) ks).testBit x.log2 = false
    rcases List.mem_cons.mp hx with e | hx
    · subst e
      rw [low_bit (fun y hy => hne y (List.mem_cons_of_mem _ hy)) h2, min_bit (hne _ (List.mem_cons_self ..))]
      split
      · rename_i hm
        rw [Nat.testBit_xor, hm, h1]; rfl
      · rename_i hm
        simpa using hm
    · exact low_clear h3 x hx
theorem Tri.snoc : ∀ {ks : List Nat} {x : Nat}, Tri ks → x ≠ 0 → (∀ k ∈ ks, x.testBit k.log2 = false) → Tri (ks ++ [x])
  | [], x, _, hx, _ => ⟨top_bit hx, by simp, True.intro⟩
  | k :: ks, x, ⟨h1, h2, h3⟩, hx, h => ⟨h1, fun y hy => by
      rcases List.mem_append.mp hy with hy | hy
      · exact h2 y hy
      · rw [List.mem_singleton.mp hy]
        exact h k (List.mem_cons_self ..), h3.snoc hx fun y hy => h y (List.mem_cons_of_mem _ hy)⟩
/-- the leads of rows -/
def leads : List Nat → List Nat → List Nat
  | [], ls => ls
  | r :: rs, ls => leads rs (if low r ls > 0 then ls ++ [low r ls] else ls)
theorem leads_ok : ∀ {rs ls : List Nat}, Tri ls → Tri (leads rs ls) ∧ Eqs (leads rs ls) (ls ++ rs)
  | [], ls, h => ⟨h, by rw [List.append_nil]; exact Eqs.refl _⟩
  | r :: rs, ls, h => by
    have hl := low_sp (m := r) h.ne
    show Tri (leads rs (if low r ls > 0 then ls ++ [low r ls] else ls)) ∧ Eqs (leads rs (if low r ls > 0 then ls ++ [low r ls] else ls)) _
    by_cases hp : low r ls > 0
    · rw [if_pos hp]
      obtain ⟨h1, h2⟩ := leads_ok (rs := rs) (h.snoc (Nat.pos_iff_ne_zero.mp hp) (low_clear h))
      refine ⟨h1, h2.trans ?_⟩
      have sub1 : ∀ k ∈ ls, k ∈ ls ++ r :: rs := fun k hk => List.mem_append_left _ hk
      have hl1 : low r ls ^^^ r ∈ sp (ls ++ r :: rs) := sp_sub (fun k hk => sp_mem (sub1 k hk)) _ hl
      have hl2 : low r ls ^^^ r ∈ sp (ls ++ [low r ls] ++ rs) := sp_sub (fun k hk => sp_mem (List.mem_append_left _ (List.mem_append_left _ hk))) _ hl
      refine Eqs.of (fun k hk => ?_) fun k hk => ?_
      · rcases List.mem_append.mp hk with hk | hk
        · rcases List.mem_append.mp hk with hk | hk
          · exact sp_mem (sub1 k hk)
          · rw [List.mem_singleton.mp hk]
            have := sp_xor hl1 (sp_mem (k := r) (by simp))
            rwa [xs] at this
        · exact sp_mem (List.mem_append_right _ (List.mem_cons_of_mem _ hk))
      · rcases List.mem_append.mp hk with hk | hk
        · exact sp_mem (List.mem_append_left _ (List.mem_append_left _ hk))
        · rcases List.mem_cons.mp hk with e | hk
          · subst e
            have := sp_xor (sp_mem (k := low k ls) (ks := ls ++ [low k ls] ++ rs) (by simp)) hl2
            rwa [xs'] at this
          · exact sp_mem (List.mem_append_right _ hk)
    · rw [if_neg hp]
      have e0 : low r ls = 0 := by omega
      rw [e0, Nat.zero_xor] at hl
      obtain ⟨h1, h2⟩ := leads_ok (rs := rs) h
      refine ⟨h1, h2.trans (Eqs.of (fun k hk => ?_) fun k hk => ?_)⟩
      · rcases List.mem_append.mp hk with hk | hk
        · exact sp_mem (List.mem_append_left _ hk)
        · exact sp_mem (List.mem_append_right _ (List.mem_cons_of_mem _ hk))
      · rcases List.mem_append.mp hk with hk | hk
        · exact sp_mem (List.mem_append_left _ hk)
        · rcases List.mem_cons.mp hk with e | hk
          · subst e
            exact sp_sub (fun x hx => sp_mem (List.mem_append_left _ hx)) _ hl
          · exact sp_mem (List.mem_append_right _ hk)
theorem leads_rk (rs : List Nat) : Rk rs (leads rs []).length := by
  obtain ⟨h1, h2⟩ := leads_ok (rs := rs) (ls := []) True.intro
  exact ⟨leads rs [], h1.ind, rfl, h2⟩
end Gf

/-! ## Gf2: masks of rows -/
namespace Gf
open PySem Ty
theorem band_n (a b : Nat) : Builtin.bitAnd (a : Int) (b : Int) = ((a &&& b : Nat) : Int) := PySem.W.os_band a b
theorem bor_n (a b : Nat) : Builtin.bitOr (a : Int) (b : Int) = ((a ||| b : Nat) : Int) := by
  have h1 : decide ((0 : Int) ≤ Builtin.bitNot a) = false := decide_eq_false (by unfold Builtin.bitNot; omega)
  have h2 : decide ((0 : Int) ≤ Builtin.bitNot b) = false := decide_eq_false (by unfold Builtin.bitNot; omega)
  have h3 : ∀ c : Nat, (Builtin.bitNot (Builtin.bitNot (c : Int))).toNat = c := fun c => by unfold Builtin.bitNot; omega
  unfold Builtin.bitOr Builtin.bitAnd
  rw [h1, h2]
  simp only [h3]
  unfold Builtin.bitNot; omega
theorem or_xa : ∀ a b : Nat, a ||| b = (a ^^^ b) + (a &&& b) := by
  intro a
  induction a using Nat.strongRecOn with
  | _ a ih =>
    intro b
    by_cases h : a = 0
    · subst h; simp
    · have := ih (a / 2) (by omega) (b / 2)
      have e1 : (a ||| b) / 2 = a / 2 ||| b / 2 := Nat.or_div_two
      have e2 : (a ^^^ b) / 2 = a / 2 ^^^ b / 2 := Nat.xor_div_two
      have e3 : (a &&& b) / 2 = a / 2 &&& b / 2 := Nat.and_div_two
      have m : ∀ x y z : Nat, x / 2 = y / 2 + z / 2 → x % 2 = y % 2 + z % 2 → x = y + z := fun x y z h h' => by omega
      refine m _ _ _ (by rw [e1, e2, e3]; exact this) ?_
      have t : ∀ x : Nat, x % 2 = if x.testBit 0 then 1 else 0 := fun x => by
        rw [Nat.testBit_zero]
        by_cases h : x % 2 = 1 <;> simp [h] <;> omega
      rw [t (a ||| b), t (a ^^^ b), t (a &&& b), Nat.testBit_or, Nat.testBit_xor, Nat.testBit_and]
      cases a.testBit 0 <;> cases b.testBit 0 <;> rfl
theorem bxor_n (a b : Nat) : Builtin.bitXor (a : Int) (b : Int) = ((a ^^^ b : Nat) : Int) := by
  unfold Builtin.bitXor
  rw [bor_n, band_n, or_xa]; omega
/-- the number whose bits are b -/
def mkb (b : Nat → Bool) : Nat → Nat
  | 0 => 0
  | n + 1 => mkb b n ||| (if b n then 2 ^ n else 0)
theorem mkb_bit (b : Nat → Bool) : ∀ n j, (mkb b n).testBit j = (decide (j < n) && b j)
  | 0, j => by simp [mkb]
  | n + 1, j => by
    show (mkb b n ||| (if b n then 2 ^ n else 0)).testBit j = _
    rw [Nat.testBit_or, mkb_bit b n j]
    by_cases hb : b n = true
    · rw [if_pos hb, Nat.testBit_two_pow]
      by_cases h : n = j
      · subst h; simp [hb]
      · have : decide (j < n + 1) = decide (j < n) := by by_cases h2 : j < n <;> simp [h2] <;> omega
        rw [this]; simp [h]
    · rw [if_neg hb]
      by_cases h : n = j
      · subst h; simp [hb]
      · have : decide (j < n + 1) = decide (j < n) := by by_cases h2 : j < n <;> simp [h2] <;> omega
        rw [this]; simp
theorem mkb_lt (b : Nat → Bool) (n : Nat) : mkb b n < 2 ^ n := by
  apply Nat.lt_pow_two_of_testBit
  intro i hi
  rw [mkb_bit, decide_eq_false (by omega)]; rfl
theorem mkb_eq {b : Nat → Bool} {n m : Nat} (hm : m < 2 ^ n) (h : ∀ j, j < n → m.testBit j = b j) : mkb b n = m := by
  apply Nat.eq_of_testBit_eq
  intro j
  rw [mkb_bit]
  by_cases hj : j < n
  · rw [decide_eq_true hj, h j hj]; rfl
  · rw [decide_eq_false hj, Nat.testBit_lt_two_pow (Nat.lt_of_lt_of_le hm (Nat.pow_le_pow_right (by decide) (by omega)))]; rfl
theorem shl_ok {v : Int} (j : Nat) (hv : v = 0 ∨ v = 1) (hj : j ≤ 1000) : shlM v (j : Int) = .ok (((if v = 1 then 2 ^ j else 0 : Nat)) : Int) := by
  unfold shlM
  have : powB v (j : Int) = true := by
    simp only [powB, Bool.and_eq_true, decide_eq_true_eq]
    rcases hv with rfl | rfl <;> refine ⟨⟨?_, ?_⟩, ?_⟩ <;> first | omega | decide
  rw [this, gdT, okB, Int.toNat_natCast]
  rcases hv with rfl | rfl
  · simp; rfl
  · simp; rfl
theorem shr_ok (m j : Nat) : shrM (m : Int) (j : Int) = .ok ((m >>> j : Nat) : Int) := by
  unfold shrM
  have : nnB (m : Int) (j : Int) = true := by simp [nnB]
  rw [this, gdT, okB, Int.toNat_natCast, Nat.shiftRight_eq_div_pow]
  rfl
theorem bit_ok (m j : Nat) : Builtin.bitAnd ((m >>> j : Nat) : Int) 1 = if m.testBit j then 1 else 0 := by
  rw [show (1 : Int) = ((1 : Nat) : Int) from rfl, band_n, Nat.and_one_is_mod, Nat.shiftRight_eq_div_pow, Nat.testBit_eq_decide_div_mod_eq]
  by_cases h : m / 2 ^ j % 2 = 1
  · rw [h]; simp
  · rw [if_neg (by simpa using h)]; omega
def Bits (n : Nat) (f : Nat → Nat → Int) : Prop := ∀ i j, i < n → j < n → f i j = 0 ∨ f i j = 1
def rw1 (n : Nat) (g : Nat → Int) : Nat := mkb (fun j => decide (g j = 1)) n
def rws (n : Nat) (f : Nat → Nat → Int) : List Nat := row n fun i => rw1 n (f i)
theorem rw1_bit {n : Nat} {g : Nat → Int} {j : Nat} (h : j < n) : (rw1 n g).testBit j = decide (g j = 1) := by
  unfold rw1
  rw [mkb_bit, decide_eq_true h]; rfl
theorem rw1_eq {n m : Nat} {g : Nat → Int} (hm : m < 2 ^ n) (h : ∀ j, j < n → m.testBit j = decide (g j = 1)) : rw1 n g = m := mkb_eq hm h
theorem rw1_congr {n : Nat} {g h : Nat → Int} (e : ∀ j, j < n → g j = h j) : rw1 n g = rw1 n h := rw1_eq (mkb_lt _ _) fun j hj => by
  rw [e j hj]
  exact rw1_bit hj
theorem leads_app : ∀ (a b ls : List Nat), leads (a ++ b) ls = leads b (leads a ls)
  | [], _, _ => rfl
  | _ :: a, b, ls => leads_app a b _
theorem Rk.push {ks : List Nat} {r v : Nat} (h : Rk ks r) (hv : v ∉ sp ks) : Rk (v :: ks) (r + 1) := by
  obtain ⟨b, b1, b2, b3⟩ := h
  exact ⟨v :: b, Ind.cons.mpr ⟨b1, fun h => hv ((b3 v).mp h)⟩, by rw [List.length_cons, b2], b3.cons v⟩
theorem Eqs.set0 {ks : List Nat} {p v : Nat} (h : ks[p]? = some 0) : Eqs (v :: ks) (ks.set p v) := by
  have hp : p < ks.length := by
    rcases Nat.lt_or_ge p ks.length with h' | h'
    · exact h'
    · rw [List.getElem?_eq_none h'] at h; cases h
  refine Eqs.of (fun k hk => ?_) fun k hk => ?_
  · rcases List.mem_cons.mp hk with e | hk
    · subst e; exact sp_mem (List.mem_of_getElem? (i := p) (List.getElem?_set_self hp))
    · obtain ⟨m, hm, e⟩ := List.getElem_of_mem hk
      by_cases hmp : m = p
      · subst hmp
        rw [List.getElem?_eq_getElem hm, e] at h
        cases h
        exact sp_zero _
      · exact sp_mem (List.mem_of_getElem? (i := m) (by rw [List.getElem?_set_ne (Ne.symm hmp), List.getElem?_eq_getElem hm, e]))
  · rcases List.mem_or_eq_of_mem_set hk with h | h
    · exact sp_mem (List.mem_cons_of_mem _ h)
    · subst h; exact sp_mem (List.mem_cons_self ..)
/-- a column added to another one -/
def cadd (i j v : Nat) : Nat := v ^^^ (if v.testBit i then 2 ^ j else 0)
theorem cadd_lin (i j : Nat) : Lin (cadd i j) := by
  refine ⟨by simp [cadd], fun a b => ?_⟩
  unfold cadd
  rw [Nat.testBit_xor]
  cases a.testBit i <;> cases b.testBit i <;> simp
  · rw [Nat.xor_assoc]
  · rw [Nat.xor_assoc, Nat.xor_assoc, Nat.xor_comm b]
  · rw [Nat.xor_assoc a, Nat.xor_comm (2 ^ j), Nat.xor_assoc b, Nat.xor_self, Nat.xor_zero]
theorem cadd_inj {i j : Nat} (h : i ≠ j) (a : Nat) (e : cadd i j a = 0) : a = 0 := by
  unfold cadd at e
  by_cases ha : a.testBit i = true
  · rw [if_pos ha] at e
    have e2 : a = 2 ^ j := by
      have := congrArg (· ^^^ 2 ^ j) e
      simpa [xs] using this
    rw [e2, Nat.testBit_two_pow] at ha
    simp at ha
    exact absurd ha.symm h
  · rw [if_neg ha, Nat.xor_zero] at e; exact e
theorem cadd_bit {i j v c : Nat} (h : i ≠ j) : (cadd i j v).testBit c = if c = j then (v.testBit j != v.testBit i) else v.testBit c := by
  unfold cadd
  rw [Nat.testBit_xor]
  by_cases hv : v.testBit i = true
  · rw [if_pos hv, Nat.testBit_two_pow]
    by_cases hc : c = j
    · subst hc; simp [hv]
    · rw [if_neg hc, decide_eq_false (fun e => hc e.symm)]; simp
  · rw [if_neg hv]
    have : v.testBit i = false := by simpa using hv
    split
    · rename_i hc; subst hc; simp [this]
    · simp
/-- row j: row i added; then column j: column i added -/
def mx (i j : Nat) (f : Nat → Nat → Int) : Nat → Nat → Int := fun k c =>
  let g := fun k c => if k = j then (f k c + f i c) % 2 else f k c
  if c = j then (g k c + g k i) % 2 else g k c
theorem bit_add {a b : Int} (ha : a = 0 ∨ a = 1) (hb : b = 0 ∨ b = 1) : decide ((a + b) % 2 = 1) = (decide (a = 1) != decide (b = 1)) := by
  rcases ha with rfl | rfl <;> rcases hb with rfl | rfl <;> rfl
theorem mod2 (a : Int) : a % 2 = 0 ∨ a % 2 = 1 := by omega
theorem mx_bits {n i j : Nat} {f : Nat → Nat → Int} (hf : Bits n f) (hi : i < n) : Bits n (mx i j f) := fun k c hk hc => by
  unfold mx
  simp only []
  split
  · exact mod2 _
  · split
    · exact mod2 _
    · exact hf k c hk hc
theorem mx_rk {n i j r : Nat} {f : Nat → Nat → Int} (hf : Bits n f) (hi : i < n) (hj : j < n) (hij : i ≠ j) (h : Rk (rws n f) r) : Rk (rws n (mx i j f)) r := by
  have hg : Bits n fun k c => if k = j then (f k c + f i c) % 2 else f k c := fun k c hk hc => by
    simp only []
    split
    · exact mod2 _
    · exact hf k c hk hc
  have e1 : rws n (fun k c => if k = j then (f k c + f i c) % 2 else f k c) = (rws n f).set j (rw1 n (f j) ^^^ rw1 n (f i)) := by
    unfold rws
    rw [row_set hj]
    refine row_congr fun k hk => ?_
    by_cases e : k = j
    · subst e
      rw [if_pos rfl]
      refine rw1_eq (Nat.xor_lt_two_pow (mkb_lt _ _) (mkb_lt _ _)) fun c hc => ?_
      refine Eq.trans ?_ (congrArg (fun z : Int => decide (z = 1)) (if_pos rfl : (if k = k then (f k c + f i c) % 2 else f k c) = _).symm)
      show _ = decide ((f k c + f i c) % 2 = 1)
      rw [Nat.testBit_xor, rw1_bit hc, rw1_bit hc, bit_add (hf k c hk hc) (hf i c hi hc)]
    · rw [if_neg e]
      exact rw1_congr fun c hc => if_neg e
  have e2 : rws n (mx i j f) = (rws n fun k c => if k = j then (f k c + f i c) % 2 else f k c).map (cadd i j) := by
    unfold rws row
    rw [List.map_map]
    apply List.map_congr_left
    intro k hk
    have hk := List.mem_range.mp hk
    refine rw1_eq ?_ fun c hc => ?_
    · refine Nat.xor_lt_two_pow (mkb_lt _ _) ?_
      split
      · exact Nat.pow_lt_pow_right (by decide) hj
      · exact Nat.two_pow_pos n
    · show (cadd i j (rw1 n ((fun k c => if k = j then (f k c + f i c) % 2 else f k c) k))).testBit c = _
      rw [cadd_bit hij]
      by_cases hcj : c = j
      · subst hcj
        rw [if_pos rfl, rw1_bit hj, rw1_bit hi]
        refine Eq.trans ?_ (congrArg (fun z : Int => decide (z = 1)) (if_pos rfl : mx i c f k c = _).symm)
        exact (bit_add (hg k c hk hj) (hg k i hk hi)).symm
      · rw [if_neg hcj, rw1_bit hc]
        exact congrArg (fun z : Int => decide (z = 1)) (if_neg hcj : mx i j f k c = _).symm
  rw [e2]
  refine Rk.map (cadd_lin i j) (cadd_inj hij) ?_
  rw [e1]
  exact h.eqs (Eqs.add (i := i) (j := j) (row_get hi) (row_get hj) hij).symm
end Gf

/-! ## Gf10: texts as rows of signs; a sign that stands twice -/
namespace Gf
open PySem Ty PySem.StrLaws Builtin.Str
abbrev tx (l : List Nat) : Str := ⟨l.toArray⟩
theorem tx_sg (c : Nat) : sgS c = tx [c] := rfl
theorem tx_inj {a b : List Nat} (h : tx a = tx b) : a = b := congrArg (fun y : Str => y.cps.toList) h
theorem tx_len (l : List Nat) : (tx l).length = l.length := by show l.toArray.size = _; simp
theorem tx_app (a b : List Nat) : tx a ++ tx b = tx (a ++ b) := by
  show (⟨a.toArray ++ b.toArray⟩ : Str) = _
  simp
theorem tx_all (x : Str) : x = tx x.cps.toList := by
  obtain ⟨a⟩ := x
  show (⟨a⟩ : Str) = ⟨a.toList.toArray⟩
  simp
theorem sgs (l : List Nat) : (tx l).cps.toList.map sgS = l.map sgS := rfl
theorem addS_ok {a b : List Nat} (h : a.length + b.length ≤ 16777216) : addSM (tx a) (tx b) = .ok (tx (a ++ b)) := by
  unfold addSM
  have e : szB ((tx a).length + (tx b).length) = true := by
    rw [tx_len, tx_len]
    unfold szB
    rw [sizeLine_eq]
    exact decide_eq_true h
  rw [e, tx_app]; rfl
theorem lenS_ok {a : List Nat} (h : a.length ≤ 16777216) : lenS (tx a) = .ok (a.length : Int) := by
  unfold lenS
  rw [sizeLine_eq, decide_eq_true (by rw [tx_len]; exact h), tx_len]; rfl
theorem atS_ok {a : List Nat} {i : Int} (h : a.length ≤ 16777216) (h0 : 0 ≤ i) (h1 : i < a.length) : atS (tx a) i = .ok (sgS (a.getD i.toNat 0)) := by
  unfold atS
  rw [sizeLine_eq, decide_eq_true (by rw [tx_len]; exact h)]
  have e : L2.atI (tx a).cps.toList i = some (a.getD i.toNat 0) := by
    rw [atI_ok h0 (by exact h1)]
    show a[i.toNat]? = _
    rw [List.getD_eq_getElem?_getD, List.getElem?_eq_getElem (by omega)]; rfl
  rw [e]; rfl
theorem cutS_ok {a : List Nat} {i j : Nat} (h : a.length ≤ 16777216) : cutSM (tx a) (some (i : Int)) (some (j : Int)) = .ok (tx ((a.drop (min i a.length)).take (min j a.length - min i a.length))) := by
  unfold cutSM
  rw [sizeLine_eq, decide_eq_true (by rw [tx_len]; exact h)]
  unfold L2.cutS
  rw [HT.sIx_nat, HT.sIx_nat, tx_len]; rfl
theorem glued_nil : ∀ (l : List Str) (acc : Array Nat), l.foldl (fun acc p => acc ++ (tx []).cps ++ p.cps) acc = acc ++ (l.flatMap fun p => p.cps.toList).toArray
  | [], acc => by simp
  | p :: l, acc => by
    rw [List.foldl_cons, glued_nil l]
    apply Array.ext'
    simp
theorem join_tx (cs : List (List Nat)) : Txt.join (tx []) (cs.map tx) = tx cs.flatten := by
  show glued (tx []) (cs.map tx) = _
  unfold glued
  cases cs with
  | nil => rfl
  | cons c cs =>
    rw [List.map_cons, List.drop_succ_cons, List.drop_zero, glued_nil]
    show (⟨c.toArray ++ _⟩ : Str) = _
    rw [List.flatMap_map]
    show _ = (⟨(c :: cs).flatten.toArray⟩ : Str)
    congr 1
    apply Array.ext'
    rw [List.flatten_cons]
    simp [List.flatMap_def]
theorem joinS_ok {l : List Nat} (h : l.length ≤ 16777216) : joinM (tx []) (l.map sgS) = .ok (tx l) := by
  unfold joinM
  have e1 : ((l.map sgS).map (·.length)).sum = l.length := by
    rw [List.map_map]
    induction l with
    | nil => rfl
    | cons a l ih =>
      rw [List.map_cons, List.sum_cons, ih (by simp at h; omega)]
      show 1 + l.length = _
      simp; omega
  rw [decide_eq_true (by rw [e1]; show l.length + (l.map sgS).length * 0 ≤ _; omega)]
  have e2 : l.map sgS = (l.map fun c => [c]).map tx := by rw [List.map_map]; rfl
  rw [e2, join_tx]
  have e3 : ∀ l : List Nat, (l.map fun c => [c]).flatten = l := by
    intro l
    induction l with
    | nil => rfl
    | cons a l ih => simpa using ih
  rw [e3]; rfl
/-! ### where a sign stands -/
theorem occ_run (x : Str) (c lim : Nat) : ∀ (is : List Nat) (acc : Array Nat) (free : Nat), is.Pairwise (· < ·) → (∀ i ∈ is, free ≤ i) →
    (forIn is (acc, free) (occBody x ⟨#[c]⟩ x.length lim)).run.fst.toList = acc.toList ++ (is.filter fun i => decide (x.cps.toList[i]? = some c)).take (lim - acc.size)
  | [], acc, free, _, _ => by simp
  | a :: is, acc, free, hp, hf => by
    rw [List.forIn_cons]
    unfold occBody
    obtain ⟨hp1, hp2⟩ := List.pairwise_cons.mp hp
    have ha := hf a List.mem_cons_self
    by_cases hc : x.cps.toList[a]? = some c
    · have hs := (subAt_one x c a).mpr hc
      rw [List.filter_cons_of_pos (by simpa using hc)]
      by_cases hl : acc.size < lim
      · rw [if_pos ⟨⟨⟨hl, ha⟩, hs.1⟩, hs.2⟩]
        refine (occ_run x c lim is _ _ hp2 fun i hi => ?_).trans ?_
        · have := hp1 i hi
          show a + 1 ≤ i
          omega
        · rw [Array.toList_push, Array.size_push, List.append_assoc]
          congr 1
          rw [show lim - acc.size = (lim - (acc.size + 1)) + 1 by omega, List.take_succ_cons]
          rfl
      · rw [if_neg (fun h => hl h.1.1.1)]
        refine (occ_run x c lim is _ _ hp2 fun i hi => hf i (List.mem_cons_of_mem _ hi)).trans ?_
        rw [show lim - acc.size = 0 by omega]; simp
    · rw [List.filter_cons_of_neg (by simpa using hc), if_neg (fun h => hc ((subAt_one x c a).mp ⟨h.1.2, h.2⟩))]
      exact occ_run x c lim is _ _ hp2 fun i hi => hf i (List.mem_cons_of_mem _ hi)
theorem occ_one (l : List Nat) (c lo lim : Nat) : occurrences (tx l) (sgS c) lo l.length lim = ((List.range' lo (l.length + 1 - lo)).filter fun i => decide (l[i]? = some c)).take lim := by
  rw [occ_eq, ← tx_len l]
  refine (occ_run (tx l) c lim _ _ _ ?_ ?_).trans ?_
  · exact List.pairwise_lt_range'
  · intro i hi
    have := List.mem_range'.mp hi
    omega
  · rw [tx_len]; rfl
theorem up_nat {a b : List Nat} (ha : a.Pairwise (· < ·)) (hb : b.Pairwise (· < ·)) (h : ∀ x, x ∈ a ↔ x ∈ b) : a = b := Ty.nup_uniq ha hb h
theorem pos_up (l : List Nat) (c lo n : Nat) : ((List.range' lo n).filter fun i => decide (l[i]? = some c)).Pairwise (· < ·) := List.Pairwise.filter _ List.pairwise_lt_range'
theorem mem_pos {l : List Nat} {c lo i : Nat} : i ∈ ((List.range' lo (l.length + 1 - lo)).filter fun i => decide (l[i]? = some c)) ↔ lo ≤ i ∧ l[i]? = some c := by
  rw [List.mem_filter, List.mem_range', decide_eq_true_eq]
  constructor
  · rintro ⟨⟨j, h1, h2⟩, h3⟩
    exact ⟨by omega, h3⟩
  · rintro ⟨h1, h2⟩
    have := (List.getElem?_eq_some_iff.mp h2).1
    exact ⟨⟨i - lo, by omega, by omega⟩, h2⟩
/-- c stands at i and j alone -/
structure Two (l : List Nat) (c i j : Nat) : Prop where
  lt : i < j
  hi : l[i]? = some c
  hj : l[j]? = some c
  only : ∀ k, l[k]? = some c → k = i ∨ k = j
theorem Two.bi {l : List Nat} {c i j : Nat} (h : Two l c i j) : i < l.length := (List.getElem?_eq_some_iff.mp h.hi).1
theorem Two.bj {l : List Nat} {c i j : Nat} (h : Two l c i j) : j < l.length := (List.getElem?_eq_some_iff.mp h.hj).1
theorem Two.mem {l : List Nat} {c i j : Nat} (h : Two l c i j) : c ∈ l := List.mem_of_getElem? h.hi
theorem Two.uniq {l : List Nat} {c i j i' j' : Nat} (h : Two l c i j) (h' : Two l c i' j') : i = i' ∧ j = j' := by
  have a := h.only i' h'.hi
  have b := h.only j' h'.hj
  have c1 := h'.only i h.hi
  have d := h'.only j h.hj
  have := h.lt
  have := h'.lt
  omega
theorem Two.pos0 {l : List Nat} {c i j : Nat} (h : Two l c i j) : ((List.range' 0 (l.length + 1 - 0)).filter fun k => decide (l[k]? = some c)) = [i, j] := by
  refine up_nat (pos_up ..) (by simpa using h.lt) fun k => ?_
  rw [mem_pos]
  constructor
  · rintro ⟨_, hk⟩
    rcases h.only k hk with e | e <;> simp [e]
  · intro hk
    rcases List.mem_cons.mp hk with e | e
    · rw [e]; exact ⟨Nat.zero_le _, h.hi⟩
    · rw [List.mem_singleton.mp e]; exact ⟨Nat.zero_le _, h.hj⟩
theorem Two.pos1 {l : List Nat} {c i j : Nat} (h : Two l c i j) : ((List.range' (i + 1) (l.length + 1 - (i + 1))).filter fun k => decide (l[k]? = some c)) = [j] := by
  refine up_nat (pos_up ..) (List.pairwise_singleton ..) fun k => ?_
  rw [mem_pos]
  have hl := h.lt
  constructor
  · rintro ⟨h1, hk⟩
    rcases h.only k hk with e | e
    · omega
    · simp [e]
  · intro hk
    rw [List.mem_singleton.mp hk]; exact ⟨by omega, h.hj⟩
theorem fromIx {l : List Nat} {i : Nat} : fromIndex (tx l).length (i : Int) = i := by
  unfold fromIndex
  rw [if_neg (by omega)]
  omega
theorem Two.find {l : List Nat} {c i j : Nat} (h : Two l c i j) : Txt.find (tx l) (sgS c) = (i : Int) := by
  unfold Txt.find
  rw [tx_len, occ_one, h.pos0]; rfl
theorem Two.find3 {l : List Nat} {c i j : Nat} (h : Two l c i j) : Txt.find3 (tx l) (sgS c) ((i : Int) + 1) = (j : Int) := by
  unfold Txt.find3
  rw [show (i : Int) + 1 = ((i + 1 : Nat) : Int) by omega, fromIx, tx_len, occ_one, h.pos1]; rfl
theorem Two.index {l : List Nat} {c i j : Nat} (h : Two l c i j) : indexM (tx l) (sgS c) = .ok (i : Int) := by
  unfold indexM Txt.index0
  rw [tx_len, occ_one, h.pos0]; rfl
theorem Two.indexF {l : List Nat} {c i j : Nat} (h : Two l c i j) : indexFM (tx l) (sgS c) ((i : Int) + 1) = .ok (j : Int) := by
  unfold indexFM Txt.indexFrom
  rw [show (i : Int) + 1 = ((i + 1 : Nat) : Int) by omega, fromIx, tx_len, occ_one, h.pos1]; rfl
theorem inS_sg (c : Nat) (l : List Nat) : inS (sgS c) (tx l) = decide (c ∈ l) := found_one (tx l) c
theorem len_pos (l : List Nat) (c : Nat) : ((List.range' 0 (l.length + 1 - 0)).filter fun k => decide (l[k]? = some c)).length = l.count c := by
  have key : ∀ (m : List Nat) (s : Nat), (∀ k, k < m.length → l[s + k]? = m[k]?) → (∀ k, m.length ≤ k → l[s + k]? = none) → ((List.range' s (m.length + 1)).filter fun k => decide (l[k]? = some c)).length = m.count c := by
    intro m
    induction m with
    | nil =>
      intro s _ h2
      have := h2 0 (Nat.le_refl _)
      simp only [Nat.add_zero] at this
      simp [this]
    | cons a m ih =>
      intro s h1 h2
      rw [List.length_cons, List.range'_succ]
      have q := h1 0 (by simp)
      simp only [Nat.add_zero, List.getElem?_cons_zero] at q
      have ih := ih (s + 1) (fun k hk => by
        have := h1 (k + 1) (by simp; omega)
        rw [show s + 1 + k = s + (k + 1) by omega, this]; simp) fun k hk => by
        rw [show s + 1 + k = s + (k + 1) by omega]
        exact h2 (k + 1) (by simp; omega)
      by_cases e : a = c
      · subst e
        rw [List.filter_cons_of_pos (by simp [q]), List.length_cons, ih, List.count_cons_self]
      · rw [List.filter_cons_of_neg (by simp [q, e]), ih, List.count_cons_of_ne (Ne.symm (Ne.symm e))]
  exact key l 0 (fun k _ => by rw [Nat.zero_add]) fun k hk => by rw [Nat.zero_add]; exact List.getElem?_eq_none hk
theorem count_tx (l : List Nat) (c : Nat) : Txt.count (tx l) (sgS c) = (l.count c : Int) := by
  unfold Txt.count
  rw [tx_len, occ_one, List.take_of_length_le, len_pos]
  rw [len_pos]
  have := List.count_le_length (a := c) (l := l)
  omega
theorem two_of_count {l : List Nat} {c : Nat} (h : l.count c = 2) : ∃ i j, Two l c i j := by
  have e := len_pos l c
  rw [h] at e
  match q : ((List.range' 0 (l.length + 1 - 0)).filter fun k => decide (l[k]? = some c)), e with
  | [i, j], _ =>
    have hu := pos_up l c 0 (l.length + 1 - 0)
    rw [q] at hu
    have hm : ∀ k, k ∈ [i, j] ↔ 0 ≤ k ∧ l[k]? = some c := fun k => by rw [← q]; exact mem_pos
    refine ⟨i, j, by simpa using hu, ((hm i).mp (by simp)).2, ((hm j).mp (by simp)).2, fun k hk => ?_⟩
    have := (hm k).mpr ⟨Nat.zero_le _, hk⟩
    simpa using this
/-- what stands between two places -/
def btw (l : List Nat) (i j : Nat) : List Nat := (l.drop (i + 1)).take (j - (i + 1))
theorem btw_get {l : List Nat} {i j k : Nat} (hk : k < j - (i + 1)) : (btw l i j)[k]? = l[i + 1 + k]? := by
  unfold btw
  rw [List.getElem?_take_of_lt hk, List.getElem?_drop]
theorem btw_len {l : List Nat} {i j : Nat} (h : j ≤ l.length) : (btw l i j).length = j - (i + 1) := by
  unfold btw
  rw [List.length_take, List.length_drop]
  omega
theorem btw_count {l : List Nat} {i j c a b : Nat} (hj : j ≤ l.length) (h : Two l c a b) : (btw l i j).count c = (if i < a ∧ a < j then 1 else 0) + (if i < b ∧ b < j then 1 else 0) := by
  rw [← len_pos]
  have hm : ∀ k, k ∈ ((List.range' 0 ((btw l i j).length + 1 - 0)).filter fun k => decide ((btw l i j)[k]? = some c)) ↔ k ∈ (((if i < a ∧ a < j then [a - (i + 1)] else []) ++ (if i < b ∧ b < j then [b - (i + 1)] else [])) : List Nat) := fun k => by
    rw [mem_pos, List.mem_append]
    have e1 : (k ∈ (if i < a ∧ a < j then [a - (i + 1)] else [] : List Nat)) ↔ (i < a ∧ a < j) ∧ k = a - (i + 1) := by
      split <;> simp [*]
    have e2 : (k ∈ (if i < b ∧ b < j then [b - (i + 1)] else [] : List Nat)) ↔ (i < b ∧ b < j) ∧ k = b - (i + 1) := by
      split <;> simp [*]
    rw [e1, e2]
    constructor
    · rintro ⟨_, hk⟩
      have hl := (List.getElem?_eq_some_iff.mp hk).1
      rw [btw_len hj] at hl
      rw [btw_get hl] at hk
      rcases h.only _ hk with e | e
      · left; omega
      · right; omega
    · rintro (⟨⟨h1, h2⟩, rfl⟩ | ⟨⟨h1, h2⟩, rfl⟩)
      · refine ⟨Nat.zero_le _, ?_⟩
        rw [btw_get (by omega), show i + 1 + (a - (i + 1)) = a by omega]
        exact h.hi
      · refine ⟨Nat.zero_le _, ?_⟩
        rw [btw_get (by omega), show i + 1 + (b - (i + 1)) = b by omega]
        exact h.hj
  have hl := h.lt
  have : ((List.range' 0 ((btw l i j).length + 1 - 0)).filter fun k => decide ((btw l i j)[k]? = some c)) = ((if i < a ∧ a < j then [a - (i + 1)] else []) ++ (if i < b ∧ b < j then [b - (i + 1)] else [])) := by
    refine up_nat (pos_up ..) ?_ hm
    split <;> split <;> simp <;> omega
  rw [this]
  split <;> split <;> simp
end Gf

/-! ## Gf11: ring words, their letters, where these stand, crossings -/
namespace Gf
open PySem Ty
/-- the letters of a word, rising -/
abbrev cs (l : List Nat) : List Nat := csort (tx l)
theorem mem_cs {l : List Nat} {c : Nat} : c ∈ cs l ↔ c ∈ l := mem_csort
theorem cs_up (l : List Nat) : (cs l).Pairwise (· < ·) := csort_up _
theorem cs_nd (l : List Nat) : (cs l).Nodup := by
  rw [List.nodup_iff_pairwise_ne]
  exact (cs_up l).imp fun h => by omega
/-- a ring word of n letters -/
structure Ring (l : List Nat) (n : Nat) : Prop where
  n1 : 1 ≤ n
  n10 : n ≤ 10
  len : l.length = 2 * n
  two : ∀ c ∈ l, l.count c = 2
  low : ∀ c ∈ l, 97 ≤ c ∧ c < 123
  few : (cs l).length = n
def dbl (ls : List Nat) : List Nat := ls.flatMap fun x => [x, x]
theorem dbl_len (ls : List Nat) : (dbl ls).length = 2 * ls.length := by
  unfold dbl
  induction ls with
  | nil => rfl
  | cons a l ih => rw [List.flatMap_cons, List.length_append, ih]; simp; omega
theorem mem_dbl {ls : List Nat} {c : Nat} : c ∈ dbl ls ↔ c ∈ ls := by
  unfold dbl
  rw [List.mem_flatMap]
  constructor
  · rintro ⟨a, h, e⟩
    simp at e
    rw [e]; exact h
  · intro h
    exact ⟨c, h, by simp⟩
theorem count_dbl {ls : List Nat} {c : Nat} (hn : ls.Nodup) (h : c ∈ ls) : (dbl ls).count c = 2 := by
  have key : ∀ ls : List Nat, (dbl ls).count c = 2 * ls.count c := by
    intro ls
    unfold dbl
    induction ls with
    | nil => rfl
    | cons a l ih =>
      rw [List.flatMap_cons, List.count_append, ih]
      by_cases e : a = c
      · subst e; simp; omega
      · simp [e]
  rw [key, hn.count, if_pos h]
theorem Ring.of_perm {l ls : List Nat} (hp : l.Perm (dbl ls)) (hn : ls.Nodup) (h1 : 1 ≤ ls.length) (h10 : ls.length ≤ 10) (hl : ∀ c ∈ ls, 97 ≤ c ∧ c < 123) : Ring l ls.length := by
  have hm : ∀ c, c ∈ l ↔ c ∈ ls := fun c => hp.mem_iff.trans mem_dbl
  refine ⟨h1, h10, by rw [hp.length_eq, dbl_len], fun c hc => ?_, fun c hc => hl c ((hm c).mp hc), ?_⟩
  · rw [hp.count_eq, count_dbl hn ((hm c).mp hc)]
  · exact ((List.perm_ext_iff_of_nodup (cs_nd l) hn).mpr fun c => mem_cs.trans (hm c)).length_eq
/-- where c stands -/
def pl (l : List Nat) (c : Nat) : Nat × Nat := match (List.range' 0 (l.length + 1 - 0)).filter fun k => decide (l[k]? = some c) with
  | [i, j] => (i, j)
  | _ => (0, 0)
theorem Two.pl {l : List Nat} {c i j : Nat} (h : Two l c i j) : Gf.pl l c = (i, j) := by
  unfold Gf.pl
  rw [h.pos0]
theorem Ring.at {l : List Nat} {n c : Nat} (R : Ring l n) (h : c ∈ l) : Two l c (pl l c).1 (pl l c).2 := by
  obtain ⟨i, j, q⟩ := two_of_count (R.two c h)
  rw [q.pl]; exact q
/-- do c and d stand by turns? -/
def crB (l : List Nat) (c d : Nat) : Bool := decide ((pl l c).1 < (pl l d).1 ∧ (pl l d).1 < (pl l c).2) != decide ((pl l c).1 < (pl l d).2 ∧ (pl l d).2 < (pl l c).2)
def cr (l : List Nat) (c d : Nat) : Int := if crB l c d then 1 else 0
theorem crB_self (l : List Nat) (c : Nat) : crB l c c = false := by
  unfold crB
  have h1 : ¬ ((pl l c).1 < (pl l c).1 ∧ (pl l c).1 < (pl l c).2) := by omega
  have h2 : ¬ ((pl l c).1 < (pl l c).2 ∧ (pl l c).2 < (pl l c).2) := by omega
  rw [decide_eq_false h1, decide_eq_false h2]; rfl
theorem crB_symm {l : List Nat} {n c d : Nat} (R : Ring l n) (hc : c ∈ l) (hd : d ∈ l) : crB l c d = crB l d c := by
  by_cases e : c = d
  · rw [e]
  have tc := R.at hc
  have td := R.at hd
  unfold crB
  generalize pl l c = p at *
  generalize pl l d = q at *
  obtain ⟨i, j⟩ := p
  obtain ⟨a, b⟩ := q
  have l1 := tc.lt
  have l2 := td.lt
  simp only at *
  have ne : ∀ x y : Nat, l[x]? = some c → l[y]? = some d → x ≠ y := fun x y h1 h2 h3 => by
    rw [h3, h2] at h1
    exact e (Option.some.inj h1).symm
  have n1 := ne i a tc.hi td.hi
  have n2 := ne i b tc.hi td.hj
  have n3 := ne j a tc.hj td.hi
  have n4 := ne j b tc.hj td.hj
  rw [Bool.eq_iff_iff]
  simp only [bne_iff_ne, ne_eq, decide_eq_decide]
  omega
/-- the crossings of a word -/
def crs (l : List Nat) (n : Nat) : List (List Int) := tab n fun i j => cr l ((cs l).getD i 0) ((cs l).getD j 0)
theorem cs_row {l : List Nat} {n : Nat} (R : Ring l n) : cs l = row n fun i => (cs l).getD i 0 := row_ext R.few fun i hi => by
  rw [List.getD_eq_getElem?_getD, List.getElem?_eq_getElem (by rw [R.few]; exact hi)]; rfl
theorem cs_mem {l : List Nat} {n i : Nat} (R : Ring l n) (hi : i < n) : (cs l).getD i 0 ∈ l := by
  have h : i < (cs l).length := by rw [R.few]; exact hi
  rw [List.getD_eq_getElem?_getD, List.getElem?_eq_getElem h]
  exact mem_cs.mp (List.getElem_mem h)
theorem crs_map {l : List Nat} {n : Nat} (R : Ring l n) : (cs l).map (fun c => (cs l).map fun d => cr l c d) = crs l n := by
  unfold crs tab
  have h : ∀ {β : Type} (f : Nat → β), (cs l).map f = row n fun i => f ((cs l).getD i 0) := fun f => by
    conv => lhs; rw [cs_row R]
    unfold row
    rw [List.map_map]; rfl
  rw [h]
  exact row_congr fun i hi => h _
theorem cr_bit (l : List Nat) (c d : Nat) : cr l c d = 0 ∨ cr l c d = 1 := by
  unfold cr
  split
  · exact .inr rfl
  · exact .inl rfl
theorem cr_self (l : List Nat) (c : Nat) : cr l c c = 0 := by
  unfold cr
  rw [crB_self]; rfl
theorem cr_symm {l : List Nat} {n c d : Nat} (R : Ring l n) (hc : c ∈ l) (hd : d ∈ l) : cr l c d = cr l d c := by
  unfold cr
  rw [crB_symm R hc hd]
/-- d stands once between the two places of c -/
theorem btw_cr {l : List Nat} {n c d : Nat} (R : Ring l n) (hc : c ∈ l) (hd : d ∈ l) : decide (((btw l (pl l c).1 (pl l c).2).count d : Int) = 1) = crB l c d := by
  have tc := R.at hc
  have td := R.at hd
  have hj := tc.bj
  rw [btw_count (by omega) td]
  unfold crB
  generalize pl l c = p
  generalize pl l d = q
  by_cases h1 : p.1 < q.1 ∧ q.1 < p.2 <;> by_cases h2 : p.1 < q.2 ∧ q.2 < p.2 <;> simp [h1, h2]
theorem small_letters {l : List Nat} (h : ∀ c ∈ l, 97 ≤ c ∧ c < 123) : (List.range' 97 26).filter (fun c => decide (c ∈ l)) = cs l := by
  refine up_nat (List.Pairwise.filter _ List.pairwise_lt_range') (cs_up l) fun c => ?_
  rw [List.mem_filter, mem_cs, decide_eq_true_eq, List.mem_range']
  constructor
  · exact fun h => h.2
  · intro hc
    have := h c hc
    exact ⟨⟨c - 97, by omega, by omega⟩, hc⟩
theorem abc : ("abcdefghijklmnopqrstuvwxyz" : Str) = tx (List.range' 97 26) := by decide +kernel
end Gf

/-! ## Gf12: those of a choice that are not 0; choice tables -/
namespace Gf
open PySem Ty
def sel (n : Nat) (p : Nat → Bool) : List Nat := (List.range n).filter p
theorem mem_sel {n : Nat} {p : Nat → Bool} {i : Nat} : i ∈ sel n p ↔ i < n ∧ p i = true := by
  unfold sel
  rw [List.mem_filter, List.mem_range]
theorem sel_le (n : Nat) (p : Nat → Bool) : (sel n p).length ≤ n := by
  unfold sel
  exact Nat.le_trans (List.length_filter_le _ _) (by simp)
theorem sel_up (n : Nat) (p : Nat → Bool) : (sel n p).Pairwise (· < ·) := List.Pairwise.filter _ List.pairwise_lt_range
theorem sel_succ (n : Nat) (p : Nat → Bool) : sel (n + 1) p = sel n p ++ if p n then [n] else [] := by
  unfold sel
  rw [List.range_succ, List.filter_append]
  congr 1
  by_cases h : p n = true <;> simp [h]
theorem sel_pre {n m : Nat} (p : Nat → Bool) (h : n ≤ m) : ∃ r, sel m p = sel n p ++ r := by
  induction m with
  | zero => exact ⟨[], by rw [show n = 0 by omega]; simp⟩
  | succ m ih =>
    by_cases e : n = m + 1
    · exact ⟨[], by rw [e]; simp⟩
    · obtain ⟨r, q⟩ := ih (by omega)
      exact ⟨r ++ (if p m then [m] else []), by rw [sel_succ, q, List.append_assoc]⟩
/-- number i stands behind those ahead of it -/
theorem sel_at {n i : Nat} {p : Nat → Bool} (hi : i < n) (hp : p i = true) : (sel n p)[(sel i p).length]? = some i := by
  obtain ⟨r, q⟩ := sel_pre p (show i + 1 ≤ n by omega)
  rw [q, sel_succ, if_pos hp, List.append_assoc, List.getElem?_append_right (Nat.le_refl _)]
  simp
theorem sel_cnt {n i : Nat} {p : Nat → Bool} (hi : i < n) (hp : p i = true) : (sel i p).length < (sel n p).length := (List.getElem?_eq_some_iff.mp (sel_at hi hp)).1
def nth (l : List Nat) (a : Nat) : Nat := l.getD a 0
theorem nth_mem {l : List Nat} {a : Nat} (h : a < l.length) : nth l a ∈ l := by
  unfold nth
  rw [List.getD_eq_getElem?_getD, List.getElem?_eq_getElem h]
  exact List.getElem_mem h
theorem nth_row (l : List Nat) : l = row l.length (nth l) := row_ext rfl fun i hi => by
  unfold nth
  rw [List.getD_eq_getElem?_getD, List.getElem?_eq_getElem hi]; rfl
theorem nth_at {l : List Nat} {a i : Nat} (h : l[a]? = some i) : nth l a = i := by
  unfold nth
  rw [List.getD_eq_getElem?_getD, h]; rfl
theorem nth_inj {l : List Nat} (hu : l.Pairwise (· < ·)) {a b : Nat} (ha : a < l.length) (hb : b < l.length) (h : nth l a = nth l b) : a = b := by
  unfold nth at h
  rw [List.getD_eq_getElem?_getD, List.getElem?_eq_getElem ha, List.getD_eq_getElem?_getD, List.getElem?_eq_getElem hb] at h
  have h : l[a] = l[b] := h
  have q := List.pairwise_iff_getElem.mp hu
  rcases Nat.lt_trichotomy a b with z | z | z
  · have := q a b ha hb z; omega
  · exact z
  · have := q b a hb ha z; omega
theorem map_nth {β : Type} (l : List Nat) (g : Nat → β) : l.map g = row l.length fun a => g (nth l a) := by
  conv => lhs; rw [nth_row l]
  unfold row
  rw [List.map_map]; rfl
theorem filter_row {α : Type} {n : Nat} {g : Nat → α} {q : α → Bool} {p : Nat → Bool} (h : ∀ i, i < n → q (g i) = p i) : (row n g).filter q = row (sel n p).length fun a => g (nth (sel n p) a) := by
  rw [← map_nth]
  unfold row sel
  rw [List.filter_map]
  congr 1
  exact List.filter_congr fun i hi => h i (List.mem_range.mp hi)
/-- the letter of number i -/
def lt (l : List Nat) (i : Nat) : Nat := (cs l).getD i 0
theorem lt_mem {l : List Nat} {n i : Nat} (R : Ring l n) (hi : i < n) : lt l i ∈ l := cs_mem R hi
/-- which letters count: a way other than 0 -/
def on (n : Nat) (ch : Nat → Int) : List Nat := sel n fun i => !decide (ch i = 0)
/-- the table of a word and a choice -/
def chF (l : List Nat) (n : Nat) (ch : Nat → Int) : Nat → Nat → Int := fun a b => if a = b then (if ch (nth (on n ch) a) = 1 then 1 else 0) else cr l (lt l (nth (on n ch) a)) (lt l (nth (on n ch) b))
def chT (l : List Nat) (n : Nat) (ch : Nat → Int) : List (List Int) := tab (on n ch).length (chF l n ch)
theorem on_lt {n : Nat} {ch : Nat → Int} {a : Nat} (h : a < (on n ch).length) : nth (on n ch) a < n := (mem_sel.mp (nth_mem h)).1
theorem crs_lt (l : List Nat) (n : Nat) : crs l n = tab n fun i j => cr l (lt l i) (lt l j) := rfl
end Gf

/-! ## Gf13: in the order of first standing; the net of a word -/
namespace Gf
open PySem Ty
section
variable {α : Type} [DecidableEq α]
def addF (acc : List α) (c : α) : List α := if c ∈ acc then acc else acc ++ [c]
/-- each once, as they first stand -/
def fo (l : List α) : List α := l.foldl addF []
theorem fo_snoc (l : List α) (c : α) : fo (l ++ [c]) = addF (fo l) c := by
  unfold fo
  rw [List.foldl_append]; rfl
theorem snoc_ind {P : List α → Prop} (h0 : P []) (h1 : ∀ l c, P l → P (l ++ [c])) (l : List α) : P l := by
  have : ∀ r : List α, P r.reverse := by
    intro r
    induction r with
    | nil => exact h0
    | cons a r ih => rw [List.reverse_cons]; exact h1 _ _ ih
  simpa using this l.reverse
theorem mem_fo {c : α} (l : List α) : c ∈ fo l ↔ c ∈ l := by
  refine snoc_ind (P := fun l => ∀ c, c ∈ fo l ↔ c ∈ l) (fun _ => Iff.rfl) (fun l d ih c => ?_) l c
  rw [fo_snoc]
  unfold addF
  split
  · rename_i h
    rw [ih, List.mem_append, List.mem_singleton]
    constructor
    · exact .inl
    · rintro (z | z)
      · exact z
      · rw [z]; exact (ih d).mp h
  · rw [List.mem_append, List.mem_append, ih]
theorem fo_nd (l : List α) : (fo l).Nodup := by
  refine snoc_ind (P := fun l => (fo l).Nodup) List.nodup_nil (fun l d ih => ?_) l
  rw [fo_snoc]
  unfold addF
  split
  · exact ih
  · rename_i h
    exact List.nodup_append.mpr ⟨ih, by simp, fun a ha b hb e => by
      rw [List.mem_singleton] at hb
      rw [e, hb] at ha
      exact h ha⟩
theorem fo_map {β : Type} [DecidableEq β] {f : α → β} (l : List α) (h : ∀ a ∈ l, ∀ b ∈ l, f a = f b → a = b) : fo (l.map f) = (fo l).map f := by
  refine snoc_ind (P := fun l => (∀ a ∈ l, ∀ b ∈ l, f a = f b → a = b) → fo (l.map f) = (fo l).map f) (fun _ => rfl) (fun l d ih h => ?_) l h
  have ih := ih fun a ha b hb => h a (List.mem_append_left _ ha) b (List.mem_append_left _ hb)
  rw [List.map_append, List.map_singleton, fo_snoc, fo_snoc, ih]
  unfold addF
  have e : f d ∈ (fo l).map f ↔ d ∈ fo l := by
    rw [List.mem_map]
    constructor
    · rintro ⟨a, ha, e⟩
      rw [← h a (List.mem_append_left _ ((mem_fo l).mp ha)) d (by simp) e]; exact ha
    · intro hd
      exact ⟨d, hd, rfl⟩
  by_cases hd : d ∈ fo l
  · rw [if_pos hd, if_pos (e.mpr hd)]
  · rw [if_neg hd, if_neg (fun z => hd (e.mp z)), List.map_append]; rfl
/-- where sign number k comes in -/
def inn [Inhabited α] (l : List α) (k : Nat) : Nat := 4 * (fo l).idxOf (l.getD k default) + if l.getD k default ∈ l.take k then 2 else 0
theorem inn_map {β : Type} [Inhabited α] [Inhabited β] [DecidableEq β] {f : α → β} {l : List α} (h : ∀ a ∈ l, ∀ b ∈ l, f a = f b → a = b) {k : Nat} (hk : k < l.length) : inn (l.map f) k = inn l k := by
  unfold inn
  have e : (l.map f).getD k default = f (l.getD k default) := by
    rw [List.getD_eq_getElem?_getD, List.getElem?_map, List.getElem?_eq_getElem hk, List.getD_eq_getElem?_getD, List.getElem?_eq_getElem hk]; rfl
  have hm : l.getD k default ∈ l := by
    rw [List.getD_eq_getElem?_getD, List.getElem?_eq_getElem hk]
    exact List.getElem_mem hk
  rw [e, fo_map l h]
  generalize l.getD k default = c at hm
  have e2 : ((fo l).map f).idxOf (f c) = (fo l).idxOf c := by
    have hs : ∀ x ∈ fo l, x ∈ l := fun x hx => (mem_fo l).mp hx
    generalize fo l = m at hs
    clear e
    induction m with
    | nil => rfl
    | cons a m ih =>
      rw [List.map_cons, List.idxOf_cons, List.idxOf_cons]
      by_cases q : a = c
      · subst q; simp
      · have q2 : ¬ f a = f c := fun z => q (h a (hs a List.mem_cons_self) c hm z)
        have b1 : (f a == f c) = false := by simpa using q2
        have b2 : (a == c) = false := by simpa using q
        rw [b1, b2, ih fun x hx => hs x (List.mem_cons_of_mem _ hx)]
  have e3 : f c ∈ (l.map f).take k ↔ c ∈ l.take k := by
    rw [← List.map_take, List.mem_map]
    constructor
    · rintro ⟨a, ha, q⟩
      rw [← h a (List.mem_of_mem_take ha) c hm q]; exact ha
    · intro hc
      exact ⟨c, hc, rfl⟩
  rw [e2]
  congr 1
  by_cases q : c ∈ l.take k
  · rw [if_pos q, if_pos (e3.mpr q)]
  · rw [if_neg q, if_neg (fun z => q (e3.mp z))]
end
/-! ### of a ring word -/
theorem fo_len {l : List Nat} {n : Nat} (R : Ring l n) : (fo l).length = n := by
  rw [← R.few]
  exact ((List.perm_ext_iff_of_nodup (fo_nd l) (cs_nd l)).mpr fun c => (mem_fo l).trans mem_cs.symm).length_eq
theorem getD_mem' {l : List Nat} {k : Nat} (h : k < l.length) : l.getD k default ∈ l := by
  rw [List.getD_eq_getElem?_getD, List.getElem?_eq_getElem h]
  exact List.getElem_mem h
theorem getD_some {l : List Nat} {k : Nat} (h : k < l.length) : l[k]? = some (l.getD k default) := by
  rw [List.getD_eq_getElem?_getD, List.getElem?_eq_getElem h]; rfl
theorem mem_take' {l : List Nat} {c k : Nat} : c ∈ l.take k ↔ ∃ i, i < k ∧ l[i]? = some c := by
  rw [List.mem_iff_getElem?]
  constructor
  · rintro ⟨i, h⟩
    rw [List.getElem?_take] at h
    split at h
    · exact ⟨i, ‹_›, h⟩
    · cases h
  · rintro ⟨i, h1, h2⟩
    exact ⟨i, by rw [List.getElem?_take_of_lt h1]; exact h2⟩
theorem Two.seat {l : List Nat} {c i j k : Nat} (h : Two l c i j) (hk : l[k]? = some c) : (c ∈ l.take k ↔ k = j) ∧ (¬ c ∈ l.take k ↔ k = i) := by
  have hl := h.lt
  rw [mem_take']
  rcases h.only k hk with e | e
  · subst e
    have a : ¬ ∃ i, i < k ∧ l[i]? = some c := by
      rintro ⟨a, ha, q⟩
      rcases h.only a q with z | z <;> omega
    exact ⟨⟨fun z => absurd z a, fun z => by omega⟩, ⟨fun _ => rfl, fun _ => a⟩⟩
  · subst e
    have a : ∃ i, i < k ∧ l[i]? = some c := ⟨i, hl, h.hi⟩
    exact ⟨⟨fun _ => rfl, fun _ => a⟩, ⟨fun z => absurd a z, fun z => by omega⟩⟩
theorem inn_even (l : List Nat) (k : Nat) : inn l k % 2 = 0 := by
  unfold inn
  split <;> omega
theorem inn_lt {l : List Nat} {n k : Nat} (R : Ring l n) (hk : k < l.length) : inn l k < 4 * n := by
  unfold inn
  have : (fo l).idxOf (l.getD k default) < (fo l).length := List.idxOf_lt_length_iff.mpr ((mem_fo l).mpr (getD_mem' hk))
  rw [fo_len R] at this
  split <;> omega
theorem idx_inj {m : List Nat} {a b : Nat} (ha : a ∈ m) (hb : b ∈ m) (h : m.idxOf a = m.idxOf b) : a = b := by
  have h1 := List.getElem_idxOf (List.idxOf_lt_length_iff.mpr ha)
  have h2 := List.getElem_idxOf (List.idxOf_lt_length_iff.mpr hb)
  rw [← h1, ← h2]
  congr 1
theorem inn_inj {l : List Nat} {n j k : Nat} (R : Ring l n) (hj : j < l.length) (hk : k < l.length) (h : inn l j = inn l k) : j = k := by
  unfold inn at h
  have e1 : (fo l).idxOf (l.getD j default) = (fo l).idxOf (l.getD k default) := by split at h <;> split at h <;> omega
  have e2 := idx_inj ((mem_fo l).mpr (getD_mem' hj)) ((mem_fo l).mpr (getD_mem' hk)) e1
  have gj := getD_some hj
  have gk := getD_some hk
  rw [e2] at gj h
  generalize l.getD k default = c at gj gk h
  obtain ⟨a, b, T⟩ := two_of_count (R.two c (List.mem_of_getElem? gk))
  have s1 := T.seat gj
  have s2 := T.seat gk
  by_cases q1 : c ∈ l.take j <;> by_cases q2 : c ∈ l.take k
  · rw [s1.1.mp q1, s2.1.mp q2]
  · rw [if_pos q1, if_neg q2] at h; omega
  · rw [if_neg q1, if_pos q2] at h; omega
  · rw [s1.2.mp q1, s2.2.mp q2]
theorem inn_sur {l : List Nat} {n j : Nat} (R : Ring l n) (hj : j < 4 * n) (he : j % 2 = 0) : ∃ k, k < l.length ∧ inn l k = j := by
  have hi : j / 4 < (fo l).length := by rw [fo_len R]; omega
  have hc : (fo l)[j / 4] ∈ l := (mem_fo l).mp (List.getElem_mem hi)
  have hx : (fo l).idxOf (fo l)[j / 4] = j / 4 := (fo_nd l).idxOf_getElem _ hi
  generalize (fo l)[j / 4] = c at hc hx
  obtain ⟨a, b, T⟩ := two_of_count (R.two c hc)
  have ga : l.getD a default = c := by rw [List.getD_eq_getElem?_getD, T.hi]; rfl
  have gb : l.getD b default = c := by rw [List.getD_eq_getElem?_getD, T.hj]; rfl
  have hl := T.lt
  by_cases h4 : j % 4 = 0
  · refine ⟨a, T.bi, ?_⟩
    unfold inn
    rw [ga, hx, if_neg ((T.seat T.hi).2.mpr rfl)]
    omega
  · refine ⟨b, T.bj, ?_⟩
    unfold inn
    rw [gb, hx, if_pos ((T.seat T.hj).1.mpr rfl)]
    omega
def prv' (m k : Nat) : Nat := if k = 0 then m - 1 else k - 1
theorem prv_lt {m k : Nat} (h : k < m) : prv' m k < m := by unfold prv'; split <;> omega
theorem prv_inj {m j k : Nat} (hj : j < m) (hk : k < m) (h : prv' m j = prv' m k) : j = k := by
  unfold prv' at h
  split at h <;> split at h <;> omega
/-- the ties of a word's net, up to sign number j -/
def NetU (l : List Nat) (j : Nat) (F : Nat → Int) : Prop := ∀ k, k < j → F (inn l k) = inn l (prv' l.length k) + 1 ∧ F (inn l (prv' l.length k) + 1) = inn l k
theorem net_uniq {l : List Nat} {n : Nat} (R : Ring l n) {F G : Nat → Int} (hF : NetU l l.length F) (hG : NetU l l.length G) : row (4 * n) F = row (4 * n) G := row_congr fun i hi => by
  have hl := R.len
  have h1 := R.n1
  by_cases he : i % 2 = 0
  · obtain ⟨k, hk, rfl⟩ := inn_sur R hi he
    rw [(hF k hk).1, (hG k hk).1]
  · obtain ⟨k, hk, e⟩ := inn_sur R (j := i - 1) (by omega) (by omega)
    have e : i = inn l k + 1 := by omega
    have : ∃ k', k' < l.length ∧ prv' l.length k' = k := by
      by_cases q : k + 1 < l.length
      · exact ⟨k + 1, q, by unfold prv'; rw [if_neg (by omega)]; omega⟩
      · exact ⟨0, by omega, by unfold prv'; rw [if_pos rfl]; omega⟩
    obtain ⟨k', h', rfl⟩ := this
    rw [e, (hF k' h').2, (hG k' h').2]
/-- one more pair of ties -/
theorem net_step {l : List Nat} {n j : Nat} (R : Ring l n) (hj : j < l.length) {S : Nat → Prop} {F : Nat → Int} (hS : ∀ k, S k → k < l.length) (hF : ∀ k, S k → F (inn l k) = inn l (prv' l.length k) + 1 ∧ F (inn l (prv' l.length k) + 1) = inn l k) (k : Nat) (hk : S k ∨ k = j) :
    (fun i => if i = inn l j then ((inn l (prv' l.length j) : Nat) : Int) + 1 else if i = inn l (prv' l.length j) + 1 then (inn l j : Int) else F i) (inn l k) = inn l (prv' l.length k) + 1 ∧
    (fun i => if i = inn l j then ((inn l (prv' l.length j) : Nat) : Int) + 1 else if i = inn l (prv' l.length j) + 1 then (inn l j : Int) else F i) (inn l (prv' l.length k) + 1) = inn l k := by
  have hkl : k < l.length := hk.elim (hS k) fun e => e ▸ hj
  have p1 := inn_even l j
  have p2 := inn_even l k
  have p3 := inn_even l (prv' l.length j)
  have p4 := inn_even l (prv' l.length k)
  by_cases e : k = j
  · subst e
    refine ⟨by simp, ?_⟩
    simp only
    rw [if_neg (by omega)]
    simp
  · have hs := hk.resolve_right e
    have n1 : inn l k ≠ inn l j := fun z => e (inn_inj R hkl hj z)
    have n2 : inn l (prv' l.length k) ≠ inn l (prv' l.length j) := fun z => e (prv_inj hkl hj (inn_inj R (prv_lt hkl) (prv_lt hj) z))
    simp only
    rw [if_neg n1, if_neg (by omega), if_neg (by omega), if_neg (by omega)]
    exact hF k hs
theorem idx_app {c : Nat} : ∀ (a b : List Nat), c ∈ a → (a ++ b).idxOf c = a.idxOf c
  | [], b, h => by cases h
  | x :: a, b, h => by
    rw [List.cons_append, List.idxOf_cons, List.idxOf_cons]
    by_cases q : x = c
    · simp [q]
    · have q2 : (x == c) = false := by simpa using q
      rw [q2, idx_app a b ((List.mem_cons.mp h).resolve_left (fun z => q z.symm))]
theorem find_idx {l : List Nat} {c : Nat} (h : c ∈ l) : Txt.find (tx l) (sgS c) = (l.idxOf c : Int) := by
  have hi := List.idxOf_lt_length_iff.mpr h
  have hx : l[l.idxOf c]? = some c := by rw [List.getElem?_eq_getElem hi, List.getElem_idxOf hi]
  have key : ∀ a : List Nat, a.Pairwise (· < ·) → l.idxOf c ∈ a → (∀ x ∈ a, l.idxOf c ≤ x) → a.take 1 = [l.idxOf c] := by
    intro a hu hm hl
    cases a with
    | nil => cases hm
    | cons x a =>
      rcases List.mem_cons.mp hm with e | e
      · rw [e]; rfl
      · have := (List.pairwise_cons.mp hu).1 _ e
        have := hl x List.mem_cons_self
        omega
  unfold Txt.find
  rw [tx_len, occ_one, key _ (pos_up ..) (mem_pos.mpr ⟨Nat.zero_le _, hx⟩) fun x hx' => ?_]
  have hx' := (mem_pos.mp hx').2
  by_cases q : x < l.idxOf c
  · exfalso
    have hxl := (List.getElem?_eq_some_iff.mp hx').1
    have : l.idxOf c ≤ x := by
      have e1 : l = l.take (x + 1) ++ l.drop (x + 1) := (List.take_append_drop ..).symm
      have hm : c ∈ l.take (x + 1) := mem_take'.mpr ⟨x, by omega, hx'⟩
      have : l.idxOf c = (l.take (x + 1)).idxOf c := by
        conv => lhs; rw [e1]
        exact idx_app _ _ hm
      rw [this]
      have := List.idxOf_lt_length_iff.mpr hm
      rw [List.length_take] at this
      omega
    omega
  · omega
end Gf

/-! ## Gf14: cut texts; words from places and letters -/
namespace Gf
open PySem Ty
theorem cutS_to {a : List Nat} {j : Nat} (h : a.length ≤ 16777216) : cutSM (tx a) none (some (j : Int)) = .ok (tx (a.take (min j a.length))) := by
  unfold cutSM
  rw [sizeLine_eq, decide_eq_true (by rw [tx_len]; exact h)]
  unfold L2.cutS
  rw [HT.sIx_nat, HT.sIx_none, tx_len]; rfl
theorem cutS_from {a : List Nat} {i : Nat} (h : a.length ≤ 16777216) : cutSM (tx a) (some (i : Int)) none = .ok (tx (a.drop (min i a.length))) := by
  unfold cutSM
  rw [sizeLine_eq, decide_eq_true (by rw [tx_len]; exact h)]
  unfold L2.cutS
  rw [HT.sIx_nat, HT.sIx_none, tx_len]
  show Except.ok (tx ((a.drop (min i a.length)).take (a.length - min i a.length))) = _
  rw [List.take_of_length_le (by rw [List.length_drop]; omega)]
theorem lidx_ok {α : Type} [Rp α] [DecidableEq α] [Eqv α] [EqvT α] {m : List α} {a : α} (h : a ∈ m) : lidxM m a = .ok (m.idxOf a : Int) := by
  unfold lidxM
  rw [EqvT.all, EqvT.all]
  have : m.findIdx? (fun z => decide (z = a)) = some (m.idxOf a) := by
    induction m with
    | nil => cases h
    | cons x m ih =>
      rw [List.findIdx?_cons, List.idxOf_cons]
      by_cases q : x = a
      · simp [q]
      · have q2 : (x == a) = false := by simpa using q
        rw [q2, decide_eq_false q, ih ((List.mem_cons.mp h).resolve_left (fun z => q z.symm))]; rfl
  rw [this]; rfl
theorem all_in {F M : List Int} (hF : F.Nodup) (hM : M.Nodup) (hl : M.length ≤ F.length) (hs : ∀ x ∈ F, x ∈ M) : F.Perm M := by
  refine (List.perm_ext_iff_of_nodup hF hM).mpr fun x => ⟨hs x, fun hx => ?_⟩
  refine Classical.byContradiction fun hn => ?_
  have := nodup_le (List.nodup_cons.mpr ⟨hn, hF⟩) (fun y hy => (List.mem_cons.mp hy).elim (fun e => e ▸ hx) (hs y))
  rw [List.length_cons] at this
  omega
theorem dbl_range (L : Nat → Nat) (n : Nat) : (List.range (2 * n)).map (fun i => L (i / 2)) = dbl ((List.range n).map L) := by
  induction n with
  | zero => rfl
  | succ n ih =>
    rw [show 2 * (n + 1) = 2 * n + 1 + 1 by omega, List.range_succ, List.range_succ, List.map_append, List.map_append, ih, List.range_succ, List.map_append]
    unfold dbl
    rw [List.flatMap_append, List.append_assoc]
    congr 1
    simp only [List.map_cons, List.map_nil, List.flatMap_cons, List.flatMap_nil, List.append_nil, List.singleton_append]
    rw [show 2 * n / 2 = n by omega, show (2 * n + 1) / 2 = n by omega]
/-- places with letters -/
theorem ring_map {n : Nat} {F : List Int} (hl : F.length = 2 * n) (hn : F.Nodup) (hr : ∀ x ∈ F, 0 ≤ x ∧ x < ((2 * n : Nat) : Int)) {L : Nat → Nat} (h1 : 1 ≤ n) (h10 : n ≤ 10) (hL : ∀ i j, i < n → j < n → L i = L j → i = j) (ha : ∀ i, i < n → 97 ≤ L i ∧ L i < 123) :
    Ring ((F.map fun x => x / 2).map fun x => L x.toNat) n := by
  have hp : F.Perm ((List.range (2 * n)).map Int.ofNat) := by
    refine all_in hn ?_ (by simp [hl]) fun x hx => ?_
    · rw [List.nodup_iff_pairwise_ne, List.pairwise_map]
      exact (List.nodup_iff_pairwise_ne.mp List.nodup_range).imp fun h e => h (Int.ofNat.inj e)
    · have := hr x hx
      exact List.mem_map.mpr ⟨x.toNat, List.mem_range.mpr (by omega), by show ((x.toNat : Nat) : Int) = x; omega⟩
  have hp2 : ((F.map fun x => x / 2).map fun x => L x.toNat).Perm (dbl ((List.range n).map L)) := by
    have q := (hp.map fun x => x / 2).map fun x => L x.toNat
    rw [← dbl_range]
    refine q.trans (List.Perm.of_eq ?_)
    rw [List.map_map, List.map_map]
    refine List.map_congr_left fun i _ => ?_
    show L (((i : Nat) : Int) / 2).toNat = L (i / 2)
    congr 1
  have hlen : ((List.range n).map L).length = n := by simp
  have := Ring.of_perm hp2 (by
    rw [List.nodup_iff_pairwise_ne, List.pairwise_map]
    refine List.Pairwise.imp_of_mem ?_ (List.nodup_iff_pairwise_ne.mp List.nodup_range)
    intro a b ha hb hne e
    exact hne (hL a b (List.mem_range.mp ha) (List.mem_range.mp hb) e)) (by omega) (by omega) fun c hc => by
    obtain ⟨i, hi, rfl⟩ := List.mem_map.mp hc
    exact ha i (List.mem_range.mp hi)
  rw [hlen] at this
  exact this
theorem take_drop_erase (a : List Nat) (j : Nat) : a.take j ++ a.drop (j + 1) = a.eraseIdx j := (List.eraseIdx_eq_take_drop_succ ..).symm
end Gf

/-! ## Gf35: two letters that stand by turns, their stretches exchanged -/
namespace Gf
open PySem Ty
theorem two_split {A M N : List Nat} {x : Nat} (ha : x ∉ A) (hm : x ∉ M) (hn : x ∉ N) : Two (A ++ x :: (M ++ x :: N)) x A.length (A.length + M.length + 1) := by
  have key : ∀ k, (A ++ x :: (M ++ x :: N))[k]? = if k < A.length then A[k]? else if k = A.length then some x else if k - A.length - 1 < M.length then M[k - A.length - 1]? else if k = A.length + M.length + 1 then some x else N[k - A.length - 1 - M.length - 1]? := by
    intro k
    by_cases h1 : k < A.length
    · rw [if_pos h1, List.getElem?_append_left h1]
    · rw [if_neg h1, List.getElem?_append_right (by omega)]
      by_cases h2 : k = A.length
      · rw [if_pos h2, h2, Nat.sub_self]; rfl
      · rw [if_neg h2, show k - A.length = (k - A.length - 1) + 1 by omega, List.getElem?_cons_succ]
        simp only [Nat.add_sub_cancel]
        by_cases h3 : k - A.length - 1 < M.length
        · rw [if_pos h3, List.getElem?_append_left h3]
        · rw [if_neg h3, List.getElem?_append_right (by omega)]
          by_cases h4 : k = A.length + M.length + 1
          · rw [if_pos h4, show k - A.length - 1 - M.length = 0 by omega]; rfl
          · rw [if_neg h4, show k - A.length - 1 - M.length = (k - A.length - 1 - M.length - 1) + 1 by omega, List.getElem?_cons_succ]
            rfl
  refine ⟨by omega, ?_, ?_, fun k hk => ?_⟩
  · rw [key, if_neg (by omega), if_pos rfl]
  · rw [key, if_neg (by omega), if_neg (by omega), if_neg (by omega), if_pos rfl]
  · rw [key] at hk
    split at hk
    · exact absurd (List.mem_of_getElem? hk) ha
    · split at hk
      · exact .inl (by assumption)
      · split at hk
        · exact absurd (List.mem_of_getElem? hk) hm
        · split at hk
          · exact .inr (by assumption)
          · exact absurd (List.mem_of_getElem? hk) hn
/-- A x B y C x D y E -/
def wd (A B C D E : List Nat) (x y : Nat) : List Nat := A ++ x :: (B ++ y :: (C ++ x :: (D ++ y :: E)))
structure Alt (A B C D E : List Nat) (x y : Nat) : Prop where
  ne : x ≠ y
  hx : x ∉ A ∧ x ∉ B ∧ x ∉ C ∧ x ∉ D ∧ x ∉ E
  hy : y ∉ A ∧ y ∉ B ∧ y ∉ C ∧ y ∉ D ∧ y ∉ E
theorem Alt.sw {A B C D E : List Nat} {x y : Nat} (h : Alt A B C D E x y) : Alt A D C B E x y := ⟨h.ne, ⟨h.hx.1, h.hx.2.2.2.1, h.hx.2.2.1, h.hx.2.1, h.hx.2.2.2.2⟩, ⟨h.hy.1, h.hy.2.2.2.1, h.hy.2.2.1, h.hy.2.1, h.hy.2.2.2.2⟩⟩
theorem wd_len (A B C D E : List Nat) (x y : Nat) : (wd A B C D E x y).length = A.length + B.length + C.length + D.length + E.length + 4 := by
  simp only [wd, List.length_append, List.length_cons]; omega
theorem Alt.twoX {A B C D E : List Nat} {x y : Nat} (h : Alt A B C D E x y) : Two (wd A B C D E x y) x A.length (A.length + B.length + C.length + 2) := by
  have := two_split (A := A) (M := B ++ y :: C) (N := D ++ y :: E) (x := x) h.hx.1 (by simp [h.hx, h.ne]) (by simp [h.hx, h.ne])
  rw [show A ++ x :: (B ++ y :: C ++ x :: (D ++ y :: E)) = wd A B C D E x y by simp [wd], List.length_append, List.length_cons, show A.length + (B.length + (C.length + 1)) + 1 = A.length + B.length + C.length + 2 by omega] at this
  exact this
theorem Alt.twoY {A B C D E : List Nat} {x y : Nat} (h : Alt A B C D E x y) : Two (wd A B C D E x y) y (A.length + B.length + 1) (A.length + B.length + C.length + D.length + 3) := by
  have := two_split (A := A ++ x :: B) (M := C ++ x :: D) (N := E) (x := y) (by simp [h.hy, h.ne.symm]) (by simp [h.hy, h.ne.symm]) h.hy.2.2.2.2
  rw [show A ++ x :: B ++ y :: (C ++ x :: D ++ y :: E) = wd A B C D E x y by simp [wd], List.length_append, List.length_cons, List.length_append, List.length_cons, show A.length + (B.length + 1) = A.length + B.length + 1 by omega, show A.length + B.length + 1 + (C.length + (D.length + 1)) + 1 = A.length + B.length + C.length + D.length + 3 by omega] at this
  exact this
theorem btw_no {l : List Nat} {x i j a b : Nat} (h : Two l x i j) (hi : ¬ (a < i ∧ i < b)) (hj : ¬ (a < j ∧ j < b)) (hb : b ≤ l.length) : x ∉ btw l a b := by
  intro hm
  obtain ⟨k, hk⟩ := List.mem_iff_getElem?.mp hm
  have hl : k < b - (a + 1) := by
    have := (List.getElem?_eq_some_iff.mp hk).1
    rwa [btw_len hb] at this
  rw [btw_get hl] at hk
  have := h.only _ hk
  omega
theorem drop_two {l : List Nat} {a b : Nat} (h : a < b) (hb : b ≤ l.length) : l.drop (a + 1) = btw l a b ++ l.drop b := by
  unfold btw
  have := List.take_append_drop (b - (a + 1)) (l.drop (a + 1))
  rw [List.drop_drop, show a + 1 + (b - (a + 1)) = b by omega] at this
  exact this.symm
theorem drop_at {l : List Nat} {a c : Nat} (h : l[a]? = some c) : l.drop a = c :: l.drop (a + 1) := by
  obtain ⟨h1, h2⟩ := List.getElem?_eq_some_iff.mp h
  rw [List.drop_eq_getElem_cons h1, h2]
theorem alt_of {l : List Nat} {x y a b c d : Nat} (hx : Two l x a c) (hy : Two l y b d) (h1 : a < b) (h2 : b < c) (h3 : c < d) : ∃ A B C D E, l = wd A B C D E x y ∧ Alt A B C D E x y ∧ A.length = a ∧ B.length = b - (a + 1) ∧ C.length = c - (b + 1) ∧ D.length = d - (c + 1) := by
  have hd := hy.bj
  have ne : x ≠ y := by
    intro e
    subst e
    have := hx.only b hy.hi
    omega
  have tk : ∀ z, z ∈ l.take a → ∃ k, k < a ∧ l[k]? = some z := fun z hz => by
    obtain ⟨k, hk⟩ := List.mem_iff_getElem?.mp hz
    rw [List.getElem?_take] at hk
    by_cases q : k < a
    · rw [if_pos q] at hk; exact ⟨k, q, hk⟩
    · rw [if_neg q] at hk; cases hk
  have dr : ∀ z, z ∈ l.drop (d + 1) → ∃ k, d < k ∧ l[k]? = some z := fun z hz => by
    obtain ⟨k, hk⟩ := List.mem_iff_getElem?.mp hz
    rw [List.getElem?_drop] at hk
    exact ⟨d + 1 + k, by omega, hk⟩
  refine ⟨l.take a, btw l a b, btw l b c, btw l c d, l.drop (d + 1), ?_, ⟨ne, ⟨?_, ?_, ?_, ?_, ?_⟩, ⟨?_, ?_, ?_, ?_, ?_⟩⟩, ?_, btw_len (by omega), btw_len (by omega), btw_len (by omega)⟩
  · unfold wd
    rw [← drop_at hy.hj, ← drop_two h3 (by omega), ← drop_at hx.hj, ← drop_two h2 (by omega), ← drop_at hy.hi, ← drop_two h1 (by omega), ← drop_at hx.hi, List.take_append_drop]
  · intro hm; obtain ⟨k, q, e⟩ := tk _ hm; have := hx.only k e; omega
  · exact btw_no hx (by omega) (by omega) (by omega)
  · exact btw_no hx (by omega) (by omega) (by omega)
  · exact btw_no hx (by omega) (by omega) (by omega)
  · intro hm; obtain ⟨k, q, e⟩ := dr _ hm; have := hx.only k e; omega
  · intro hm; obtain ⟨k, q, e⟩ := tk _ hm; have := hy.only k e; omega
  · exact btw_no hy (by omega) (by omega) (by omega)
  · exact btw_no hy (by omega) (by omega) (by omega)
  · exact btw_no hy (by omega) (by omega) (by omega)
  · intro hm; obtain ⟨k, q, e⟩ := dr _ hm; have := hy.only k e; omega
  · rw [List.length_take]; omega
/-- the four cuts of such a word -/
theorem wd_cut1 (A B C D E : List Nat) (x y : Nat) : (wd A B C D E x y).take (A.length + 1) = A ++ [x] := by
  unfold wd
  rw [show A.length + 1 = (A ++ [x]).length by simp, show A ++ x :: (B ++ y :: (C ++ x :: (D ++ y :: E))) = (A ++ [x]) ++ (B ++ y :: (C ++ x :: (D ++ y :: E))) by simp, List.take_left']
  rfl
theorem cut_mid (P M Q : List Nat) {i j : Nat} (hi : i = P.length) (hj : j = P.length + M.length) : ((P ++ (M ++ Q)).drop i).take (j - i) = M := by
  subst hi hj
  rw [List.drop_left' rfl, Nat.add_sub_cancel_left, List.take_left' rfl]
theorem cut_end (P Q : List Nat) {i : Nat} (hi : i = P.length) : (P ++ Q).drop i = Q := by
  subst hi
  rw [List.drop_left' rfl]
end Gf

/-! ## LGmw: mixed cells, a word put together letter by letter -/
namespace Law
open PySem Ty
theorem loop_nx {α S ρ : Type} {f : α → S → M (Ctl S S ρ)} {x : α} {xs : List α} {s s' : S} (h : f x s = .ok (.nx s')) : loopM f (x :: xs) s = loopM f xs s' := by
  unfold loopM
  rw [h]
  cases xs <;> rfl
theorem loop_no {α S ρ : Type} {f : α → S → M (Ctl S S ρ)} {s : S} : loopM f [] s = .ok (.inl s) := rfl
def Cells (k : Nat) (C : List Int) : Prop := ∃ g m, C = row m g ∧ k ≤ m ∧ m ≤ 63 ∧ ∀ i, i < m → 0 ≤ g i ∧ g i < 9223372036854775808
theorem row_snoc {α : Type} (i : Nat) (g : Nat → α) (v : α) : row i g ++ [v] = row (i + 1) fun j => if j = i then v else g j := by
  rw [row_succ, if_pos rfl]
  congr 1
  exact row_congr fun j hj => by rw [if_neg (by omega)]
theorem mixed_ok {ns : List Int} {k : Nat} (hk : k ≤ 63) : Ev (mir__law_mixed ⟨ns⟩ (k : Int)) (Cells k) := by
  unfold mir__law_mixed
  simp only [pureB, bindA]
  rw [lstM_ok (by simp)]
  simp only [okB, pureB]
  obtain ⟨m, hm, h1, h2⟩ : ∃ m : Nat, (if (if (ns.length : Int) < 63 then (ns.length : Int) else 63) > (k : Int) then (if (ns.length : Int) < 63 then (ns.length : Int) else 63) else (k : Int)) = (m : Int) ∧ k ≤ m ∧ m ≤ 63 := by
    by_cases h : (ns.length : Int) < 63
    · rw [if_pos h]
      by_cases h2 : (ns.length : Int) > (k : Int)
      · rw [if_pos h2]; exact ⟨ns.length, rfl, by omega, by omega⟩
      · rw [if_neg h2]; exact ⟨k, rfl, by omega, by omega⟩
    · rw [if_neg h]
      by_cases h2 : (63 : Int) > (k : Int)
      · rw [if_pos h2]; exact ⟨63, rfl, by omega, by omega⟩
      · rw [if_neg h2]; exact ⟨k, rfl, by omega, by omega⟩
  rw [hm, range1_ok (by omega) (by omega)]
  simp only [okB, pureB]
  refine Ev.run (Ev.loopN (fun i s => ∃ g : Nat → Int, s = row i g ∧ ∀ j, j < i → 0 ≤ g j ∧ g j < 9223372036854775808) ⟨fun _ => 0, rfl, fun j hj => by omega⟩ ?_ ?_)
  · rintro i _ hi ⟨g, rfl, hg⟩
    refine Ev.bind (P := fun c => ∃ x : Int, c = .nx x ∧ 0 ≤ x ∧ x < 1000003) (Ev.bif (fun h => ?_) fun h => ⟨_, rfl, _, rfl, by omega, by omega⟩) ?_
    · have h := of_decide_eq_true h
      rw [atM_ok (by omega) (by omega)]
      simp only [okB, pureB]
      exact ⟨_, rfl, _, rfl, by omega, by omega⟩
    · rintro _ ⟨x, rfl, x0, x1⟩
      simp only [thenC]
      rw [mulM_ok (mulB_r (by omega) (by omega))]
      simp only [okB, pureB]
      rw [appM_ok (by rw [row_len]; omega)]
      refine ⟨_, rfl, _, rfl, _, row_snoc _ _ _, fun j hj => ?_⟩
      by_cases q : j = i
      · rw [if_pos q]; omega
      · rw [if_neg q]; exact hg j (by omega)
  · rintro _ ⟨g, rfl, hg⟩
    rw [Int.toNat_natCast] at *
    exact ⟨_, rfl, _, rfl, g, m, rfl, h1, h2, hg⟩
/-- a sign put in at a place -/
def ins (l : List Nat) (p : Nat) (x : Nat) : List Nat := l.take p ++ (x :: l.drop p)
theorem ins_perm (l : List Nat) (p x : Nat) : (ins l p x).Perm (x :: l) := by
  unfold ins
  refine List.perm_middle.trans ?_
  rw [List.take_append_drop]
theorem ins_ok {l : List Nat} {p x : Nat} {β : Type} {k : Str → M β} (hl : l.length ≤ 1000) : (cutSM (Gf.tx l) none (some (p : Int)) >>= fun a => addSM a (sgS x) >>= fun b => cutSM (Gf.tx l) (some (p : Int)) none >>= fun c => addSM b c >>= k) = k (Gf.tx (ins l (min p l.length) x)) := by
  rw [Gf.cutS_to (by omega)]
  simp only [okB]
  rw [Gf.tx_sg, Gf.addS_ok (by rw [List.length_take, List.length_singleton]; omega)]
  simp only [okB]
  rw [Gf.cutS_from (by omega)]
  simp only [okB]
  rw [Gf.addS_ok (by rw [List.length_append, List.length_take, List.length_singleton, List.length_drop]; omega)]
  simp only [okB]
  unfold ins
  rw [List.append_assoc]; rfl
theorem mword_ok {m : Nat} {g : Nat → Int} (hm : 11 ≤ m) (hg : ∀ i, i < m → 0 ≤ g i ∧ g i < 9223372036854775808) : Ev (mir__law_word (row m g) 10) fun w => ∃ l n, w = Gf.tx l ∧ Gf.Ring l n := by
  unfold mir__law_word
  simp only [pureB, bindA]
  have a0 := hg 0 (by omega)
  rw [atM_row (by omega) (by omega)]
  simp only [okB, pureB, Int.toNat_zero]
  rw [modM_ok (by omega)]
  simp only [okB, pureB]
  obtain ⟨n, hn, n1, n2⟩ : ∃ n : Nat, 1 + g 0 % 10 = (n : Int) ∧ 1 ≤ n ∧ n ≤ 10 := ⟨(1 + g 0 % 10).toNat, by omega, by omega, by omega⟩
  rw [hn, range1_ok (by omega) (by omega)]
  simp only [okB, pureB]
  repeat rw [lstM_ok (by simp)]
  simp only [okB, pureB]
  obtain ⟨s, hs, hs2⟩ : ∃ s : Int, atM ([1, 3, 5, 7, 9, 11] : List Int) (g 0 / 512 % 6) = .ok s ∧ (s = 1 ∨ s = 3 ∨ s = 5 ∨ s = 7 ∨ s = 9 ∨ s = 11) := by
    have h6 : g 0 / 512 % 6 = 0 ∨ g 0 / 512 % 6 = 1 ∨ g 0 / 512 % 6 = 2 ∨ g 0 / 512 % 6 = 3 ∨ g 0 / 512 % 6 = 4 ∨ g 0 / 512 % 6 = 5 := by omega
    rcases h6 with h | h | h | h | h | h <;> rw [h]
    · exact ⟨1, rfl, by omega⟩
    · exact ⟨3, rfl, by omega⟩
    · exact ⟨5, rfl, by omega⟩
    · exact ⟨7, rfl, by omega⟩
    · exact ⟨9, rfl, by omega⟩
    · exact ⟨11, rfl, by omega⟩
  rw [hs]
  simp only [okB, pureB]
  generalize hL : (fun k : Nat => 97 + ((g 0 / 16 + s * (k : Int)) % 26).toNat) = L
  have hLk : ∀ k, L k = 97 + ((g 0 / 16 + s * (k : Int)) % 26).toNat := fun k => by rw [← hL]
  have hLi : ∀ i j, i < n → j < n → L i = L j → i = j := by
    intro i j hi hj e
    rw [hLk, hLk] at e
    rcases hs2 with rfl | rfl | rfl | rfl | rfl | rfl <;> omega
  refine Ev.run (Ev.loopN (fun k w => ∃ l : List Nat, w = Gf.tx l ∧ l.Perm (Gf.dbl ((List.range k).map L))) ⟨[], rfl, .nil⟩ ?_ ?_)
  · rintro k _ hk ⟨l, rfl, hl⟩
    have hlen : l.length = 2 * k := by rw [hl.length_eq, Gf.dbl_len]; simp
    rw [mulM_ok (mulB_r (by omega) (by omega))]
    simp only [okB, pureB]
    have hlet : atS ("abcdefghijklmnopqrstuvwxyz" : Str) ((g 0 / 16 + s * (k : Int)) % 26) = .ok (sgS (L k)) := by
      rw [Gf.abc, Gf.atS_ok (by simp) (by omega) (by rw [List.length_range']; omega), List.getD_eq_getElem?_getD, List.getElem?_range' (by omega), hLk]
      simp
    rw [hlet]
    simp only [okB, pureB]
    have a1 := hg (1 + k) (by omega)
    rw [atM_row (by omega) (by omega), show (1 + (k : Int)).toNat = 1 + k by omega]
    simp only [okB, pureB]
    rw [Gf.lenS_ok (by omega)]
    simp only [okB, pureB]
    rw [modM_ok (by omega)]
    simp only [okB, pureB]
    rw [modM_ok (by omega)]
    simp only [okB, pureB]
    rw [lstM_ok (by simp)]
    simp only [okB, pureB]
    obtain ⟨p, hp⟩ : ∃ p : Nat, g (1 + k) % ((l.length : Int) + 1) = (p : Int) := ⟨(g (1 + k) % ((l.length : Int) + 1)).toNat, by rw [Int.toNat_of_nonneg (Int.emod_nonneg _ (by omega))]⟩
    obtain ⟨q, hq⟩ : ∃ q : Nat, g (1 + k) / 32 % ((l.length : Int) + 2) = (q : Int) := ⟨(g (1 + k) / 32 % ((l.length : Int) + 2)).toNat, by rw [Int.toNat_of_nonneg (Int.emod_nonneg _ (by omega))]⟩
    rw [hp, hq]
    have hl1 : (ins l (min p l.length) (L k)).length = l.length + 1 := (ins_perm _ _ _).length_eq
    rw [loop_nx (s' := Gf.tx (ins l (min p l.length) (L k))) (ins_ok (by omega)), loop_nx (s' := Gf.tx (ins (ins l (min p l.length) (L k)) (min q (ins l (min p l.length) (L k)).length) (L k))) (ins_ok (by omega)), loop_no]
    simp only [okB, pureB, thenL]
    refine ⟨_, rfl, _, rfl, _, rfl, ?_⟩
    refine (ins_perm _ _ _).trans (((ins_perm _ _ _).cons _).trans ?_)
    rw [List.range_succ, List.map_append]
    unfold Gf.dbl at hl ⊢
    rw [List.flatMap_append]
    refine List.Perm.trans ?_ List.perm_append_comm
    exact (hl.cons _).cons _
  · rintro _ ⟨l, rfl, hl⟩
    rw [Int.toNat_natCast] at hl
    refine ⟨_, rfl, _, rfl, l, n, rfl, ?_⟩
    have := Gf.Ring.of_perm hl (by
      rw [List.nodup_iff_pairwise_ne, List.pairwise_map]
      refine (List.pairwise_iff_getElem.mpr fun i j hi hj hij => ?_)
      simp only [List.getElem_range]
      intro e
      have := hLi i j (by simpa using hi) (by simpa using hj) e
      omega) (by simpa using n1) (by simpa using n2) (by
      intro c hc
      obtain ⟨k, hk, rfl⟩ := List.mem_map.mp hc
      rw [hLk]; omega)
    simpa using this
end Law

/-! ## LGnol: texts that are no letter of a word (places_of in pairs) -/
namespace Law
open PySem Ty
/-- a text that is no letter of the word -/
def NoL (l : List Nat) (x : Str) : Prop := ∃ d, x = Gf.tx d ∧ d.length ≤ 1000 ∧ (d.length ≠ 1 ∨ ∃ c, d = [c] ∧ c ∉ l)
theorem none_ok {l : List Nat} {x : Str} (h : NoL l x) : mir_places_of (Gf.tx l) x = .ok (.inr ⟨"NoLetter", some ("letter", .s x)⟩) := by
  obtain ⟨d, rfl, hd, h⟩ := h
  unfold mir_places_of
  simp only [pureB, bindA, bOr]
  rw [Gf.lenS_ok (by omega)]
  simp only [okB, pureB]
  rcases h with h | ⟨c, rfl, hc⟩
  · rw [decide_eq_false (show ¬ (d.length : Int) = 1 by omega)]
    rfl
  · rw [decide_eq_true (show (([c] : List Nat).length : Int) = 1 from rfl), show Gf.tx [c] = sgS c from rfl, Gf.inS_sg, decide_eq_false hc]
    rfl
theorem placesP_ok {l : List Nat} {c i j : Nat} (h : Gf.Two l c i j) : mir_places_of (Gf.tx l) (sgS c) = .ok (.inl ((i : Int), (j : Int))) := by
  unfold mir_places_of
  simp only [pureB, bindA]
  have e : lenS (sgS c) = .ok 1 := Gf.lenS_ok (a := [c]) (by show 1 ≤ 16777216; decide)
  rw [e, Gf.inS_sg, decide_eq_true h.mem, h.find]
  simp only [okB, pureB, bOr, decide_true, Bool.not_true, Bool.false_eq_true, if_false]
  rw [h.find3]
  rfl
theorem up_ok {c : Nat} (h : 97 ≤ c ∧ c < 123) : upperM (sgS c) = .ok (sgS (c - 32)) := by
  have h1 : ∀ d ∈ List.range' 97 26, Txt.upper (sgS d) = sgS (d - 32) := by decide +kernel
  unfold upperM
  rw [h1 c (List.mem_range'_1.mpr (by omega))]
  rfl
/-- the word's spots of a letter -/
theorem spots_eq {l : List Nat} {c i j : Nat} (h : Gf.Two l c i j) (hl : l.length ≤ 1000) : compM (enumL (l.map sgS)) (fun a => (Pure.pure (decide (a.2 = sgS c)) : M Bool)) (fun a => Pure.pure a.1) = .ok [(i : Int), (j : Int)] := by
  have sgl : l.map sgS = row l.length fun k => sgS (l.getD k 0) := by
    conv => lhs; rw [row_of l]
    unfold row
    rw [List.map_map]; rfl
  rw [sgl, enum_row, compM_fm (t := fun a : Int × Str => Pure.pure (decide (a.2 = sgS c))) (f := fun a : Int × Str => Pure.pure a.1) (fun a => decide (a.2 = sgS c)) (fun a => a.1) (by rw [row_len]; omega) (fun _ _ => rfl) (fun _ _ _ => rfl)]
  congr 1
  unfold row
  rw [List.filter_map, List.map_map]
  have e0 := h.pos0
  have e1 : (List.range' 0 (l.length + 1 - 0)) = List.range l.length ++ [l.length] := by
    rw [← List.range_succ, List.range_eq_range']
    rfl
  rw [e1, List.filter_append, List.filter_cons_of_neg (by simp), List.filter_nil, List.append_nil] at e0
  have e2 : (List.range l.length).filter ((fun a : Int × Str => decide (a.2 = sgS c)) ∘ fun k : Nat => ((k : Int), sgS (l.getD k 0))) = [i, j] := by
    rw [← e0]
    refine List.filter_congr fun k hk => ?_
    have hk := List.mem_range.mp hk
    show decide (sgS (l.getD k 0) = sgS c) = _
    rw [List.getD_eq_getElem?_getD, List.getElem?_eq_getElem hk]
    exact decide_eq_decide.mpr ⟨fun q => congrArg some (sg_inj q), fun q => by injection q with q; rw [← q]; rfl⟩
  rw [e2]
  rfl
theorem nd_le : ∀ (A B : List Nat), A.Nodup → (∀ x ∈ A, x ∈ B) → A.length ≤ B.length
  | [], B, _, _ => Nat.zero_le _
  | a :: A, B, hn, h => by
    obtain ⟨h1, h2⟩ := List.nodup_cons.mp hn
    have hm := h a List.mem_cons_self
    have := nd_le A (B.erase a) h2 fun x hx => (List.mem_erase_of_ne fun z => h1 (by subst z; exact hx)).mpr (h x (List.mem_cons_of_mem _ hx))
    rw [List.length_erase_of_mem hm] at this
    have := List.length_pos_of_mem hm
    rw [List.length_cons]
    omega
/-- letters not in a word: one of them is at hand -/
theorem strange_ex {l : List Nat} {n : Nat} (R : Gf.Ring l n) : ∃ c ∈ ([106, 113, 120, 98, 122, 109, 97, 101, 116, 107, 119] : List Nat), c ∉ l := by
  by_cases h : ∃ c ∈ ([106, 113, 120, 98, 122, 109, 97, 101, 116, 107, 119] : List Nat), c ∉ l
  · exact h
  · exfalso
    have h2 : ∀ c ∈ ([106, 113, 120, 98, 122, 109, 97, 101, 116, 107, 119] : List Nat), c ∈ Gf.cs l := fun c hc => Gf.mem_cs.mpr (Decidable.byContradiction fun z => h ⟨c, hc, z⟩)
    have := nd_le _ _ (by decide : ([106, 113, 120, 98, 122, 109, 97, 101, 116, 107, 119] : List Nat).Nodup) (fun c hc => h2 c hc)
    rw [R.few] at this
    have := R.n10
    have e : ([106, 113, 120, 98, 122, 109, 97, 101, 116, 107, 119] : List Nat).length = 11 := rfl
    omega
theorem strange_ok {l : List Nat} {n : Nat} (R : Gf.Ring l n) : ∃ c, mir__law_strange (Gf.tx l) = .ok (sgS c) ∧ c ∉ l ∧ 97 ≤ c ∧ c < 123 := by
  suffices H : Ev (mir__law_strange (Gf.tx l)) fun r => ∃ c, r = sgS c ∧ c ∉ l ∧ 97 ≤ c ∧ c < 123 by
    obtain ⟨r, e, c, rfl, h⟩ := H
    exact ⟨c, e, h⟩
  unfold mir__law_strange
  simp only [pureB, bindA]
  obtain ⟨c0, hc0, hn0⟩ := strange_ex R
  rw [show ("jqxbzmaetkw" : Str) = Gf.tx [106, 113, 120, 98, 122, 109, 97, 101, 116, 107, 119] from by decide +kernel, Gf.sgs]
  refine Ev.run (Ev.loopR (fun pre _ => ∀ c : Nat, sgS c ∈ pre → c ∈ l) (fun c hc => by cases hc) ?_ ?_)
  · rintro pre x post _ e hp
    have hx : x ∈ ([106, 113, 120, 98, 122, 109, 97, 101, 116, 107, 119] : List Nat).map sgS := by rw [e]; simp
    obtain ⟨c, hc, rfl⟩ := List.mem_map.mp hx
    rw [Gf.inS_sg]
    refine Ev.bif (fun h => ?_) fun h => ?_
    · have hcr : 97 ≤ c ∧ c < 123 := by
        have : ∀ c ∈ ([106, 113, 120, 98, 122, 109, 97, 101, 116, 107, 119] : List Nat), 97 ≤ c ∧ c < 123 := by decide
        exact this c hc
      exact ⟨_, rfl, .inr (.inl ⟨_, rfl, _, rfl, c, rfl, by simpa using h, hcr⟩)⟩
    · refine ⟨_, rfl, .inl ⟨(), .inl rfl, fun d hd => ?_⟩⟩
      rcases List.mem_append.mp hd with hd | hd
      · exact hp d hd
      · rw [sg_inj (List.mem_singleton.mp hd)]
        simpa using h
  · intro _ hp
    exact absurd (hp c0 (List.mem_map.mpr ⟨c0, hc0, rfl⟩)) hn0
end Law

/-! ## LGsdn: the program's Swap.done -/
namespace Law
open PySem Ty Gf L2
abbrev swpI (a b : Str) : Ins := ⟨"Swap", [("one", Pvl.pv a), ("other", Pvl.pv b)]⟩
theorem obOne (a b : Str) : obS obN obF (swpI a b) "one" = .ok a := rfl
theorem obOther (a b : Str) : obS obN obF (swpI a b) "other" = .ok b := rfl
theorem step3 (a b c d : Int) : stepB 0 3 2 [a, b, c, d] = [a, c] := by
  have e : sliceRange ((min 0 4 : Nat) : Int) ((min 3 4 : Nat) : Int) ((2 : Nat) : Int) = [0, 2] := by decide +kernel
  show (sliceRange ((min 0 4 : Nat) : Int) ((min 3 4 : Nat) : Int) ((2 : Nat) : Int)).filterMap (fun i => [a, b, c, d][i]?) = _
  rw [e]
  rfl
theorem sort4 {a b c d : Nat} {l : List Int} (h1 : a ≤ b) (h2 : b ≤ c) (h3 : c ≤ d) (h : [(a : Int), (b : Int), (c : Int), (d : Int)].Perm l) : sortTuM ⟨l⟩ = .ok [(a : Int), (b : Int), (c : Int), (d : Int)] := by
  unfold sortTuM
  rw [show (⟨l⟩ : Tu Int).l = l from rfl, ← h.length_eq, ← isort_eq h (by
    simp only [List.pairwise_cons, List.mem_cons, List.not_mem_nil, or_false, List.Pairwise.nil, and_true]
    refine ⟨?_, ?_, ?_, fun _ h => h.elim⟩
    · rintro x (rfl | rfl | rfl) <;> omega
    · rintro x (rfl | rfl) <;> omega
    · rintro x rfl; omega)]
  rfl
theorem glue4 {A B C D E : List Nat} {x y : Nat} (hl : (wd A B C D E x y).length ≤ 1000) {β : Type} {k : Str → M β} :
    (cutSM (tx (wd A B C D E x y)) none (some ((A.length : Int) + 1)) >>= fun a => cutSM (tx (wd A B C D E x y)) (some (((A.length + B.length + C.length + 2 : Nat) : Int) + 1)) (some ((A.length + B.length + C.length + D.length + 3 : Nat) : Int)) >>= fun b => addSM a b >>= fun a => cutSM (tx (wd A B C D E x y)) (some ((A.length + B.length + 1 : Nat) : Int)) (some (((A.length + B.length + C.length + 2 : Nat) : Int) + 1)) >>= fun b => addSM a b >>= fun a => cutSM (tx (wd A B C D E x y)) (some ((A.length : Int) + 1)) (some ((A.length + B.length + 1 : Nat) : Int)) >>= fun b => addSM a b >>= fun a => cutSM (tx (wd A B C D E x y)) (some ((A.length + B.length + C.length + D.length + 3 : Nat) : Int)) none >>= fun b => addSM a b >>= k) = k (tx (wd A D C B E x y)) := by
  have e := wd_len A B C D E x y
  rw [show (A.length : Int) + 1 = ((A.length + 1 : Nat) : Int) by omega, show ((A.length + B.length + C.length + 2 : Nat) : Int) + 1 = ((A.length + B.length + C.length + 3 : Nat) : Int) by omega]
  rw [cutS_to (by omega), cutS_ok (by omega), cutS_ok (by omega), cutS_ok (by omega), cutS_from (by omega)]
  simp only [okB]
  repeat rw [Nat.min_eq_left (by omega)]
  rw [wd_cut1]
  rw [show ((wd A B C D E x y).drop (A.length + B.length + C.length + 3)).take (A.length + B.length + C.length + D.length + 3 - (A.length + B.length + C.length + 3)) = D from by
    rw [show wd A B C D E x y = (A ++ x :: (B ++ y :: (C ++ [x]))) ++ (D ++ y :: E) by simp [wd]]
    exact cut_mid _ _ _ (by simp; omega) (by simp; omega)]
  rw [show ((wd A B C D E x y).drop (A.length + B.length + 1)).take (A.length + B.length + C.length + 3 - (A.length + B.length + 1)) = y :: (C ++ [x]) from by
    rw [show wd A B C D E x y = (A ++ x :: B) ++ (y :: (C ++ [x]) ++ (D ++ y :: E)) by simp [wd]]
    exact cut_mid _ _ _ (by simp; omega) (by simp; omega)]
  rw [show ((wd A B C D E x y).drop (A.length + 1)).take (A.length + B.length + 1 - (A.length + 1)) = B from by
    rw [show wd A B C D E x y = (A ++ [x]) ++ (B ++ y :: (C ++ x :: (D ++ y :: E))) by simp [wd]]
    exact cut_mid _ _ _ (by simp) (by simp; omega)]
  rw [show (wd A B C D E x y).drop (A.length + B.length + C.length + D.length + 3) = y :: E from by
    rw [show wd A B C D E x y = (A ++ x :: (B ++ y :: (C ++ x :: D))) ++ (y :: E) by simp [wd]]
    exact cut_end _ _ (by simp; omega)]
  rw [addS_ok (by simp; omega)]
  simp only [okB]
  rw [addS_ok (by simp; omega)]
  simp only [okB]
  rw [addS_ok (by simp; omega)]
  simp only [okB]
  rw [addS_ok (by simp; omega)]
  simp only [okB]
  congr 2
  simp [wd]
theorem done_ok {A B C D E : List Nat} {x y one other : Nat} (h : Alt A B C D E x y) (hl : (wd A B C D E x y).length ≤ 1000) (ho : (one = x ∧ other = y) ∨ (one = y ∧ other = x)) : mir_Swap__done (swpI (sgS one) (sgS other)) (tx (wd A B C D E x y)) = .ok (.inl (tx (wd A D C B E x y))) := by
  have g := glue4 hl (k := fun r => (Pure.pure (.rt (.inl r)) : M (Ctl Unit Empty (Str ⊕ Exn))))
  unfold mir_Swap__done
  simp only [pureB, bindA]
  rw [obOne, obOther]
  simp only [okB]
  have i1 : ((A.length : Nat) : Int) = (A.length : Int) := rfl
  rcases ho with ⟨rfl, rfl⟩ | ⟨rfl, rfl⟩
  · rw [placesP_ok h.twoX, placesP_ok h.twoY]
    simp only [okB, raiseD]
    rw [sort4 (a := A.length) (b := A.length + B.length + 1) (c := A.length + B.length + C.length + 2) (d := A.length + B.length + C.length + D.length + 3) (by omega) (by omega) (by omega) (.cons _ (.swap _ _ _))]
    simp only [okB]
    rw [step3, show minPP ((A.length : Int), ((A.length + B.length + C.length + 2 : Nat) : Int)) (((A.length + B.length + 1 : Nat) : Int), ((A.length + B.length + C.length + D.length + 3 : Nat) : Int)) = ((A.length : Int), ((A.length + B.length + C.length + 2 : Nat) : Int)) from if_neg (by simp only; omega)]
    rw [neM_ok, eqM_ok, decide_eq_true rfl, decide_eq_false (fun e => by have := congrArg Prod.fst e; simp only at this; omega)]
    simp only [okB, bOr, pureB, Bool.not_true, Bool.false_eq_true, if_false, fourM]
    rw [g]
    rfl
  · rw [placesP_ok h.twoX, placesP_ok h.twoY]
    simp only [okB, raiseD]
    rw [sort4 (a := A.length) (b := A.length + B.length + 1) (c := A.length + B.length + C.length + 2) (d := A.length + B.length + C.length + D.length + 3) (by omega) (by omega) (by omega) (by
      have : ([(A.length : Int), ((A.length + B.length + C.length + 2 : Nat) : Int)] ++ [((A.length + B.length + 1 : Nat) : Int), ((A.length + B.length + C.length + D.length + 3 : Nat) : Int)]).Perm _ := List.perm_append_comm
      exact (List.Perm.cons _ (.swap _ _ _)).trans this)]
    simp only [okB]
    rw [step3, show minPP (((A.length + B.length + 1 : Nat) : Int), ((A.length + B.length + C.length + D.length + 3 : Nat) : Int)) ((A.length : Int), ((A.length + B.length + C.length + 2 : Nat) : Int)) = ((A.length : Int), ((A.length + B.length + C.length + 2 : Nat) : Int)) from if_pos (.inl (by simp only; omega))]
    rw [neM_ok, eqM_ok, decide_eq_true rfl, decide_eq_false (fun e => by have := congrArg Prod.fst e; simp only at this; omega)]
    simp only [okB, bOr, pureB, Bool.not_true, Bool.false_eq_true, if_false, fourM]
    rw [g]
    rfl
/-- letters that do not stand by turns, or one twice -/
theorem donex_ok {l : List Nat} {c d i j p q : Nat} (h1 : Two l c i j) (h2 : Two l d p q) (h : ¬ (i < p ∧ p < j ∧ j < q)) (h' : ¬ (p < i ∧ i < q ∧ q < j)) : mir_Swap__done (swpI (sgS c) (sgS d)) (tx l) = .ok (.inr ⟨"NoCross", none⟩) := by
  unfold mir_Swap__done
  simp only [pureB, bindA]
  rw [obOne, obOther]
  simp only [okB]
  rw [placesP_ok h1, placesP_ok h2]
  simp only [okB, raiseD]
  have l1 := h1.lt
  have l2 := h2.lt
  by_cases e : c = d
  · subst e
    obtain ⟨rfl, rfl⟩ := h1.uniq h2
    rw [sort4 (a := i) (b := i) (c := j) (d := j) (by omega) (by omega) (by omega) (.cons _ (.swap _ _ _))]
    simp only [okB]
    rw [step3, show minPP ((i : Int), (j : Int)) ((i : Int), (j : Int)) = ((i : Int), (j : Int)) from if_neg (by simp only; omega), neM_ok, eqM_ok, decide_eq_true rfl, decide_eq_true rfl]
    simp only [okB, bOr, pureB, Bool.not_true, Bool.false_eq_true, if_false, if_true]
    rfl
  · have ne : ∀ k : Nat, l[k]? = some c → l[k]? = some d → False := fun k e1 e2 => e (by rw [e1] at e2; injection e2)
    have n1 : i ≠ p := fun z => ne i h1.hi (by rw [z]; exact h2.hi)
    have n2 : i ≠ q := fun z => ne i h1.hi (by rw [z]; exact h2.hj)
    have n3 : j ≠ p := fun z => ne j h1.hj (by rw [z]; exact h2.hi)
    have n4 : j ≠ q := fun z => ne j h1.hj (by rw [z]; exact h2.hj)
    have fin : ∀ (a b c d m1 m2 : Int), c ≠ m2 → (neM (stepB 0 3 2 [a, b, c, d]) [m1, m2]) = .ok true := by
      intro a b c d m1 m2 h
      rw [step3, neM_ok, decide_eq_false]
      · rfl
      · intro z
        simp only [List.cons.injEq] at z
        exact h z.2.1
    by_cases o : i < p
    · rw [show minPP ((i : Int), (j : Int)) ((p : Int), (q : Int)) = ((i : Int), (j : Int)) from if_neg (by simp only; omega)]
      by_cases o2 : j < p
      · rw [sort4 (a := i) (b := j) (c := p) (d := q) (by omega) (by omega) (by omega) (.refl _)]
        simp only [okB]
        rw [fin _ _ _ _ _ _ (by omega)]
        rfl
      · rw [sort4 (a := i) (b := p) (c := q) (d := j) (by omega) (by omega) (by omega) (by
          have : ([(p : Int), (q : Int)] ++ [(j : Int)]).Perm _ := List.perm_append_comm
          exact .cons _ this)]
        simp only [okB]
        rw [fin _ _ _ _ _ _ (by omega)]
        rfl
    · rw [show minPP ((i : Int), (j : Int)) ((p : Int), (q : Int)) = ((p : Int), (q : Int)) from if_pos (.inl (by simp only; omega))]
      by_cases o2 : q < i
      · rw [sort4 (a := p) (b := q) (c := i) (d := j) (by omega) (by omega) (by omega) (by
          have : ([(p : Int), (q : Int)] ++ [(i : Int), (j : Int)]).Perm _ := List.perm_append_comm
          exact this)]
        simp only [okB]
        rw [fin _ _ _ _ _ _ (by omega)]
        rfl
      · rw [sort4 (a := p) (b := i) (c := j) (d := q) (by omega) (by omega) (by omega) (by
          have : ([(p : Int)] ++ [(i : Int), (j : Int)]).Perm _ := List.perm_append_comm
          exact (List.Perm.append this (.refl [(q : Int)])))]
        simp only [okB]
        rw [fin _ _ _ _ _ _ (by omega)]
        rfl
theorem done1_ok {l : List Nat} {x y : Str} (h : NoL l x) : mir_Swap__done (swpI x y) (tx l) = .ok (.inr ⟨"NoLetter", some ("letter", .s x)⟩) := by
  unfold mir_Swap__done
  simp only [pureB, bindA]
  rw [obOne]
  simp only [okB]
  rw [none_ok h]
  rfl
theorem done2_ok {l : List Nat} {c i j : Nat} {x : Str} (hc : Two l c i j) (h : NoL l x) : mir_Swap__done (swpI (sgS c) x) (tx l) = .ok (.inr ⟨"NoLetter", some ("letter", .s x)⟩) := by
  unfold mir_Swap__done
  simp only [pureB, bindA]
  rw [obOne, obOther]
  simp only [okB]
  rw [placesP_ok hc]
  simp only [okB, raiseD]
  rw [none_ok h]
  rfl
end Law

/-! ## k52 -/
namespace Law
open PySem Ty Gf L2
/-- the spots of two letters -/
theorem spots2_eq {l : List Nat} {c d : Nat} {ks : List Nat} (hl : l.length ≤ 1000) (hs : ks.Pairwise (· < ·)) (hk : ∀ k : Nat, k ∈ ks ↔ l[k]? = some c ∨ l[k]? = some d) : compM (enumL (l.map sgS)) (fun a => (lstM [sgS c, sgS d] >>= fun b => Pure.pure (Tu.mk b)) >>= fun b => (Pure.pure (decide (a.2 ∈ b.l)) : M Bool)) (fun a => Pure.pure a.1) = .ok (ks.map fun k : Nat => (k : Int)) := by
  have sgl : l.map sgS = row l.length fun k => sgS (l.getD k 0) := by
    conv => lhs; rw [row_of l]
    unfold row
    rw [List.map_map]; rfl
  rw [sgl, enum_row, compM_fm (f := fun a : Int × Str => Pure.pure a.1) (fun a => decide (a.2 = sgS c ∨ a.2 = sgS d)) (fun a => a.1) (by rw [row_len]; omega) (fun a _ => by
    rw [lstM_ok (by simp)]
    simp only [okB, pureB]
    show Except.ok _ = Except.ok _
    congr 1
    refine decide_eq_decide.mpr ?_
    show a.2 ∈ [sgS c, sgS d] ↔ _
    simp) (fun _ _ _ => rfl)]
  congr 1
  unfold row
  rw [List.filter_map, List.map_map]
  rw [show (List.range l.length).filter ((fun a : Int × Str => decide (a.2 = sgS c ∨ a.2 = sgS d)) ∘ fun k : Nat => ((k : Int), sgS (l.getD k 0))) = ks from by
    refine up_nat (List.Pairwise.filter _ List.pairwise_lt_range) hs fun k => ?_
    rw [hk, List.mem_filter, List.mem_range]
    show (_ ∧ decide (sgS (l.getD k 0) = sgS c ∨ sgS (l.getD k 0) = sgS d) = true) ↔ _
    rw [decide_eq_true_iff]
    by_cases h : k < l.length
    · rw [List.getD_eq_getElem?_getD, List.getElem?_eq_getElem h]
      constructor
      · rintro ⟨_, e | e⟩
        · exact .inl (congrArg some (sg_inj e))
        · exact .inr (congrArg some (sg_inj e))
      · rintro (e | e)
        · injection e with e; exact ⟨h, .inl (by rw [← e]; rfl)⟩
        · injection e with e; exact ⟨h, .inr (by rw [← e]; rfl)⟩
    · rw [List.getElem?_eq_none (by omega)]
      constructor
      · rintro ⟨h', _⟩; exact absurd h' h
      · rintro (e | e) <;> cases e]
  rfl
theorem atS_at {l : List Nat} {k c : Nat} (hl : l.length ≤ 1000) (h : l[k]? = some c) : atS (tx l) (k : Int) = .ok (sgS c) := by
  obtain ⟨h1, h2⟩ := List.getElem?_eq_some_iff.mp h
  rw [atS_ok (by omega) (by omega) (by omega), Int.toNat_natCast, List.getD_eq_getElem?_getD, h]
  rfl
theorem sg_ne {c d : Nat} (h : c ≠ d) : decide (sgS c = sgS d) = false := decide_eq_false fun e => h (sg_inj e)
theorem two_mem {l : List Nat} {c i j : Nat} (h : Two l c i j) (k : Nat) : l[k]? = some c ↔ k = i ∨ k = j := ⟨h.only k, fun e => by rcases e with rfl | rfl; exact h.hi; exact h.hj⟩
theorem dueN_ok {l : List Nat} {c d i j p q : Nat} (hl : l.length ≤ 1000) (h1 : Two l c i j) (h2 : Two l d p q) (h : ¬ (i < p ∧ p < j ∧ j < q)) (h' : ¬ (p < i ∧ i < q ∧ q < j)) : mir__law_due (tx l) (sgS c) (sgS d) = .ok none := by
  have l1 := h1.lt
  have l2 := h2.lt
  unfold mir__law_due
  simp only [pureB, bindA]
  rw [sgs]
  by_cases e : c = d
  · subst e
    obtain ⟨rfl, rfl⟩ := h1.uniq h2
    have := spots2_eq (l := l) (c := c) (d := c) (ks := [i, j]) hl (by simp only [List.pairwise_cons, List.mem_cons, List.not_mem_nil, or_false, List.Pairwise.nil, and_true]; exact ⟨by rintro x rfl; omega, fun _ h => h.elim⟩) (fun k => by rw [two_mem h1]; simp)
    simp only [pureB, bindA] at this
    rw [this]
    simp only [okB]
    rfl
  · have ne : ∀ k : Nat, l[k]? = some c → l[k]? = some d → False := fun k e1 e2 => e (by rw [e1] at e2; injection e2)
    have n1 : i ≠ p := fun z => ne i h1.hi (by rw [z]; exact h2.hi)
    have n2 : i ≠ q := fun z => ne i h1.hi (by rw [z]; exact h2.hj)
    have n3 : j ≠ p := fun z => ne j h1.hj (by rw [z]; exact h2.hi)
    have n4 : j ≠ q := fun z => ne j h1.hj (by rw [z]; exact h2.hj)
    have fin : ∀ (s0 s1 s2 s3 a b : Nat), s0 < s1 → s1 < s2 → s2 < s3 → (∀ k, k ∈ [s0, s1, s2, s3] ↔ (k = i ∨ k = j) ∨ (k = p ∨ k = q)) → l[s0]? = some a → (l[s1]? = some a ∨ (l[s2]? = some b ∧ b ≠ a ∧ l[s1]? = some b)) → (∃ ks : List Nat, ks = [s0, s1, s2, s3] ∧ compM (enumL (l.map sgS)) (fun a => (lstM [sgS c, sgS d] >>= fun b => Pure.pure (Tu.mk b)) >>= fun b => (Pure.pure (decide (a.2 ∈ b.l)) : M Bool)) (fun a => Pure.pure a.1) = .ok (ks.map fun k : Nat => (k : Int))) := by
      intro s0 s1 s2 s3 a b q1 q2 q3 hk e0 e1
      exact ⟨_, rfl, spots2_eq hl (by
        simp only [List.pairwise_cons, List.mem_cons, List.not_mem_nil, or_false, List.Pairwise.nil, and_true]
        refine ⟨?_, ?_, ?_, fun _ h => h.elim⟩
        · rintro x (rfl | rfl | rfl) <;> omega
        · rintro x (rfl | rfl) <;> omega
        · rintro x rfl; omega) fun k => by rw [hk, two_mem h1, two_mem h2]⟩
    have main : ∃ s0 s1 s2 s3 a b : Nat, s0 < s1 ∧ s1 < s2 ∧ s2 < s3 ∧ (∀ k, k ∈ [s0, s1, s2, s3] ↔ (k = i ∨ k = j) ∨ (k = p ∨ k = q)) ∧ l[s0]? = some a ∧ (l[s1]? = some a ∨ (l[s2]? = some b ∧ b ≠ a ∧ l[s1]? = some b)) := by
      by_cases o : i < p
      · by_cases o2 : j < p
        · exact ⟨i, j, p, q, c, d, by omega, by omega, by omega, fun k => by simp only [List.mem_cons, List.not_mem_nil, or_false]; omega, h1.hi, .inl h1.hj⟩
        · exact ⟨i, p, q, j, c, d, by omega, by omega, by omega, fun k => by simp only [List.mem_cons, List.not_mem_nil, or_false]; omega, h1.hi, .inr ⟨h2.hj, Ne.symm e, h2.hi⟩⟩
      · by_cases o2 : q < i
        · exact ⟨p, q, i, j, d, c, by omega, by omega, by omega, fun k => by simp only [List.mem_cons, List.not_mem_nil, or_false]; omega, h2.hi, .inl h2.hj⟩
        · exact ⟨p, i, j, q, d, c, by omega, by omega, by omega, fun k => by simp only [List.mem_cons, List.not_mem_nil, or_false]; omega, h2.hi, .inr ⟨h1.hj, e, h1.hi⟩⟩
    obtain ⟨s0, s1, s2, s3, a, b, q1, q2, q3, hk, e0, e1⟩ := main
    obtain ⟨_, rfl, this⟩ := fin s0 s1 s2 s3 a b q1 q2 q3 hk e0 e1
    simp only [pureB, bindA] at this
    rw [this]
    simp only [okB]
    rw [show atM ([s0, s1, s2, s3].map fun k : Nat => (k : Int)) 0 = .ok (s0 : Int) from rfl, show atM ([s0, s1, s2, s3].map fun k : Nat => (k : Int)) 1 = .ok (s1 : Int) from rfl, show atM ([s0, s1, s2, s3].map fun k : Nat => (k : Int)) 2 = .ok (s2 : Int) from rfl]
    simp only [okB]
    rw [show decide (((([s0, s1, s2, s3].map fun k : Nat => (k : Int)).length : Nat) : Int) = 4) = true from rfl, atS_at hl e0]
    rcases e1 with e1 | ⟨e2, nb, e1⟩
    · rw [atS_at hl e1]
      simp only [okB, bOr, pureB, decide_true, Bool.not_true, Bool.false_eq_true, if_false, if_true, thenC]
      rfl
    · rw [atS_at hl e1, atS_at hl e2]
      simp only [okB, bOr, pureB, sg_ne nb.symm, Bool.not_true, Bool.false_eq_true, if_false, if_true, Bool.not_false]
      rfl
theorem due_ok {A B C D E : List Nat} {x y one other : Nat} (h : Alt A B C D E x y) (hl : (wd A B C D E x y).length ≤ 1000) (ho : (one = x ∧ other = y) ∨ (one = y ∧ other = x)) : mir__law_due (tx (wd A B C D E x y)) (sgS one) (sgS other) = .ok (some (tx (wd A D C B E x y))) := by
  have e := wd_len A B C D E x y
  have h1 := h.twoX
  have h2 := h.twoY
  have this := spots2_eq (l := wd A B C D E x y) (c := one) (d := other) (ks := [A.length, A.length + B.length + 1, A.length + B.length + C.length + 2, A.length + B.length + C.length + D.length + 3]) hl (by
    simp only [List.pairwise_cons, List.mem_cons, List.not_mem_nil, or_false, List.Pairwise.nil, and_true]
    refine ⟨?_, ?_, ?_, fun _ h => h.elim⟩
    · rintro x (rfl | rfl | rfl) <;> omega
    · rintro x (rfl | rfl) <;> omega
    · rintro x rfl; omega) fun k => by
    rcases ho with ⟨rfl, rfl⟩ | ⟨rfl, rfl⟩ <;> rw [two_mem h1, two_mem h2] <;> simp only [List.mem_cons, List.not_mem_nil, or_false] <;> omega
  unfold mir__law_due
  simp only [pureB, bindA] at this ⊢
  rw [sgs, this]
  simp only [okB]
  generalize hK : ([A.length, A.length + B.length + 1, A.length + B.length + C.length + 2, A.length + B.length + C.length + D.length + 3].map fun k : Nat => (k : Int)) = K
  have k0 : atM K 0 = .ok (A.length : Int) := by rw [← hK]; rfl
  have k1 : atM K 1 = .ok ((A.length + B.length + 1 : Nat) : Int) := by rw [← hK]; rfl
  have k2 : atM K 2 = .ok ((A.length + B.length + C.length + 2 : Nat) : Int) := by rw [← hK]; rfl
  have k3 : atM K 3 = .ok ((A.length + B.length + C.length + D.length + 3 : Nat) : Int) := by rw [← hK]; rfl
  have kl : decide ((K.length : Int) = 4) = true := by rw [← hK]; rfl
  rw [k0, k1, k2, k3, kl]
  simp only [okB]
  rw [atS_at hl h1.hi, atS_at hl h2.hi, atS_at hl h1.hj]
  simp only [okB, bOr, pureB, sg_ne h.ne, decide_true, Bool.not_true, Bool.false_eq_true, if_false]
  rw [show (A.length : Int) + 1 = ((A.length + 1 : Nat) : Int) by omega, cutS_to (by omega), Nat.min_eq_left (by omega), wd_cut1]
  simp only [okB]
  rw [lstM_ok (by simp)]
  simp only [okB]
  rw [range1_ok (by decide) (by decide)]
  simp only [okB]
  have c1 : cutSM (tx (wd A B C D E x y)) (some ((A.length + 1 : Nat) : Int)) (some ((A.length + B.length + 1 : Nat) : Int)) = .ok (tx B) := by
    rw [cutS_ok (by omega), Nat.min_eq_left (by omega), Nat.min_eq_left (by omega)]
    rw [show wd A B C D E x y = (A ++ [x]) ++ (B ++ y :: (C ++ x :: (D ++ y :: E))) by simp [wd]]
    rw [cut_mid _ _ _ (by simp) (by simp; omega)]
  have c2 : cutSM (tx (wd A B C D E x y)) (some (((A.length + B.length + 1 : Nat) : Int) + 1)) (some ((A.length + B.length + C.length + 2 : Nat) : Int)) = .ok (tx C) := by
    rw [show ((A.length + B.length + 1 : Nat) : Int) + 1 = ((A.length + B.length + 2 : Nat) : Int) by omega, cutS_ok (by omega), Nat.min_eq_left (by omega), Nat.min_eq_left (by omega)]
    rw [show wd A B C D E x y = (A ++ x :: (B ++ [y])) ++ (C ++ (x :: (D ++ y :: E))) by simp [wd]]
    rw [cut_mid _ _ _ (by simp; omega) (by simp; omega)]
  have c3 : cutSM (tx (wd A B C D E x y)) (some (((A.length + B.length + C.length + 2 : Nat) : Int) + 1)) (some ((A.length + B.length + C.length + D.length + 3 : Nat) : Int)) = .ok (tx D) := by
    rw [show ((A.length + B.length + C.length + 2 : Nat) : Int) + 1 = ((A.length + B.length + C.length + 3 : Nat) : Int) by omega, cutS_ok (by omega), Nat.min_eq_left (by omega), Nat.min_eq_left (by omega)]
    rw [show wd A B C D E x y = (A ++ x :: (B ++ y :: (C ++ [x]))) ++ (D ++ y :: E) by simp [wd]]
    rw [cut_mid _ _ _ (by simp; omega) (by simp; omega)]
  have ap : ∀ (xs : List Str) (a : Str), xs.length < 1000 → appM xs a = .ok (xs ++ [a]) := fun xs a h => appM_ok (by omega)
  rw [show rangeL 0 3 = [(0 : Int), 1, 2] from by decide +kernel]
  rw [loop_nx (s' := [tx (A ++ [x])] ++ [tx B]) (by
    rw [show (0 : Int) + 1 = 1 from rfl, k0, k1]
    simp only [okB]
    rw [show (A.length : Int) + 1 = ((A.length + 1 : Nat) : Int) by omega, c1]
    simp only [okB]
    rw [ap _ _ (by simp)]
    rfl), loop_nx (s' := [tx (A ++ [x])] ++ [tx B] ++ [tx C]) (by
    rw [show (1 : Int) + 1 = 2 from rfl, k2, k1]
    simp only [okB]
    rw [c2]
    simp only [okB]
    rw [ap _ _ (by simp)]
    rfl), loop_nx (s' := [tx (A ++ [x])] ++ [tx B] ++ [tx C] ++ [tx D]) (by
    rw [show (2 : Int) + 1 = 3 from rfl, k2, k3]
    simp only [okB]
    rw [c3]
    simp only [okB]
    rw [ap _ _ (by simp)]
    rfl), loop_no]
  simp only [okB, thenL]
  rw [show atM ([tx (A ++ [x])] ++ [tx B] ++ [tx C] ++ [tx D]) 2 = .ok (tx C) from rfl, show atM ([tx (A ++ [x])] ++ [tx B] ++ [tx C] ++ [tx D]) 0 = .ok (tx (A ++ [x])) from rfl, show atM ([tx (A ++ [x])] ++ [tx B] ++ [tx C] ++ [tx D]) 1 = .ok (tx B) from rfl, show atM ([tx (A ++ [x])] ++ [tx B] ++ [tx C] ++ [tx D]) 3 = .ok (tx D) from rfl]
  simp only [okB]
  rw [tx_sg, tx_sg, addS_ok (by simp; omega)]
  simp only [okB]
  rw [addS_ok (by simp; omega)]
  simp only [okB]
  rw [addS_ok (by simp; omega)]
  simp only [okB]
  rw [addS_ok (by simp; omega)]
  simp only [okB]
  rw [addS_ok (by simp; omega)]
  simp only [okB]
  rw [cutS_from (by omega), Nat.min_eq_left (by omega)]
  simp only [okB]
  rw [show (wd A B C D E x y).drop (A.length + B.length + C.length + D.length + 3) = y :: E from by
    rw [show wd A B C D E x y = (A ++ x :: (B ++ y :: (C ++ x :: D))) ++ (y :: E) by simp [wd]]
    exact cut_end _ _ (by simp; omega)]
  rw [addS_ok (by simp; omega)]
  simp only [okB]
  rw [show A ++ [x] ++ D ++ ([y] ++ C ++ [x]) ++ B ++ y :: E = wd A D C B E x y by simp [wd]]
  rfl
theorem toldS_ok {one other w r : Str} (h : mir_Swap__done (swpI one other) w = .ok (.inl r)) : mir__law_told one other w = .ok (.s r) := by
  unfold mir__law_told
  simp only [pureB, bindA]
  rw [obOne, obOther, show obN.contains "Swap" = true by decide +kernel, show exLk obT "Swap" "Change" = some true by decide +kernel, show gd true = .ok () from rfl, show (ofO (some true) : M Bool) = .ok true from rfl]
  simp only [okB, bOr, bNot, pureB, Bool.not_true, Bool.false_eq_true, if_false, decide_true]
  rw [show (gd (true && (List.lookup ("done" : Str) ([("one", Pvl.pv one), ("other", Pvl.pv other)] : List (Str × PV))).isNone) : M Unit) = .ok () from rfl]
  simp only [okB]
  rw [h]
  rfl
theorem toldX_ok {one other w : Str} (h : mir_Swap__done (swpI one other) w = .ok (.inr ⟨"NoCross", none⟩)) : mir__law_told one other w = .ok (.l [true, false, true]) := by
  have e1 : exLk exT "NoCross" "NoCross" = some true := by decide +kernel
  have e2 : exLk exT "NoCross" "ValueError" = some true := by decide +kernel
  have e3 : exLk exT "NoCross" "NoLetter" = some false := by decide +kernel
  have e5 : (exY.contains "NoCross" && decide (exLk exT "NoCross" "RoundError" = some true)) = true := by decide +kernel
  unfold mir__law_told
  simp only [pureB, bindA]
  rw [obOne, obOther, show obN.contains "Swap" = true by decide +kernel, show exLk obT "Swap" "Change" = some true by decide +kernel, show gd true = .ok () from rfl, show (ofO (some true) : M Bool) = .ok true from rfl]
  simp only [okB, bOr, bNot, pureB, Bool.not_true, Bool.false_eq_true, if_false, decide_true]
  rw [show (gd (true && (List.lookup ("done" : Str) ([("one", Pvl.pv one), ("other", Pvl.pv other)] : List (Str × PV))).isNone) : M Unit) = .ok () from rfl]
  simp only [okB]
  rw [h]
  simp only [okB, tryCY, jOf]
  rw [e1, e2, e3, e5]
  simp only [okB, ofO, pureB, show gd true = .ok () from rfl]
  rw [lstM_ok (by simp)]
  rfl
theorem toldL_ok {one other w x : Str} (h : mir_Swap__done (swpI one other) w = .ok (.inr ⟨"NoLetter", some ("letter", .s x)⟩)) : mir__law_told one other w = .ok (.l [false, true, true]) := by
  have e1 : exLk exT "NoLetter" "NoCross" = some false := by decide +kernel
  have e2 : exLk exT "NoLetter" "ValueError" = some true := by decide +kernel
  have e3 : exLk exT "NoLetter" "NoLetter" = some true := by decide +kernel
  have e5 : (exY.contains "NoLetter" && decide (exLk exT "NoLetter" "RoundError" = some true)) = true := by decide +kernel
  unfold mir__law_told
  simp only [pureB, bindA]
  rw [obOne, obOther, show obN.contains "Swap" = true by decide +kernel, show exLk obT "Swap" "Change" = some true by decide +kernel, show gd true = .ok () from rfl, show (ofO (some true) : M Bool) = .ok true from rfl]
  simp only [okB, bOr, bNot, pureB, Bool.not_true, Bool.false_eq_true, if_false, decide_true]
  rw [show (gd (true && (List.lookup ("done" : Str) ([("one", Pvl.pv one), ("other", Pvl.pv other)] : List (Str × PV))).isNone) : M Unit) = .ok () from rfl]
  simp only [okB]
  rw [h]
  simp only [okB, tryCY, jOf]
  rw [e1, e2, e3, e5]
  simp only [okB, ofO, pureB, show gd true = .ok () from rfl]
  rw [lstM_ok (by simp)]
  rfl
theorem letter_ok {one other w x : Str} (h : mir_Swap__done (swpI one other) w = .ok (.inr ⟨"NoLetter", some ("letter", .s x)⟩)) : mir__law_letter one other w = .ok (some x) := by
  have e5 : (exY.contains "NoLetter" && decide (exLk exT "NoLetter" "NoLetter" = some true)) = true := by decide +kernel
  unfold mir__law_letter
  simp only [pureB, bindA]
  rw [show (gd (decide True && (List.lookup ("done" : Str) ([("one", Pvl.pv one), ("other", Pvl.pv other)] : List (Str × PV))).isNone) : M Unit) = .ok () from rfl]
  simp only [okB]
  rw [h]
  simp only [okB, tryCY]
  rw [e5]
  rfl
theorem law_true (ns : List Int) (hl : ns.length ≤ 63) : mir_law ⟨ns⟩ = .ok true := by
  apply Ev.eq
  unfold mir_law
  simp only [pureB, bindA]
  refine Ev.run (Ev.bind (mixed_ok (k := 12) (by decide)) ?_)
  rintro _ ⟨g, m, rfl, m1, m2, hg⟩
  refine Ev.bind (mword_ok (by omega) hg) ?_
  rintro _ ⟨l, n, rfl, R⟩
  have hlen := R.len
  have hn := R.n10
  have hn1 := R.n1
  have hcl := R.few
  have g11 := hg 11 (by omega)
  have es : sortTxtM (tx l) = .ok ((cs l).map sgS) := by
    unfold sortTxtM
    rw [tx_len, decide_eq_true (by omega)]; rfl
  rw [es]
  simp only [okB]
  refine Ev.loopR (fun _ _ => True) True.intro ?_ ?_
  · rintro pre one post _ e -
    obtain ⟨c, hc, rfl⟩ := List.mem_map.mp (show one ∈ (cs l).map sgS by rw [e]; simp)
    obtain ⟨i, j, h1⟩ := two_of_count (R.two c (mem_cs.mp hc))
    refine Ev.loopR (fun _ _ => True) True.intro ?_ ?_
    · rintro pre2 other post2 _ e2 -
      obtain ⟨d, hd, rfl⟩ := List.mem_map.mp (show other ∈ (cs l).map sgS by rw [e2]; simp)
      obtain ⟨p, q, h2⟩ := two_of_count (R.two d (mem_cs.mp hd))
      have cross : ∀ (A B C D E : List Nat) (x y : Nat), l = wd A B C D E x y → Alt A B C D E x y → ((c = x ∧ d = y) ∨ (c = y ∧ d = x)) → ∃ r, mir__law_due (tx l) (sgS c) (sgS d) = .ok (some r) ∧ mir__law_told (sgS c) (sgS d) (tx l) = .ok (.s r) ∧ mir_Swap__done (swpI (sgS c) (sgS d)) r = .ok (.inl (tx l)) := by
        rintro A B C D E x y rfl ha ho
        have w1 := wd_len A B C D E x y
        have w2 := wd_len A D C B E x y
        exact ⟨_, due_ok ha (by omega) ho, toldS_ok (done_ok ha (by omega) ho), done_ok ha.sw (by omega) ho⟩
      have cr2 : ((i < p ∧ p < j ∧ j < q) ∨ (p < i ∧ i < q ∧ q < j)) → ∃ r, mir__law_due (tx l) (sgS c) (sgS d) = .ok (some r) ∧ mir__law_told (sgS c) (sgS d) (tx l) = .ok (.s r) ∧ mir_Swap__done (swpI (sgS c) (sgS d)) r = .ok (.inl (tx l)) := by
        rintro (⟨a1, a2, a3⟩ | ⟨a1, a2, a3⟩)
        · obtain ⟨A, B, C, D, E, el, ha, -⟩ := alt_of h1 h2 a1 a2 a3
          exact cross A B C D E c d el ha (.inl ⟨rfl, rfl⟩)
        · obtain ⟨A, B, C, D, E, el, ha, -⟩ := alt_of h2 h1 a1 a2 a3
          exact cross A B C D E d c el ha (.inr ⟨rfl, rfl⟩)
      by_cases o : (i < p ∧ p < j ∧ j < q) ∨ (p < i ∧ i < q ∧ q < j)
      · obtain ⟨r, d1, d2, d3⟩ := cr2 o
        rw [d1, d2]
        simp only [okB, Option.isNone_some, Option.isSome_some, bAnd, bOr, bNot, pureB, Bool.false_eq_true, if_false, if_true, jS, ofO, Bool.not_true, decide_true]
        rw [show (gd (true && (List.lookup ("done" : Str) ([("one", Pvl.pv (sgS c)), ("other", Pvl.pv (sgS d))] : List (Str × PV))).isNone) : M Unit) = .ok () from rfl]
        simp only [okB]
        rw [d3]
        simp only [okB, noY, pureB, decide_true, Bool.not_true, Bool.false_eq_true, if_false]
        exact Ev.ok (.inl ⟨(), .inl rfl, True.intro⟩)
      · have o1 : ¬ (i < p ∧ p < j ∧ j < q) := fun z => o (.inl z)
        have o2 : ¬ (p < i ∧ i < q ∧ q < j) := fun z => o (.inr z)
        rw [dueN_ok (by omega) h1 h2 o1 o2, toldX_ok (donex_ok h1 h2 o1 o2)]
        simp only [okB, Option.isNone_none, Option.isSome_none, bAnd, bOr, bNot, pureB, Bool.false_eq_true, if_false, if_true, jL]
        rw [lstM_ok (by simp)]
        simp only [okB]
        rw [neM_ok, decide_eq_true rfl]
        exact Ev.ok (.inl ⟨(), .inl rfl, True.intro⟩)
    · intro _ _
      exact Ev.ok (.inl ⟨(), .inl rfl, True.intro⟩)
  intro _ _
  obtain ⟨d, ed, hd, hd2⟩ := strange_ok R
  rw [ed]
  simp only [okB]
  rw [atM_row (by omega) (by omega), show (11 : Int).toNat = 11 from rfl]
  simp only [okB]
  have lc : ((cs l).map sgS).length = n := by rw [List.length_map]; exact hcl
  rw [lc, modM_ok (by omega)]
  simp only [okB]
  have b0 := Int.emod_nonneg (g 11) (show (n : Int) ≠ 0 by omega)
  have b1 := Int.emod_lt_of_pos (g 11) (show (0 : Int) < n by omega)
  obtain ⟨k, hk⟩ : ∃ k : Nat, g 11 % (n : Int) = (k : Int) := ⟨(g 11 % (n : Int)).toNat, by omega⟩
  rw [hk] at b1 ⊢
  rw [atM_ok (by omega) (by rw [lc]; omega)]
  simp only [okB]
  obtain ⟨c, hc, ec⟩ : ∃ c, c ∈ cs l ∧ ((cs l).map sgS).getD ((k : Int).toNat) default = sgS c := by
    refine ⟨(cs l)[k]'(by omega), List.getElem_mem _, ?_⟩
    rw [Int.toNat_natCast, List.getD_eq_getElem?_getD, List.getElem?_map, List.getElem?_eq_getElem (by omega)]
    rfl
  rw [ec]
  have hc := mem_cs.mp hc
  obtain ⟨i, j, h2⟩ := two_of_count (R.two c hc)
  rw [lenS_ok (by omega)]
  simp only [okB]
  rw [modM_ok (by omega)]
  simp only [okB]
  have d0 := Int.emod_nonneg (g 11 / 32) (show (l.length : Int) - 1 ≠ 0 by omega)
  have d1 := Int.emod_lt_of_pos (g 11 / 32) (show (0 : Int) < (l.length : Int) - 1 by omega)
  obtain ⟨a, ha⟩ : ∃ a : Nat, g 11 / 32 % ((l.length : Int) - 1) = (a : Int) := ⟨(g 11 / 32 % ((l.length : Int) - 1)).toNat, by omega⟩
  rw [ha] at d1 ⊢
  rw [show (a : Int) + 2 = ((a + 2 : Nat) : Int) by omega, cutS_ok (by omega), Nat.min_eq_left (by omega), Nat.min_eq_left (by omega), up_ok (R.low _ hc)]
  simp only [okB]
  rw [lstM_ok (by show 5 ≤ 1000; decide)]
  simp only [okB]
  have hno : ∀ x ∈ ([sgS d, ("" : Str), tx ((l.drop a).take (a + 2 - a)), tx l, sgS (c - 32)] : List Str), NoL l x := by
    have hl1 : ∀ k, k < 97 → k ∉ l := fun k hk h => by have := R.low k h; omega
    intro x hx
    simp only [List.mem_cons, List.not_mem_nil, or_false] at hx
    rcases hx with rfl | rfl | rfl | rfl | rfl
    · exact ⟨[d], rfl, by show 1 ≤ 1000; decide, .inr ⟨_, rfl, hd⟩⟩
    · exact ⟨[], rfl, by decide, .inl (by decide)⟩
    · exact ⟨_, rfl, by rw [List.length_take, List.length_drop]; omega, .inl (by rw [List.length_take, List.length_drop]; omega)⟩
    · exact ⟨l, rfl, by omega, .inl (by omega)⟩
    · exact ⟨[c - 32], rfl, by show 1 ≤ 1000; decide, .inr ⟨_, rfl, hl1 _ (by have := R.low _ hc; omega)⟩⟩
  refine Ev.loopR (fun _ _ => True) True.intro ?_ ?_
  · rintro pre x post _ e -
    have hx := hno x (by rw [e]; simp)
    rw [lstM_ok (by simp)]
    simp only [okB]
    have one : ∀ y z : Str, mir_Swap__done (swpI y z) (tx l) = .ok (.inr ⟨"NoLetter", some ("letter", .s x)⟩) → ∀ u : Str × Str, u = (y, z) → Ev (bOr (mir__law_told u.1 u.2 (tx l) >>= fun a => jL a >>= fun a => lstM [false, true, true] >>= fun b => neM a b) (mir__law_letter u.1 u.2 (tx l) >>= fun a => ofO a >>= fun a => Pure.pure (!decide (a = x)))) fun b => b = false := by
      rintro y z h u rfl
      rw [toldL_ok h, letter_ok h]
      simp only [okB, jL, ofO, bOr, pureB, decide_true]
      rw [lstM_ok (by simp)]
      simp only [okB]
      rw [neM_ok, decide_eq_true rfl]
      exact Ev.ok rfl
    refine Ev.loopR (fun _ _ => True) True.intro ?_ ?_
    · rintro pre2 u post2 _ e2 -
      have hu : u ∈ [(x, sgS c), (sgS c, x), (x, sgS d)] := by rw [e2]; simp
      simp only [List.mem_cons, List.not_mem_nil, or_false] at hu
      refine Ev.bind (P := fun b => b = false) ?_ ?_
      · rcases hu with hu | hu | hu
        · exact one _ _ (done1_ok hx) u hu
        · exact one _ _ (done2_ok h2 hx) u hu
        · exact one _ _ (done1_ok hx) u hu
      · rintro _ rfl
        exact Ev.ok (.inl ⟨(), .inl rfl, True.intro⟩)
    · intro _ _
      exact Ev.ok (.inl ⟨(), .inl rfl, True.intro⟩)
  · intro _ _
    exact Ev.ok ⟨_, rfl, rfl⟩
end Law

open PySem PySem.W PySem.Calls PyProof.Rows
set_option maxRecDepth 100000 in
set_option maxHeartbeats 0 in
theorem PySem.Challenge.cw_fourway_k52_swap_of_two_letters_holds : PySem.Challenge.rw_fourway_k52_swap_of_two_letters.Holds := by
  w_on; o_law
  refine HandSHeadRun.head_any (r := OpenLaw.row PySem.Challenge.rw_fourway_k52_swap_of_two_letters) (q := view (OpenLaw.row PySem.Challenge.rw_fourway_k52_swap_of_two_letters).prog [17]) (H := Law.hk) (ob := Law.ob) (M := 4000) (loose := (["_wall", "RoundError", "NoLetter", "NoCross", "places_of", "Change", "Swap", "_law_mixed", "_law_word", "_law_strange", "_law_due", "_law_told", "_law_letter"] : List PySem.Str)) (d := HandSHeadRun.topDef (OpenLaw.row PySem.Challenge.rw_fourway_k52_swap_of_two_letters).prog 17) (kwd := []) Law.ob_eq
    (by kernel_rfl) (fun s => by kernel_rfl) Law.run (by kernel_rfl) (by kernel_rfl) (by kernel_rfl) (by rfl) (by first | assumption | decide +kernel) (by decide +kernel) ⟨rfl, rfl, rfl, rfl, rfl, by decide +kernel⟩ ?hw ?hc
  case hw => w_witness2
  case hc =>
    refine L2.walk_ofE (l := PySem.Challenge.rw_fourway_k52_swap_of_two_letters) (n := 63) (k := 6) (x := "_law_script") (CX := L2.CX0) rfl (by decide) (by kernel_rfl) ⟨rfl, by decide, by decide⟩ ?F (fun _ _ _ _ z => z)
    intro w mg fa h Y G hmg0
    obtain ⟨K, KX, c⟩ := Y
    have hmg : mg ("law" : PySem.Str) = some (.ref fa) := by
      have e : (HandSHeadRun.topDef (OpenLaw.row PySem.Challenge.rw_fourway_k52_swap_of_two_letters).prog 17).name = ("law" : PySem.Str) := by kernel_rfl
      rw [← e]
      exact hmg0
    obtain ⟨fd, hb, hF⟩ := Law.facts (P := (PySem.Challenge.rw_fourway_k52_swap_of_two_letters).prog) (w := w) KX G hmg c
    exact ⟨K, fd, Law.sp_law K, KX, hb, fun H a ns hl _ hS => Ty.law_start (Law.law_true ns hl) hS, hF⟩

