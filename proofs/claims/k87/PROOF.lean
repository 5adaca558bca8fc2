import PyProof.Rows.All
import Wide.All
import OpenK.AllK
import Wide.FinOn
import HandS.ForMost
import HandS.IsInst
import HandS.Wide
import HandS.Defaults
import HandS.More
import HandS.WordsExc
import HandS.Conv
import HandS.SortInts
import HandS.NoneIn
import HandS.HeadHook4
import HandS.TupLe
import HandS.Zip
import HandS.WordsDict
import HandS.Rev
import HandS.Exc
import HandS.ExcOwn
import HandS.ExcIs
import HandS.HeadHook1
import HandS.SetFor
import HandS.Strs
import HandS.Deep
import HandS.HotCalls
import HandS.StrMore
import HandS.ExcInit
import HandS.ExcField
import KE.KExcIs
import HandS.Head0
import HandS.Head1
import HandS.Head2
import HandS.HeadEnd
import HandS.HeadHook2
import HandS.HeadNt
import HandS.EndBits
import PyProof.ListStr
import KE.KRevSl
import HandS.Style
import KE.DatumOrd
import HandS.SetKeys
import HandS.RevTup
import PyProof.JoinWalk
import PyProof.Rows.CountFlat
import PyProof.CollectStr
import KE.KDictZip
import HandS.RevRange
import PyProof.FactsAll.range_iterator_1
import KE.KDictList
import KE.KDictSum
import KE.DataMinMax
import KE.SortData
import PyProof.TupleOfSeq
import PyProof.EqAt
import HandS.CallLocal
import HandS.CallSlots
import KE.KDictDisplayH
import KE.KSortTupG
import KE.KSortTupUse
import HandS.TupSets
import KE.GoesMore
import HandS.HeadHook3
import KE.OsArith
import PyProof.StrLawsLast
import PyProof.StrLawsFirst
import PySem.Challenge.RW_fourway_k87_whole_no_word_for_the_wheel
set_option Elab.async false
set_option linter.all false
set_option maxRecDepth 100000
namespace Ty
open PySem L2

/-! ### the mirror's monad -/
inductive Err where
  | no
  | exc (c : Nat) (i : Int) (x : Str)
abbrev M := Except Err
def no {α : Type} : M α := .error .no
def gd (b : Bool) : M Unit := if b then .ok () else .error .no
def ofO {α : Type} : Option α → M α
  | some a => .ok a
  | none => .error .no
theorem bind_ok {α β : Type} {m : M α} {k : α → M β} {b : β} (h : (m >>= k) = .ok b) : ∃ a, m = .ok a ∧ k a = .ok b := by
  cases m with
  | error e => cases h
  | ok a => exact ⟨a, rfl, h⟩
theorem gd_ok {b : Bool} {u : Unit} (h : gd b = .ok u) : b = true := by
  cases b with
  | true => rfl
  | false => cases h
theorem ofO_ok {α : Type} {o : Option α} {a : α} (h : ofO o = .ok a) : o = some a := by
  cases o with
  | none => cases h
  | some x => cases h; rfl
theorem pure_ok {α : Type} {a b : α} (h : (pure a : M α) = .ok b) : a = b := by
  cases h; rfl

/-! ### what stands for a Lean value -/
class Rp (α : Type) where
  sh : PySem.W.Frag → Hp → V → α → Prop
  mono : ∀ {K : PySem.W.Frag} {H H' : Hp} {v : V} {a : α}, Same H H' → sh K H v a → sh K H' v a
/-- a value that needs no heap -/
class Fl (α : Type) extends Rp α where
  enc : α → V
  sh_iff : ∀ {K : PySem.W.Frag} {H : Hp} {v : V} {a : α}, sh K H v a ↔ v = enc a
@[reducible] def flOf {α : Type} (enc : α → V) : Fl α where
  sh _ _ v a := v = enc a
  mono _ h := h
  enc := enc
  sh_iff := Iff.rfl
instance : Fl Int := flOf V.int
instance : Fl Bool := flOf V.bl
instance : Fl Str := flOf V.str
instance : Fl Unit := flOf fun _ => V.non
instance : Fl (Option Int) := flOf fun o => match o with
  | some i => .int i
  | none => .non
instance : Fl (Option Str) := flOf fun o => match o with
  | some i => .str i
  | none => .non

def Fa {α : Type} (R : V → α → Prop) : List V → List α → Prop
  | [], [] => True
  | v :: vs, a :: as => R v a ∧ Fa R vs as
  | _, _ => False
theorem Fa.mono {α : Type} {R R' : V → α → Prop} (h : ∀ v a, R v a → R' v a) : ∀ {vs : List V} {as : List α}, Fa R vs as → Fa R' vs as
  | [], [], _ => True.intro
  | v :: vs, a :: as, ⟨x, y⟩ => ⟨h _ _ x, Fa.mono h y⟩
  | [], _ :: _, x => x.elim
  | _ :: _, [], x => x.elim
theorem Fa.len {α : Type} {R : V → α → Prop} : ∀ {vs : List V} {as : List α}, Fa R vs as → vs.length = as.length
  | [], [], _ => rfl
  | v :: vs, a :: as, ⟨_, y⟩ => congrArg (· + 1) (Fa.len y)
  | [], _ :: _, x => x.elim
  | _ :: _, [], x => x.elim
theorem Fa.get {α : Type} {R : V → α → Prop} : ∀ {vs : List V} {as : List α} {i : Nat} {v : V}, Fa R vs as → vs[i]? = some v → ∃ a, as[i]? = some a ∧ R v a
  | v :: vs, a :: as, 0, w, ⟨x, _⟩, e => by
    have e' : v = w := Option.some.inj e
    exact ⟨a, rfl, e' ▸ x⟩
  | v :: vs, a :: as, i + 1, w, ⟨_, y⟩, e => Fa.get (i := i) y e
  | [], _, _, _, _, e => by simp at e
  | _ :: _, [], _, _, x, _ => x.elim
theorem Fa.get' {α : Type} {R : V → α → Prop} : ∀ {vs : List V} {as : List α} {i : Nat} {a : α}, Fa R vs as → as[i]? = some a → ∃ v, vs[i]? = some v ∧ R v a
  | v :: vs, a :: as, 0, w, ⟨x, _⟩, e => by
    have e' : a = w := Option.some.inj e
    exact ⟨v, rfl, e' ▸ x⟩
  | v :: vs, a :: as, i + 1, w, ⟨_, y⟩, e => Fa.get' (i := i) y e
  | _, [], _, _, _, e => by simp at e
  | [], _ :: _, _, _, x, _ => x.elim
theorem Fa.append {α : Type} {R : V → α → Prop} : ∀ {vs ws : List V} {as bs : List α}, Fa R vs as → Fa R ws bs → Fa R (vs ++ ws) (as ++ bs)
  | [], _, [], _, _, h => h
  | v :: vs, _, a :: as, _, ⟨x, y⟩, h => ⟨x, Fa.append y h⟩
  | [], _, _ :: _, _, x, _ => x.elim
  | _ :: _, _, [], _, x, _ => x.elim
theorem Fa.take {α : Type} {R : V → α → Prop} : ∀ (n : Nat) {vs : List V} {as : List α}, Fa R vs as → Fa R (vs.take n) (as.take n)
  | 0, _, _, _ => by simp only [List.take_zero]; exact True.intro
  | n + 1, [], [], _ => True.intro
  | n + 1, v :: vs, a :: as, ⟨x, y⟩ => ⟨x, Fa.take n y⟩
  | _ + 1, [], _ :: _, x => x.elim
  | _ + 1, _ :: _, [], x => x.elim
theorem Fa.drop {α : Type} {R : V → α → Prop} : ∀ (n : Nat) {vs : List V} {as : List α}, Fa R vs as → Fa R (vs.drop n) (as.drop n)
  | 0, _, _, h => h
  | n + 1, [], [], _ => True.intro
  | n + 1, v :: vs, a :: as, ⟨_, y⟩ => Fa.drop n y
  | _ + 1, [], _ :: _, x => x.elim
  | _ + 1, _ :: _, [], x => x.elim
theorem Fa.set {α : Type} {R : V → α → Prop} {v : V} {a : α} (h : R v a) : ∀ {vs : List V} {as : List α} (i : Nat), Fa R vs as → Fa R (vs.set i v) (as.set i a)
  | [], [], _, _ => True.intro
  | w :: vs, b :: as, 0, ⟨_, y⟩ => ⟨h, y⟩
  | w :: vs, b :: as, i + 1, ⟨x, y⟩ => ⟨x, Fa.set h i y⟩
  | [], _ :: _, _, x => x.elim
  | _ :: _, [], _, x => x.elim
theorem Fa.reverse {α : Type} {R : V → α → Prop} : ∀ {vs : List V} {as : List α}, Fa R vs as → Fa R vs.reverse as.reverse
  | [], [], _ => True.intro
  | v :: vs, a :: as, ⟨x, y⟩ => by
    rw [List.reverse_cons, List.reverse_cons]
    exact Fa.append (Fa.reverse y) ⟨x, True.intro⟩
  | [], _ :: _, x => x.elim
  | _ :: _, [], x => x.elim
theorem Fa.rep {α : Type} {R : V → α → Prop} {vs : List V} {as : List α} (h : Fa R vs as) : ∀ k : Nat, Fa R (List.replicate k vs).flatten (List.replicate k as).flatten
  | 0 => True.intro
  | k + 1 => by
    rw [List.replicate_succ, List.replicate_succ, List.flatten_cons, List.flatten_cons]
    exact Fa.append h (Fa.rep h k)
theorem Fa.flat {α : Type} [Fl α] {K : PySem.W.Frag} {H : Hp} : ∀ {vs : List V} {as : List α}, Fa (Rp.sh K H) vs as ↔ vs = as.map Fl.enc
  | [], [] => ⟨fun _ => rfl, fun _ => True.intro⟩
  | v :: vs, a :: as => by
    show (Rp.sh K H v a ∧ Fa (Rp.sh K H) vs as) ↔ _
    rw [Fl.sh_iff, Fa.flat (vs := vs) (as := as)]
    simp
  | [], _ :: _ => ⟨fun x => x.elim, fun e => by simp at e⟩
  | _ :: _, [] => ⟨fun x => x.elim, fun e => by simp at e⟩

instance rpList {α : Type} [Rp α] : Rp (List α) where
  sh K H v as := ∃ p vs, v = .ref p ∧ H p = some (.lst vs) ∧ Fa (Rp.sh K H) vs as
  mono := fun {K H H' v a} e ⟨p, vs, h1, h2, h3⟩ => ⟨p, vs, h1, e _ _ h2, Fa.mono (fun _ _ h => Rp.mono e h) h3⟩
theorem sqT_mono {K : PySem.W.Frag} {H H' : Hp} {a : Addr} {xs : List V} (e : Same H H') (h : SqT K H a xs) : SqT K H' a xs := by
  rcases h with (h | ⟨o, h⟩) | h
  · exact .inl (.inl (e _ _ h))
  · exact .inl (.inr ⟨o, e _ _ h⟩)
  · exact .inr h
instance rpPair {α β : Type} [Rp α] [Rp β] : Rp (α × β) where
  sh K H v x := ∃ p va vb, v = .ref p ∧ SqT K H p [va, vb] ∧ Rp.sh K H va x.1 ∧ Rp.sh K H vb x.2
  mono := fun {K H H' v a} e ⟨p, va, vb, h1, h2, h3, h4⟩ => ⟨p, va, vb, h1, sqT_mono e h2, Rp.mono e h3, Rp.mono e h4⟩
structure T3 (α β γ : Type) where
  a : α
  b : β
  c : γ
  deriving DecidableEq
instance rpT3 {α β γ : Type} [Rp α] [Rp β] [Rp γ] : Rp (T3 α β γ) where
  sh K H v x := ∃ p va vb vc, v = .ref p ∧ SqT K H p [va, vb, vc] ∧ Rp.sh K H va x.a ∧ Rp.sh K H vb x.b ∧ Rp.sh K H vc x.c
  mono := fun {K H H' v a} e ⟨p, va, vb, vc, h1, h2, h3, h4, h5⟩ => ⟨p, va, vb, vc, h1, sqT_mono e h2, Rp.mono e h3, Rp.mono e h4, Rp.mono e h5⟩
/-- a tuple of things of one kind -/
structure Tu (α : Type) where
  l : List α
  deriving DecidableEq
instance rpTu {α : Type} [Rp α] : Rp (Tu α) where
  sh K H v x := ∃ p vs, v = .ref p ∧ SqT K H p vs ∧ Fa (Rp.sh K H) vs x.l
  mono := fun {K H H' v a} e ⟨p, vs, h1, h2, h3⟩ => ⟨p, vs, h1, sqT_mono e h2, Fa.mono (fun _ _ h => Rp.mono e h) h3⟩
/-- the script: a list of ints that is only read -/
structure Scr where
  l : List Int
instance : Rp Scr where
  sh K H v x := ∃ p, v = .ref p ∧ SqL K H p (x.l.map V.int)
  mono := fun e ⟨p, h1, h2⟩ => ⟨p, h1, e.seq h2⟩

/-! ### what is owned -/
structure Ow (α : Type) [Rp α] where
  rep : PySem.W.Frag → Hp → Hp → V → α → List Addr → Prop
  mono : ∀ {K : PySem.W.Frag} {HF HF' H H' : Hp} {v : V} {a : α} {fp : List Addr}, Same HF HF' → (∀ p ∈ fp, ∀ o, H p = some o → H' p = some o) → rep K HF H v a fp → rep K HF' H' v a fp
  dom : ∀ {K : PySem.W.Frag} {HF H : Hp} {v : V} {a : α} {fp : List Addr}, rep K HF H v a fp → ∀ p ∈ fp, ∃ o, H p = some o
  frz : ∀ {K : PySem.W.Frag} {HF HF' H : Hp} {v : V} {a : α} {fp : List Addr}, Same HF HF' → (∀ p ∈ fp, ∀ o, H p = some o → HF' p = some o) → rep K HF H v a fp → Rp.sh K HF' v a
  out : α → (V → Hp → Prop) → V → Hp → Prop := fun _ R v H => R v H
def Ow.v {α : Type} [Rp α] : Ow α where
  rep K HF _ v a fp := Rp.sh K HF v a ∧ fp = []
  mono := fun e _ ⟨h, f⟩ => ⟨Rp.mono e h, f⟩
  dom := fun ⟨_, f⟩ p hp => by subst f; cases hp
  frz := fun e _ ⟨h, _⟩ => Rp.mono e h
def Rl {α : Type} (R : V → α → List Addr → Prop) : List V → List α → List Addr → Prop
  | [], [], fp => fp = []
  | v :: vs, a :: as, fp => ∃ f1 f2, fp = f1 ++ f2 ∧ R v a f1 ∧ Rl R vs as f2
  | _, _, _ => False
theorem Rl.mono {α : Type} {R R' : V → α → List Addr → Prop} : ∀ {vs : List V} {as : List α} {fp : List Addr}, (∀ v a f, (∀ p ∈ f, p ∈ fp) → R v a f → R' v a f) → Rl R vs as fp → Rl R' vs as fp
  | [], [], _, _, e => e
  | v :: vs, a :: as, fp, h, ⟨f1, f2, e, x, y⟩ => ⟨f1, f2, e, h _ _ _ (fun p hp => by rw [e]; exact List.mem_append_left _ hp) x,
      Rl.mono (fun v a f hf => h v a f fun p hp => by rw [e]; exact List.mem_append_right _ (hf p hp)) y⟩
  | [], _ :: _, _, _, x => x.elim
  | _ :: _, [], _, _, x => x.elim
theorem Rl.fa {α : Type} {R : V → α → List Addr → Prop} {R' : V → α → Prop} : ∀ {vs : List V} {as : List α} {fp : List Addr}, (∀ v a f, (∀ p ∈ f, p ∈ fp) → R v a f → R' v a) → Rl R vs as fp → Fa R' vs as
  | [], [], _, _, _ => True.intro
  | v :: vs, a :: as, fp, h, ⟨f1, f2, e, x, y⟩ => ⟨h _ _ _ (fun p hp => by rw [e]; exact List.mem_append_left _ hp) x,
      Rl.fa (fun v a f hf => h v a f fun p hp => by rw [e]; exact List.mem_append_right _ (hf p hp)) y⟩
  | [], _ :: _, _, _, x => x.elim
  | _ :: _, [], _, _, x => x.elim
theorem Rl.dom {α : Type} {R : V → α → List Addr → Prop} {D : Addr → Prop} (h : ∀ v a f, R v a f → ∀ p ∈ f, D p) : ∀ {vs : List V} {as : List α} {fp : List Addr}, Rl R vs as fp → ∀ p ∈ fp, D p
  | [], [], fp, e, p, hp => by
    have e' : fp = [] := e
    subst e'; cases hp
  | v :: vs, a :: as, fp, ⟨f1, f2, e, x, y⟩, p, hp => by
    rw [e] at hp
    rcases List.mem_append.mp hp with hp | hp
    · exact h _ _ _ x p hp
    · exact Rl.dom h y p hp
  | [], _ :: _, _, x, _, _ => x.elim
  | _ :: _, [], _, x, _, _ => x.elim
theorem Rl.append {α : Type} {R : V → α → List Addr → Prop} : ∀ {vs ws : List V} {as bs : List α} {f g : List Addr}, Rl R vs as f → Rl R ws bs g → Rl R (vs ++ ws) (as ++ bs) (f ++ g)
  | [], _, [], _, f, g, e, h => by
    have e' : f = [] := e
    subst e'; exact h
  | v :: vs, _, a :: as, _, f, g, ⟨f1, f2, e, x, y⟩, h => ⟨f1, f2 ++ g, by rw [e, List.append_assoc], x, Rl.append y h⟩
  | [], _, _ :: _, _, _, _, x, _ => x.elim
  | _ :: _, _, [], _, _, _, x, _ => x.elim
theorem Rl.one {α : Type} {R : V → α → List Addr → Prop} {v : V} {a : α} {f : List Addr} (h : R v a f) : Rl R [v] [a] f := ⟨f, [], by simp, h, rfl⟩
theorem Rl.len {α : Type} {R : V → α → List Addr → Prop} : ∀ {vs : List V} {as : List α} {f : List Addr}, Rl R vs as f → vs.length = as.length
  | [], [], _, _ => rfl
  | v :: vs, a :: as, _, ⟨_, _, _, _, y⟩ => congrArg (· + 1) (Rl.len y)
  | [], _ :: _, _, x => x.elim
  | _ :: _, [], _, x => x.elim
/-- shared items -/
theorem Rl.ofFa {α : Type} [Rp α] {K : PySem.W.Frag} {HF H : Hp} : ∀ {vs : List V} {as : List α}, Fa (Rp.sh K HF) vs as → Rl (Ow.v.rep K HF H) vs as []
  | [], [], _ => rfl
  | v :: vs, a :: as, ⟨x, y⟩ => ⟨[], [], rfl, ⟨x, rfl⟩, Rl.ofFa y⟩
  | [], _ :: _, x => x.elim
  | _ :: _, [], x => x.elim
theorem Rl.toFa {α : Type} [Rp α] {K : PySem.W.Frag} {HF H : Hp} : ∀ {vs : List V} {as : List α} {fp : List Addr}, Rl (Ow.v.rep K HF H) vs as fp → Fa (Rp.sh K HF) vs as ∧ fp = []
  | [], [], _, e => ⟨True.intro, e⟩
  | v :: vs, a :: as, fp, ⟨f1, f2, e, ⟨x, e1⟩, y⟩ => by
    obtain ⟨y1, e2⟩ := Rl.toFa y
    exact ⟨⟨x, y1⟩, by rw [e, e1, e2]; rfl⟩
  | [], _ :: _, _, x => x.elim
  | _ :: _, [], _, x => x.elim
/-- an own list -/
def Ow.l {α : Type} [Rp α] (o : Ow α) : Ow (List α) where
  rep K HF H v as fp := ∃ p vs fq, v = .ref p ∧ fp = p :: fq ∧ H p = some (.lst vs) ∧ Rl (o.rep K HF H) vs as fq
  mono := fun e k ⟨p, vs, fq, h1, h2, h3, h4⟩ => by
    subst h2
    exact ⟨p, vs, fq, h1, rfl, k p (List.mem_cons_self ..) _ h3, Rl.mono (fun v a f hf h => o.mono e (fun q hq => k q (List.mem_cons_of_mem _ (hf q hq))) h) h4⟩
  dom := fun ⟨p, vs, fq, h1, h2, h3, h4⟩ q hq => by
    subst h2
    rcases List.mem_cons.mp hq with e | hq
    · exact ⟨_, e ▸ h3⟩
    · exact Rl.dom (fun v a f h => o.dom h) h4 q hq
  frz := fun e k ⟨p, vs, fq, h1, h2, h3, h4⟩ => by
    subst h2
    exact ⟨p, vs, h1, k p (List.mem_cons_self ..) _ h3, Rl.fa (fun v a f hf h => o.frz e (fun q hq => k q (List.mem_cons_of_mem _ (hf q hq))) h) h4⟩
def Ow.p {α β : Type} [Rp α] [Rp β] (o : Ow α) (u : Ow β) : Ow (α × β) where
  rep K HF H v x fp := ∃ p va vb f1 f2, v = .ref p ∧ fp = p :: (f1 ++ f2) ∧ H p = some (.tup [va, vb]) ∧ o.rep K HF H va x.1 f1 ∧ u.rep K HF H vb x.2 f2
  mono := fun e k ⟨p, va, vb, f1, f2, h1, h2, h3, h4, h5⟩ => by
    subst h2
    exact ⟨p, va, vb, f1, f2, h1, rfl, k p (List.mem_cons_self ..) _ h3, o.mono e (fun q hq => k q (List.mem_cons_of_mem _ (List.mem_append_left _ hq))) h4, u.mono e (fun q hq => k q (List.mem_cons_of_mem _ (List.mem_append_right _ hq))) h5⟩
  dom := fun ⟨p, va, vb, f1, f2, h1, h2, h3, h4, h5⟩ q hq => by
    subst h2
    rcases List.mem_cons.mp hq with e | hq
    · exact ⟨_, e ▸ h3⟩
    · rcases List.mem_append.mp hq with hq | hq
      · exact o.dom h4 q hq
      · exact u.dom h5 q hq
  frz := fun e k ⟨p, va, vb, f1, f2, h1, h2, h3, h4, h5⟩ => by
    subst h2
    exact ⟨p, va, vb, h1, .inl (.inl (k p (List.mem_cons_self ..) _ h3)), o.frz e (fun q hq => k q (List.mem_cons_of_mem _ (List.mem_append_left _ hq))) h4, u.frz e (fun q hq => k q (List.mem_cons_of_mem _ (List.mem_append_right _ hq))) h5⟩
def Ow.t3 {α β γ : Type} [Rp α] [Rp β] [Rp γ] (o : Ow α) (u : Ow β) (w : Ow γ) : Ow (T3 α β γ) where
  rep K HF H v x fp := ∃ p va vb vc f1 f2 f3, v = .ref p ∧ fp = p :: (f1 ++ (f2 ++ f3)) ∧ H p = some (.tup [va, vb, vc]) ∧ o.rep K HF H va x.a f1 ∧ u.rep K HF H vb x.b f2 ∧ w.rep K HF H vc x.c f3
  mono := fun e k ⟨p, va, vb, vc, f1, f2, f3, h1, h2, h3, h4, h5, h6⟩ => by
    subst h2
    exact ⟨p, va, vb, vc, f1, f2, f3, h1, rfl, k p (List.mem_cons_self ..) _ h3, o.mono e (fun q hq => k q (by simp [hq])) h4, u.mono e (fun q hq => k q (by simp [hq])) h5, w.mono e (fun q hq => k q (by simp [hq])) h6⟩
  dom := fun ⟨p, va, vb, vc, f1, f2, f3, h1, h2, h3, h4, h5, h6⟩ q hq => by
    subst h2
    rcases List.mem_cons.mp hq with e | hq
    · exact ⟨_, e ▸ h3⟩
    · rcases List.mem_append.mp hq with hq | hq
      · exact o.dom h4 q hq
      · rcases List.mem_append.mp hq with hq | hq
        · exact u.dom h5 q hq
        · exact w.dom h6 q hq
  frz := fun e k ⟨p, va, vb, vc, f1, f2, f3, h1, h2, h3, h4, h5, h6⟩ => by
    subst h2
    exact ⟨p, va, vb, vc, h1, .inl (.inl (k p (List.mem_cons_self ..) _ h3)), o.frz e (fun q hq => k q (by simp [hq])) h4, u.frz e (fun q hq => k q (by simp [hq])) h5, w.frz e (fun q hq => k q (by simp [hq])) h6⟩
/-- it leans on no shared object -/
class Ind {α : Type} [Rp α] (o : Ow α) : Prop where
  ind : ∀ {K : PySem.W.Frag} {HF HF' H : Hp} {v : V} {a : α} {fp : List Addr}, o.rep K HF H v a fp → o.rep K HF' H v a fp
instance indFl {α : Type} [Fl α] : Ind (Ow.v (α := α)) where
  ind := fun ⟨h, e⟩ => ⟨Fl.sh_iff.mpr (Fl.sh_iff.mp h), e⟩
instance indL {α : Type} [Rp α] {o : Ow α} [Ind o] : Ind o.l where
  ind := fun ⟨p, vs, fq, h1, h2, h3, h4⟩ => ⟨p, vs, fq, h1, h2, h3, Rl.mono (fun v a f _ h => Ind.ind h) h4⟩
instance indP {α β : Type} [Rp α] [Rp β] {o : Ow α} {u : Ow β} [Ind o] [Ind u] : Ind (o.p u) where
  ind := fun ⟨p, va, vb, f1, f2, h1, h2, h3, h4, h5⟩ => ⟨p, va, vb, f1, f2, h1, h2, h3, Ind.ind h4, Ind.ind h5⟩
instance indT3 {α β γ : Type} [Rp α] [Rp β] [Rp γ] {o : Ow α} {u : Ow β} {w : Ow γ} [Ind o] [Ind u] [Ind w] : Ind (o.t3 u w) where
  ind := fun ⟨p, va, vb, vc, f1, f2, f3, h1, h2, h3, h4, h5, h6⟩ => ⟨p, va, vb, vc, f1, f2, f3, h1, h2, h3, Ind.ind h4, Ind.ind h5, Ind.ind h6⟩

/-! ### the names at a place of the text -/
inductive Sl : Type 1 where
  | un
  | mk {α : Type} [i : Rp α] (o : Ow α) (a : α)
abbrev Ctx := List Sl
def look : Ctx → Nat → Sl
  | [], _ => .un
  | s :: _, 0 => s
  | _ :: Γ, i + 1 => look Γ i
def put : Ctx → Nat → Sl → Ctx
  | [], _, _ => []
  | _ :: Γ, 0, s => s :: Γ
  | t :: Γ, i + 1, s => t :: put Γ i s
def vw1 : Sl → Sl
  | .un => .un
  | .mk (α := α) (i := i) _ a => .mk (α := α) (i := i) .v a
def vw : Ctx → Ctx
  | [] => []
  | s :: Γ => vw1 s :: vw Γ
def HoldS (K : PySem.W.Frag) (HF H : Hp) : Sl → Option V → List Addr → Prop
  | .un, _, f => f = []
  | @Sl.mk α i o a, x, f => ∃ v, x = some v ∧ @Ow.rep α i o K HF H v a f
def Holds (K : PySem.W.Frag) (HF H : Hp) : Ctx → L2.St → List Addr → Prop
  | [], [], fs => fs = []
  | s :: Γ, x :: σ, fs => ∃ f1 f2, fs = f1 ++ f2 ∧ HoldS K HF H s x f1 ∧ Holds K HF H Γ σ f2
  | _, _, _ => False
/-- HF: what is shared; H: all; HF0, G: the same at the def's entry (G: what must stay) -/
structure Good (K : PySem.W.Frag) (HF0 G : Hp) (Γ : Ctx) (HF H : Hp) (σ : L2.St) : Prop where
  sub : Same HF H
  f0 : Same HF0 HF
  g0 : Same G H
  nf : ∀ p o, HF p = some o → HF0 p = none → G p = none
  held : ∃ fs, Holds K HF H Γ σ fs ∧ fs.Nodup ∧ ∀ p ∈ fs, HF p = none ∧ G p = none
/-- nothing that was there changes -/
structure Step (HF H HF' H' : Hp) : Prop where
  exF : Same HF HF'
  exH : Same H H'
  sub : Same HF' H'
  new : ∀ p o, HF' p = some o → HF p = none → H p = none
theorem Step.refl {HF H : Hp} (h : Same HF H) : Step HF H HF H := ⟨Same.refl _, Same.refl _, h, fun p o a b => by rw [a] at b; cases b⟩
theorem Step.trans {HF H HF1 H1 HF2 H2 : Hp} (a : Step HF H HF1 H1) (b : Step HF1 H1 HF2 H2) : Step HF H HF2 H2 :=
  ⟨a.exF.trans b.exF, a.exH.trans b.exH, b.sub, fun p o h n => by
    cases q : HF1 p with
    | some u => exact a.new p u q n
    | none => exact a.exH.free (b.new p o h q)⟩
/-- one new own object -/
theorem same_upd {H : Hp} {p : Addr} {o : HO} (h : H p = none) : Same H (upd H p o) := fun b x e => by
  rw [upd_ne (ne_of_none e h)]
  exact e
theorem Step.own {HF H : Hp} {p : Addr} {o : HO} (s : Same HF H) (h : H p = none) : Step HF H HF (upd H p o) :=
  ⟨Same.refl _, same_upd h, s.trans (same_upd h), fun p o a b => by rw [a] at b; cases b⟩
theorem HoldS.mono {K : PySem.W.Frag} {HF HF' H H' : Hp} (e : Same HF HF') : ∀ {s : Sl} {x : Option V} {f : List Addr}, (∀ p ∈ f, ∀ o, H p = some o → H' p = some o) → HoldS K HF H s x f → HoldS K HF' H' s x f
  | .un, _, _, _, h => h
  | @Sl.mk α i o a, _, _, k, ⟨v, h1, h2⟩ => ⟨v, h1, @Ow.mono α i o _ _ _ _ _ _ _ _ e k h2⟩
theorem HoldS.dom {K : PySem.W.Frag} {HF H : Hp} : ∀ {s : Sl} {x : Option V} {f : List Addr}, HoldS K HF H s x f → ∀ p ∈ f, ∃ o, H p = some o
  | .un, _, f, h, p, hp => by
    have e : f = [] := h
    subst e; cases hp
  | @Sl.mk α i o a, _, _, ⟨v, h1, h2⟩, p, hp => @Ow.dom α i o _ _ _ _ _ _ h2 p hp
theorem Holds.mono {K : PySem.W.Frag} {HF HF' H H' : Hp} (e : Same HF HF') : ∀ {Γ : Ctx} {σ : L2.St} {fs : List Addr}, (∀ p ∈ fs, ∀ o, H p = some o → H' p = some o) → Holds K HF H Γ σ fs → Holds K HF' H' Γ σ fs
  | [], [], _, _, h => h
  | s :: Γ, x :: σ, fs, k, ⟨f1, f2, h1, h2, h3⟩ => ⟨f1, f2, h1, HoldS.mono e (fun p hp => k p (by rw [h1]; exact List.mem_append_left _ hp)) h2, Holds.mono e (fun p hp => k p (by rw [h1]; exact List.mem_append_right _ hp)) h3⟩
  | [], _ :: _, _, _, h => h.elim
  | _ :: _, [], _, _, h => h.elim
theorem Holds.dom {K : PySem.W.Frag} {HF H : Hp} : ∀ {Γ : Ctx} {σ : L2.St} {fs : List Addr}, Holds K HF H Γ σ fs → ∀ p ∈ fs, ∃ o, H p = some o
  | [], [], fs, h, p, hp => by
    have e : fs = [] := h
    subst e; cases hp
  | s :: Γ, x :: σ, fs, ⟨f1, f2, h1, h2, h3⟩, p, hp => by
    rw [h1] at hp
    rcases List.mem_append.mp hp with hp | hp
    · exact h2.dom p hp
    · exact Holds.dom h3 p hp
  | [], _ :: _, _, h, _, _ => h.elim
  | _ :: _, [], _, h, _, _ => h.elim
theorem Holds.len {K : PySem.W.Frag} {HF H : Hp} : ∀ {Γ : Ctx} {σ : L2.St} {fs : List Addr}, Holds K HF H Γ σ fs → Γ.length = σ.length
  | [], [], _, _ => rfl
  | s :: Γ, x :: σ, _, ⟨_, _, _, _, h⟩ => congrArg (· + 1) (Holds.len h)
  | [], _ :: _, _, h => h.elim
  | _ :: _, [], _, h => h.elim
theorem Good.step {K : PySem.W.Frag} {HF0 G HF H HF' H' : Hp} {Γ : Ctx} {σ : L2.St} (g : Good K HF0 G Γ HF H σ) (s : Step HF H HF' H') : Good K HF0 G Γ HF' H' σ := by
  obtain ⟨fs, h1, h2, h3⟩ := g.held
  refine ⟨s.sub, g.f0.trans s.exF, g.g0.trans s.exH, fun p o a b => ?_, fs, h1.mono s.exF fun p _ o e => s.exH p o e, h2, fun p hp => ⟨?_, (h3 p hp).2⟩⟩
  · cases q : HF p with
    | some u => exact g.nf p u q b
    | none => exact g.g0.free (s.new p o a q)
  · cases q : HF' p with
    | none => rfl
    | some u =>
      have := s.new p u q (h3 p hp).1
      obtain ⟨o, ho⟩ := h1.dom p hp
      rw [ho] at this; cases this
theorem Holds.get {K : PySem.W.Frag} {HF H : Hp} {α : Type} [Rp α] {o : Ow α} {a : α} : ∀ {Γ : Ctx} {σ : L2.St} {fs : List Addr} {i : Nat}, Holds K HF H Γ σ fs → look Γ i = .mk o a → ∃ v f, σ[i]? = some (some v) ∧ o.rep K HF H v a f ∧ ∀ p ∈ f, p ∈ fs
  | [], [], _, _, _, e => by cases e
  | s :: Γ, x :: σ, fs, 0, ⟨f1, f2, h1, h2, h3⟩, e => by
    have e' : s = .mk o a := e
    subst e'
    obtain ⟨v, hv, r⟩ := h2
    exact ⟨v, f1, by rw [hv]; rfl, r, fun p hp => by rw [h1]; exact List.mem_append_left _ hp⟩
  | s :: Γ, x :: σ, fs, i + 1, ⟨f1, f2, h1, h2, h3⟩, e => by
    obtain ⟨v, f, q1, q2, q3⟩ := Holds.get (i := i) h3 e
    exact ⟨v, f, q1, q2, fun p hp => by rw [h1]; exact List.mem_append_right _ (q3 p hp)⟩
  | [], _ :: _, _, _, h, _ => h.elim
  | _ :: _, [], _, _, h, _ => h.elim
/-- the slot i without its things -/
theorem Holds.put {K : PySem.W.Frag} {HF H : Hp} : ∀ {Γ : Ctx} {σ : L2.St} {fs : List Addr} {i : Nat}, Holds K HF H Γ σ fs → i < Γ.length →
    ∃ fo fr : List Addr, HoldS K HF H (look Γ i) (σ.getD i none) fo ∧ (∀ p, p ∈ fs ↔ p ∈ fo ∨ p ∈ fr) ∧ (fs.Nodup → fr.Nodup ∧ fo.Nodup ∧ ∀ p ∈ fo, p ∉ fr) ∧
      ∀ {HF' H' : Hp} {s : Sl} {x : Option V} {f : List Addr}, (∀ {Γ : Ctx} {σ : L2.St} {f : List Addr}, (∀ p ∈ f, p ∈ fr) → Holds K HF H Γ σ f → Holds K HF' H' Γ σ f) → (∀ {s : Sl} {x : Option V} {f : List Addr}, (∀ p ∈ f, p ∈ fr) → HoldS K HF H s x f → HoldS K HF' H' s x f) → HoldS K HF' H' s x f →
        ∃ fs', Holds K HF' H' (put Γ i s) (σ.set i x) fs' ∧ (∀ p, p ∈ fs' ↔ p ∈ f ∨ p ∈ fr) ∧ (fr.Nodup → f.Nodup → (∀ p ∈ f, p ∉ fr) → fs'.Nodup)
  | [], [], _, i, _, hi => absurd hi (Nat.not_lt_zero _)
  | s :: Γ, x :: σ, fs, 0, ⟨f1, f2, h1, h2, h3⟩, _ => by
    refine ⟨f1, f2, h2, fun p => by rw [h1]; exact List.mem_append, fun nd => ?_, fun k1 k2 h => ?_⟩
    · rw [h1] at nd
      obtain ⟨a, b, c⟩ := List.nodup_append.mp nd
      exact ⟨b, a, fun p hp hq => c p hp p hq rfl⟩
    · rename_i f
      refine ⟨f ++ f2, ⟨f, f2, rfl, h, k1 (fun p hp => hp) h3⟩, fun p => List.mem_append, fun n1 n2 n3 => List.nodup_append.mpr ⟨n2, n1, fun p hp q hq e => n3 p hp (e ▸ hq)⟩⟩
  | s :: Γ, x :: σ, fs, i + 1, ⟨f1, f2, h1, h2, h3⟩, hi => by
    obtain ⟨fo, fr, q1, q2, q3, q4⟩ := Holds.put (i := i) h3 (Nat.lt_of_succ_lt_succ hi)
    refine ⟨fo, f1 ++ fr, q1, fun p => ?_, fun nd => ?_, fun k1 k2 h => ?_⟩
    · rw [h1, List.mem_append, q2, List.mem_append]
      constructor
      · rintro (a | a | a)
        · exact .inr (.inl a)
        · exact .inl a
        · exact .inr (.inr a)
      · rintro (a | a | a)
        · exact .inr (.inl a)
        · exact .inl a
        · exact .inr (.inr a)
    · rw [h1] at nd
      obtain ⟨a, b, c⟩ := List.nodup_append.mp nd
      obtain ⟨r1, r2, r3⟩ := q3 b
      refine ⟨List.nodup_append.mpr ⟨a, r1, fun p hp q hq e => c p hp q ((q2 q).mpr (.inr hq)) e⟩, r2, fun p hp hq => ?_⟩
      rcases List.mem_append.mp hq with hq | hq
      · exact c p hq p ((q2 p).mpr (.inl hp)) rfl
      · exact r3 p hp hq
    · rename_i f
      obtain ⟨fs', w1, w2, w3⟩ := q4 (f := f) (fun hp => k1 fun p z => List.mem_append_right _ (hp p z)) (fun hp => k2 fun p z => List.mem_append_right _ (hp p z)) h
      refine ⟨f1 ++ fs', ⟨f1, fs', rfl, k2 (fun p z => List.mem_append_left _ z) h2, w1⟩, fun p => ?_, fun n1 n2 n3 => ?_⟩
      · rw [List.mem_append, w2, List.mem_append]
        constructor
        · rintro (a | a | a)
          · exact .inr (.inl a)
          · exact .inl a
          · exact .inr (.inr a)
        · rintro (a | a | a)
          · exact .inr (.inl a)
          · exact .inl a
          · exact .inr (.inr a)
      · obtain ⟨a, b, c⟩ := List.nodup_append.mp n1
        refine List.nodup_append.mpr ⟨a, w3 b n2 fun p hp hq => n3 p hp (List.mem_append_right _ hq), fun p hp q hq e => ?_⟩
        subst e
        rcases (w2 p).mp hq with z | z
        · exact n3 p z (List.mem_append_left _ hp)
        · exact c p hp p z rfl
  | [], _ :: _, _, _, h, _ => h.elim
  | _ :: _, [], _, _, h, _ => h.elim
end Ty

namespace Ty
open PySem L2

/-- what a value of c, made of nothing that can change, is wanted to do -/
def RetK {α : Type} [Rp α] (K : PySem.W.Frag) (HF H : Hp) (o : Ow α) (c : α) (Q : VK) : Prop :=
  ∀ v HF' H' fp, Step HF H HF' H' → o.rep K HF' H' v c fp → fp.Nodup → (∀ p ∈ fp, H p = none ∧ HF' p = none) → Q v H'
theorem RetK.flat {α : Type} [Fl α] {K : PySem.W.Frag} {HF H : Hp} {c : α} {Q : VK} (k : RetK K HF H Ow.v c Q) (s : Same HF H) : Q (Fl.enc c) H :=
  k _ HF H [] (Step.refl s) ⟨Fl.sh_iff.mpr rfl, rfl⟩ List.nodup_nil (fun p hp => by cases hp)
theorem RetK.shv {α : Type} [Rp α] {K : PySem.W.Frag} {HF H : Hp} {c : α} {v : V} {Q : VK} (k : RetK K HF H Ow.v c Q) (s : Same HF H) (h : Rp.sh K HF v c) : Q v H :=
  k _ HF H [] (Step.refl s) ⟨h, rfl⟩ List.nodup_nil (fun p hp => by cases hp)
/-- a new list of shared things -/
theorem RetK.lst {α : Type} [Rp α] {K : PySem.W.Frag} {HF H : Hp} {c : List α} {vs : List V} {p : Addr} {Q : VK} (k : RetK K HF H (Ow.l Ow.v) c Q) (s : Same HF H) (h : Fa (Rp.sh K HF) vs c) (hp : H p = none) : Q (.ref p) (upd H p (.lst vs)) :=
  k _ HF _ [p] (Step.own s hp) ⟨p, vs, [], rfl, rfl, upd_same, Rl.ofFa h⟩ (by simp) (fun q hq => by
    have e : q = p := by simpa using hq
    subst e
    exact ⟨hp, s.free hp⟩)
def SemE {α : Type} [Rp α] (K : PySem.W.Frag) (Γ : Ctx) (t : TE) (o : Ow α) (m : M α) : Prop :=
  ∀ HF0 G HF H σ, Good K HF0 G Γ HF H σ → ∀ a, m = .ok a → ∀ Q : VK, RetK K HF H o a Q → t σ H Q
structure EX {α : Type} [Rp α] (X : Cx) (Γ : Ctx) (e : Expr) (o : Ow α) (m : M α) (t : TE) : Prop where
  pe : PE X e t
  sem : SemE X.K Γ t o m
def SemT (K : PySem.W.Frag) (Γ : Ctx) (t : TT) (m : M Bool) : Prop :=
  ∀ HF0 G HF H σ, Good K HF0 G Γ HF H σ → ∀ a, m = .ok a → ∀ Q : Bool → Hp → Prop, (∀ HF' H', Step HF H HF' H' → Q a H') → t σ H Q
structure ET (X : Cx) (Γ : Ctx) (e : Expr) (m : M Bool) (t : TT) : Prop where
  pt : PT X e t
  sem : SemT X.K Γ t m
structure EW (X : Cx) (Γ : Ctx) (e : Expr) (m : M Bool) (t : TT) : Prop where
  pw : PW X e t
  sem : SemT X.K Γ t m

section
variable {X : Cx} {Γ : Ctx} {α β γ : Type}

/-! ### names, constants -/
theorem ex_var [Rp α] (i : Nat) {x : Str} {pos : Pos} {a : α} (hl : look Γ i = .mk Ow.v a := by rfl) (hN : X.N[i]? = some x := by rfl) (hv : Vis X.env.scope x := by first | exact Or.inl rfl | exact Or.inr (Or.inl rfl) | exact Or.inr (Or.inr rfl)) (hd : (x == ("__debug__" : Str)) = false := by decide)
    (hcd : (x == ("__classdict__" : Str)) = false := by decide) : EX X Γ (.Name x pos) Ow.v (pure a) (tVar i) :=
  ⟨pe_var hN hv hd hcd, fun HF0 G HF H σ g c hc Q k => by
    cases pure_ok hc
    obtain ⟨fs, h1, _, _⟩ := g.held
    obtain ⟨v, f, h2, h3, _⟩ := h1.get hl
    exact ⟨v, h2, k.shv g.sub h3.1⟩⟩
theorem ex_int {i : Int} {j pos} : EX X Γ (.Constant (.int i) j pos) Ow.v (pure i) (tC (.int i)) :=
  ⟨pe_int, fun HF0 G HF H σ g c hc Q k => by cases pure_ok hc; exact k.flat g.sub⟩
theorem ex_bl {b : Bool} {j pos} : EX X Γ (.Constant (.bool b) j pos) Ow.v (pure b) (tC (.bl b)) :=
  ⟨pe_bl, fun HF0 G HF H σ g c hc Q k => by cases pure_ok hc; exact k.flat g.sub⟩
theorem ex_str {x : Str} {j pos} : EX X Γ (.Constant (.str x) j pos) Ow.v (pure x) (tC (.str x)) :=
  ⟨pe_str, fun HF0 G HF H σ g c hc Q k => by cases pure_ok hc; exact k.flat g.sub⟩
theorem ex_nonS {j pos} : EX X Γ (.Constant .none j pos) Ow.v (pure (none : Option Str)) (tC .non) :=
  ⟨pe_non, fun HF0 G HF H σ g c hc Q k => by cases pure_ok hc; exact k.flat (c := (none : Option Str)) g.sub⟩
theorem ex_someS {e : Expr} {m : M Str} {t : TE} (h : EX X Γ e Ow.v m t) : EX X Γ e Ow.v (do let i ← m; pure (some i)) t :=
  ⟨h.pe, fun HF0 G HF H σ g c hc Q k => by
    obtain ⟨i, e1, e2⟩ := bind_ok hc
    cases pure_ok e2
    exact h.sem HF0 G HF H σ g i e1 Q fun v HF' H' fp st r n f => k v HF' H' fp st ⟨r.1, r.2⟩ n f⟩

/-! ### own things looked at; own things made shared -/
theorem Holds.vw {K : PySem.W.Frag} {HF H : Hp} (s : Same HF H) : ∀ {Γ : Ctx} {σ : L2.St} {fs : List Addr}, Holds K HF H Γ σ fs → Holds K H H (vw Γ) σ []
  | [], [], _, _ => rfl
  | .un :: Γ, x :: σ, fs, ⟨f1, f2, h1, h2, h3⟩ => ⟨[], [], rfl, rfl, Holds.vw s h3⟩
  | @Sl.mk α i o a :: Γ, x :: σ, fs, ⟨f1, f2, h1, ⟨v, e, h2⟩, h3⟩ => ⟨[], [], rfl, ⟨v, e, @Ow.frz α i o _ _ _ _ _ _ _ s (fun p _ o e => e) h2, rfl⟩, Holds.vw s h3⟩
  | [], _ :: _, _, h => h.elim
  | _ :: _, [], _, h => h.elim
theorem Good.vw {K : PySem.W.Frag} {HF0 G HF H : Hp} {σ : L2.St} (g : Good K HF0 G Γ HF H σ) : Good K H H (vw Γ) H H σ := by
  obtain ⟨fs, h1, h2, h3⟩ := g.held
  exact ⟨Same.refl _, Same.refl _, Same.refl _, fun p o a b => b, [], h1.vw g.sub, List.nodup_nil, fun p hp => by cases hp⟩
theorem ex_view [Rp α] {o : Ow α} [Ind o] {e : Expr} {m : M α} {t : TE} (h : EX X (vw Γ) e o m t) : EX X Γ e o m t :=
  ⟨h.pe, fun HF0 G HF H σ g c hc Q k => h.sem H H H H σ g.vw c hc Q fun v HF' H' fp st r n f =>
    k v HF H' fp ⟨Same.refl _, st.exH, g.sub.trans st.exH, fun p o a b => by rw [a] at b; cases b⟩ (Ind.ind r) n fun p hp => ⟨(f p hp).1, g.sub.free (f p hp).1⟩⟩
theorem et_view {e : Expr} {m : M Bool} {t : TT} (h : ET X (vw Γ) e m t) : ET X Γ e m t :=
  ⟨h.pt, fun HF0 G HF H σ g c hc Q k => h.sem H H H H σ g.vw c hc Q fun HF' H' st =>
    k HF H' ⟨Same.refl _, st.exH, g.sub.trans st.exH, fun p o a b => by rw [a] at b; cases b⟩⟩
/-- HF and what stands at fp -/
def plus (HF H : Hp) (fp : List Addr) : Hp := fun p => if p ∈ fp then H p else HF p
theorem plus_same {HF H : Hp} {fp : List Addr} (h : ∀ p ∈ fp, HF p = none) : Same HF (plus HF H fp) := fun p o e => by
  unfold plus
  by_cases hp : p ∈ fp
  · rw [h p hp] at e; cases e
  · rw [if_neg hp]; exact e
theorem plus_sub {HF H : Hp} {fp : List Addr} (s : Same HF H) : Same (plus HF H fp) H := fun p o e => by
  unfold plus at e
  by_cases hp : p ∈ fp
  · rw [if_pos hp] at e; exact e
  · rw [if_neg hp] at e; exact s p o e
theorem plus_at {HF H : Hp} {fp : List Addr} : ∀ p ∈ fp, ∀ o, H p = some o → plus HF H fp p = some o := fun p hp o e => by
  unfold plus
  rw [if_pos hp]; exact e
theorem plus_out {HF H : Hp} {fp : List Addr} {p : Addr} (hp : p ∉ fp) : plus HF H fp p = HF p := by
  unfold plus
  rw [if_neg hp]
theorem ex_frz [Rp α] {o : Ow α} {e : Expr} {m : M α} {t : TE} (h : EX X Γ e o m t) : EX X Γ e Ow.v m t :=
  ⟨h.pe, fun HF0 G HF H σ g c hc Q k => h.sem HF0 G HF H σ g c hc Q fun v HF' H' fp st r n f =>
    k v (plus HF' H' fp) H' [] ⟨st.exF.trans (plus_same fun p hp => (f p hp).2), st.exH, plus_sub st.sub, fun p o a b => by
      by_cases hp : p ∈ fp
      · exact (f p hp).1
      · rw [plus_out hp] at a
        exact st.new p o a b⟩ ⟨o.frz (plus_same fun p hp => (f p hp).2) plus_at r, rfl⟩ List.nodup_nil fun p hp => by cases hp⟩

/-! ### operators on shared things -/
def SemR2 [Rp α] [Rp β] [Rp γ] (K : PySem.W.Frag) (r : R2) (o : Ow γ) (f : α → β → M γ) : Prop :=
  ∀ HF H v w a b c, Same HF H → Rp.sh K HF v a → Rp.sh K HF w b → f a b = .ok c → ∀ Q : VK, RetK K HF H o c Q → r v w H Q
def SemR1 [Rp α] [Rp γ] (K : PySem.W.Frag) (r : V → Hp → VK → Prop) (o : Ow γ) (f : α → M γ) : Prop :=
  ∀ HF H v a c, Same HF H → Rp.sh K HF v a → f a = .ok c → ∀ Q : VK, RetK K HF H o c Q → r v H Q
theorem RetK.back [Rp γ] {K : PySem.W.Frag} {HF H HF1 H1 : Hp} {o : Ow γ} {c : γ} {Q : VK} (k : RetK K HF H o c Q) (s : Step HF H HF1 H1) : RetK K HF1 H1 o c Q :=
  fun v HF' H' fp st r n f => k v HF' H' fp (s.trans st) r n fun p hp => ⟨s.exH.free (f p hp).1, (f p hp).2⟩
theorem sem_op [Rp α] [Rp β] [Rp γ] {K : PySem.W.Frag} {r : R2} {o : Ow γ} {f : α → β → M γ} {ta tb : TE} {ma : M α} {mb : M β} (hr : SemR2 K r o f) (ha : SemE K Γ ta Ow.v ma) (hb : SemE K Γ tb Ow.v mb) :
    SemE K Γ (tOp r ta tb) o (do let a ← ma; let b ← mb; f a b) := fun HF0 G HF H σ g c hc Q k => by
  obtain ⟨a, e1, hc⟩ := bind_ok hc
  obtain ⟨b, e2, hc⟩ := bind_ok hc
  refine ha HF0 G HF H σ g a e1 _ fun v HF1 H1 fp s1 r1 _ _ => ?_
  refine hb HF0 G HF1 H1 σ (g.step s1) b e2 _ fun w HF2 H2 fp2 s2 r2 _ _ => ?_
  exact hr HF2 H2 v w a b c s2.sub (Rp.mono s2.exF r1.1) r2.1 hc Q (k.back (s1.trans s2))
theorem sem_un [Rp α] [Rp γ] {K : PySem.W.Frag} {r : V → Hp → VK → Prop} {o : Ow γ} {f : α → M γ} {ta : TE} {ma : M α} (hr : SemR1 K r o f) (ha : SemE K Γ ta Ow.v ma) :
    SemE K Γ (tUn r ta) o (do let a ← ma; f a) := fun HF0 G HF H σ g c hc Q k => by
  obtain ⟨a, e1, hc⟩ := bind_ok hc
  refine ha HF0 G HF H σ g a e1 _ fun v HF1 H1 fp s1 r1 _ _ => ?_
  exact hr HF1 H1 v a c s1.sub r1.1 hc Q (k.back s1)
theorem ex_op [Rp α] [Rp β] [Rp γ] {op : Operator} {r : R2} {o : Ow γ} {f : α → β → M γ} {a b : Expr} {pos : Pos} {ta tb : TE} {ma : M α} {mb : M β} (ho : OpR X (binaryOp op) r) (hr : SemR2 X.K r o f) (ha : EX X Γ a Ow.v ma ta) (hb : EX X Γ b Ow.v mb tb) :
    EX X Γ (.BinOp a op b pos) o (do let a ← ma; let b ← mb; f a b) (tOp r ta tb) := ⟨pe_op ho ha.pe hb.pe, sem_op hr ha.sem hb.sem⟩
theorem ex_uop [Rp α] [Rp γ] {op : UnaryOp} {r : V → Hp → VK → Prop} {o : Ow γ} {f : α → M γ} {a : Expr} {pos : Pos} {ta : TE} {ma : M α} (ho : UnR X (unaryOp op) r) (hr : SemR1 X.K r o f) (ha : EX X Γ a Ow.v ma ta) :
    EX X Γ (.UnaryOp op a pos) o (do let a ← ma; f a) (tUn r ta) := ⟨pe_un ho ha.pe, sem_un hr ha.sem⟩
/-- ints -/
theorem sr_I0 [Fl γ] {K : PySem.W.Frag} {g : Int → Int → V} {f : Int → Int → γ} (h : ∀ i j, Fl.enc (f i j) = g i j) : SemR2 K (rI0 g) Ow.v (fun (a b : Int) => pure (f a b)) := fun HF H v w a b c s ra rb hc Q k => by
  cases pure_ok hc
  refine ⟨a, b, ra, rb, ?_⟩
  rw [← h]; exact k.flat s
theorem sr_I [Fl γ] {K : PySem.W.Frag} {C : Int → Int → Prop} {g : Int → Int → V} {f : Int → Int → γ} (B : Int → Int → Bool) (hB : ∀ i j, B i j = true → C i j) (h : ∀ i j, Fl.enc (f i j) = g i j) : SemR2 K (rI C g) Ow.v (fun (a b : Int) => do gd (B a b); pure (f a b)) := fun HF H v w a b c s ra rb hc Q k => by
  obtain ⟨u, e1, hc⟩ := bind_ok hc
  cases pure_ok hc
  refine ⟨a, b, ra, rb, hB _ _ (gd_ok e1), ?_⟩
  rw [← h]; exact k.flat s
theorem sr_U [Fl γ] {K : PySem.W.Frag} {g : Int → V} {f : Int → γ} (h : ∀ i, Fl.enc (f i) = g i) : SemR1 K (rU g) Ow.v (fun (a : Int) => pure (f a)) := fun HF H v a c s ra hc Q k => by
  cases pure_ok hc
  refine ⟨a, ra, ?_⟩
  rw [← h]; exact k.flat s
def CMul2 (i j : Int) : Prop := CMul i j ∨ CMulW i j
theorem op_mul2 {X : Cx} : OpR X (binaryOp .Mult) (rI CMul2 fun i j => .int (i * j)) := opI fun _ _ _ _ _ _ _ hc q => PyProof.Rows.mul_int q (hc.elim CMul.ok CMulW.ok)
def mulB (i j : Int) : Bool := ((decide (-(2 ^ 64) < i) && decide (i < 2 ^ 64)) || (decide (-(2 ^ 64) < j) && decide (j < 2 ^ 64))) || decide (i.natAbs.log2 + j.natAbs.log2 < 1000000)
def divB (_i j : Int) : Bool := decide (0 < j) && decide (j.natAbs.log2 < 9000)
def posB (_i j : Int) : Bool := decide (0 < j)
def powB (i j : Int) : Bool := decide (0 ≤ j) && decide (j ≤ 1000000) && decide (i.natAbs < 2 ^ 64)
def mulM (a b : Int) : M Int := do gd (mulB a b); pure (a * b)
def divM (a b : Int) : M Int := do gd (divB a b); pure (a / b)
def modM (a b : Int) : M Int := do gd (posB a b); pure (a % b)
def powM (a b : Int) : M Int := do gd (powB a b); pure (a ^ b.toNat)
variable {a b e : Expr} {pos : Pos} {ta tb : TE}
theorem ex_add {ma mb : M Int} (ha : EX X Γ a Ow.v ma ta) (hb : EX X Γ b Ow.v mb tb) : EX X Γ (.BinOp a .Add b pos) Ow.v (do let a ← ma; let b ← mb; pure (a + b)) (tOp (rI0 fun i j => .int (i + j)) ta tb) := ex_op op_add (sr_I0 fun _ _ => rfl) ha hb
theorem ex_sub {ma mb : M Int} (ha : EX X Γ a Ow.v ma ta) (hb : EX X Γ b Ow.v mb tb) : EX X Γ (.BinOp a .Sub b pos) Ow.v (do let a ← ma; let b ← mb; pure (a - b)) (tOp (rI0 fun i j => .int (i - j)) ta tb) := ex_op op_sub (sr_I0 fun _ _ => rfl) ha hb
theorem ex_mul {ma mb : M Int} (ha : EX X Γ a Ow.v ma ta) (hb : EX X Γ b Ow.v mb tb) : EX X Γ (.BinOp a .Mult b pos) Ow.v (do let a ← ma; let b ← mb; mulM a b) (tOp (rI CMul2 fun i j => .int (i * j)) ta tb) :=
  ex_op op_mul2 (sr_I mulB (fun i j h => by simpa [mulB, CMul2, CMul, CMulW] using h) fun _ _ => rfl) ha hb
theorem ex_fdiv {ma mb : M Int} (ha : EX X Γ a Ow.v ma ta) (hb : EX X Γ b Ow.v mb tb) : EX X Γ (.BinOp a .FloorDiv b pos) Ow.v (do let a ← ma; let b ← mb; divM a b) (tOp (rI CDivW fun i j => .int (i / j)) ta tb) :=
  ex_op op_fdivW (sr_I divB (fun i j h => by simpa [divB, CDivW] using h) fun _ _ => rfl) ha hb
theorem ex_mod {ma mb : M Int} (ha : EX X Γ a Ow.v ma ta) (hb : EX X Γ b Ow.v mb tb) : EX X Γ (.BinOp a .Mod b pos) Ow.v (do let a ← ma; let b ← mb; modM a b) (tOp (rI (fun _ j => 0 < j) fun i j => .int (i % j)) ta tb) :=
  ex_op op_mod (sr_I posB (fun i j h => by simpa [posB] using h) fun _ _ => rfl) ha hb
theorem ex_pow {ma mb : M Int} (ha : EX X Γ a Ow.v ma ta) (hb : EX X Γ b Ow.v mb tb) : EX X Γ (.BinOp a .Pow b pos) Ow.v (do let a ← ma; let b ← mb; powM a b) (tOp (rI CPow fun i j => .int (i ^ j.toNat)) ta tb) :=
  ex_op op_pow (sr_I powB (fun i j h => by simpa [powB, CPow, and_assoc] using h) fun _ _ => rfl) ha hb
theorem ex_neg {ma : M Int} (ha : EX X Γ a Ow.v ma ta) : EX X Γ (.UnaryOp .USub a pos) Ow.v (do let a ← ma; pure (-a)) (tUn (rU fun i => .int (-i)) ta) := ex_uop un_neg (sr_U fun _ => rfl) ha
/-- by a written number: no guard is left -/
theorem sr_Ic [Fl γ] {K : PySem.W.Frag} {C : Int → Int → Prop} {g : Int → Int → V} {f : Int → Int → γ} {n : Int} {ta : TE} {ma : M Int} (hC : ∀ i, C i n) (h : ∀ i j, Fl.enc (f i j) = g i j) (ha : SemE K Γ ta Ow.v ma) :
    SemE K Γ (tOp (rI C g) ta (tC (.int n))) Ow.v (do let a ← ma; pure (f a n)) := fun HF0 G HF H σ gg c hc Q k => by
  obtain ⟨i, e1, hc⟩ := bind_ok hc
  cases pure_ok hc
  refine ha HF0 G HF H σ gg i e1 _ fun v HF1 H1 fp s1 r1 _ _ => ?_
  refine ⟨i, n, r1.1, rfl, hC i, ?_⟩
  rw [← h]; exact (k.back s1).flat s1.sub
theorem ex_mulc {ma : M Int} {n : Int} {j p2} (ha : EX X Γ a Ow.v ma ta) (hn : (decide (-(2 ^ 64) < n) && decide (n < 2 ^ 64)) = true := by rfl) : EX X Γ (.BinOp a .Mult (.Constant (.int n) j p2) pos) Ow.v (do let a ← ma; pure (a * n)) (tOp (rI CMul fun i j => .int (i * j)) ta (tC (.int n))) :=
  ⟨pe_op op_mul ha.pe pe_int, sr_Ic (f := fun i j : Int => i * j) (fun i => .inr (by simpa using hn)) (fun _ _ => rfl) ha.sem⟩
theorem ex_fdivc {ma : M Int} {n : Int} {j p2} (ha : EX X Γ a Ow.v ma ta) (hn : (decide (0 < n) && decide (n < 1073741824)) = true := by rfl) : EX X Γ (.BinOp a .FloorDiv (.Constant (.int n) j p2) pos) Ow.v (do let a ← ma; pure (a / n)) (tOp (rI CDiv fun i j => .int (i / j)) ta (tC (.int n))) :=
  ⟨pe_op op_fdiv ha.pe pe_int, sr_Ic (f := fun i j : Int => i / j) (fun i => by simpa [CDiv] using hn) (fun _ _ => rfl) ha.sem⟩
theorem ex_modc {ma : M Int} {n : Int} {j p2} (ha : EX X Γ a Ow.v ma ta) (hn : decide (0 < n) = true := by rfl) : EX X Γ (.BinOp a .Mod (.Constant (.int n) j p2) pos) Ow.v (do let a ← ma; pure (a % n)) (tOp (rI (fun _ j => 0 < j) fun i j => .int (i % j)) ta (tC (.int n))) :=
  ⟨pe_op op_mod ha.pe pe_int, sr_Ic (f := fun i j : Int => i % j) (fun i => by simpa using hn) (fun _ _ => rfl) ha.sem⟩
theorem ex_cmul {mb : M Int} {n : Int} {j p2} (hb : EX X Γ b Ow.v mb tb) (hn : (decide (-(2 ^ 64) < n) && decide (n < 2 ^ 64)) = true := by rfl) : EX X Γ (.BinOp (.Constant (.int n) j p2) .Mult b pos) Ow.v (do let b ← mb; pure (n * b)) (tOp (rI CMul fun i j => .int (i * j)) (tC (.int n)) tb) :=
  ⟨pe_op op_mul pe_int hb.pe, fun HF0 G HF H σ gg c hc Q k => by
    obtain ⟨i, e1, hc⟩ := bind_ok hc
    cases pure_ok hc
    refine hb.sem HF0 G HF H σ gg i e1 _ fun v HF1 H1 fp s1 r1 _ _ => ?_
    exact ⟨n, i, rfl, r1.1, .inl (by simpa using hn), (k.back s1).flat s1.sub⟩⟩
/-! ### comparisons -/
/-- scalars -/
class Sc (α : Type) [Fl α] [DecidableEq α] : Prop where
  sc : ∀ a b : α, scal (Fl.enc a) (Fl.enc b) = true
  inj : ∀ a b : α, Fl.enc a = Fl.enc b → a = b
instance : Sc Int := ⟨fun _ _ => rfl, fun _ _ h => by cases h; rfl⟩
instance : Sc Bool := ⟨fun _ _ => rfl, fun _ _ h => by cases h; rfl⟩
instance : Sc Str := ⟨fun _ _ => rfl, fun _ _ h => by cases h; rfl⟩
theorem sc_dec [Fl α] [DecidableEq α] [Sc α] (a b : α) : decide (Fl.enc a = Fl.enc b) = decide (a = b) := by
  by_cases h : a = b
  · subst h; simp
  · rw [decide_eq_false h, decide_eq_false fun e => h (Sc.inj a b e)]
theorem sr_eq [Fl α] [DecidableEq α] [Sc α] {K : PySem.W.Frag} : SemR2 K rEq Ow.v (fun (a b : α) => pure (decide (a = b))) := fun HF H v w a b c s ra rb hc Q k => by
  cases pure_ok hc
  rw [Fl.sh_iff.mp ra, Fl.sh_iff.mp rb]
  refine ⟨Sc.sc a b, ?_⟩
  rw [sc_dec]; exact k.flat s
theorem sr_ne [Fl α] [DecidableEq α] [Sc α] {K : PySem.W.Frag} : SemR2 K rNe Ow.v (fun (a b : α) => pure (!decide (a = b))) := fun HF H v w a b c s ra rb hc Q k => by
  cases pure_ok hc
  rw [Fl.sh_iff.mp ra, Fl.sh_iff.mp rb]
  refine ⟨Sc.sc a b, ?_⟩
  rw [sc_dec]; exact k.flat s
end

/-! ### data compared as a whole -/
class Eqv (α : Type) [Rp α] [DecidableEq α] where
  py : α → PyData
  ok : α → Bool
  dep : Nat
  dp : ∀ {K : PySem.W.Frag} {H : Hp} {v : V} {a : α}, Rp.sh K H v a → Dp K H v (py a)
  lay : ∀ a, ok a = true → (py a).canLay0 = true
  deep : ∀ a, (py a).depth ≤ dep
  eqv : ∀ a b, PyData.eqv (py a) (py b) = decide (a = b)
instance : Eqv Int := ⟨fun i => .int i, fun _ => true, 0, fun h => by cases h; exact .int _, fun _ _ => rfl, fun _ => by simp [PyData.depth], fun a b => by simp only [PyData.eqv]; by_cases h : a = b <;> simp [h]⟩
instance : Eqv Bool := ⟨fun i => .bool i, fun _ => true, 0, fun h => by cases h; exact .bl _, fun _ _ => rfl, fun _ => by simp [PyData.depth], fun a b => by simp only [PyData.eqv]; by_cases h : a = b <;> simp [h]⟩
instance : Eqv Str := ⟨fun i => .str i, fun x => PySem.PyData.strOk x, 0, fun h => by cases h; exact .str _, fun _ h => by simpa [PyData.canLay0] using h, fun _ => by simp [PyData.depth], fun a b => by simp only [PyData.eqv]; by_cases h : a = b <;> simp [h]⟩
theorem dpAll_of {α : Type} [Rp α] [DecidableEq α] [Eqv α] {K : PySem.W.Frag} {H : Hp} : ∀ {vs : List V} {as : List α}, Fa (Rp.sh K H) vs as → DpAll K H vs (as.map Eqv.py)
  | [], [], _ => .nil
  | v :: vs, a :: as, ⟨x, y⟩ => .cons (Eqv.dp x) (dpAll_of y)
  | [], _ :: _, x => x.elim
  | _ :: _, [], x => x.elim
theorem layAll_of {α : Type} [Rp α] [DecidableEq α] [Eqv α] : ∀ {as : List α}, as.all Eqv.ok = true → PyData.canLayAll0 (as.map Eqv.py) = true
  | [], _ => by simp [PyData.canLayAll0]
  | a :: as, h => by
    rw [List.all_cons, Bool.and_eq_true] at h
    simp [PyData.canLayAll0, Eqv.lay a h.1, layAll_of h.2]
theorem depAll_of {α : Type} [Rp α] [DecidableEq α] [Eqv α] : ∀ as : List α, PyData.depthAll (as.map Eqv.py) ≤ Eqv.dep α
  | [] => by simp [PyData.depthAll]
  | a :: as => by
    have h1 := Eqv.deep a
    have h2 := depAll_of as
    simp only [List.map_cons, PyData.depthAll]
    omega
theorem eqvAll_of {α : Type} [Rp α] [DecidableEq α] [Eqv α] : ∀ as bs : List α, PyData.eqvAll (as.map Eqv.py) (bs.map Eqv.py) = decide (as = bs)
  | [], [] => by simp [PyData.eqvAll]
  | a :: as, b :: bs => by
    simp only [List.map_cons, PyData.eqvAll, Eqv.eqv, eqvAll_of as bs]
    by_cases h1 : a = b <;> by_cases h2 : as = bs <;> simp [h1, h2]
  | [], b :: bs => by simp [PyData.eqvAll]
  | a :: as, [] => by simp [PyData.eqvAll]
instance eqvList {α : Type} [Rp α] [DecidableEq α] [Eqv α] : Eqv (List α) where
  py as := .list (as.map Eqv.py)
  ok as := as.all Eqv.ok
  dep := Eqv.dep α + 1
  dp := fun ⟨p, vs, h1, h2, h3⟩ => by subst h1; exact .lst (SqL.of h2) (dpAll_of h3)
  lay := fun as h => by simpa [PyData.canLay0] using layAll_of h
  deep := fun as => by simpa [PyData.depth] using depAll_of as
  eqv := fun as bs => by simpa [PyData.eqv] using eqvAll_of as bs
instance eqvTu {α : Type} [Rp α] [DecidableEq α] [Eqv α] : Eqv (Tu α) where
  py as := .tuple (as.l.map Eqv.py)
  ok as := as.l.all Eqv.ok
  dep := Eqv.dep α + 1
  dp := fun ⟨p, vs, h1, h2, h3⟩ => by subst h1; exact .tup h2 (dpAll_of h3)
  lay := fun as h => by simpa [PyData.canLay0] using layAll_of h
  deep := fun as => by simpa [PyData.depth] using depAll_of as.l
  eqv := fun ⟨as⟩ ⟨bs⟩ => by
    simp only [PyData.eqv, eqvAll_of as bs]
    simp
instance eqvPair {α β : Type} [Rp α] [Rp β] [DecidableEq α] [DecidableEq β] [Eqv α] [Eqv β] : Eqv (α × β) where
  py x := .tuple [Eqv.py x.1, Eqv.py x.2]
  ok x := Eqv.ok x.1 && Eqv.ok x.2
  dep := max (Eqv.dep α) (Eqv.dep β) + 1
  dp := fun ⟨p, va, vb, h1, h2, h3, h4⟩ => by subst h1; exact .tup h2 (.cons (Eqv.dp h3) (.cons (Eqv.dp h4) .nil))
  lay := fun x h => by
    rw [Bool.and_eq_true] at h
    simp [PyData.canLay0, PyData.canLayAll0, Eqv.lay x.1 h.1, Eqv.lay x.2 h.2]
  deep := fun x => by
    have h1 := Eqv.deep x.1
    have h2 := Eqv.deep x.2
    simp only [PyData.depth, PyData.depthAll]
    omega
  eqv := fun ⟨a, b⟩ ⟨c, d⟩ => by
    simp only [PyData.eqv, PyData.eqvAll, Eqv.eqv]
    by_cases h1 : a = c <;> by_cases h2 : b = d <;> simp [h1, h2]
def eqM {α : Type} [Rp α] [DecidableEq α] [Eqv α] (a b : α) : M Bool := do gd (Eqv.ok a && Eqv.ok b); pure (decide (a = b))
def neM {α : Type} [Rp α] [DecidableEq α] [Eqv α] (a b : α) : M Bool := do gd (Eqv.ok a && Eqv.ok b); pure (!decide (a = b))
section
variable {X : Cx} {Γ : Ctx} {α β γ : Type} {a b e : Expr} {pos : Pos} {ta tb : TE}
theorem eqv_shaped [Rp α] [DecidableEq α] [Eqv α] {a : α} (h : Eqv.ok a = true) (hd : Eqv.dep α ≤ 64) : SeqAt.shaped (Eqv.py a) = true := by
  show ((Eqv.py a).canLay0 && decide ((Eqv.py a).depth ≤ 64)) = true
  rw [Bool.and_eq_true]
  exact ⟨Eqv.lay a h, decide_eq_true (Nat.le_trans (Eqv.deep a) hd)⟩
theorem sr_eqD [Rp α] [DecidableEq α] [Eqv α] {K : PySem.W.Frag} (hd : Eqv.dep α ≤ 64) : SemR2 K (rEqD K) Ow.v (fun (a b : α) => eqM a b) := fun HF H v w a b c s ra rb hc Q k => by
  obtain ⟨u, e1, hc⟩ := bind_ok hc
  cases pure_ok hc
  have e2 := gd_ok e1
  rw [Bool.and_eq_true] at e2
  refine ⟨_, _, Eqv.dp (Rp.mono s ra), Eqv.dp (Rp.mono s rb), eqv_shaped e2.1 hd, eqv_shaped e2.2 hd, ?_⟩
  rw [Eqv.eqv]; exact k.flat s
theorem sr_neD [Rp α] [DecidableEq α] [Eqv α] {K : PySem.W.Frag} (hd : Eqv.dep α ≤ 64) : SemR2 K (rNeD K) Ow.v (fun (a b : α) => neM a b) := fun HF H v w a b c s ra rb hc Q k => by
  obtain ⟨u, e1, hc⟩ := bind_ok hc
  cases pure_ok hc
  have e2 := gd_ok e1
  rw [Bool.and_eq_true] at e2
  refine ⟨_, _, Eqv.dp (Rp.mono s ra), Eqv.dp (Rp.mono s rb), eqv_shaped e2.1 hd, eqv_shaped e2.2 hd, ?_⟩
  rw [Eqv.eqv]; exact k.flat s
/-! ### truth -/
theorem et_val {m : M Bool} {t : TE} (h : EX X Γ e Ow.v m t) (he : ∀ whole, isTrue e X.env whole = (do let v ← whole; standAt e.pos; holding [v] (truthy v)) := by intro _; rfl) : ET X Γ e m (tB t) :=
  ⟨pt_val h.pe he, fun HF0 G HF H σ g c hc Q k => h.sem HF0 G HF H σ g c hc _ fun v HF' H' fp s r _ _ => ⟨c, r.1, k HF' H' s⟩⟩
def bNot (m : M Bool) : M Bool := do let a ← m; pure (!a)
def bAnd (m n : M Bool) : M Bool := do let a ← m; if a then n else pure false
def bOr (m n : M Bool) : M Bool := do let a ← m; if a then pure true else n
variable {m n : M Bool} {t u : TT} {rest : List Expr}
theorem et_not (h : ET X Γ e m t) : ET X Γ (.UnaryOp .Not e pos) (bNot m) (tNot t) :=
  ⟨pt_not h.pt, fun HF0 G HF H σ g c hc Q k => by
    obtain ⟨x, e1, hc⟩ := bind_ok hc
    cases pure_ok hc
    exact h.sem HF0 G HF H σ g x e1 _ fun HF' H' s => k HF' H' s⟩
theorem ew_pt (h : EW X Γ e m t) : ET X Γ e m t := ⟨h.pw.pt, h.sem⟩
theorem ew_and1 (h : ET X Γ a m t) : EW X Γ (.BoolOp .And [a] pos) m t := ⟨pw_and1 h.pt, h.sem⟩
theorem ew_or1 (h : ET X Γ a m t) : EW X Γ (.BoolOp .Or [a] pos) m t := ⟨pw_or1 h.pt, h.sem⟩
theorem semT_and {K : PySem.W.Frag} (h : SemT K Γ t m) (h' : SemT K Γ u n) : SemT K Γ (tAnd t u) (bAnd m n) := fun HF0 G HF H σ g c hc Q k => by
  obtain ⟨x, e1, hc⟩ := bind_ok hc
  refine h HF0 G HF H σ g x e1 _ fun HF' H' s => ?_
  cases x with
  | true => exact iteT (h' HF0 G HF' H' σ (g.step s) c hc Q fun HF2 H2 s2 => k HF2 H2 (s.trans s2))
  | false =>
    cases pure_ok (show (pure false : M Bool) = .ok c from hc)
    exact iteF (k HF' H' s)
theorem semT_or {K : PySem.W.Frag} (h : SemT K Γ t m) (h' : SemT K Γ u n) : SemT K Γ (tOr t u) (bOr m n) := fun HF0 G HF H σ g c hc Q k => by
  obtain ⟨x, e1, hc⟩ := bind_ok hc
  refine h HF0 G HF H σ g x e1 _ fun HF' H' s => ?_
  cases x with
  | false => exact iteF (h' HF0 G HF' H' σ (g.step s) c hc Q fun HF2 H2 s2 => k HF2 H2 (s.trans s2))
  | true =>
    cases pure_ok (show (pure true : M Bool) = .ok c from hc)
    exact iteT (k HF' H' s)
theorem ew_and (h : ET X Γ a m t) (h' : EW X Γ (.BoolOp .And (b :: rest) pos) n u) : EW X Γ (.BoolOp .And (a :: b :: rest) pos) (bAnd m n) (tAnd t u) := ⟨pw_and h.pt h'.pw, semT_and h.sem h'.sem⟩
theorem ew_or (h : ET X Γ a m t) (h' : EW X Γ (.BoolOp .Or (b :: rest) pos) n u) : EW X Γ (.BoolOp .Or (a :: b :: rest) pos) (bOr m n) (tOr t u) := ⟨pw_or h.pt h'.pw, semT_or h.sem h'.sem⟩
theorem ex_one {op} {m : M Bool} {t : TE} (h : EX X Γ a Ow.v m t) : EX X Γ (.BoolOp op [a] pos) Ow.v m t := ⟨pe_one h.pe, h.sem⟩
variable {t u : TE}
theorem ex_not (h : EX X Γ e Ow.v m t) : EX X Γ (.UnaryOp .Not e pos) Ow.v (bNot m) (tNotV t) :=
  ⟨pe_not h.pe, fun HF0 G HF H σ g c hc Q k => by
    obtain ⟨x, e1, hc⟩ := bind_ok hc
    cases pure_ok hc
    exact h.sem HF0 G HF H σ g x e1 _ fun v HF' H' fp s r _ _ => ⟨x, r.1, (k.back s).flat s.sub⟩⟩
theorem ex_and (h : EX X Γ a Ow.v m t) (h' : EX X Γ (.BoolOp .And (b :: rest) pos) Ow.v n u) : EX X Γ (.BoolOp .And (a :: b :: rest) pos) Ow.v (bAnd m n) (tAndV t u) :=
  ⟨pe_and h.pe h'.pe, fun HF0 G HF H σ g c hc Q k => by
    obtain ⟨x, e1, hc⟩ := bind_ok hc
    refine h.sem HF0 G HF H σ g x e1 _ fun v HF' H' fp s r _ _ => ⟨x, r.1, ?_⟩
    cases x with
    | true => exact iteT (h'.sem HF0 G HF' H' σ (g.step s) c hc Q (k.back s))
    | false =>
      cases pure_ok (show (pure false : M Bool) = .ok c from hc)
      exact iteF ((k.back s).flat s.sub)⟩
theorem ex_or (h : EX X Γ a Ow.v m t) (h' : EX X Γ (.BoolOp .Or (b :: rest) pos) Ow.v n u) : EX X Γ (.BoolOp .Or (a :: b :: rest) pos) Ow.v (bOr m n) (tOrV t u) :=
  ⟨pe_or h.pe h'.pe, fun HF0 G HF H σ g c hc Q k => by
    obtain ⟨x, e1, hc⟩ := bind_ok hc
    refine h.sem HF0 G HF H σ g x e1 _ fun v HF' H' fp s r _ _ => ⟨x, r.1, ?_⟩
    cases x with
    | false => exact iteF (h'.sem HF0 G HF' H' σ (g.step s) c hc Q (k.back s))
    | true =>
      cases pure_ok (show (pure true : M Bool) = .ok c from hc)
      exact iteT ((k.back s).flat s.sub)⟩
end
end Ty

namespace Ty
open PySem L2

/-! ### arguments -/
structure As (A : Type) where
  rep : PySem.W.Frag → Hp → List V → A → Prop
  mono : ∀ {K : PySem.W.Frag} {H H' : Hp} {vs : List V} {a : A}, Same H H' → rep K H vs a → rep K H' vs a
  n : Nat
  len : ∀ {K : PySem.W.Frag} {H : Hp} {vs : List V} {a : A}, rep K H vs a → vs.length = n
  ctx : A → Ctx
  held : ∀ {K : PySem.W.Frag} {HF H : Hp} {vs : List V} {a : A} (k : Nat), rep K HF vs a → Holds K HF H (ctx a ++ List.replicate k .un) (vs.map some ++ List.replicate k none) []
theorem held_un {K : PySem.W.Frag} {HF H : Hp} : ∀ k : Nat, Holds K HF H (List.replicate k .un) (List.replicate k none) []
  | 0 => rfl
  | k + 1 => ⟨[], [], rfl, rfl, held_un k⟩
def As.nil : As Unit where
  rep _ _ vs _ := vs = []
  mono _ h := h
  n := 0
  len h := by rw [h]; rfl
  ctx _ := []
  held k h := by rw [h]; exact held_un k
def As.cons {α B : Type} [Rp α] (r : As B) : As (α × B) where
  rep K H vs x := ∃ v ws, vs = v :: ws ∧ Rp.sh K H v x.1 ∧ r.rep K H ws x.2
  mono := fun e ⟨v, ws, h1, h2, h3⟩ => ⟨v, ws, h1, Rp.mono e h2, r.mono e h3⟩
  n := r.n + 1
  len := fun ⟨v, ws, h1, h2, h3⟩ => by rw [h1, List.length_cons, r.len h3]
  ctx x := .mk Ow.v x.1 :: r.ctx x.2
  held := fun k ⟨v, ws, h1, h2, h3⟩ => by
    subst h1
    exact ⟨[], [], rfl, ⟨v, rfl, h2, rfl⟩, r.held k h3⟩
def SemA {A : Type} (K : PySem.W.Frag) (Γ : Ctx) (t : TA) (r : As A) (m : M A) : Prop :=
  ∀ HF0 G HF H σ, Good K HF0 G Γ HF H σ → ∀ a, m = .ok a → ∀ Q : List V → Hp → Prop, (∀ vs HF' H', Step HF H HF' H' → r.rep K HF' vs a → Q vs H') → t σ H Q
structure EA {A : Type} (X : Cx) (Γ : Ctx) (es : List Expr) (r : As A) (m : M A) (t : TA) : Prop where
  pa : PA X es t
  sem : SemA X.K Γ t r m
section
variable {X : Cx} {Γ : Ctx} {α β γ A B : Type} {a b e : Expr} {es : List Expr} {pos p apos : Pos} {ta tb te : TE} {t : TA}
theorem ea_nil : EA X Γ [] As.nil (pure ()) tNil := ⟨pa_nil, fun HF0 G HF H σ g c hc Q k => k [] HF H (Step.refl g.sub) rfl⟩
theorem ea_cons [Rp α] {r : As B} {m : M α} {n : M B} (h : EX X Γ e Ow.v m te) (h' : EA X Γ es r n t) (hs : starEach (e :: es) X.env = (false, eval e X.env) :: starEach es X.env := by rfl) :
    EA X Γ (e :: es) (As.cons (α := α) r) (do let a ← m; let b ← n; pure (a, b)) (tCons te t) :=
  ⟨pa_cons h.pe h'.pa hs, fun HF0 G HF H σ g c hc Q k => by
    obtain ⟨x, e1, hc⟩ := bind_ok hc
    obtain ⟨y, e2, hc⟩ := bind_ok hc
    cases pure_ok hc
    refine h.sem HF0 G HF H σ g x e1 _ fun v HF1 H1 fp s1 r1 _ _ => ?_
    refine h'.sem HF0 G HF1 H1 σ (g.step s1) y e2 _ fun vs HF2 H2 s2 r2 => ?_
    exact k (v :: vs) HF2 H2 (s1.trans s2) ⟨v, vs, rfl, Rp.mono s2.exF r1.1, r2⟩⟩
/-! ### a builtin called -/
def SemC1 [Rp α] [Rp γ] (K : PySem.W.Frag) (r : List V → Hp → VK → Prop) (o : Ow γ) (f : α → M γ) : Prop :=
  ∀ HF H v a c, Same HF H → Rp.sh K HF v a → f a = .ok c → ∀ Q : VK, RetK K HF H o c Q → r [v] H Q
def SemC2 [Rp α] [Rp β] [Rp γ] (K : PySem.W.Frag) (r : List V → Hp → VK → Prop) (o : Ow γ) (f : α → β → M γ) : Prop :=
  ∀ HF H v w a b c, Same HF H → Rp.sh K HF v a → Rp.sh K HF w b → f a b = .ok c → ∀ Q : VK, RetK K HF H o c Q → r [v, w] H Q
theorem semC1_run [Rp α] [Rp γ] {K : PySem.W.Frag} {r : List V → Hp → VK → Prop} {o : Ow γ} {f : α → M γ} {m : M α} (hr : SemC1 K r o f) (ha : SemE K Γ te Ow.v m) : SemE K Γ (tCB r (tCons te tNil)) o (do let a ← m; f a) := fun HF0 G HF H σ g c hc Q k => by
  obtain ⟨x, e1, hc⟩ := bind_ok hc
  exact ha HF0 G HF H σ g x e1 _ fun v HF1 H1 fp s1 r1 _ _ => hr HF1 H1 v x c s1.sub r1.1 hc Q (k.back s1)
theorem semC2_run [Rp α] [Rp β] [Rp γ] {K : PySem.W.Frag} {r : List V → Hp → VK → Prop} {o : Ow γ} {f : α → β → M γ} {m : M α} {n : M β} (hr : SemC2 K r o f) (ha : SemE K Γ ta Ow.v m) (hb : SemE K Γ tb Ow.v n) : SemE K Γ (tCB r (tCons ta (tCons tb tNil))) o (do let a ← m; let b ← n; f a b) := fun HF0 G HF H σ g c hc Q k => by
  obtain ⟨x, e1, hc⟩ := bind_ok hc
  obtain ⟨y, e2, hc⟩ := bind_ok hc
  refine ha HF0 G HF H σ g x e1 _ fun v HF1 H1 fp s1 r1 _ _ => ?_
  refine hb HF0 G HF1 H1 σ (g.step s1) y e2 _ fun w HF2 H2 fp2 s2 r2 _ _ => ?_
  exact hr HF2 H2 v w x y c s2.sub (Rp.mono s2.exF r1.1) r2.1 hc Q (k.back (s1.trans s2))
section
variable {id T : String} {x : Str} {r : List V → Hp → VK → Prop}
theorem ex_b1 [Rp α] [Rp γ] {o : Ow γ} {f : α → M γ} {m : M α} (hc : CallR X (.builtin id) r) (hr : SemC1 X.K r o f) (hv : bootBuiltins x = some (.builtin id)) (hm : X.mg x = none) (ha : EX X Γ a Ow.v m ta) (hg : Gl X x := by rfl) (hn : x ≠ "__name__" := by decide) (hdb : (x == ("__debug__" : Str)) = false := by decide)
    (h1 : starEach [a] X.env = (false, eval a X.env) :: starEach [] X.env := by rfl) (hpl : (backTo pos (starEach [] X.env)).any (·.1) = false := by rfl) : EX X Γ (.Call (.Name x p) [a] [] pos) o (do let a ← m; f a) (tCB r (tCons ta tNil)) :=
  ⟨pe_callB hc hg hm hv (pa_cons ha.pe pa_nil h1) hn hdb h1 hpl, semC1_run hr ha.sem⟩
theorem ex_t1 [Rp α] [Rp γ] {o : Ow γ} {f : α → M γ} {m : M α} (hc : CallR X (.type T) r) (hr : SemC1 X.K r o f) (hv : bootBuiltins x = some (.type T)) (hm : X.mg x = none) (ha : EX X Γ a Ow.v m ta) (hg : Gl X x := by rfl) (hn : x ≠ "__name__" := by decide) (hdb : (x == ("__debug__" : Str)) = false := by decide)
    (h1 : starEach [a] X.env = (false, eval a X.env) :: starEach [] X.env := by rfl) (hpl : (backTo pos (starEach [] X.env)).any (·.1) = false := by rfl) : EX X Γ (.Call (.Name x p) [a] [] pos) o (do let a ← m; f a) (tCB r (tCons ta tNil)) :=
  ⟨pe_callTy hc hg hm hv (pa_cons ha.pe pa_nil h1) hn hdb h1 hpl, semC1_run hr ha.sem⟩
theorem ex_b2 [Rp α] [Rp β] [Rp γ] {o : Ow γ} {f : α → β → M γ} {m : M α} {n : M β} (hc : CallR X (.builtin id) r) (hr : SemC2 X.K r o f) (hv : bootBuiltins x = some (.builtin id)) (hm : X.mg x = none) (ha : EX X Γ a Ow.v m ta) (hb : EX X Γ b Ow.v n tb) (hg : Gl X x := by rfl) (hn : x ≠ "__name__" := by decide) (hdb : (x == ("__debug__" : Str)) = false := by decide)
    (h1 : starEach [a, b] X.env = (false, eval a X.env) :: starEach [b] X.env := by rfl) (h2 : starEach [b] X.env = (false, eval b X.env) :: starEach [] X.env := by rfl) (hpl : (backTo pos (starEach [b] X.env)).any (·.1) = false := by rfl) : EX X Γ (.Call (.Name x p) [a, b] [] pos) o (do let a ← m; let b ← n; f a b) (tCB r (tCons ta (tCons tb tNil))) :=
  ⟨pe_callB hc hg hm hv (pa_cons ha.pe (pa_cons hb.pe pa_nil h2) h1) hn hdb h1 hpl, semC2_run hr ha.sem hb.sem⟩
end
/-! ### len -/
def rLenQ (K : PySem.W.Frag) : List V → Hp → VK → Prop := fun xs H Q => ∃ p ys, xs = [.ref p] ∧ (SqL K H p ys ∨ SqT K H p ys) ∧ Q (.int ys.length) H
def rLenSt : List V → Hp → VK → Prop := fun xs H Q => ∃ z, xs = [.str z] ∧ z.length ≤ sizeLine ∧ Q (.int z.length) H
theorem cr_lenQ : CallR X (.builtin "len") (rLenQ X.K) := call_len_seq
theorem cr_lenSt : CallR X (.builtin "len") rLenSt := call_len_str
def lenS (x : Str) : M Int := do gd (decide (x.length ≤ sizeLine)); pure (x.length : Int)
theorem sc_lenL [Rp α] {K : PySem.W.Frag} : SemC1 K (rLenQ K) Ow.v (fun (x : List α) => pure (x.length : Int)) := fun HF H v a c s ⟨q, us, e, h1, h2⟩ hc Q k => by
  cases pure_ok hc
  subst e
  refine ⟨q, us, rfl, .inl (SqL.of (s _ _ h1)), ?_⟩
  rw [h2.len]; exact k.flat s
theorem sc_lenScr {K : PySem.W.Frag} : SemC1 K (rLenQ K) Ow.v (fun (x : Scr) => pure (x.l.length : Int)) := fun HF H v a c s ⟨q, e, h1⟩ hc Q k => by
  cases pure_ok hc
  subst e
  refine ⟨q, _, rfl, .inl (s.seq h1), ?_⟩
  rw [List.length_map]; exact k.flat s
theorem sc_lenTu [Rp α] {K : PySem.W.Frag} : SemC1 K (rLenQ K) Ow.v (fun (x : Tu α) => pure (x.l.length : Int)) := fun HF H v a c s ⟨q, us, e, h1, h2⟩ hc Q k => by
  cases pure_ok hc
  subst e
  refine ⟨q, us, rfl, .inr (sqT_mono s h1), ?_⟩
  rw [h2.len]; exact k.flat s
theorem sc_lenS {K : PySem.W.Frag} : SemC1 K rLenSt Ow.v (fun (x : Str) => lenS x) := fun HF H v a c s h1 hc Q k => by
  obtain ⟨u, e1, hc⟩ := bind_ok hc
  cases pure_ok hc
  exact ⟨_, by rw [Fl.sh_iff.mp h1]; rfl, of_decide_eq_true (gd_ok e1), k.flat s⟩
theorem ex_lenL {K : PySem.W.Frag} [Rp α] {m : M (List α)} (ml : X.mg "len" = none) (h : EX X Γ e Ow.v m te) (hg : Gl X "len" := by rfl) (h1 : starEach [e] X.env = (false, eval e X.env) :: starEach [] X.env := by rfl) (hK : X.K = K := by rfl) : EX X Γ (.Call (.Name "len" p) [e] [] pos) Ow.v (do let a ← m; pure (a.length : Int)) (tCB (rLenQ K) (tCons te tNil)) := by
  subst hK
  exact ex_b1 cr_lenQ sc_lenL PySem.boot_len ml h hg (h1 := h1)
theorem ex_lenScr {K : PySem.W.Frag} {m : M Scr} (ml : X.mg "len" = none) (h : EX X Γ e Ow.v m te) (hg : Gl X "len" := by rfl) (h1 : starEach [e] X.env = (false, eval e X.env) :: starEach [] X.env := by rfl) (hK : X.K = K := by rfl) : EX X Γ (.Call (.Name "len" p) [e] [] pos) Ow.v (do let a ← m; pure (a.l.length : Int)) (tCB (rLenQ K) (tCons te tNil)) := by
  subst hK
  exact ex_b1 cr_lenQ sc_lenScr PySem.boot_len ml h hg (h1 := h1)
theorem ex_lenTu {K : PySem.W.Frag} [Rp α] {m : M (Tu α)} (ml : X.mg "len" = none) (h : EX X Γ e Ow.v m te) (hg : Gl X "len" := by rfl) (h1 : starEach [e] X.env = (false, eval e X.env) :: starEach [] X.env := by rfl) (hK : X.K = K := by rfl) : EX X Γ (.Call (.Name "len" p) [e] [] pos) Ow.v (do let a ← m; pure (a.l.length : Int)) (tCB (rLenQ K) (tCons te tNil)) := by
  subst hK
  exact ex_b1 cr_lenQ sc_lenTu PySem.boot_len ml h hg (h1 := h1)
theorem ex_lenS {m : M Str} (ml : X.mg "len" = none) (h : EX X Γ e Ow.v m te) (hg : Gl X "len" := by rfl) (h1 : starEach [e] X.env = (false, eval e X.env) :: starEach [] X.env := by rfl) : EX X Γ (.Call (.Name "len" p) [e] [] pos) Ow.v (do let a ← m; lenS a) (tCB rLenSt (tCons te tNil)) := ex_b1 cr_lenSt sc_lenS PySem.boot_len ml h hg (h1 := h1)

/-! ### items -/
def atM {α : Type} (xs : List α) (i : Int) : M α := ofO (atI xs i)
theorem atI_fa {α : Type} {R : V → α → Prop} {vs : List V} {as : List α} {i : Int} {a : α} (h : Fa R vs as) (e : atI as i = some a) : ∃ v, atI vs i = some v ∧ R v a := by
  unfold atI at e ⊢
  rw [h.len]
  cases q : ixN as.length i with
  | none => rw [q] at e; cases e
  | some j =>
    rw [q] at e
    exact Fa.get' h e
theorem sr_ixL [Rp α] {K : PySem.W.Frag} : SemR2 K (rIxL K) Ow.v (fun (x : List α) (i : Int) => atM x i) := fun HF H v w a b c s ⟨q, us, e, h1, h2⟩ rb hc Q k => by
  subst e
  cases rb
  obtain ⟨y, e1, r1⟩ := atI_fa h2 (ofO_ok hc)
  exact ⟨q, us, b, y, rfl, rfl, SqL.of (s _ _ h1), e1, k.shv s r1⟩
theorem sr_ixScr {K : PySem.W.Frag} : SemR2 K (rIxL K) Ow.v (fun (x : Scr) (i : Int) => atM x.l i) := fun HF H v w a b c s ⟨q, e, h1⟩ rb hc Q k => by
  subst e
  cases rb
  obtain ⟨y, e1, r1⟩ := atI_fa (Fa.flat (K := K) (H := H).mpr rfl) (ofO_ok hc)
  exact ⟨q, _, b, y, rfl, rfl, s.seq h1, e1, by rw [Fl.sh_iff.mp r1]; exact k.flat s⟩
def sgS (c : Nat) : Str := ⟨#[c]⟩
def atS (x : Str) (i : Int) : M Str := do gd (decide (x.length ≤ sizeLine)); let c ← ofO (atI x.cps.toList i); pure (sgS c)
theorem sr_ixS {K : PySem.W.Frag} : SemR2 K rIxS Ow.v (fun (x : Str) (i : Int) => atS x i) := fun HF H v w a b c s ra rb hc Q k => by
  obtain ⟨u, e1, hc⟩ := bind_ok hc
  obtain ⟨d, e2, hc⟩ := bind_ok hc
  cases pure_ok hc
  cases rb
  exact ⟨a, b, d, Fl.sh_iff.mp ra, rfl, of_decide_eq_true (gd_ok e1), ofO_ok e2, k.flat s⟩
theorem ex_ix [Rp α] [Rp β] [Rp γ] {r : R2} {f : α → β → M γ} {o : Ow γ} {m : M α} {n : M β} (hi : IxR X r) (hr : SemR2 X.K r o f) (ha : EX X Γ a Ow.v m ta) (hb : EX X Γ b Ow.v n tb) (hs : PlainIx b := by intro _ _; rfl) : EX X Γ (.Subscript a b pos) o (do let a ← m; let b ← n; f a b) (tOp r ta tb) := ⟨pe_ix hi ha.pe hb.pe hs, sem_op hr ha.sem hb.sem⟩
theorem ex_ixL {K : PySem.W.Frag} [Rp α] {m : M (List α)} {n : M Int} (ha : EX X Γ a Ow.v m ta) (hb : EX X Γ b Ow.v n tb) (hs : PlainIx b := by intro _ _; rfl) (hK : X.K = K := by rfl) : EX X Γ (.Subscript a b pos) Ow.v (do let a ← m; let b ← n; atM a b) (tOp (rIxL K) ta tb) := by
  subst hK
  exact ex_ix ix_list sr_ixL ha hb hs
theorem ex_ixScr {K : PySem.W.Frag} {m : M Scr} {n : M Int} (ha : EX X Γ a Ow.v m ta) (hb : EX X Γ b Ow.v n tb) (hs : PlainIx b := by intro _ _; rfl) (hK : X.K = K := by rfl) : EX X Γ (.Subscript a b pos) Ow.v (do let a ← m; let b ← n; atM a.l b) (tOp (rIxL K) ta tb) := by
  subst hK
  exact ex_ix ix_list sr_ixScr ha hb hs
theorem ex_ixS {m : M Str} {n : M Int} (ha : EX X Γ a Ow.v m ta) (hb : EX X Γ b Ow.v n tb) (hs : PlainIx b := by intro _ _; rfl) : EX X Γ (.Subscript a b pos) Ow.v (do let a ← m; let b ← n; atS a b) (tOp rIxS ta tb) := ex_ix ix_str sr_ixS ha hb hs
/-- a pair's first and second thing, by a written number -/
theorem ex_ixP0 {K : PySem.W.Frag} [Rp α] [Rp β] {m : M (α × β)} {j p2} (ha : EX X Γ a Ow.v m ta) (hs : PlainIx (.Constant (.int 0) j p2) := by intro _ _; rfl) (hK : X.K = K := by rfl) : EX X Γ (.Subscript a (.Constant (.int 0) j p2) pos) Ow.v (do let a ← m; pure a.1) (tOp (rIxT K) ta (tC (.int 0))) := by
  subst hK
  exact ⟨pe_ix ix_tup ha.pe pe_int hs, fun HF0 G HF H σ g c hc Q k => by
    obtain ⟨x, e1, hc⟩ := bind_ok hc
    cases pure_ok hc
    refine ha.sem HF0 G HF H σ g x e1 _ fun v HF1 H1 fp s1 r1 _ _ => ?_
    obtain ⟨⟨q, va, vb, h1, h2, h3, h4⟩, _⟩ := r1
    exact ⟨q, _, 0, va, h1, rfl, sqT_mono s1.sub h2, rfl, (k.back s1).shv s1.sub h3⟩⟩
theorem ex_ixP1 {K : PySem.W.Frag} [Rp α] [Rp β] {m : M (α × β)} {j p2} (ha : EX X Γ a Ow.v m ta) (hs : PlainIx (.Constant (.int 1) j p2) := by intro _ _; rfl) (hK : X.K = K := by rfl) : EX X Γ (.Subscript a (.Constant (.int 1) j p2) pos) Ow.v (do let a ← m; pure a.2) (tOp (rIxT K) ta (tC (.int 1))) := by
  subst hK
  exact ⟨pe_ix ix_tup ha.pe pe_int hs, fun HF0 G HF H σ g c hc Q k => by
    obtain ⟨x, e1, hc⟩ := bind_ok hc
    cases pure_ok hc
    refine ha.sem HF0 G HF H σ g x e1 _ fun v HF1 H1 fp s1 r1 _ _ => ?_
    obtain ⟨⟨q, va, vb, h1, h2, h3, h4⟩, _⟩ := r1
    exact ⟨q, _, 1, vb, h1, rfl, sqT_mono s1.sub h2, rfl, (k.back s1).shv s1.sub h4⟩⟩
/-! ### slices, +, *, list(..) -/
structure EO (X : Cx) (Γ : Ctx) (e : Option Expr) (m : M (Option Int)) (t : TO) : Prop where
  po : PO X e t
  sem : ∀ HF0 G HF H σ, Good X.K HF0 G Γ HF H σ → ∀ a, m = .ok a → ∀ Q : Option Int → Hp → Prop, (∀ HF' H', Step HF H HF' H' → Q a H') → t σ H Q
theorem eo_none : EO X Γ none (pure none) tNoPart := ⟨po_none, fun HF0 G HF H σ g c hc Q k => by cases pure_ok hc; exact k HF H (Step.refl g.sub)⟩
theorem eo_some {m : M Int} (h : EX X Γ e Ow.v m te) : EO X Γ (some e) (do let i ← m; pure (some i)) (tPart te) :=
  ⟨po_some h.pe, fun HF0 G HF H σ g c hc Q k => by
    obtain ⟨x, e1, hc⟩ := bind_ok hc
    cases pure_ok hc
    exact h.sem HF0 G HF H σ g x e1 _ fun v HF1 H1 fp s1 r1 _ _ => ⟨x, r1.1, k HF1 H1 s1⟩⟩
def cutL {α : Type} (xs : List α) (lo hi : Option Int) : List α := (xs.drop (HT.sIx xs.length 0 lo)).take (HT.sIx xs.length xs.length hi - HT.sIx xs.length 0 lo)
theorem Fa.cut {α : Type} {R : V → α → Prop} {vs : List V} {as : List α} (h : Fa R vs as) (lo hi : Option Int) : Fa R (cutV vs lo hi) (cutL as lo hi) := by
  unfold cutV cutL
  rw [h.len]
  exact Fa.take _ (Fa.drop _ h)
def SemSl [Rp α] [Rp γ] (K : PySem.W.Frag) (r : V → Option Int → Option Int → Hp → VK → Prop) (o : Ow γ) (f : α → Option Int → Option Int → M γ) : Prop :=
  ∀ HF H v a l u c, Same HF H → Rp.sh K HF v a → f a l u = .ok c → ∀ Q : VK, RetK K HF H o c Q → r v l u H Q
theorem ex_slice [Rp α] [Rp γ] {r : V → Option Int → Option Int → Hp → VK → Prop} {o : Ow γ} {f : α → Option Int → Option Int → M γ} {m : M α} {ml mu : M (Option Int)} {lo hi : Option Expr} {tl th : TO} {p2 : Pos} (hr : SlR X r) (hs : SemSl X.K r o f) (h : EX X Γ e Ow.v m te) (hl : EO X Γ lo ml tl) (hu : EO X Γ hi mu th) :
    EX X Γ (.Subscript e (.Slice lo hi none p2) pos) o (do let a ← m; let l ← ml; let u ← mu; f a l u) (tSl r te tl th) :=
  ⟨pe_slice hr h.pe hl.po hu.po, fun HF0 G HF H σ g c hc Q k => by
    obtain ⟨x, e1, hc⟩ := bind_ok hc
    obtain ⟨l, e2, hc⟩ := bind_ok hc
    obtain ⟨u, e3, hc⟩ := bind_ok hc
    refine h.sem HF0 G HF H σ g x e1 _ fun v HF1 H1 fp s1 r1 _ _ => ?_
    have g1 := g.step s1
    refine hl.sem HF0 G HF1 H1 σ g1 l e2 _ fun HF2 H2 s2 => ?_
    have g2 := g1.step s2
    refine hu.sem HF0 G HF2 H2 σ g2 u e3 _ fun HF3 H3 s3 => ?_
    exact hs HF3 H3 v x l u c s3.sub (Rp.mono (s2.exF.trans s3.exF) r1.1) hc Q (k.back ((s1.trans s2).trans s3))⟩
theorem ex_cutL {K : PySem.W.Frag} [Rp α] {m : M (List α)} {ml mu : M (Option Int)} {lo hi : Option Expr} {tl th : TO} {p2 : Pos} (h : EX X Γ e Ow.v m te) (hl : EO X Γ lo ml tl) (hu : EO X Γ hi mu th) (hK : X.K = K := by rfl) :
    EX X Γ (.Subscript e (.Slice lo hi none p2) pos) (Ow.l Ow.v) (do let a ← m; let l ← ml; let u ← mu; pure (cutL a l u)) (tSl (rSlL K) te tl th) := by
  subst hK
  exact ex_slice sl_list (show SemSl X.K (rSlL X.K) (Ow.l Ow.v) (fun (a : List α) l u => pure (cutL a l u)) from fun HF H v a l u c s ⟨q, us, e, h1, h2⟩ hc Q k => by
    cases pure_ok hc
    subst e
    exact ⟨q, us, rfl, SqL.of (s _ _ h1), fun p hp => k.lst s (h2.cut l u) hp⟩) h hl hu
def cutSM (x : Str) (l u : Option Int) : M Str := do gd (decide (x.length ≤ sizeLine)); pure (cutS x l u)
theorem ex_cutS {m : M Str} {ml mu : M (Option Int)} {lo hi : Option Expr} {tl th : TO} {p2 : Pos} (h : EX X Γ e Ow.v m te) (hl : EO X Γ lo ml tl) (hu : EO X Γ hi mu th) :
    EX X Γ (.Subscript e (.Slice lo hi none p2) pos) Ow.v (do let a ← m; let l ← ml; let u ← mu; cutSM a l u) (tSl rSlS te tl th) :=
  ex_slice (f := cutSM) sl_str (fun HF H v a l u c s ra hc Q k => by
    obtain ⟨w, e1, hc⟩ := bind_ok hc
    cases pure_ok hc
    exact ⟨a, Fl.sh_iff.mp ra, of_decide_eq_true (gd_ok e1), k.flat s⟩) h hl hu
def szB (n : Nat) : Bool := decide (n ≤ sizeLine)
def catM {α : Type} (a b : List α) : M (List α) := do gd (szB (a.length + b.length)); pure (a ++ b)
theorem ex_cat [Rp α] {m n : M (List α)} (ha : EX X Γ a Ow.v m ta) (hb : EX X Γ b Ow.v n tb) : EX X Γ (.BinOp a .Add b pos) (Ow.l Ow.v) (do let a ← m; let b ← n; catM a b) (tOp rCat ta tb) :=
  ex_op op_cat (show SemR2 X.K rCat (Ow.l Ow.v) (fun (a b : List α) => catM a b) from fun HF H v w a b c s ⟨q, us, e, h1, h2⟩ ⟨q', us', e', h1', h2'⟩ hc Q k => by
    obtain ⟨u, e1, hc⟩ := bind_ok hc
    cases pure_ok hc
    subst e e'
    exact ⟨q, q', us, us', rfl, rfl, s _ _ h1, s _ _ h1', by rw [h2.len, h2'.len]; exact of_decide_eq_true (gd_ok e1), fun p hp => k.lst s (h2.append h2') hp⟩) ha hb
def addSM (a b : Str) : M Str := do gd (szB (a.length + b.length)); pure (a ++ b)
def rAddSt : R2 := fun x y H Q => ∃ i j, x = .str i ∧ y = .str j ∧ i.length + j.length ≤ sizeLine ∧ Q (.str (i ++ j)) H
theorem ex_addS {m n : M Str} (ha : EX X Γ a Ow.v m ta) (hb : EX X Γ b Ow.v n tb) : EX X Γ (.BinOp a .Add b pos) Ow.v (do let a ← m; let b ← n; addSM a b) (tOp rAddSt ta tb) :=
  ex_op op_add_str (fun HF H v w a b c s ra rb hc Q k => by
    obtain ⟨u, e1, hc⟩ := bind_ok hc
    cases pure_ok hc
    exact ⟨a, b, Fl.sh_iff.mp ra, Fl.sh_iff.mp rb, of_decide_eq_true (gd_ok e1), k.flat s⟩) ha hb
def rListOf (K : PySem.W.Frag) : List V → Hp → VK → Prop := fun xs H Q => ∃ p ys, xs = [.ref p] ∧ (SqL K H p ys ∨ SqT K H p ys) ∧ ∀ l, H l = none → Q (.ref l) (upd H l (.lst ys))
theorem ex_listL {K : PySem.W.Frag} [Rp α] {m : M (List α)} (ml : X.mg "list" = none) (h : EX X Γ e Ow.v m te) (hg : Gl X "list" := by rfl) (h1 : starEach [e] X.env = (false, eval e X.env) :: starEach [] X.env := by rfl) (hK : X.K = K := by rfl) : EX X Γ (.Call (.Name "list" p) [e] [] pos) (Ow.l Ow.v) (m >>= fun a => pure a) (tCB (rListOf K) (tCons te tNil)) := by
  subst hK
  exact ex_t1 call_list_of (show SemC1 X.K (rListOf X.K) (Ow.l Ow.v) (fun (a : List α) => pure a) from fun HF H v a c s ⟨q, us, e, h1, h2⟩ hc Q k => by
      cases pure_ok hc
      subst e
      exact ⟨q, us, rfl, .inl (SqL.of (s _ _ h1)), fun l hl => k.lst s h2 hl⟩) (by decide +kernel) ml h hg (h1 := h1)
/-! ### displays -/
def SemL [Rp α] (K : PySem.W.Frag) (Γ : Ctx) (t : TA) (o : Ow α) (m : M (List α)) : Prop :=
  ∀ HF0 G HF H σ, Good K HF0 G Γ HF H σ → ∀ a, m = .ok a → ∀ Q : List V → Hp → Prop, (∀ vs HF' H' fp, Step HF H HF' H' → Rl (o.rep K HF' H') vs a fp → fp.Nodup → (∀ p ∈ fp, H p = none ∧ HF' p = none) → Q vs H') → t σ H Q
structure EL [Rp α] (X : Cx) (Γ : Ctx) (es : List Expr) (o : Ow α) (m : M (List α)) (t : TA) : Prop where
  pa : PA X es t
  sem : SemL X.K Γ t o m
theorem el_nil [Rp α] {o : Ow α} : EL X Γ [] o (pure []) tNil := ⟨pa_nil, fun HF0 G HF H σ g c hc Q k => by cases pure_ok hc; exact k [] HF H [] (Step.refl g.sub) rfl List.nodup_nil (fun p hp => by cases hp)⟩
theorem Rl.step [Rp α] {K : PySem.W.Frag} {o : Ow α} {HF H HF' H' : Hp} {vs : List V} {as : List α} {fp : List Addr} (h : Rl (o.rep K HF H) vs as fp) (s : Step HF H HF' H') : Rl (o.rep K HF' H') vs as fp := Rl.mono (fun v a f _ r => o.mono s.exF (fun p _ o e => s.exH p o e) r) h
theorem el_cons [Rp α] {o : Ow α} {m : M α} {n : M (List α)} (h : EX X Γ e o m te) (h' : EL X Γ es o n t) (hs : starEach (e :: es) X.env = (false, eval e X.env) :: starEach es X.env := by rfl) :
    EL X Γ (e :: es) o (do let a ← m; let b ← n; pure (a :: b)) (tCons te t) :=
  ⟨pa_cons h.pe h'.pa hs, fun HF0 G HF H σ g c hc Q k => by
    obtain ⟨x, e1, hc⟩ := bind_ok hc
    obtain ⟨y, e2, hc⟩ := bind_ok hc
    cases pure_ok hc
    refine h.sem HF0 G HF H σ g x e1 _ fun v HF1 H1 fp s1 r1 n1 f1 => ?_
    refine h'.sem HF0 G HF1 H1 σ (g.step s1) y e2 _ fun vs HF2 H2 fq s2 r2 n2 f2 => ?_
    have dm := o.dom r1
    refine k (v :: vs) HF2 H2 (fp ++ fq) (s1.trans s2) ⟨fp, fq, rfl, o.mono s2.exF (fun p _ o e => s2.exH p o e) r1, r2⟩ (List.nodup_append.mpr ⟨n1, n2, fun p hp q hq e => ?_⟩) fun p hp => ?_
    · subst e
      obtain ⟨u, hu⟩ := dm p hp
      rw [(f2 p hq).1] at hu; cases hu
    · rcases List.mem_append.mp hp with hp | hp
      · refine ⟨(f1 p hp).1, ?_⟩
        cases q : HF2 p with
        | none => rfl
        | some u =>
          have := s2.new p u q (f1 p hp).2
          obtain ⟨u', hu⟩ := dm p hp
          rw [this] at hu; cases hu
      · exact ⟨s1.exH.free (f2 p hp).1, (f2 p hp).2⟩⟩
/-- a new object over new things -/
theorem RetK.obj [Rp γ] {K : PySem.W.Frag} {HF0 H0 HF H : Hp} {o : Ow γ} {c : γ} {ho : HO} {p : Addr} {fp : List Addr} {Q : VK} (k : RetK K HF0 H0 o c Q) (s : Step HF0 H0 HF H) (hp : H p = none) (r : o.rep K HF (upd H p ho) (.ref p) c (p :: fp)) (n : fp.Nodup) (f : ∀ q ∈ fp, H0 q = none ∧ HF q = none) (hd : ∀ q ∈ fp, ∃ u, H q = some u) : Q (.ref p) (upd H p ho) :=
  k (.ref p) HF (upd H p ho) (p :: fp) (s.trans (Step.own s.sub hp)) r (List.nodup_cons.mpr ⟨fun hm => (by obtain ⟨u, hu⟩ := hd p hm; rw [hp] at hu; cases hu), n⟩) fun q hq => by
    rcases List.mem_cons.mp hq with e | hq
    · subst e; exact ⟨s.exH.free hp, s.sub.free hp⟩
    · exact f q hq
def lstM {α : Type} (as : List α) : M (List α) := do gd (szB as.length); pure as
theorem upd_keep {H : Hp} {p : Addr} {o : HO} (hp : H p = none) : ∀ q, ∀ u, H q = some u → upd H p o q = some u := fun q u e => by rw [upd_ne (ne_of_none e hp)]; exact e
theorem ex_lst [Rp α] {o : Ow α} {m : M (List α)} (h : EL X Γ es o m t) : EX X Γ (.List es pos) (Ow.l o) (do let a ← m; lstM a) (tLst t) :=
  ⟨pe_lst h.pa, fun HF0 G HF H σ g c hc Q k => by
    obtain ⟨x, e1, hc⟩ := bind_ok hc
    obtain ⟨u, e2, hc⟩ := bind_ok hc
    cases pure_ok hc
    refine h.sem HF0 G HF H σ g _ e1 _ fun vs HF1 H1 fp s1 r1 n1 f1 => ⟨by rw [r1.len]; exact of_decide_eq_true (gd_ok e2), fun p hp => ?_⟩
    exact k.obj s1 hp ⟨p, vs, fp, rfl, rfl, upd_same, Rl.mono (fun v a f _ r => o.mono (Same.refl _) (fun q _ u e => upd_keep hp q u e) r) r1⟩ n1 f1 (Rl.dom (fun v a f r => o.dom r) r1)⟩
theorem ex_tu [Rp α] {m : M (List α)} {k} (h : EL X Γ es Ow.v m t) : EX X Γ (.Tuple es k pos) Ow.v (do let a ← m; let b ← lstM a; pure (Tu.mk b)) (tTup t) :=
  ⟨pe_tup h.pa, fun HF0 G HF H σ g c hc Q kk => by
    obtain ⟨x, e1, hc⟩ := bind_ok hc
    obtain ⟨y, e2, hc⟩ := bind_ok hc
    obtain ⟨u, e3, hd⟩ := bind_ok e2
    cases pure_ok hd
    cases pure_ok hc
    refine h.sem HF0 G HF H σ g _ e1 _ fun vs HF1 H1 fp s1 r1 n1 f1 => ⟨by rw [r1.len]; exact of_decide_eq_true (gd_ok e3), fun p hp => ?_⟩
    have hF : HF1 p = none := s1.sub.free hp
    refine kk (.ref p) (upd HF1 p (.tup vs)) (upd H1 p (.tup vs)) [] ⟨s1.exF.trans (same_upd hF), s1.exH.trans (same_upd hp), fun q u e => ?_, fun q u e1 e2 => ?_⟩ ⟨⟨p, vs, rfl, SqT.of upd_same, Fa.mono (fun v a r => Rp.mono (same_upd hF) r) r1.toFa.1⟩, rfl⟩ List.nodup_nil fun q hq => by cases hq
    · by_cases hq : q = p
      · subst hq; rw [upd_same] at e ⊢; exact e
      · rw [upd_ne hq] at e ⊢; exact s1.sub q u e
    · by_cases hq : q = p
      · subst hq; exact s1.exH.free hp
      · rw [upd_ne hq] at e1; exact s1.new q u e1 e2⟩
theorem ex_pair [Rp α] [Rp β] {o : Ow α} {u : Ow β} {m : M α} {n : M β} {k} (ha : EX X Γ a o m ta) (hb : EX X Γ b u n tb) (h1 : starEach [a, b] X.env = (false, eval a X.env) :: starEach [b] X.env := by rfl) (h2 : starEach [b] X.env = (false, eval b X.env) :: starEach [] X.env := by rfl) :
    EX X Γ (.Tuple [a, b] k pos) (Ow.p o u) (do let a ← m; let b ← n; pure (a, b)) (tTup (tCons ta (tCons tb tNil))) :=
  ⟨pe_tup (pa_cons ha.pe (pa_cons hb.pe pa_nil h2) h1), fun HF0 G HF H σ g c hc Q kk => by
    obtain ⟨x, e1, hc⟩ := bind_ok hc
    obtain ⟨y, e2, hc⟩ := bind_ok hc
    cases pure_ok hc
    refine ha.sem HF0 G HF H σ g x e1 _ fun v HF1 H1 fp s1 r1 n1 f1 => ?_
    refine hb.sem HF0 G HF1 H1 σ (g.step s1) y e2 _ fun w HF2 H2 fq s2 r2 n2 f2 => ⟨by show 2 ≤ sizeLine; decide, fun p hp => ?_⟩
    have dm := o.dom r1
    have du := u.dom r2
    have r1' : o.rep X.K HF2 H2 v x fp := o.mono s2.exF (fun p _ o e => s2.exH p o e) r1
    refine kk.obj (s1.trans s2) hp (fp := fp ++ fq) ⟨p, v, w, fp, fq, rfl, rfl, upd_same, o.mono (Same.refl _) (fun q _ u e => upd_keep hp q u e) r1', u.mono (Same.refl _) (fun q _ u e => upd_keep hp q u e) r2⟩ (List.nodup_append.mpr ⟨n1, n2, fun p hp q hq e => ?_⟩) (fun p hp => ?_) fun p hp => ?_
    · subst e
      obtain ⟨u, hu⟩ := dm p hp
      rw [(f2 p hq).1] at hu; cases hu
    · rcases List.mem_append.mp hp with hp | hp
      · refine ⟨(f1 p hp).1, ?_⟩
        cases q : HF2 p with
        | none => rfl
        | some u =>
          have := s2.new p u q (f1 p hp).2
          obtain ⟨u', hu⟩ := dm p hp
          rw [this] at hu; cases hu
      · exact ⟨s1.exH.free (f2 p hp).1, (f2 p hp).2⟩
    · rcases List.mem_append.mp hp with hp | hp
      · obtain ⟨u, hu⟩ := dm p hp
        exact ⟨u, s2.exH p u hu⟩
      · exact du p hp⟩
end
end Ty

namespace Ty
open PySem L2

theorem of_blt {i n : Nat} (h : Nat.blt i n = true) : i < n := Nat.le_of_ble_eq_true h
/-! ### targets -/
/-- from a thing a, its value v, at Γ: behind the target stands Γ'; only the slots js change -/
def SemG {α : Type} [Rp α] (K : PySem.W.Frag) (Γ : Ctx) (g : TG) (a : α) (Γ' : Ctx) (js : List Nat) : Prop :=
  ∀ HF0 G HF H σ v, Good K HF0 G Γ HF H σ → Rp.sh K HF v a → ∀ Q : L2.St → Hp → Prop, (∀ σ', Good K HF0 G Γ' HF H σ' → σ'.length = σ.length → (∀ k, k ∉ js → σ'[k]? = σ[k]?) → Q σ' H) → g v σ H Q
structure EG {α : Type} [Rp α] (X : Cx) (Γ : Ctx) (tg : Expr) (g : TG) (a : α) (Γ' : Ctx) (js : List Nat) : Prop where
  pg : PG X tg g
  sem : SemG X.K Γ g a Γ' js
theorem Good.putO {α : Type} [Rp α] {K : PySem.W.Frag} {HF0 G HF H : Hp} {Γ : Ctx} {σ : L2.St} {i : Nat} {v : V} {a : α} {o : Ow α} {f : List Addr} (g : Good K HF0 G Γ HF H σ) (hi : i < Γ.length) (r : o.rep K HF H v a f) (nd : f.Nodup) (fr : ∀ fs, Holds K HF H Γ σ fs → ∀ p ∈ f, (HF p = none ∧ G p = none) ∧ p ∉ fs) : Good K HF0 G (put Γ i (.mk o a)) HF H (σ.set i (some v)) := by
  obtain ⟨fs, h1, h2, h3⟩ := g.held
  obtain ⟨fo, fr', q1, q2, q3, q4⟩ := h1.put hi
  obtain ⟨n1, n2, n3⟩ := q3 h2
  obtain ⟨fs', w1, w2, w3⟩ := q4 (HF' := HF) (H' := H) (s := .mk o a) (x := some v) (f := f) (fun _ h => h) (fun _ h => h) ⟨v, rfl, r⟩
  refine ⟨g.sub, g.f0, g.g0, g.nf, fs', w1, w3 n1 nd fun p hp hq => (fr fs h1 p hp).2 ((q2 p).mpr (.inr hq)), fun p hp => ?_⟩
  rcases (w2 p).mp hp with z | z
  · exact (fr fs h1 p z).1
  · exact h3 p ((q2 p).mpr (.inr z))
theorem Good.putv {α : Type} [Rp α] {K : PySem.W.Frag} {HF0 G HF H : Hp} {Γ : Ctx} {σ : L2.St} {i : Nat} {v : V} {a : α} (g : Good K HF0 G Γ HF H σ) (hi : i < Γ.length) (r : Rp.sh K HF v a) : Good K HF0 G (put Γ i (.mk Ow.v a)) HF H (σ.set i (some v)) :=
  g.putO hi (o := Ow.v) ⟨r, rfl⟩ List.nodup_nil fun _ _ p hp => by cases hp
theorem Good.len {K : PySem.W.Frag} {HF0 G HF H : Hp} {Γ : Ctx} {σ : L2.St} (g : Good K HF0 G Γ HF H σ) : Γ.length = σ.length := by
  obtain ⟨fs, h1, _, _⟩ := g.held
  exact h1.len
section
variable {X : Cx} {Γ : Ctx} {α β γ A B : Type} {a b e : Expr} {es : List Expr} {pos p apos : Pos} {ta tb te : TE} {t : TA}
theorem eg_name [Rp α] (i : Nat) {x : Str} {a : α} (hN : X.N.Nodup) (hlt : Nat.blt i Γ.length = true := by rfl) (hi : X.N[i]? = some x := by rfl) (hx : Loc X.env.scope x := by first | exact .inl rfl | exact .inr rfl) (hf : X.fn x = true ∨ X.env.scope.names.lookup x = some .local := by first | exact .inl rfl | exact .inr rfl) : EG X Γ (.Name x pos) (gName i) a (put Γ i (.mk Ow.v a)) [i] :=
  ⟨pg_name hN hi hx hf, fun HF0 G HF H σ v g r Q k => k _ (g.putv (of_blt hlt) r) (by rw [List.length_set]) fun j hj => by
    rw [List.getElem?_set_ne]
    intro e; subst e; exact hj (by simp)⟩
theorem eg_pair {K : PySem.W.Frag} [Rp α] [Rp β] {Γ1 Γ2 : Ctx} {js ks : List Nat} {x y : Expr} {kk : Nat} {g1 g2 : TG} {u : α × β} (hc : X.calm = true) (h1 : EG X Γ x g1 u.1 Γ1 js) (h2 : EG X Γ1 y g2 u.2 Γ2 ks)
    (hs : (assignEach [y] X.env).map (fun x => x.2) = assign y X.env :: (assignEach [] X.env).map (fun x => x.2) := by rfl) (hs2 : (assignEach [x, y] X.env).map (fun x => x.2) = assign x X.env :: (assignEach [y] X.env).map (fun x => x.2) := by rfl)
    (hpg : PGs X [x, y] (gCons g1 (gCons g2 gNil)) → PG X (.Tuple [x, y] kk pos) (gTup X.K 2 (gCons g1 (gCons g2 gNil))) := by exact fun h => pg_tup (by first | rfl | assumption) h) (hK : X.K = K := by rfl) : EG X Γ (.Tuple [x, y] kk pos) (gTup K 2 (gCons g1 (gCons g2 gNil))) u Γ2 (js ++ ks) := by
  subst hK
  exact ⟨hpg (pgs_cons h1.pg (pgs_cons h2.pg pgs_nil hs) hs2), fun HF0 G HF H σ v g ⟨q, va, vb, e1, e2, e3, e4⟩ Q k => by
    refine ⟨q, [va, vb], e1, sqT_mono g.sub e2, rfl, va, [vb], rfl, ?_⟩
    refine h1.sem HF0 G HF H σ va g e3 _ fun σ1 G1 l1 s1 => ⟨vb, [], rfl, ?_⟩
    refine h2.sem HF0 G HF H σ1 vb G1 e4 _ fun σ2 G2 l2 s2 => ⟨rfl, ?_⟩
    exact k σ2 G2 (l2.trans l1) fun j hj => (s2 j fun z => hj (List.mem_append_right _ z)).trans (s1 j fun z => hj (List.mem_append_left _ z))⟩
/-! ### what is walked -/
def Walks {α : Type} [Rp α] (K : PySem.W.Frag) (J : It) (HF1 : Hp) (xs : List α) : Prop :=
  ∀ HF2 H2 i, Same HF1 HF2 → Same HF2 H2 → (∀ x, xs[i]? = some x → J.go i H2 ∧ ∀ v H3, J.yld i H2 v H3 → ∃ HF3, Step HF2 H2 HF3 H3 ∧ Rp.sh K HF3 v x) ∧ (xs.length ≤ i → J.stop i H2)
def SemI {α : Type} [Rp α] (K : PySem.W.Frag) (Γ : Ctx) (wi : TI) (m : M (List α)) : Prop :=
  ∀ HF0 G HF H σ, Good K HF0 G Γ HF H σ → ∀ xs, m = .ok xs → ∀ R : It → Hp → Prop, (∀ J HF' H', Step HF H HF' H' → Walks K J HF' xs → R J H') → wi σ H R
structure EI {α : Type} [Rp α] (X : Cx) (Γ : Ctx) (tg iter : Expr) (m : M (List α)) (wi : TI) : Prop where
  pi : PI X tg iter wi
  sem : SemI X.K Γ wi m
variable {tg : Expr}
theorem ei_list' [Rp α] {K : PySem.W.Frag} {HF2 H2 HF : Hp} {q : Addr} {us : List V} {xs : List α} {i : Nat} (h1 : SqL K H2 q us) (h2 : Fa (Rp.sh K HF) us xs) (s1 : Same HF HF2) (s2 : Same HF2 H2) : (∀ x, xs[i]? = some x → (Itl K q).go i H2 ∧ ∀ v H3, (Itl K q).yld i H2 v H3 → ∃ HF3, Step HF2 H2 HF3 H3 ∧ Rp.sh K HF3 v x) ∧ (xs.length ≤ i → (Itl K q).stop i H2) := by
  refine ⟨fun x hx => ?_, fun hle => ⟨us, h1, by rw [h2.len]; exact hle⟩⟩
  obtain ⟨v, hv, r⟩ := h2.get' hx
  refine ⟨⟨us, v, h1, hv⟩, fun w H3 ⟨e, y⟩ => ?_⟩
  subst e
  have : us[i]? = some w := y us h1
  rw [hv] at this
  cases this
  exact ⟨HF2, Step.refl s2, Rp.mono s1 r⟩
theorem ei_list {K : PySem.W.Frag} [Rp α] {m : M (List α)} (h : EX X Γ e Ow.v m te) (hK : X.K = K := by rfl) : EI X Γ tg e m (iList K te) := by
  subst hK
  exact ⟨pi_list h.pe, fun HF0 G HF H σ g xs hc R k => by
    refine h.sem HF0 G HF H σ g xs hc _ fun v HF1 H1 fp s1 r1 _ _ => ?_
    obtain ⟨⟨q, us, e, h1, h2⟩, _⟩ := r1
    exact ⟨q, e, ⟨us, SqL.of (s1.sub _ _ h1)⟩, k _ HF1 H1 s1 fun HF2 H2 i a b => ei_list' (SqL.of (b _ _ (a _ _ h1))) h2 a b⟩⟩
theorem ei_tu {K : PySem.W.Frag} [Rp α] {m : M (Tu α)} (h : EX X Γ e Ow.v m te) (hK : X.K = K := by rfl) : EI X Γ tg e (do let a ← m; pure a.l) (iTup K te) := by
  subst hK
  exact ⟨pi_tup h.pe, fun HF0 G HF H σ g xs hc R k => by
    obtain ⟨x, e1, hc⟩ := bind_ok hc
    cases pure_ok hc
    refine h.sem HF0 G HF H σ g x e1 _ fun v HF1 H1 fp s1 r1 _ _ => ?_
    obtain ⟨⟨q, us, e, h1, h2⟩, _⟩ := r1
    refine ⟨q, e, ⟨us, sqT_mono s1.sub h1⟩, k _ HF1 H1 s1 fun HF2 H2 i s1' s2 => ?_⟩
    have hq : SqT X.K H2 q us := sqT_mono s2 (sqT_mono s1' h1)
    refine ⟨fun x hx => ?_, fun hle => ⟨us, hq, by rw [h2.len]; exact hle⟩⟩
    obtain ⟨v, hv, r⟩ := h2.get' hx
    refine ⟨⟨us, v, hq, hv⟩, fun w H3 ⟨e, y⟩ => ?_⟩
    subst e
    have : us[i]? = some w := y us hq
    rw [hv] at this
    cases this
    exact ⟨HF2, Step.refl s2, Rp.mono s1' r⟩⟩
/-- lo, lo + 1, .. below hi -/
def rangeL (lo hi : Int) : List Int := (List.range (hi - lo).toNat).map fun (k : Nat) => lo + (k : Int)
theorem rangeL_len (lo hi : Int) : (rangeL lo hi).length = (hi - lo).toNat := by unfold rangeL; rw [List.length_map, List.length_range]
theorem rangeL_get {lo hi x : Int} {i : Nat} (h : (rangeL lo hi)[i]? = some x) : i < (hi - lo).toNat ∧ x = lo + i := by
  unfold rangeL at h
  rw [List.getElem?_map] at h
  cases q : (List.range (hi - lo).toNat)[i]? with
  | none => rw [q] at h; cases h
  | some j =>
    rw [q] at h
    obtain ⟨hlt, e⟩ := List.getElem?_eq_some_iff.mp q
    rw [List.getElem_range] at e
    rw [List.length_range] at hlt
    cases h
    subst e
    exact ⟨hlt, rfl⟩
theorem walks_range {K : PySem.W.Frag} {HF : Hp} (lo hi : Int) : Walks K (Itr lo (hi - lo).toNat) HF (rangeL lo hi) := fun HF2 H2 i s1 s2 => by
  refine ⟨fun x hx => ?_, fun hle => by rw [rangeL_len] at hle; exact hle⟩
  obtain ⟨h1, h2⟩ := rangeL_get hx
  refine ⟨h1, fun v H3 ⟨e, y⟩ => ?_⟩
  subst e
  exact ⟨HF2, Step.refl s2, by rw [y, h2]; rfl⟩
def rgB (j : Int) : Bool := decide (-(2 ^ 62) ≤ j) && decide (j < 2 ^ 62)
def range1 (j : Int) : M (List Int) := do gd (rgB j); pure (rangeL 0 j)
def range2 (i j : Int) : M (List Int) := do gd (rgB i && rgB j); pure (rangeL i j)
theorem ei_range1 {m : M Int} (hm : X.mg "range" = none) (h : EX X Γ a Ow.v m ta) (hg : Gl X "range" := by rfl) (hs : starEach [a] X.env = [(false, eval a X.env)] := by rfl) : EI X Γ tg (.Call (.Name "range" p) [a] [] pos) (do let a ← m; range1 a) (iRng1 (tCons ta tNil)) :=
  ⟨pi_range1 hg hm (pa_cons h.pe pa_nil (by exact hs)) hs, fun HF0 G HF H σ g xs hc R k => by
    obtain ⟨x, e1, hc⟩ := bind_ok hc
    obtain ⟨u, e2, hc⟩ := bind_ok hc
    cases pure_ok hc
    have e3 := gd_ok e2
    unfold rgB at e3
    rw [Bool.and_eq_true, decide_eq_true_eq, decide_eq_true_eq] at e3
    refine h.sem HF0 G HF H σ g x e1 _ fun v HF1 H1 fp s1 r1 _ _ => ⟨x, by rw [Fl.sh_iff.mp r1.1]; rfl, e3.1, e3.2, ?_⟩
    have w := walks_range (K := X.K) (HF := HF1) 0 x
    rw [Int.sub_zero] at w
    exact k _ HF1 H1 s1 w⟩
theorem ei_range2 {m n : M Int} (hm : X.mg "range" = none) (h : EX X Γ a Ow.v m ta) (h' : EX X Γ b Ow.v n tb) (hg : Gl X "range" := by rfl) (hs : starEach [a, b] X.env = [(false, eval a X.env), (false, eval b X.env)] := by rfl) (hs2 : starEach [b] X.env = [(false, eval b X.env)] := by rfl) : EI X Γ tg (.Call (.Name "range" p) [a, b] [] pos) (do let a ← m; let b ← n; range2 a b) (iRng2 (tCons ta (tCons tb tNil))) :=
  ⟨pi_range2 hg hm (pa_cons h.pe (pa_cons h'.pe pa_nil (by exact hs2)) (by rw [hs, hs2])) hs hs2, fun HF0 G HF H σ g xs hc R k => by
    obtain ⟨x, e1, hc⟩ := bind_ok hc
    obtain ⟨y, e2, hc⟩ := bind_ok hc
    obtain ⟨u, e3, hc⟩ := bind_ok hc
    cases pure_ok hc
    have e4 := gd_ok e3
    unfold rgB at e4
    simp only [Bool.and_eq_true, decide_eq_true_eq] at e4
    refine h.sem HF0 G HF H σ g x e1 _ fun v HF1 H1 fp s1 r1 _ _ => ?_
    refine h'.sem HF0 G HF1 H1 σ (g.step s1) y e2 _ fun w HF2 H2 fp s2 r2 _ _ => ⟨x, y, by rw [Fl.sh_iff.mp r1.1, Fl.sh_iff.mp r2.1]; rfl, ⟨e4.1.1, e4.1.2, e4.2.1, e4.2.2⟩, k _ HF2 H2 (s1.trans s2) (walks_range x y)⟩⟩
theorem ei_str {m : M Str} (h : EX X Γ e Ow.v m te) : EI X Γ tg e (do let a ← m; pure (a.cps.toList.map sgS)) (iStr te) :=
  ⟨pi_str h.pe, fun HF0 G HF H σ g xs hc R k => by
    obtain ⟨x, e1, hc⟩ := bind_ok hc
    cases pure_ok hc
    refine h.sem HF0 G HF H σ g x e1 _ fun v HF1 H1 fp s1 r1 _ _ => ⟨x, Fl.sh_iff.mp r1.1, k _ HF1 H1 s1 fun HF2 H2 i a b => ⟨fun y hy => ?_, fun hle => (by show x.cps.size ≤ i; simpa using hle)⟩⟩
    rw [List.getElem?_map] at hy
    cases q : x.cps.toList[i]? with
    | none => rw [q] at hy; cases hy
    | some c =>
      rw [q] at hy
      cases hy
      have q' : x.cps[i]? = some c := by simpa using q
      refine ⟨(Array.getElem?_eq_some_iff.mp q').1, fun w H3 ⟨e, d, hd, hw⟩ => ?_⟩
      subst e
      rw [q'] at hd
      cases hd
      exact ⟨HF2, Step.refl b, by rw [hw]; rfl⟩⟩
/-- a new tuple, shared at once -/
theorem Step.shr {HF H : Hp} {p : Addr} {o : HO} (s : Same HF H) (h : H p = none) : Step HF H (upd HF p o) (upd H p o) := by
  have hF : HF p = none := s.free h
  refine ⟨same_upd hF, same_upd h, fun q u e => ?_, fun q u e1 e2 => ?_⟩
  · by_cases hq : q = p
    · subst hq; rw [upd_same] at e ⊢; exact e
    · rw [upd_ne hq] at e ⊢; exact s q u e
  · by_cases hq : q = p
    · subst hq; exact h
    · rw [upd_ne hq] at e1; rw [e2] at e1; cases e1
def enumL {α : Type} (xs : List α) : List (Int × α) := (xs.zipIdx).map fun x => ((x.2 : Int), x.1)
theorem enumL_get {α : Type} {xs : List α} {i : Nat} {x : Int × α} (h : (enumL xs)[i]? = some x) : x.1 = i ∧ xs[i]? = some x.2 := by
  unfold enumL at h
  rw [List.getElem?_map, List.getElem?_zipIdx] at h
  cases q : xs[i]? with
  | none => rw [q] at h; cases h
  | some y =>
    rw [q] at h
    cases h
    exact ⟨by simp, rfl⟩
theorem enumL_len {α : Type} (xs : List α) : (enumL xs).length = xs.length := by unfold enumL; rw [List.length_map, List.length_zipIdx]
theorem ei_enum {K : PySem.W.Frag} [Rp α] {m : M (List α)} {elts : List Expr} {kk : Nat} {tpos : Pos} (hm : X.mg "enumerate" = none) (h : EX X Γ e Ow.v m te) (hg : Gl X "enumerate" := by rfl) (hs : starEach [e] X.env = [(false, eval e X.env)] := by rfl) (hK : X.K = K := by rfl) : EI X Γ (.Tuple elts kk tpos) (.Call (.Name "enumerate" p) [e] [] pos) (do let a ← m; pure (enumL a)) (iEnum K (tCons te tNil)) := by
  subst hK
  exact ⟨pi_enum hg hm (pa_cons h.pe pa_nil (by exact hs)) hs, fun HF0 G HF H σ g xs hc R k => by
    obtain ⟨x, e1, hc⟩ := bind_ok hc
    cases pure_ok hc
    refine h.sem HF0 G HF H σ g x e1 _ fun v HF1 H1 fp s1 r1 _ _ => ?_
    obtain ⟨⟨q, us, e, h1, h2⟩, _⟩ := r1
    subst e
    refine ⟨q, us, rfl, SqL.of (s1.sub _ _ h1), k _ HF1 H1 s1 fun HF2 H2 i a b => ?_⟩
    have hq : SqL X.K H2 q us := SqL.of (b _ _ (a _ _ h1))
    refine ⟨fun y hy => ?_, fun hle => ⟨us, hq, by rw [enumL_len] at hle; rw [h2.len]; exact hle⟩⟩
    obtain ⟨hy1, hy2⟩ := enumL_get hy
    obtain ⟨v, hv, r⟩ := h2.get' hy2
    refine ⟨⟨us, v, hq, hv⟩, fun w H3 ⟨T, z, e, hT, eH, y⟩ => ?_⟩
    subst e eH
    have : us[i]? = some z := y us hq
    rw [hv] at this
    cases this
    have st := Step.shr (o := .tup [.int (i : Nat), v]) b hT
    exact ⟨_, st, T, .int (i : Nat), v, rfl, SqT.of upd_same, by rw [hy1]; rfl, Rp.mono (a.trans st.exF) r⟩⟩
/-! ### list comprehensions -/
def compL {α β : Type} (t : α → M Bool) (f : α → M β) : List α → M (List β)
  | [] => pure []
  | x :: xs => do
    let b ← t x
    if b then do
      let y ← f x
      let ys ← compL t f xs
      pure (y :: ys)
    else compL t f xs
def compM {α β : Type} (xs : List α) (t : α → M Bool) (f : α → M β) : M (List β) := do gd (decide (xs.length ≤ sizeLine)); compL t f xs
def wipeC (Γ : Ctx) : List Nat → Ctx
  | [] => Γ
  | v :: vs => put (wipeC Γ vs) v .un
theorem Good.un {K : PySem.W.Frag} {HF0 G HF H : Hp} {Γ : Ctx} {σ : L2.St} (g : Good K HF0 G Γ HF H σ) (i : Nat) (x : Option V) (hi : i < Γ.length) : Good K HF0 G (put Γ i .un) HF H (σ.set i x) := by
  obtain ⟨fs, h1, h2, h3⟩ := g.held
  obtain ⟨fo, fr', q1, q2, q3, q4⟩ := h1.put hi
  obtain ⟨n1, n2, n3⟩ := q3 h2
  obtain ⟨fs', w1, w2, w3⟩ := q4 (HF' := HF) (H' := H) (s := .un) (x := x) (f := []) (fun _ h => h) (fun _ h => h) rfl
  exact ⟨g.sub, g.f0, g.g0, g.nf, fs', w1, w3 n1 List.nodup_nil (fun p hp => by cases hp), fun p hp => by
    rcases (w2 p).mp hp with z | z
    · cases z
    · exact h3 p ((q2 p).mpr (.inr z))⟩
theorem put_len : ∀ (Γ : Ctx) (i : Nat) (s : Sl), (put Γ i s).length = Γ.length
  | [], _, _ => rfl
  | _ :: _, 0, _ => rfl
  | _ :: Γ, i + 1, s => congrArg (· + 1) (put_len Γ i s)
theorem wipeC_len (Γ : Ctx) : ∀ vs : List Nat, (wipeC Γ vs).length = Γ.length
  | [] => rfl
  | v :: vs => by unfold wipeC; rw [put_len, wipeC_len Γ vs]
theorem Good.wipe {K : PySem.W.Frag} {HF0 G HF H : Hp} {Γ : Ctx} {σ : L2.St} (g : Good K HF0 G Γ HF H σ) : ∀ vs : List Nat, (∀ i ∈ vs, i < Γ.length) → Good K HF0 G (wipeC Γ vs) HF H (wipe σ vs)
  | [], _ => g
  | v :: vs, h => (Good.wipe g vs fun i hi => h i (List.mem_cons_of_mem _ hi)).un v none (by rw [wipeC_len]; exact h v (List.mem_cons_self ..))
theorem wipe_out' {σ : L2.St} {i : Nat} : ∀ {vs : List Nat}, i ∉ vs → (L2.wipe σ vs)[i]? = σ[i]?
  | [], _ => rfl
  | v :: vs, h => by
    unfold L2.wipe
    rw [List.getElem?_set_ne (fun e => h (by rw [e]; exact List.mem_cons_self ..))]
    exact wipe_out' fun z => h (List.mem_cons_of_mem _ z)
theorem wipe_in {σ : L2.St} {i : Nat} : ∀ {vs : List Nat}, i ∈ vs → i < σ.length → (L2.wipe σ vs)[i]? = some none
  | v :: vs, h, hl => by
    unfold L2.wipe
    by_cases e : v = i
    · subst e
      rw [List.getElem?_set_self (by rw [L2.wipe_length]; exact hl)]
    · rw [List.getElem?_set_ne e]
      exact wipe_in ((List.mem_cons.mp h).resolve_left fun z => e z.symm) hl
theorem wipe_ext {σ σ' : L2.St} {vs : List Nat} (hl : σ'.length = σ.length) (h : ∀ k, k ∉ vs → σ'[k]? = σ[k]?) : L2.wipe σ' vs = L2.wipe σ vs := by
  apply List.ext_getElem?
  intro i
  by_cases hi : i ∈ vs
  · by_cases hlt : i < σ.length
    · rw [wipe_in hi hlt, wipe_in hi (by rw [hl]; exact hlt)]
    · rw [List.getElem?_eq_none (by rw [L2.wipe_length]; omega), List.getElem?_eq_none (by rw [L2.wipe_length]; omega)]
  · rw [wipe_out' hi, wipe_out' hi, h i hi]
structure EF (X : Cx) (Γ : Ctx) (ifs : List Expr) (m : M Bool) (t : TT) : Prop where
  pts : PTs X ifs t
  sem : SemT X.K Γ t m
theorem ef_nil : EF X Γ [] (pure true) tYes := ⟨pts_nil, fun HF0 G HF H σ g c hc Q k => by cases pure_ok hc; exact k HF H (Step.refl g.sub)⟩
theorem ef_one {c : Expr} {m : M Bool} {t : TT} (h : ET X Γ c m t) : EF X Γ [c] m t := ⟨pts_one h.pt, h.sem⟩
/-- behind some turns: the items made, what is left -/
structure Cmp {α β : Type} [Rp α] [Rp β] (K : PySem.W.Frag) (HF1 H1 : Hp) (o : Ow β) (D : Addr) (tm : α → M Bool) (fm : α → M β) (xs : List α) (ys : List β) (i : Nat) (HF H : Hp) : Prop where
  st : Step HF1 H1 HF H
  fD : H1 D = none
  fF : HF D = none
  ex : ∃ vs fp zs rs, H D = some (.lst vs) ∧ Rl (o.rep K HF H) vs zs fp ∧ fp.Nodup ∧ (∀ p ∈ fp, H1 p = none ∧ HF p = none ∧ p ≠ D) ∧ zs.length ≤ i ∧ i ≤ xs.length ∧ compL tm fm (xs.drop i) = .ok rs ∧ zs ++ rs = ys
theorem Step.nn {HF1 H1 HF H : Hp} (s : Step HF1 H1 HF H) {p : Addr} {u : HO} (h : HF1 p = none) (e : H1 p = some u) : HF p = none := by
  cases q : HF p with
  | none => rfl
  | some w =>
    have := s.new p w q h
    rw [e] at this; cases this
theorem Rl.upd {α : Type} [Rp α] {K : PySem.W.Frag} {o : Ow α} {HF H : Hp} {vs : List V} {as : List α} {fp : List Addr} {p : Addr} {u : HO} (h : Rl (o.rep K HF H) vs as fp) (hp : p ∉ fp) : Rl (o.rep K HF (upd H p u)) vs as fp :=
  Rl.mono (fun v a f hf r => o.mono (Same.refl _) (fun q hq w e => by rw [upd_ne (fun z => hp (by rw [← z]; exact hf q hq))]; exact e) r) h
theorem Step.mutD {HF1 H1 HF H : Hp} {D : Addr} {u : HO} (s : Step HF1 H1 HF H) (h : H1 D = none) (hF : HF D = none) : Step HF1 H1 HF (upd H D u) :=
  ⟨s.exF, fun q w e => by rw [upd_ne (ne_of_none e h)]; exact s.exH q w e, fun q w e => by rw [upd_ne (ne_of_none e hF)]; exact s.sub q w e, s.new⟩
theorem ex_lc [Rp α] [Rp β] [Inhabited α] {o : Ow β} {elt iter : Expr} {ifs : List Expr} {scope : Scope} {own : List (Str × Nat)} {wi : TI} {g : TG} {tt : TT} {m : M (List α)} {tm : α → M Bool} {fm : α → M β} {Γt : α → Ctx} {js : List Nat} (hc : X.calm = true) (hN : X.N.Nodup)
    (hi : EI X Γ tg iter m wi) (ok : blkC X.N X.env.scope scope own = true) (hown : (own.map (·.2)).all (fun i => decide (i < Γ.length)) = true) (hjs : js.all (fun i => (own.map (·.2)).contains i) = true)
    (hg : ∀ (s : Shared) (H : Hp) (C : Addr) (cl : List (Str × Addr)) (fp : List Addr) (x : α), EG (X.blk s H scope (compEnvC scope cl C X.env) fp) (wipeC Γ (own.map (·.2))) tg g x (Γt x) js)
    (ht : ∀ (s : Shared) (H : Hp) (C : Addr) (cl : List (Str × Addr)) (fp : List Addr) (x : α), EF (X.blk s H scope (compEnvC scope cl C X.env) fp) (Γt x) ifs (tm x) tt)
    (he : ∀ (s : Shared) (H : Hp) (C : Addr) (cl : List (Str × Addr)) (fp : List Addr) (x : α), EX (X.blk s H scope (compEnvC scope cl C X.env) fp) (Γt x) elt o (fm x) te)
    (hs : ∀ x, foldedSetIterable iter X.env x = pure x := by intro _; rfl) :
    EX X Γ (.ListComp elt [⟨tg, iter, ifs, 0⟩] scope pos) (Ow.l o) (do let xs ← m; compM xs tm fm) (tLc wi g tt te (own.map (·.2))) :=
  ⟨pe_lc hc hN hi.pi (blkOk_by ok) (fun s H C cl fp => (hg s H C cl fp default).pg) (fun s H C cl fp => (ht s H C cl fp default).pts) (fun s H C cl fp => (he s H C cl fp default).pe) hs, fun HF0 G HF H σ gd' ys hys Q k => by
    obtain ⟨xs, e1, hys⟩ := bind_ok hys
    obtain ⟨u, e2, hys⟩ := bind_ok hys
    have hsz : xs.length ≤ sizeLine := of_decide_eq_true (gd_ok e2)
    have hown' : ∀ i ∈ own.map (·.2), i < Γ.length := fun i hi' => of_decide_eq_true (List.all_eq_true.mp hown i hi')
    have hjs' : ∀ k, k ∉ own.map (·.2) → k ∉ js := fun k hk z => hk (by simpa using List.all_eq_true.mp hjs k z)
    refine hi.sem HF0 G HF H σ gd' xs e1 _ fun J HF1 H1 s1 wk D hD => ?_
    have g1 := gd'.step s1
    refine ⟨fun i n H2 => n = xs.length - i ∧ ∃ HF2, Cmp X.K HF1 H1 o D tm fm xs ys i HF2 H2, ⟨xs.length, rfl, HF1, ?_⟩, ?_⟩
    · exact ⟨Step.own s1.sub hD, hD, s1.sub.free hD, [], [], [], ys, upd_same, rfl, List.nodup_nil, (fun p hp => by cases hp), Nat.le_refl _, Nat.zero_le _, hys, rfl⟩
    · rintro i n H2 ⟨rfl, HF2, st, fD, fF, vs, fp, zs, rs, eD, rl, nd, fr, hz, hix, hrs, hzr⟩
      have g2 := g1.step st
      have wk2 := wk HF2 H2 i st.exF st.sub
      have rdom := Rl.dom (fun v a f r => o.dom r) rl
      by_cases hlt : i < xs.length
      · refine .inr ?_
        have hx : xs[i]? = some xs[i] := List.getElem?_eq_getElem hlt
        obtain ⟨hgo, hy⟩ := wk2.1 _ hx
        rw [List.drop_eq_getElem_cons hlt] at hrs
        obtain ⟨b, eb, hrs⟩ := bind_ok hrs
        refine ⟨hgo, fun H' => ∃ HF', Cmp X.K HF1 H1 o D tm fm xs ys (i + 1) HF' H', fun H' h' => ⟨xs.length - (i + 1), by omega, rfl, h'⟩, fun x H3 hyl => ?_⟩
        obtain ⟨HF3, s3, rx⟩ := hy x H3 hyl
        have g3 := (g2.step s3).wipe (own.map (·.2)) hown'
        have hsem := (hg X.s_0 X.H_0 0 [] [] xs[i]).sem
        refine hsem HF0 G HF3 H3 (L2.wipe σ (own.map (·.2))) x g3 rx _ ?_
        intro σ' g4 hl hsame
        refine ⟨?_, ?_⟩
        · rw [wipe_ext (σ := L2.wipe σ (own.map (·.2))) hl fun k hk => hsame k (hjs' k hk)]
          exact wipe_ext (L2.wipe_length _ _) fun k hk => wipe_out' hk
        · have htsem := (ht X.s_0 X.H_0 0 [] [] xs[i]).sem
          refine htsem HF0 G HF3 H3 σ' g4 b eb _ fun HF4 H4 s4 => ?_
          have s34 := s3.trans s4
          have sT := st.trans s34
          cases b with
          | false =>
            refine iteF ⟨HF4, sT, fD, s34.nn fF eD, vs, fp, zs, rs, s34.exH _ _ eD, rl.step s34, nd, fun p hp => ?_, by omega, hlt, hrs, hzr⟩
            obtain ⟨f1, f2, f3⟩ := fr p hp
            obtain ⟨w, hw⟩ := rdom p hp
            exact ⟨f1, s34.nn f2 hw, f3⟩
          | true =>
            obtain ⟨y, ey, hrs⟩ := bind_ok hrs
            obtain ⟨rs', ers, hrs⟩ := bind_ok hrs
            have hr := pure_ok hrs
            have hesem := (he X.s_0 X.H_0 0 [] [] xs[i]).sem
            refine iteT (hesem HF0 G HF4 H4 σ' (g4.step s4) y ey _ fun v HF5 H5 fq s5 r5 n5 f5 => ?_)
            have s35 := s34.trans s5
            have sT5 := st.trans s35
            have eD5 := s35.exH _ _ eD
            have hDF : HF5 D = none := s35.nn fF eD
            have rl5 := rl.step s35
            have hDp : D ∉ fp := fun z => (fr D z).2.2 rfl
            have hDq : D ∉ fq := fun z => by
              have := (f5 D z).1
              rw [s34.exH _ _ eD] at this; cases this
            refine ⟨vs, eD5, ?_, HF5, sT5.mutD fD hDF, fD, hDF, vs ++ [v], fp ++ fq, zs ++ [y], rs', upd_same, ?_, ?_, fun p hp => ?_, ?_, hlt, ers, ?_⟩
            · rw [rl.len]; exact Nat.lt_of_le_of_lt hz (Nat.lt_of_lt_of_le hlt hsz)
            · exact Rl.append (rl5.upd hDp) (Rl.one (o.mono (Same.refl _) (fun q hq w e => by rw [upd_ne (fun z => hDq (by rw [← z]; exact hq))]; exact e) r5))
            · refine List.nodup_append.mpr ⟨nd, n5, fun p hp q hq e => ?_⟩
              subst e
              obtain ⟨w, hw⟩ := rdom p hp
              have := (f5 p hq).1
              rw [s34.exH _ _ hw] at this; cases this
            · rcases List.mem_append.mp hp with z | z
              · obtain ⟨f1, f2, f3⟩ := fr p z
                obtain ⟨w, hw⟩ := rdom p z
                exact ⟨f1, s35.nn f2 hw, f3⟩
              · exact ⟨(st.trans s34).exH.free (f5 p z).1, (f5 p z).2, fun e => hDq (e ▸ z)⟩
            · rw [List.length_append]; exact Nat.succ_le_succ hz
            · rw [List.append_assoc, ← hzr, ← hr]; rfl
      · refine .inl ⟨wk2.2 (by omega), ?_⟩
        have hnil : xs.drop i = [] := List.drop_eq_nil_of_le (by omega)
        rw [hnil] at hrs
        have hr := pure_ok hrs
        rw [← hr, List.append_nil] at hzr
        subst hzr
        exact k (.ref D) HF2 H2 (D :: fp) (s1.trans st) ⟨D, vs, fp, rfl, rfl, eD, rl⟩ (List.nodup_cons.mpr ⟨fun z => (fr D z).2.2 rfl, nd⟩) fun p hp => by
          rcases List.mem_cons.mp hp with e | z
          · subst e; exact ⟨s1.exH.free fD, fF⟩
          · exact ⟨s1.exH.free (fr p z).1, (fr p z).2.1⟩⟩
end
end Ty

namespace Ty
open PySem PySem.Spec PyProof.Rows L2

/-! ### statements -/
inductive Ctl (S L ρ : Type) where
  | nx (s : S)
  | bk (l : L)
  | ct (l : L)
  | rt (r : ρ)
/-- what is wanted of a block's ends: HFs: what was shared ahead of it -/
def EndsOk {S L ρ : Type} [Rp ρ] (K : PySem.W.Frag) (HF0 G HFs : Hp) (Γo : S → Ctx) (ΓL : L → Ctx) (o : Ow ρ) (D : Ends) : Ctl S L ρ → Prop
  | .nx s => ∀ HF H σ, Same HFs HF → Good K HF0 G (Γo s) HF H σ → D.nx σ H
  | .bk s => ∀ HF H σ, Same HFs HF → Good K HF0 G (ΓL s) HF H σ → D.bk σ H
  | .ct s => ∀ HF H σ, Same HFs HF → Good K HF0 G (ΓL s) HF H σ → D.ct σ H
  | .rt r => ∀ v HF H fp, Same HF H → Same HF0 HF → Same G H → (∀ p u, HF p = some u → HF0 p = none → G p = none) → o.rep K HF H v r fp → fp.Nodup → (∀ p ∈ fp, HF p = none ∧ G p = none) → o.out r D.rt v H
theorem EndsOk.mono {S L ρ : Type} [Rp ρ] {K : PySem.W.Frag} {HF0 G HFs HFt : Hp} {Γo : S → Ctx} {ΓL : L → Ctx} {o : Ow ρ} {D : Ends} {c : Ctl S L ρ} (e : Same HFs HFt) (h : EndsOk K HF0 G HFs Γo ΓL o D c) : EndsOk K HF0 G HFt Γo ΓL o D c := by
  cases c with
  | nx s => exact fun HF H σ a b => h HF H σ (e.trans a) b
  | bk s => exact fun HF H σ a b => h HF H σ (e.trans a) b
  | ct s => exact fun HF H σ a b => h HF H σ (e.trans a) b
  | rt r => exact h
def SemS {S L ρ : Type} [Rp ρ] (K : PySem.W.Frag) (Γ : Ctx) (t : TS) (Γo : S → Ctx) (ΓL : L → Ctx) (o : Ow ρ) (m : M (Ctl S L ρ)) : Prop :=
  ∀ HF0 G HF H σ, Good K HF0 G Γ HF H σ → ∀ c, m = .ok c → ∀ D : Ends, EndsOk K HF0 G HF Γo ΓL o D c → t D σ H
structure SS {S L ρ : Type} [Rp ρ] (X : Cx) (Γ : Ctx) (sts : List Stmt) (Γo : S → Ctx) (ΓL : L → Ctx) (o : Ow ρ) (m : M (Ctl S L ρ)) (t : TS) : Prop where
  pss : PSs X sts t
  sem : SemS X.K Γ t Γo ΓL o m
/-- Δ knows no more than Γ -/
inductive Sub : Ctx → Ctx → Prop where
  | n : Sub [] []
  | k {s : Sl} {Γ Δ : Ctx} : Sub Γ Δ → Sub (s :: Γ) (s :: Δ)
  | w {s : Sl} {Γ Δ : Ctx} : Sub Γ Δ → Sub (s :: Γ) (.un :: Δ)
theorem Sub.held {K : PySem.W.Frag} {HF H : Hp} {Γ Δ : Ctx} (h : Sub Γ Δ) : ∀ {σ : L2.St} {fs : List Addr}, Holds K HF H Γ σ fs → ∃ gs, Holds K HF H Δ σ gs ∧ (∀ p ∈ gs, p ∈ fs) ∧ (fs.Nodup → gs.Nodup) := by
  induction h with
  | n => exact fun {σ fs} h => ⟨fs, h, fun _ h => h, fun h => h⟩
  | @k s Γ Δ _ ih =>
    intro σ fs h
    cases σ with
    | nil => exact h.elim
    | cons x σ =>
      obtain ⟨f1, f2, h1, h2, h3⟩ := h
      obtain ⟨gs, q1, q2, q3⟩ := ih h3
      refine ⟨f1 ++ gs, ⟨f1, gs, rfl, h2, q1⟩, fun p hp => ?_, fun nd => ?_⟩
      · rw [h1]
        rcases List.mem_append.mp hp with z | z
        · exact List.mem_append_left _ z
        · exact List.mem_append_right _ (q2 p z)
      · rw [h1] at nd
        obtain ⟨a, b, c⟩ := List.nodup_append.mp nd
        exact List.nodup_append.mpr ⟨a, q3 b, fun p hp q hq e => c p hp q (q2 q hq) e⟩
  | @w s Γ Δ _ ih =>
    intro σ fs h
    cases σ with
    | nil => exact h.elim
    | cons x σ =>
      obtain ⟨f1, f2, h1, h2, h3⟩ := h
      obtain ⟨gs, q1, q2, q3⟩ := ih h3
      refine ⟨gs, ⟨[], gs, rfl, rfl, q1⟩, fun p hp => by rw [h1]; exact List.mem_append_right _ (q2 p hp), fun nd => ?_⟩
      rw [h1] at nd
      exact q3 (List.nodup_append.mp nd).2.1
theorem Sub.good {K : PySem.W.Frag} {HF0 G HF H : Hp} {Γ Δ : Ctx} {σ : L2.St} (h : Sub Γ Δ) (g : Good K HF0 G Γ HF H σ) : Good K HF0 G Δ HF H σ := by
  obtain ⟨fs, h1, h2, h3⟩ := g.held
  obtain ⟨gs, q1, q2, q3⟩ := h.held h1
  exact ⟨g.sub, g.f0, g.g0, g.nf, gs, q1, q3 h2, fun p hp => h3 p (q2 p hp)⟩
section
variable {X : Cx} {Γ : Ctx} {S L ρ α β γ A B S' : Type} [Rp ρ] {o : Ow ρ} {Γo : S → Ctx} {ΓL : L → Ctx} {a b e : Expr} {es : List Expr} {pos p apos : Pos} {ta tb te : TE} {t : TA} {sts : List Stmt} {tr tr' : TS}
theorem ss_nil (s : S) (h : Sub Γ (Γo s)) : SS X Γ [] Γo ΓL o (pure (.nx s)) tNext := ⟨pss_nil, fun HF0 G HF H σ g c hc D k => by cases pure_ok hc; exact k HF H σ (Same.refl _) (h.good g)⟩
theorem ss_break (s : L) (h : Sub Γ (ΓL s)) : SS X Γ [.Break pos] Γo ΓL o (pure (.bk s)) tBreak := ⟨pss_one ps_break, fun HF0 G HF H σ g c hc D k => by cases pure_ok hc; exact k HF H σ (Same.refl _) (h.good g)⟩
theorem ss_ret {m : M ρ} (h : EX X Γ e o m te) (ho : ∀ r R v H, o.out r R v H → R v H := by exact fun _ _ _ _ h => h) : SS X Γ [.Return (some e) pos] Γo ΓL o (do let r ← m; pure (.rt r)) (tRet te) :=
  ⟨pss_one (ps_ret h.pe), fun HF0 G HF H σ g c hc D k => by
    obtain ⟨r, e1, hc⟩ := bind_ok hc
    cases pure_ok hc
    refine h.sem HF0 G HF H σ g r e1 _ fun v HF' H' fp st rr n f => ?_
    have g' := g.step st
    exact ho _ _ _ _ <| k v HF' H' fp st.sub g'.f0 g'.g0 g'.nf rr n fun p hp => ⟨(f p hp).2, g.g0.free (f p hp).1⟩⟩
/-- an own thing handed back -/
theorem ss_retO (i : Nat) {r : ρ} {x : Str} {pos' : Pos} (hl : look Γ i = .mk o r := by rfl) (hN : X.N[i]? = some x := by rfl) (hv : Vis X.env.scope x := by first | exact Or.inl rfl | exact Or.inr (Or.inl rfl) | exact Or.inr (Or.inr rfl)) (hd : (x == ("__debug__" : Str)) = false := by decide)
    (hcd : (x == ("__classdict__" : Str)) = false := by decide) (ho : ∀ r R v H, o.out r R v H → R v H := by exact fun _ _ _ _ h => h) : SS X Γ [.Return (some (.Name x pos')) pos] Γo ΓL o (pure (.rt r)) (tRet (tVar i)) :=
  ⟨pss_one (ps_ret (pe_var hN hv hd hcd)), fun HF0 G HF H σ g c hc D k => by
    cases pure_ok hc
    obtain ⟨fs, h1, h2, h3⟩ := g.held
    have hi : i < Γ.length := by
      by_cases z : i < Γ.length
      · exact z
      · exfalso
        have q : ∀ (Γ : Ctx) (i : Nat), ¬ i < Γ.length → look Γ i = .un := fun Γ => by
          induction Γ with
          | nil => intro i _; rfl
          | cons s Γ ih =>
            intro i h
            cases i with
            | zero => exact absurd (Nat.zero_lt_succ _) h
            | succ i => exact ih i fun z => h (Nat.succ_lt_succ z)
        rw [q Γ i z] at hl
        cases hl
    obtain ⟨fo, fr', q1, q2, q3, q4⟩ := h1.put hi
    rw [hl] at q1
    obtain ⟨v, e1, r1⟩ := q1
    refine ⟨v, ?_, ho _ _ _ _ <| k v HF H fo g.sub g.f0 g.g0 g.nf r1 (q3 h2).2.1 fun p hp => h3 p ((q2 p).mpr (.inl hp))⟩
    have hlen := h1.len
    rw [List.getElem?_eq_getElem (by omega)]
    rw [List.getD_eq_getElem?_getD, List.getElem?_eq_getElem (by omega)] at e1
    exact congrArg some e1⟩
theorem Good.set {K : PySem.W.Frag} {HF0 G HF H HF' H' : Hp} {σ : L2.St} {i : Nat} {v : V} [Rp α] {a : α} {u : Ow α} {fp : List Addr} (g : Good K HF0 G Γ HF H σ) (hi : i < Γ.length) (st : Step HF H HF' H') (r : u.rep K HF' H' v a fp) (n : fp.Nodup) (f : ∀ p ∈ fp, H p = none ∧ HF' p = none) : Good K HF0 G (put Γ i (.mk u a)) HF' H' (σ.set i (some v)) := by
  obtain ⟨fs, h1, h2, h3⟩ := g.held
  have g' := g.step st
  obtain ⟨fo, fr', q1, q2, q3, q4⟩ := h1.put hi
  obtain ⟨n1, n2, n3⟩ := q3 h2
  obtain ⟨fs', w1, w2, w3⟩ := q4 (HF' := HF') (H' := H') (s := .mk u a) (x := some v) (f := fp) (fun _ h => h.mono st.exF fun p _ o e => st.exH p o e) (fun _ h => h.mono st.exF fun p _ o e => st.exH p o e) ⟨v, rfl, r⟩
  refine ⟨g'.sub, g'.f0, g'.g0, g'.nf, fs', w1, w3 n1 n fun p hp hq => ?_, fun p hp => ?_⟩
  · obtain ⟨w, hw⟩ := h1.dom p ((q2 p).mpr (.inr hq))
    rw [(f p hp).1] at hw; cases hw
  · rcases (w2 p).mp hp with z | z
    · exact ⟨(f p z).2, g.g0.free (f p z).1⟩
    · obtain ⟨w, hw⟩ := h1.dom p ((q2 p).mpr (.inr z))
      exact ⟨st.nn (h3 p ((q2 p).mpr (.inr z))).1 hw, (h3 p ((q2 p).mpr (.inr z))).2⟩
/-- x = e -/
theorem ss_asg [Rp α] [Inhabited α] (i : Nat) {x : Str} {u : Ow α} {m : M α} {k : α → M (Ctl S L ρ)} {pos' : Pos} (hN : X.N.Nodup) (he : EX X Γ e u m te) (hr : ∀ a, SS X (put Γ i (.mk u a)) sts Γo ΓL o (k a) tr) (hlt : Nat.blt i Γ.length = true := by rfl) (hi : X.N[i]? = some x := by rfl) (hx : Loc X.env.scope x := by first | exact .inl rfl | exact .inr rfl)
    (hs : swapsWith e (some (.Name x pos')) pos.line X.env = pure false := by rfl) (hf : X.fn x = true ∨ X.env.scope.names.lookup x = some .local := by first | exact .inl rfl | exact .inr rfl) : SS X Γ (.Assign [.Name x pos'] e pos :: sts) Γo ΓL o (do let a ← m; k a) (tSeq (tAsg te (gName i)) tr) :=
  ⟨pss_cons (ps_set hN hi hx he.pe hs hf) (hr default).pss, fun HF0 G HF H σ g c hc D kk => by
    obtain ⟨y, e1, hc⟩ := bind_ok hc
    refine he.sem HF0 G HF H σ g y e1 _ fun v HF' H' fp st r n f => ?_
    exact (hr y).sem HF0 G HF' H' _ (g.set (of_blt hlt) st r n f) c hc D (kk.mono st.exF)⟩
/-- x = [..], x a local: the text's own way of storing -/
theorem ss_asgLc [Rp α] [Rp β] [Inhabited α] {o' : Ow β} (i : Nat) {y : Str} {py : Pos} {elt tg iter : Expr} {ifs : List Expr} {scope : Scope} {own : List (Str × Nat)} {wi : TI} {g : TG} {tt : TT} {m : M (List α)} {tm : α → M Bool} {fm : α → M β} {Γt : α → Ctx} {js : List Nat} {k : List β → M (Ctl S L ρ)} {cpos : Pos} (hc : X.calm = true) (hN : X.N.Nodup)
    (hi : EI X Γ tg iter m wi) (ok : blkC X.N X.env.scope scope own = true) (hown : (own.map (·.2)).all (fun i => decide (i < Γ.length)) = true) (hjs : js.all (fun i => (own.map (·.2)).contains i) = true)
    (hg : ∀ (s : Shared) (H : Hp) (C : Addr) (cl : List (Str × Addr)) (fp : List Addr) (x : α), EG (X.blk s H scope (compEnvC scope cl C X.env) fp) (wipeC Γ (own.map (·.2))) tg g x (Γt x) js)
    (ht : ∀ (s : Shared) (H : Hp) (C : Addr) (cl : List (Str × Addr)) (fp : List Addr) (x : α), EF (X.blk s H scope (compEnvC scope cl C X.env) fp) (Γt x) ifs (tm x) tt)
    (he : ∀ (s : Shared) (H : Hp) (C : Addr) (cl : List (Str × Addr)) (fp : List Addr) (x : α), EX (X.blk s H scope (compEnvC scope cl C X.env) fp) (Γt x) elt o' (fm x) te)
    (hr : ∀ a, SS X (put Γ i (.mk (Ow.l o') a)) sts Γo ΓL o (k a) tr)
    (hlt : Nat.blt i Γ.length = true := by rfl) (hy : X.N[i]? = some y := by rfl) (hyl : X.env.scope.names.lookup y = some .local := by rfl)
    (hsw : swapsWith (.ListComp elt [⟨tg, iter, ifs, 0⟩] scope cpos) (some (.Name y py)) pos.line X.env = pure true := by exact sw_true rfl rfl rfl (by decide +kernel))
    (hs : ∀ x, foldedSetIterable iter X.env x = pure x := by intro _; rfl) :
    SS X Γ (.Assign [.Name y py] (.ListComp elt [⟨tg, iter, ifs, 0⟩] scope cpos) pos :: sts) Γo ΓL o (do let a ← (do let xs ← m; compM xs tm fm); k a) (tSeq (tAsg (tLc wi g tt te (own.map (·.2))) (gName i)) tr) := by
  have q : EX X Γ (.ListComp elt [⟨tg, iter, ifs, 0⟩] scope cpos) (Ow.l o') (do let xs ← m; compM xs tm fm) (tLc wi g tt te (own.map (·.2))) := ex_lc hc hN hi ok hown hjs hg ht he hs
  exact ⟨pss_cons (ps_setLc hc hN hy hyl hsw hi.pi (blkOk_by ok) (fun s H C cl fp => (hg s H C cl fp default).pg) (fun s H C cl fp => (ht s H C cl fp default).pts) (fun s H C cl fp => (he s H C cl fp default).pe) hs) (hr default).pss, fun HF0 G HF H σ gd c hcc D kk => by
    obtain ⟨z, e1, hcc⟩ := bind_ok hcc
    show tLc wi g tt te (own.map (·.2)) σ H (fun x H1 => tr D (σ.set i (some x)) H1)
    refine q.sem HF0 G HF H σ gd z e1 _ fun v HF' H' fp st r n f => ?_
    exact (hr z).sem HF0 G HF' H' _ (gd.set (of_blt hlt) st r n f) c hcc D (kk.mono st.exF)⟩
/-- if with an else or not, then the rest -/
def thenC {S1 : Type} (c : Ctl S1 L ρ) (k : S1 → M (Ctl S L ρ)) : M (Ctl S L ρ) := match c with
  | .nx s => k s
  | .bk l => pure (.bk l)
  | .ct l => pure (.ct l)
  | .rt r => pure (.rt r)
theorem ss_if {S1 : Type} [Inhabited S1] {c : Expr} {sa sb : List Stmt} {tc : TT} {t1 t2 : TS} {mc : M Bool} {ma mb : M (Ctl S1 L ρ)} {Γ1 : S1 → Ctx} {k : S1 → M (Ctl S L ρ)} (hc : ET X Γ c mc tc) (ha : SS X Γ sa Γ1 ΓL o ma t1) (hb : SS X Γ sb Γ1 ΓL o mb t2) (hr : ∀ s, SS X (Γ1 s) sts Γo ΓL o (k s) tr) :
    SS X Γ (.If c sa sb pos :: sts) Γo ΓL o (do let x ← mc; let y ← (if x then ma else mb); thenC y k) (tSeq (tIfS tc t1 t2) tr) :=
  ⟨pss_cons (ps_if hc.pt ha.pss hb.pss) (hr default).pss, fun HF0 G HF H σ g cc hcc D kk => by
    obtain ⟨x, e1, hcc⟩ := bind_ok hcc
    obtain ⟨y, e2, hcc⟩ := bind_ok hcc
    refine hc.sem HF0 G HF H σ g x e1 _ fun HF' H' st => ?_
    have kk' := kk.mono st.exF
    have fin : EndsOk X.K HF0 G HF' Γ1 ΓL o { D with nx := tr D } y := by
      cases y with
      | nx s => exact fun HF2 H2 σ2 a g2 => (hr s).sem HF0 G HF2 H2 σ2 g2 cc hcc D (kk'.mono a)
      | bk l => cases pure_ok (show (pure (.bk l) : M (Ctl S L ρ)) = .ok cc from hcc); exact kk'
      | ct l => cases pure_ok (show (pure (.ct l) : M (Ctl S L ρ)) = .ok cc from hcc); exact kk'
      | rt r => cases pure_ok (show (pure (.rt r) : M (Ctl S L ρ)) = .ok cc from hcc); exact kk'
    cases x with
    | true => exact iteT (ha.sem HF0 G HF' H' σ (g.step st) y e2 _ fin)
    | false => exact iteF (hb.sem HF0 G HF' H' σ (g.step st) y e2 _ fin)⟩
/-- if whose first branch leaves: nothing is joined -/
theorem ss_ifR {c : Expr} {sa : List Stmt} {tc : TT} {t1 : TS} {mc : M Bool} {ma : M (Ctl Empty L ρ)} {k : M (Ctl S L ρ)} (hc : ET X Γ c mc tc) (ha : SS X Γ sa (fun (_ : Empty) => []) ΓL o ma t1) (hr : SS X Γ sts Γo ΓL o k tr) :
    SS X Γ (.If c sa [] pos :: sts) Γo ΓL o (do let x ← mc; if x then (do let y ← ma; thenC y nofun) else k) (tSeq (tIfS tc t1 tNext) tr) :=
  ⟨pss_cons (ps_if hc.pt ha.pss pss_nil) hr.pss, fun HF0 G HF H σ g cc hcc D kk => by
    obtain ⟨x, e1, hcc⟩ := bind_ok hcc
    refine hc.sem HF0 G HF H σ g x e1 _ fun HF' H' st => ?_
    have kk' := kk.mono st.exF
    cases x with
    | true =>
      obtain ⟨y, e2, hcc⟩ := bind_ok hcc
      refine iteT (ha.sem HF0 G HF' H' σ (g.step st) y e2 _ ?_)
      cases y with
      | nx s => exact nomatch s
      | bk l => cases pure_ok (show (pure (.bk l) : M (Ctl S L ρ)) = .ok cc from hcc); exact kk'
      | ct l => cases pure_ok (show (pure (.ct l) : M (Ctl S L ρ)) = .ok cc from hcc); exact kk'
      | rt r => cases pure_ok (show (pure (.rt r) : M (Ctl S L ρ)) = .ok cc from hcc); exact kk'
    | false => exact iteF (hr.sem HF0 G HF' H' σ (g.step st) cc hcc D kk')⟩
/-- if at a block's end -/
theorem ss_ifE {c : Expr} {sa sb : List Stmt} {tc : TT} {t1 t2 : TS} {mc : M Bool} {ma mb : M (Ctl S L ρ)} (hc : ET X Γ c mc tc) (ha : SS X Γ sa Γo ΓL o ma t1) (hb : SS X Γ sb Γo ΓL o mb t2) :
    SS X Γ [.If c sa sb pos] Γo ΓL o (do let x ← mc; if x then ma else mb) (tIfS tc t1 t2) :=
  ⟨pss_one (ps_if hc.pt ha.pss hb.pss), fun HF0 G HF H σ g cc hcc D kk => by
    obtain ⟨x, e1, hcc⟩ := bind_ok hcc
    refine hc.sem HF0 G HF H σ g x e1 _ fun HF' H' st => ?_
    cases x with
    | true => exact iteT (ha.sem HF0 G HF' H' σ (g.step st) cc hcc _ (kk.mono st.exF))
    | false => exact iteF (hb.sem HF0 G HF' H' σ (g.step st) cc hcc _ (kk.mono st.exF))⟩

/-! ### loops -/
def loopM {α S ρ : Type} (f : α → S → M (Ctl S S ρ)) : List α → S → M (S ⊕ ρ)
  | [], s => pure (.inl s)
  | x :: xs, s => do
    let c ← f x s
    match c with
    | .nx s' => loopM f xs s'
    | .ct s' => loopM f xs s'
    | .bk s' => pure (.inl s')
    | .rt r => pure (.inr r)
def thenL (c : S' ⊕ ρ) (k : S' → M (Ctl S L ρ)) : M (Ctl S L ρ) := match c with
  | .inl s => k s
  | .inr r => pure (.rt r)
theorem ss_for [Rp α] [Inhabited α] {tg iter : Expr} {body : List Stmt} {wi : TI} {g : TG} {tb : TS} {js : List Nat} {m : M (List α)} {Γs : S' → Ctx} {Γt : S' → α → Ctx} {f : α → S' → M (Ctl S' S' ρ)} {k : S' → M (Ctl S L ρ)} (s0 : S') (hc : X.calm = true) (hxe : PassesOwn (model X.prog X.w) X.A X.env X.xe) (hi : EI X Γ tg iter m wi) (h0 : Sub Γ (Γs s0))
    (hg : ∀ s x, EG X (Γs s) tg g x (Γt s x) js) (hb : ∀ s x, SS X (Γt s x) body Γs Γs o (f x s) tb) (hr : ∀ s, SS X (Γs s) sts Γo ΓL o (k s) tr)
    (hs : ∀ x, foldedSetIterable iter X.env x = pure x := by intro _; rfl) : SS X Γ (.For tg iter body [] pos :: sts) Γo ΓL o (do let xs ← m; let c ← loopM f xs s0; thenL c k) (tSeq (tFor wi g tb) tr) :=
  ⟨pss_cons (ps_for hxe hc hi.pi (hg s0 default).pg (hb s0 default).pss hs) (hr s0).pss, fun HF0 G HF H σ gd cc hcc D kk => by
    obtain ⟨xs, e1, hcc⟩ := bind_ok hcc
    obtain ⟨c1, e2, hcc⟩ := bind_ok hcc
    refine hi.sem HF0 G HF H σ gd xs e1 _ fun J HF1 H1 st wk => ?_
    have kk' := kk.mono st.exF
    have nxt : ∀ s HF2 H2 σ2, c1 = .inl s → Same HF1 HF2 → Good X.K HF0 G (Γs s) HF2 H2 σ2 → tr D σ2 H2 := fun s HF2 H2 σ2 e a g2 => by
      subst e
      exact (hr s).sem HF0 G HF2 H2 σ2 g2 cc hcc D (kk'.mono a)
    refine ⟨fun i n σ2 H2 => n = xs.length - i ∧ i ≤ xs.length ∧ ∃ s HF2, Same HF1 HF2 ∧ Good X.K HF0 G (Γs s) HF2 H2 σ2 ∧ loopM f (xs.drop i) s = .ok c1, ⟨xs.length, rfl, Nat.zero_le _, s0, HF1, Same.refl _, h0.good (gd.step st), e2⟩, ?_⟩
    rintro i n σ2 H2 ⟨rfl, hix, s, HF2, a, g2, hl⟩
    have wk2 := wk HF2 H2 i a g2.sub
    by_cases hlt : i < xs.length
    · have hx : xs[i]? = some xs[i] := List.getElem?_eq_getElem hlt
      obtain ⟨hgo, hy⟩ := wk2.1 _ hx
      rw [List.drop_eq_getElem_cons hlt] at hl
      obtain ⟨c2, e3, hl⟩ := bind_ok hl
      refine .inr ⟨hgo, fun σ' H' => ∃ s' HF', Same HF1 HF' ∧ Good X.K HF0 G (Γs s') HF' H' σ' ∧ loopM f (xs.drop (i + 1)) s' = .ok c1, fun σ' H' h' => ⟨xs.length - (i + 1), by omega, rfl, hlt, h'⟩, fun x H3 hyl => ?_⟩
      obtain ⟨HF3, s3, rx⟩ := hy x H3 hyl
      refine (hg s xs[i]).sem HF0 G HF3 H3 σ2 x (g2.step s3) rx _ fun σ' g4 _ _ => ?_
      refine (hb s xs[i]).sem HF0 G HF3 H3 σ' g4 c2 e3 _ ?_
      have a3 := a.trans s3.exF
      cases c2 with
      | nx s' => exact fun HF5 H5 σ5 b g5 => ⟨s', HF5, a3.trans b, g5, hl⟩
      | ct s' => exact fun HF5 H5 σ5 b g5 => ⟨s', HF5, a3.trans b, g5, hl⟩
      | bk s' =>
        have e4 := pure_ok (show (pure (.inl s') : M (S' ⊕ ρ)) = .ok c1 from hl)
        exact fun HF5 H5 σ5 b g5 => nxt s' HF5 H5 σ5 e4.symm (a3.trans b) g5
      | rt r =>
        have e4 := pure_ok (show (pure (.inr r) : M (S' ⊕ ρ)) = .ok c1 from hl)
        subst e4
        cases pure_ok (show (pure (.rt r) : M (Ctl S L ρ)) = .ok cc from hcc)
        exact kk'
    · have hnil : xs.drop i = [] := List.drop_eq_nil_of_le (by omega)
      rw [hnil] at hl
      exact .inl ⟨wk2.2 (by omega), nxt s HF2 H2 σ2 (pure_ok hl).symm a g2⟩⟩
def whileM {S ρ : Type} (c : S → M Bool) (f : S → M (Ctl S S ρ)) : Nat → S → M (S ⊕ ρ)
  | 0, _ => no
  | n + 1, s => do
    let b ← c s
    if b then do
      let y ← f s
      match y with
      | .nx s' => whileM c f n s'
      | .ct s' => whileM c f n s'
      | .bk s' => pure (.inl s')
      | .rt r => pure (.inr r)
    else pure (.inl s)
theorem ss_while {c : Expr} {body : List Stmt} {tc : TT} {tb : TS} {Γs : S' → Ctx} {mc : S' → M Bool} {f : S' → M (Ctl S' S' ρ)} {k : S' → M (Ctl S L ρ)} (n : Nat) (s0 : S') (hxe : PassesOwn (model X.prog X.w) X.A X.env X.xe) (h0 : Sub Γ (Γs s0))
    (hc : ∀ s, ET X (Γs s) c (mc s) tc) (hb : ∀ s, SS X (Γs s) body Γs Γs o (f s) tb) (hr : ∀ s, SS X (Γs s) sts Γo ΓL o (k s) tr) : SS X Γ (.While c body [] pos :: sts) Γo ΓL o (do let y ← whileM mc f n s0; thenL y k) (tSeq (tWhile tc tb) tr) :=
  ⟨pss_cons (ps_while hxe (hc s0).pt (hb s0).pss) (hr s0).pss, fun HF0 G HF H σ gd cc hcc D kk => by
    obtain ⟨c1, e2, hcc⟩ := bind_ok hcc
    have nxt : ∀ s HF2 H2 σ2, c1 = .inl s → Same HF HF2 → Good X.K HF0 G (Γs s) HF2 H2 σ2 → tr D σ2 H2 := fun s HF2 H2 σ2 e a g2 => by
      subst e
      exact (hr s).sem HF0 G HF2 H2 σ2 g2 cc hcc D (kk.mono a)
    refine ⟨fun n σ2 H2 => ∃ s HF2, Same HF HF2 ∧ Good X.K HF0 G (Γs s) HF2 H2 σ2 ∧ whileM mc f n s = .ok c1, ⟨n, s0, HF, Same.refl _, h0.good gd, e2⟩, ?_⟩
    rintro n σ2 H2 ⟨s, HF2, a, g2, hl⟩
    cases n with
    | zero => cases hl
    | succ n =>
      obtain ⟨b, e3, hl⟩ := bind_ok hl
      refine (hc s).sem HF0 G HF2 H2 σ2 g2 b e3 _ fun HF3 H3 s3 => ?_
      have a3 := a.trans s3.exF
      cases b with
      | false =>
        have e4 := pure_ok (show (pure (.inl s) : M (S' ⊕ ρ)) = .ok c1 from hl)
        exact iteF (nxt s HF3 H3 σ2 e4.symm a3 (g2.step s3))
      | true =>
        obtain ⟨c2, e4, hl⟩ := bind_ok hl
        refine iteT ⟨fun σ' H' => ∃ s' HF', Same HF HF' ∧ Good X.K HF0 G (Γs s') HF' H' σ' ∧ whileM mc f n s' = .ok c1, fun σ' H' h' => ⟨n, Nat.lt_succ_self n, h'⟩, ?_⟩
        refine (hb s).sem HF0 G HF3 H3 σ2 (g2.step s3) c2 e4 _ ?_
        cases c2 with
        | nx s' => exact fun HF5 H5 σ5 b g5 => ⟨s', HF5, a3.trans b, g5, hl⟩
        | ct s' => exact fun HF5 H5 σ5 b g5 => ⟨s', HF5, a3.trans b, g5, hl⟩
        | bk s' =>
          have e5 := pure_ok (show (pure (.inl s') : M (S' ⊕ ρ)) = .ok c1 from hl)
          exact fun HF5 H5 σ5 b g5 => nxt s' HF5 H5 σ5 e5.symm (a3.trans b) g5
        | rt r =>
          have e5 := pure_ok (show (pure (.inr r) : M (S' ⊕ ρ)) = .ok c1 from hl)
          subst e5
          cases pure_ok (show (pure (.rt r) : M (Ctl S L ρ)) = .ok cc from hcc)
          exact kk⟩
/-- an own thing made shared from here on -/
theorem ss_frz [Rp α] (i : Nat) {u : Ow α} {x : α} {m : M (Ctl S L ρ)} (hl : look Γ i = .mk u x) (h : SS X (put Γ i (.mk Ow.v x)) sts Γo ΓL o m tr) (hlt : Nat.blt i Γ.length = true := by rfl) : SS X Γ sts Γo ΓL o m tr :=
  ⟨h.pss, fun HF0 G HF H σ g c hc D k => by
    obtain ⟨fs, h1, h2, h3⟩ := g.held
    obtain ⟨fo, fr', q1, q2, q3, q4⟩ := h1.put (of_blt hlt)
    obtain ⟨n1, n2, n3⟩ := q3 h2
    rw [hl] at q1
    obtain ⟨v, e1, r1⟩ := q1
    have hF : ∀ p ∈ fo, HF p = none := fun p hp => (h3 p ((q2 p).mpr (.inl hp))).1
    have sF : Same HF (plus HF H fo) := plus_same hF
    obtain ⟨fs', w1, w2, w3⟩ := q4 (HF' := plus HF H fo) (H' := H) (s := .mk Ow.v x) (x := some v) (f := []) (fun _ h => h.mono sF fun p _ o e => e) (fun _ h => h.mono sF fun p _ o e => e) ⟨v, rfl, u.frz sF plus_at r1, rfl⟩
    have eσ : σ.set i (some v) = σ := by
      have hlen := h1.len
      have hlt := of_blt hlt
      apply List.ext_getElem?
      intro j
      by_cases hj : i = j
      · subst hj
        rw [List.getElem?_set_self (by omega), List.getElem?_eq_getElem (by omega)]
        rw [List.getD_eq_getElem?_getD, List.getElem?_eq_getElem (by omega)] at e1
        exact congrArg some e1.symm
      · rw [List.getElem?_set_ne hj]
    refine h.sem HF0 G (plus HF H fo) H σ ⟨plus_sub g.sub, g.f0.trans sF, g.g0, fun p w e en => ?_, fs', by rw [← eσ]; exact w1, w3 n1 List.nodup_nil (fun p hp => by cases hp), fun p hp => ?_⟩ c hc D (k.mono sF)
    · by_cases hp : p ∈ fo
      · exact (h3 p ((q2 p).mpr (.inl hp))).2
      · rw [plus_out hp] at e; exact g.nf p w e en
    · rcases (w2 p).mp hp with z | z
      · cases z
      · rw [plus_out fun z' => n3 p z' z]
        exact h3 p ((q2 p).mpr (.inr z))⟩
end

/-! ### a def -/
def runC {ρ : Type} (m : M (Ctl Unit Empty ρ)) : M ρ := do
  let c ← m
  match c with
  | .rt r => pure r
  | _ => no
def spF {A ρ : Type} [Rp ρ] (K : PySem.W.Frag) (r : As A) (o : Ow ρ) (f : A → M ρ) : Sp := fun vs H Q _ =>
  ∃ HF a c, Same HF H ∧ r.rep K HF vs a ∧ f a = .ok c ∧ RetK K HF H o c Q
section
variable {P : Program} {w : World} {K : PySem.W.Frag} {mg : Str → Option Value} {base : Heap}
end
section
variable {X : Cx} {Γ : Ctx} {A ρ : Type} {e : Expr} {es : List Expr} {p pos : Pos} {t : TA}
theorem ex_call [Rp ρ] {K : PySem.W.Frag} {k : Nat} {f : Addr} {fd : FuncData} {ps : List Str} {x : Str} {r : As A} {o : Ow ρ} {fm : A → M ρ} {m : M A} (F : FnOk X.prog X.w X.K X.mg X.base CX0 k f fd ps (spF K r o fm)) (hr : Room k X.A) (hm : X.mg x = some (.ref f)) (hk : PySem.W.keepIn X.K (.ref f) = true) (hb : Binds X.K fd ps [])
    (ha : EA X Γ (e :: es) r m t) (hg : Gl X x := by rfl) (hdb : (x == ("__debug__" : Str)) = false := by decide) (he : starEach (e :: es) X.env = (false, eval e X.env) :: starEach es X.env := by rfl) (hpl : (backTo pos (starEach es X.env)).any (·.1) = false := by rfl) (hK : X.K = K := by rfl) :
    EX X Γ (.Call (.Name x p) (e :: es) [] pos) o (do let a ← m; fm a) (tCall (spF K r o fm) [] E0 t) := by
  subst hK
  exact ⟨pe_call F hr hg hm hk hb .nil pass0 ha.pa hdb he hpl, fun HF0 G HF H σ g c hc Q kk => by
    obtain ⟨x, e1, hc⟩ := bind_ok hc
    refine ha.sem HF0 G HF H σ g x e1 _ fun vs HF1 H1 s1 r1 => ?_
    show spF X.K r o fm (vs ++ []) H1 Q E0
    rw [List.append_nil]
    exact ⟨HF1, x, c, s1.sub, r1, hc, kk.back s1⟩⟩
end
end Ty

namespace Ty
open PySem PySem.Spec PyProof.Rows L2

instance : Inhabited Str := ⟨Str.empty⟩
instance : Inhabited Scr := ⟨⟨[]⟩⟩
instance {α : Type} : Inhabited (Tu α) := ⟨⟨[]⟩⟩
instance {α β γ : Type} [Inhabited α] [Inhabited β] [Inhabited γ] : Inhabited (T3 α β γ) := ⟨⟨default, default, default⟩⟩
theorem look_lt : ∀ {Γ : Ctx} {i : Nat}, look Γ i ≠ .un → i < Γ.length
  | [], _, h => absurd rfl h
  | _ :: _, 0, _ => Nat.zero_lt_succ _
  | _ :: Γ, i + 1, h => Nat.succ_lt_succ (look_lt (Γ := Γ) (i := i) h)
theorem look_lt' {α : Type} [Rp α] {Γ : Ctx} {i : Nat} {u : Ow α} {a : α} (h : look Γ i = .mk u a) : i < Γ.length := look_lt (by rw [h]; exact fun e => nomatch e)
theorem set_self {σ : L2.St} {i : Nat} {v : V} (h : σ[i]? = some (some v)) : σ.set i (some v) = σ := by
  apply List.ext_getElem?
  intro j
  by_cases hj : i = j
  · subst hj
    rw [List.getElem?_set_self (List.getElem?_eq_some_iff.mp h).1, h]
  · rw [List.getElem?_set_ne hj]
/-- an own thing, taken out and put back changed -/
theorem Good.take {K : PySem.W.Frag} {HF0 G HF H : Hp} {Γ : Ctx} {σ : L2.St} {i : Nat} {α : Type} [Rp α] {u : Ow α} {a : α} (g : Good K HF0 G Γ HF H σ) (hl : look Γ i = .mk u a) :
    ∃ v fo, σ[i]? = some (some v) ∧ u.rep K HF H v a fo ∧ fo.Nodup ∧ (∀ p ∈ fo, HF p = none ∧ G p = none) ∧
      ∀ {HF1 H1 H' : Hp} {β : Type} [Rp β] {u' : Ow β} {b : β} {v' : V} {f' : List Addr}, Step HF H HF1 H1 → (∀ p w, p ∉ fo → H1 p = some w → H' p = some w) → u'.rep K HF1 H' v' b f' → f'.Nodup → (∀ p ∈ f', p ∈ fo ∨ (H p = none ∧ HF1 p = none)) →
        Good K HF0 G (put Γ i (.mk u' b)) HF1 H' (σ.set i (some v')) := by
  have hi := look_lt' hl
  obtain ⟨fs, h1, h2, h3⟩ := g.held
  obtain ⟨fo, fr', q1, q2, q3, q4⟩ := h1.put hi
  obtain ⟨n1, n2, n3⟩ := q3 h2
  rw [hl] at q1
  obtain ⟨v, e1, r1⟩ := q1
  have hlen := h1.len
  have hσ : σ[i]? = some (some v) := by
    rw [List.getElem?_eq_getElem (by omega)]
    rw [List.getD_eq_getElem?_getD, List.getElem?_eq_getElem (by omega)] at e1
    exact congrArg some e1
  have hfo : ∀ p ∈ fo, HF p = none ∧ G p = none := fun p hp => h3 p ((q2 p).mpr (.inl hp))
  have hfr : ∀ p ∈ fr', HF p = none ∧ G p = none := fun p hp => h3 p ((q2 p).mpr (.inr hp))
  refine ⟨v, fo, hσ, r1, n2, hfo, ?_⟩
  intro HF1 H1 H' β _ u' b v' f' st hk hr hnd hf
  have g' := g.step st
  have kp : ∀ {f : List Addr}, (∀ p ∈ f, p ∈ fr') → ∀ p ∈ f, ∀ o, H p = some o → H' p = some o := fun hp p hm o e => hk p o (fun z => n3 p z (hp p hm)) (st.exH p o e)
  obtain ⟨fs', w1, w2, w3⟩ := q4 (HF' := HF1) (H' := H') (s := .mk u' b) (x := some v') (f := f') (fun hp h => h.mono st.exF (kp hp)) (fun hp h => h.mono st.exF (kp hp)) ⟨v', rfl, hr⟩
  have dm := h1.dom
  refine ⟨fun p w e => hk p w (fun z => ?_) (st.sub p w e), g'.f0, fun p w e => hk p w (fun z => ?_) (g'.g0 p w e), g'.nf, fs', w1, w3 n1 hnd fun p hp hq => ?_, fun p hp => ?_⟩
  · obtain ⟨w', hw⟩ := dm p ((q2 p).mpr (.inl z))
    rw [st.nn (hfo p z).1 hw] at e; cases e
  · rw [(hfo p z).2] at e; cases e
  · rcases hf p hp with z | z
    · exact n3 p z hq
    · obtain ⟨w', hw⟩ := dm p ((q2 p).mpr (.inr hq))
      rw [z.1] at hw; cases hw
  · rcases (w2 p).mp hp with z | z
    · rcases hf p z with z | z
      · obtain ⟨w', hw⟩ := dm p ((q2 p).mpr (.inl z))
        exact ⟨st.nn (hfo p z).1 hw, (hfo p z).2⟩
      · exact ⟨z.2, g.g0.free z.1⟩
    · obtain ⟨w', hw⟩ := dm p ((q2 p).mpr (.inr z))
      exact ⟨st.nn (hfr p z).1 hw, (hfr p z).2⟩
def appM {α : Type} (as : List α) (a : α) : M (List α) := do gd (decide (as.length < sizeLine)); pure (as ++ [a])
section
variable {X : Cx} {Γ : Ctx} {S L ρ α β γ A B S' : Type} [Rp ρ] {o : Ow ρ} {Γo : S → Ctx} {ΓL : L → Ctx} {a b e : Expr} {es : List Expr} {pos p apos cpos : Pos} {ta tb te : TE} {t : TA} {sts : List Stmt} {tr tr' : TS}
/-- x.append(e) -/
theorem ss_app [Rp α] (i : Nat) {u : Ow α} {as : List α} {x : Str} {m : M α} {k : List α → M (Ctl S L ρ)} (he : EX X Γ e u m te) (hr : ∀ l, SS X (put Γ i (.mk (Ow.l u) l)) sts Γo ΓL o (k l) tr) (hl : look Γ i = .mk (Ow.l u) as := by rfl) (hN : X.N[i]? = some x := by rfl) (hv : Vis X.env.scope x := by first | exact Or.inl rfl | exact Or.inr (Or.inl rfl) | exact Or.inr (Or.inr rfl)) (hd : (x == ("__debug__" : Str)) = false := by decide)
    (hcd : (x == ("__classdict__" : Str)) = false := by decide)
    (hpe : ∀ {to : TE} {tt : TA}, PE X (.Name x p) to → PA X [e] tt → PE X (.Call (.Attribute (.Name x p) "append" apos) [e] [] cpos) (tBM X.K "list" rAppend to tt) := by exact fun h h' => pe_bm PySem.F.plainAttrs_list PySem.F.slot_list_append PySem.F.type_list_append mt_append h h')
    (h1 : starEach [e] X.env = (false, eval e X.env) :: starEach [] X.env := by rfl)
    (hs : swapsWith (.Call (.Attribute (.Name x p) "append" apos) [e] [] cpos) none pos.line X.env = pure false := by rfl) :
    SS X Γ (.Expr (.Call (.Attribute (.Name x p) "append" apos) [e] [] cpos) pos :: sts) Γo ΓL o (do let a ← m; let l ← appM as a; k l) (tSeq (tDrop (tBM X.K "list" rAppend (tVar i) (tCons te tNil))) tr) :=
  ⟨pss_cons (ps_expr (hpe (pe_var hN hv hd hcd) (pa_cons he.pe pa_nil h1)) hs) (hr []).pss, fun HF0 G HF H σ g c hc D kk => by
    obtain ⟨y, e1, hc⟩ := bind_ok hc
    obtain ⟨l, e2, hc⟩ := bind_ok hc
    obtain ⟨w, e3, e2⟩ := bind_ok e2
    have e4 := pure_ok e2
    subst e4
    obtain ⟨v, fo, hσ, ⟨q, vs, fq, h1, h2, h3, h4⟩, nd, hfo, back⟩ := g.take hl
    subst h1 h2
    refine ⟨.ref q, hσ, .inl ⟨rfl, vs, SqL.of h3⟩, ?_⟩
    refine he.sem HF0 G HF H σ g y e1 _ fun v' HF1 H1 fp st r n f => ?_
    refine ⟨q, vs, v', rfl, rfl, st.exH _ _ h3, by rw [h4.len]; exact of_decide_eq_true (gd_ok e3), ?_⟩
    have hqn : q ∉ fq := (List.nodup_cons.mp nd).1
    have hqp : q ∉ fp := fun z => by
      have := (f q z).1
      rw [h3] at this; cases this
    have gg := back (u' := Ow.l u) (b := as ++ [y]) (v' := .ref q) (f' := q :: (fq ++ fp)) (H' := upd H1 q (.lst (vs ++ [v']))) st (fun p w hp e => by rw [upd_ne (fun z => hp (by rw [z]; exact List.mem_cons_self ..))]; exact e)
      ⟨q, vs ++ [v'], fq ++ fp, rfl, rfl, upd_same, Rl.append ((Rl.step h4 st).upd hqn) (Rl.one (u.mono (Same.refl _) (fun p hp w e => by rw [upd_ne (fun z => hqp (by rw [← z]; exact hp))]; exact e) r))⟩
      (List.nodup_cons.mpr ⟨fun z => (List.mem_append.mp z).elim hqn hqp, List.nodup_append.mpr ⟨(List.nodup_cons.mp nd).2, n, fun p hp p' hp' e => by
        subst e
        obtain ⟨w', hw⟩ := Rl.dom (fun v a f r => u.dom r) h4 p hp
        rw [(f p hp').1] at hw; cases hw⟩⟩)
      (fun p hp => by
        rcases List.mem_cons.mp hp with z | z
        · exact .inl (by rw [z]; exact List.mem_cons_self ..)
        · rcases List.mem_append.mp z with z | z
          · exact .inl (List.mem_cons_of_mem _ z)
          · exact .inr (f p z))
    rw [set_self hσ] at gg
    exact (hr (as ++ [y])).sem HF0 G HF1 _ σ gg c hc D (kk.mono st.exF)⟩
/-- from two own things: the one at j is given away -/
theorem Good.give {K : PySem.W.Frag} {HF0 G HF H : Hp} {σ : L2.St} {i j : Nat} [Rp α] [Rp β] {u : Ow α} {w : Ow β} {x : α} {y : β} (g : Good K HF0 G Γ HF H σ) (hj : look Γ j = .mk w y) :
    ∃ v fj, σ[j]? = some (some v) ∧ w.rep K HF H v y fj ∧ fj.Nodup ∧ (∀ p ∈ fj, HF p = none ∧ G p = none) ∧
      ∀ {Γ' : Ctx}, Γ' = put Γ j .un → look Γ' i = .mk u x → ∃ v' fo, σ[i]? = some (some v') ∧ u.rep K HF H v' x fo ∧ fo.Nodup ∧ (∀ p ∈ fo, HF p = none ∧ G p = none) ∧ (∀ p ∈ fo, p ∉ fj) ∧
        ∀ {H' : Hp} {γ : Type} [Rp γ] {u' : Ow γ} {b : γ} {v'' : V} {f' : List Addr}, (∀ p w, p ∉ fo → p ∉ fj → H p = some w → H' p = some w) → u'.rep K HF H' v'' b f' → f'.Nodup → (∀ p ∈ f', p ∈ fo ∨ p ∈ fj) →
          Good K HF0 G (put Γ' i (.mk u' b)) HF H' (σ.set i (some v'')) := by
  have hjl := look_lt' hj
  obtain ⟨fs, h1, h2, h3⟩ := g.held
  obtain ⟨fo, fr', q1, q2, q3, q4⟩ := h1.put hjl
  obtain ⟨n1, n2, n3⟩ := q3 h2
  rw [hj] at q1
  obtain ⟨v, e1, r1⟩ := q1
  have hlen := h1.len
  have hσ : σ[j]? = some (some v) := by
    rw [List.getElem?_eq_getElem (by omega)]
    rw [List.getD_eq_getElem?_getD, List.getElem?_eq_getElem (by omega)] at e1
    exact congrArg some e1
  refine ⟨v, fo, hσ, r1, n2, fun p hp => h3 p ((q2 p).mpr (.inl hp)), ?_⟩
  intro Γ' eΓ hl
  subst eΓ
  obtain ⟨fs', w1, w2, w3⟩ := q4 (HF' := HF) (H' := H) (s := .un) (x := some v) (f := []) (fun _ h => h) (fun _ h => h) rfl
  rw [set_self hσ] at w1
  have hi := look_lt' hl
  obtain ⟨fi, fr2, p1, p2, p3, p4⟩ := w1.put hi
  have nd' := w3 n1 List.nodup_nil (fun p hp => by cases hp)
  obtain ⟨m1, m2, m3⟩ := p3 nd'
  rw [hl] at p1
  obtain ⟨v', e2, r2⟩ := p1
  have hlen' := w1.len
  have hσ' : σ[i]? = some (some v') := by
    rw [List.getElem?_eq_getElem (by omega)]
    rw [List.getD_eq_getElem?_getD, List.getElem?_eq_getElem (by omega)] at e2
    exact congrArg some e2
  have inr : ∀ p, p ∈ fs' → p ∈ fr' := fun p hp => ((w2 p).mp hp).elim (fun z => by cases z) id
  have hfi : ∀ p ∈ fi, p ∈ fr' := fun p hp => inr p ((p2 p).mpr (.inl hp))
  have hfr2 : ∀ p ∈ fr2, p ∈ fr' := fun p hp => inr p ((p2 p).mpr (.inr hp))
  refine ⟨v', fi, hσ', r2, m2, fun p hp => h3 p ((q2 p).mpr (.inr (hfi p hp))), fun p hp z => n3 p z (hfi p hp), ?_⟩
  intro H' γ _ u' b v'' f' hk hr hnd hf
  have kp : ∀ {f : List Addr}, (∀ p ∈ f, p ∈ fr2) → ∀ p ∈ f, ∀ o, H p = some o → H' p = some o := fun hp p hm o e => hk p o (fun z => m3 p z (hp p hm)) (fun z => n3 p z (hfr2 p (hp p hm))) e
  obtain ⟨gs, x1, x2, x3⟩ := p4 (HF' := HF) (H' := H') (s := .mk u' b) (x := some v'') (f := f') (fun hp h => h.mono (Same.refl _) (kp hp)) (fun hp h => h.mono (Same.refl _) (kp hp)) ⟨v'', rfl, hr⟩
  have hF : ∀ p, p ∈ fi ∨ p ∈ fo → HF p = none ∧ G p = none := fun p hp => hp.elim (fun z => h3 p ((q2 p).mpr (.inr (hfi p z)))) fun z => h3 p ((q2 p).mpr (.inl z))
  refine ⟨fun p w e => hk p w (fun z => ?_) (fun z => ?_) (g.sub p w e), g.f0, fun p w e => hk p w (fun z => ?_) (fun z => ?_) (g.g0 p w e), g.nf, gs, x1, x3 m1 hnd fun p hp hq => ?_, fun p hp => ?_⟩
  · rw [(hF p (.inl z)).1] at e; cases e
  · rw [(hF p (.inr z)).1] at e; cases e
  · rw [(hF p (.inl z)).2] at e; cases e
  · rw [(hF p (.inr z)).2] at e; cases e
  · rcases hf p hp with z | z
    · exact m3 p z hq
    · exact n3 p z (hfr2 p hq)
  · rcases (x2 p).mp hp with z | z
    · exact hF p (hf p z)
    · exact h3 p ((q2 p).mpr (.inr (hfr2 p z)))
/-- x.append(y), y an own thing that is given away -/
theorem ss_appO [Rp α] (i j : Nat) {u : Ow α} {as : List α} {y0 : α} {x y : Str} {py : Pos} {k : List α → M (Ctl S L ρ)} (hr : ∀ l, SS X (put (put Γ j .un) i (.mk (Ow.l u) l)) sts Γo ΓL o (k l) tr) (hl : look (put Γ j .un) i = .mk (Ow.l u) as := by rfl) (hj : look Γ j = .mk u y0 := by rfl) (hN : X.N[i]? = some x := by rfl) (hv : Vis X.env.scope x := by first | exact Or.inl rfl | exact Or.inr (Or.inl rfl) | exact Or.inr (Or.inr rfl)) (hd : (x == ("__debug__" : Str)) = false := by decide)
    (hcd : (x == ("__classdict__" : Str)) = false := by decide) (hNy : X.N[j]? = some y := by rfl) (hvy : Vis X.env.scope y := by first | exact Or.inl rfl | exact Or.inr (Or.inl rfl) | exact Or.inr (Or.inr rfl)) (hdy : (y == ("__debug__" : Str)) = false := by decide)
    (hcdy : (y == ("__classdict__" : Str)) = false := by decide)
    (hpe : ∀ {to : TE} {tt : TA}, PE X (.Name x p) to → PA X [.Name y py] tt → PE X (.Call (.Attribute (.Name x p) "append" apos) [.Name y py] [] cpos) (tBM X.K "list" rAppend to tt) := by exact fun h h' => pe_bm PySem.F.plainAttrs_list PySem.F.slot_list_append PySem.F.type_list_append mt_append h h')
    (h1 : starEach [.Name y py] X.env = (false, eval (.Name y py) X.env) :: starEach [] X.env := by rfl)
    (hs : swapsWith (.Call (.Attribute (.Name x p) "append" apos) [.Name y py] [] cpos) none pos.line X.env = pure false := by rfl) :
    SS X Γ (.Expr (.Call (.Attribute (.Name x p) "append" apos) [.Name y py] [] cpos) pos :: sts) Γo ΓL o (do let l ← appM as y0; k l) (tSeq (tDrop (tBM X.K "list" rAppend (tVar i) (tCons (tVar j) tNil))) tr) :=
  ⟨pss_cons (ps_expr (hpe (pe_var hN hv hd hcd) (pa_cons (pe_var hNy hvy hdy hcdy) pa_nil h1)) hs) (hr []).pss, fun HF0 G HF H σ g c hc D kk => by
    obtain ⟨l, e2, hc⟩ := bind_ok hc
    obtain ⟨w, e3, e2⟩ := bind_ok e2
    have e4 := pure_ok e2
    subst e4
    obtain ⟨v', fj, hσj, rj, nj, hfj, giv⟩ := g.give (i := i) (u := Ow.l u) (x := as) hj
    obtain ⟨v, fo, hσ, ⟨q, vs, fq, h1, h2, h3, h4⟩, nd, hfo, hdis, back⟩ := giv rfl hl
    subst h1 h2
    refine ⟨.ref q, hσ, .inl ⟨rfl, vs, SqL.of h3⟩, v', hσj, ?_⟩
    refine ⟨q, vs, v', rfl, rfl, h3, by rw [h4.len]; exact of_decide_eq_true (gd_ok e3), ?_⟩
    have hqn : q ∉ fq := (List.nodup_cons.mp nd).1
    have hqp : q ∉ fj := hdis q (List.mem_cons_self ..)
    have gg := back (u' := Ow.l u) (b := as ++ [y0]) (v'' := .ref q) (f' := q :: (fq ++ fj)) (H' := upd H q (.lst (vs ++ [v']))) (fun p w hp _ e => by rw [upd_ne (fun z => hp (by rw [z]; exact List.mem_cons_self ..))]; exact e)
      ⟨q, vs ++ [v'], fq ++ fj, rfl, rfl, upd_same, Rl.append (h4.upd hqn) (Rl.one (u.mono (Same.refl _) (fun p hp w e => by rw [upd_ne (fun z => hqp (by rw [← z]; exact hp))]; exact e) rj))⟩
      (List.nodup_cons.mpr ⟨fun z => (List.mem_append.mp z).elim hqn hqp, List.nodup_append.mpr ⟨(List.nodup_cons.mp nd).2, nj, fun p hp p' hp' e => by
        subst e
        exact hdis p (List.mem_cons_of_mem _ hp) hp'⟩⟩)
      (fun p hp => by
        rcases List.mem_cons.mp hp with z | z
        · exact .inl (by rw [z]; exact List.mem_cons_self ..)
        · rcases List.mem_append.mp z with z | z
          · exact .inl (List.mem_cons_of_mem _ z)
          · exact .inr z)
    rw [set_self hσ] at gg
    exact (hr (as ++ [y0])).sem HF0 G HF _ σ gg c hc D kk⟩
end

/-! ### isinstance by the kind -/
class Kd (α : Type) [Rp α] where
  nm : String
  ok : ∀ {K : PySem.W.Frag} {H : Hp} {v : V} {a : α}, Rp.sh K H v a → TyX K H v (.type nm)
instance : Kd Int := ⟨"int", fun h => by cases h; exact .base (.int _)⟩
instance : Kd Bool := ⟨"bool", fun h => by cases h; exact .base (.bl _)⟩
instance : Kd Str := ⟨"str", fun h => by cases h; exact .base (.str _)⟩
instance : Kd Unit := ⟨"NoneType", fun h => by cases h; exact .base .non⟩
instance kdL {α : Type} [Rp α] : Kd (List α) := ⟨"list", fun ⟨p, vs, e, h, _⟩ => by subst e; exact .base (.lst h)⟩
section
variable {X : Cx} {Γ : Ctx} {S L ρ α β γ A B S' : Type} {a b e : Expr} {es : List Expr} {pos p apos cpos p1 p2 : Pos} {ta tb te : TE} {t : TA}
theorem ex_isi {K : PySem.W.Frag} [Rp α] [Kd α] {m : M α} {T : Str} {n : String} {r : Bool} (hm : X.mg "isinstance" = none) (hmT : X.mg T = none) (hT : bootBuiltins T = some (.type n)) (h : EX X Γ e Ow.v m te) (hk : kitB (Kd.nm α) n = some r) (hg : Gl X "isinstance" := by rfl) (hgT : Gl X T := by rfl) (hn : T ≠ "__name__" := by decide) (hdb : (T == ("__debug__" : Str)) = false := by decide)
    (h1 : starEach [e, .Name T p1] X.env = (false, eval e X.env) :: starEach [.Name T p1] X.env := by rfl) (h2 : starEach [.Name T p1] X.env = (false, eval (.Name T p1) X.env) :: starEach [] X.env := by rfl) (hpl : (backTo pos (starEach [.Name T p1] X.env)).any (·.1) = false := by rfl) (hK : X.K = K := by rfl) :
    EX X Γ (.Call (.Name "isinstance" p) [e, .Name T p1] [] pos) Ow.v (do let _ ← m; pure r) (tCB (rIsi K) (tCons te (tCons (tC (.ty n)) tNil))) := by
  subst hK
  exact ⟨pe_callB call_isi hg hm (by decide +kernel) (pa_cons h.pe (pa_cons (pe_bltn (v := .ty n) hgT hmT hT rfl hn hdb) pa_nil h2) h1) (by decide) (by decide) h1 hpl, fun HF0 G HF H σ g c hc Q k => by
    obtain ⟨x, e1, hc⟩ := bind_ok hc
    cases pure_ok hc
    refine h.sem HF0 G HF H σ g x e1 _ fun v HF1 H1 fp s1 r1 _ _ => ?_
    exact ⟨v, .ty n, .type (Kd.nm α), .type n, r, rfl, .ty n, Kd.ok (Rp.mono s1.sub r1.1), kit_ty hk, (k.back s1).flat s1.sub⟩⟩
theorem ex_min2 {m n : M Int} (hc : X.calm = true) (hm : X.mg "min" = none) (h : EX X Γ a Ow.v m ta) (h' : EX X Γ b Ow.v n tb) (hg : Gl X "min" := by rfl)
    (h1 : starEach [a, b] X.env = (false, eval a X.env) :: starEach [b] X.env := by rfl) (h2 : starEach [b] X.env = (false, eval b X.env) :: starEach [] X.env := by rfl) (hpl : (backTo pos (starEach [b] X.env)).any (·.1) = false := by rfl) :
    EX X Γ (.Call (.Name "min" p) [a, b] [] pos) Ow.v (do let a ← m; let b ← n; pure (if b < a then b else a)) (tCB (fun xs H Q => ∃ i j, xs = [.int i, .int j] ∧ Q (.int (if j < i then j else i)) H) (tCons ta (tCons tb tNil))) :=
  ex_b2 (call_min2 hc) (show SemC2 X.K _ Ow.v (fun (a b : Int) => pure (if b < a then b else a)) from fun HF H v w a b c s ra rb hc Q k => by
    cases pure_ok hc
    cases ra
    cases rb
    exact ⟨a, b, rfl, k.flat s⟩) boot_min hm h h' hg (h1 := h1) (h2 := h2) (hpl := hpl)
end
end Ty

namespace Ty
open PySem PySem.Spec PyProof.Rows L2
section
variable {P : Program} {w : World} {K : PySem.W.Frag} {mg : Str → Option Value} {base : Heap}
theorem fn_okD {A ρ : Type} [Rp ρ] {x qual : Str} {params : Arguments} {bd : List Stmt} {scope : Scope} {dvs : List V} {kws : List (Str × V)} {f : Addr} {fd : FuncData} {N ps : List Str} {k : Nat} {r : As A} {o : Ow ρ} {m : A → M (Ctl Unit Empty ρ)} (F : FunD K x qual params bd scope dvs kws f fd) (S : FnScope N ps scope) (hn : r.n = ps.length) (hN : N.length = r.n + (N.length - r.n))
    (body : ∀ (cdv : Value) (A' : Around) (outer : List Env) (s : Shared) (H : Hp) (E : XK), Room k (A'.deeper (envOfC qual scope s.heap.objs.size f cdv)) → ∀ a : A, ∃ t : TS,
      SS (cxOf CX0 P w K mg base N qual scope f cdv A' outer s H E).nox (r.ctx a ++ List.replicate (N.length - r.n) .un) bd (fun (_ : Unit) => []) (fun (_ : Empty) => []) o (m a) t)
    (ho : ∀ r R v H, R v H → o.out r R v H := by exact fun _ _ _ _ h => h) :
    FnOk P w K mg base CX0 (k + 1) f fd ps (spF K r o fun a => runC (m a)) := by
  refine F.ok S (fun vs H Q E h => ?_) (fun cdv A' outer s H vs Q E hr h => ?_)
  · obtain ⟨HF, a, c, h1, h2, h3, h4⟩ := h
    rw [r.len h2, hn]
  · obtain ⟨HF, a, c, h1, h2, h3, h4⟩ := h
    obtain ⟨t, q⟩ := body cdv A' outer s H E hr a
    refine ⟨t, q.pss.nox, ?_⟩
    obtain ⟨c', e1, h3⟩ := bind_ok h3
    have hl := r.len h2
    have hd := r.held (HF := HF) (H := H) (N.length - r.n) h2
    have es : L2.start N vs = vs.map some ++ List.replicate (N.length - r.n) none := by unfold L2.start; rw [hl]
    refine q.sem HF H HF H (L2.start N vs) ⟨h1, Same.refl _, Same.refl _, (fun p u a b => by rw [a] at b; cases b), [], by rw [es]; exact hd, List.nodup_nil, fun p hp => by cases hp⟩ c' e1 _ ?_
    cases c' with
    | nx s => cases h3
    | bk l => exact nomatch l
    | ct l => exact nomatch l
    | rt r' =>
      cases pure_ok (show (pure r' : M ρ) = .ok c from h3)
      exact fun v HF' H' fp a b c' d rr n ff => ho _ _ _ _ <| h4 v HF' H' fp ⟨b, c', a, d⟩ rr n fun p hp => ⟨(ff p hp).2, (ff p hp).1⟩
/-- a def of the text that keeps its promise -/
def Has (P : Program) (w : World) (K : PySem.W.Frag) (mg : Str → Option Value) (base : Heap) (x : Str) (k : Nat) (ps : List Str) (sp : Sp) : Prop :=
  ∃ f fd, FnOk P w K mg base CX0 k f fd ps sp ∧ mg x = some (.ref f) ∧ PySem.W.keepIn K (.ref f) = true ∧ Binds K fd ps []
end
theorem law_start {K : PySem.W.Frag} {mir : Scr → M Bool} {ns : List Int} {a : Addr} {H : Hp} {E : XK} (e : mir ⟨ns⟩ = .ok true) (hS : SqL K H a (ns.map V.int)) : spF K (As.cons (α := Scr) As.nil) (Ow.v : Ow Bool) (fun a => mir a.1) [.ref a] H (fun v _ => v = .bl true) E :=
  ⟨H, (⟨ns⟩, ()), true, Same.refl _, ⟨.ref a, [], rfl, ⟨a, rfl, hS⟩, rfl⟩, e, fun v HF' H' fp st r n f => r.1⟩
/-! ### comparisons, as a value or a test -/
structure EC (X : Cx) (Γ : Ctx) (op : CmpOp) (a b : Expr) (m : M Bool) (r : R2) (ta tb : TE) : Prop where
  ho : OpR X (compareOp op) r
  pa : PE X a ta
  pb : PE X b tb
  hm : behindInMarks op b = false
  sem : SemE X.K Γ (tOp r ta tb) Ow.v m
section
variable {X : Cx} {Γ : Ctx} {α β : Type} {a b c e : Expr} {es : List Expr} {pos p : Pos} {ta tb tc te : TE} {op : CmpOp} {r : R2} {m : M Bool} {t : TE}
theorem ex_c (h : EC X Γ op a b m r ta tb) : EX X Γ (.Compare a [op] [b] pos) Ow.v m (tOp r ta tb) := ⟨pe_cmpR h.ho h.pa h.pb h.hm, h.sem⟩
theorem et_c (h : EC X Γ op a b m r ta tb) : ET X Γ (.Compare a [op] [b] pos) m (tTest (tOp r ta tb)) :=
  ⟨pt_cmpR h.ho h.pa h.pb h.hm, fun HF0 G HF H σ g c hc Q k => h.sem HF0 G HF H σ g c hc _ fun v HF' H' fp s r _ _ => ⟨c, r.1, k HF' H' s⟩⟩
theorem ec_of [Rp α] [Rp β] {f : α → β → M Bool} {ma : M α} {mb : M β} (ho : OpR X (compareOp op) r) (hr : SemR2 X.K r Ow.v f) (ha : EX X Γ a Ow.v ma ta) (hb : EX X Γ b Ow.v mb tb) (hm : behindInMarks op b = false) : EC X Γ op a b (do let a ← ma; let b ← mb; f a b) r ta tb :=
  ⟨ho, ha.pe, hb.pe, hm, sem_op hr ha.sem hb.sem⟩
theorem ec_lt {ma mb : M Int} (ha : EX X Γ a Ow.v ma ta) (hb : EX X Γ b Ow.v mb tb) : EC X Γ .Lt a b (do let a ← ma; let b ← mb; pure (decide (a < b))) (rI0 fun i j => .bl (decide (i < j))) ta tb := ec_of op_lt (sr_I0 fun _ _ => rfl) ha hb (nomark _)
theorem ec_gt {ma mb : M Int} (ha : EX X Γ a Ow.v ma ta) (hb : EX X Γ b Ow.v mb tb) : EC X Γ .Gt a b (do let a ← ma; let b ← mb; pure (decide (b < a))) (rI0 fun i j => .bl (decide (j < i))) ta tb := ec_of op_gt (sr_I0 fun _ _ => rfl) ha hb (nomark _)
theorem ec_eq [Fl α] [DecidableEq α] [Sc α] {ma mb : M α} (ha : EX X Γ a Ow.v ma ta) (hb : EX X Γ b Ow.v mb tb) : EC X Γ .Eq a b (do let a ← ma; let b ← mb; pure (decide (a = b))) rEq ta tb := ec_of op_eq sr_eq ha hb (nomark _)
theorem ec_ne [Fl α] [DecidableEq α] [Sc α] {ma mb : M α} (ha : EX X Γ a Ow.v ma ta) (hb : EX X Γ b Ow.v mb tb) : EC X Γ .NotEq a b (do let a ← ma; let b ← mb; pure (!decide (a = b))) rNe ta tb := ec_of op_ne sr_ne ha hb (nomark _)
theorem ec_eqD {K : PySem.W.Frag} [Rp α] [DecidableEq α] [Eqv α] {ma mb : M α} (hu : X.A.units + 64 < cLine) (ha : EX X Γ a Ow.v ma ta) (hb : EX X Γ b Ow.v mb tb) (hd : Eqv.dep α ≤ 64 := by decide) (hK : X.K = K := by rfl) : EC X Γ .Eq a b (do let a ← ma; let b ← mb; eqM a b) (rEqD K) ta tb := by
  subst hK
  exact ec_of (op_eqD hu) (sr_eqD hd) ha hb (nomark _)
theorem ec_neD {K : PySem.W.Frag} [Rp α] [DecidableEq α] [Eqv α] {ma mb : M α} (hu : X.A.units + 64 < cLine) (ha : EX X Γ a Ow.v ma ta) (hb : EX X Γ b Ow.v mb tb) (hd : Eqv.dep α ≤ 64 := by decide) (hK : X.K = K := by rfl) : EC X Γ .NotEq a b (do let a ← ma; let b ← mb; neM a b) (rNeD K) ta tb := by
  subst hK
  exact ec_of (op_neD hu) (sr_neD hd) ha hb (nomark _)
def rIsNo : R2 := fun x y H Q => y = .non ∧ Q (.bl (decide (x = .non))) H
def rNotNo : R2 := fun x y H Q => y = .non ∧ Q (.bl (!decide (x = .non))) H
class OpN (α : Type) [Fl (Option α)] : Prop where
  no : Fl.enc (none : Option α) = V.non
  so : ∀ a : α, Fl.enc (some a) ≠ V.non
instance : OpN Int := ⟨rfl, fun _ h => nomatch h⟩
instance : OpN Str := ⟨rfl, fun _ h => nomatch h⟩
theorem opN_dec [Fl (Option α)] [OpN α] (a : Option α) : decide (Fl.enc a = V.non) = a.isNone := by
  cases a with
  | none => simp [OpN.no]
  | some a => simp [OpN.so]
theorem ec_isN [Fl (Option α)] [OpN α] {j p2} {ma : M (Option α)} (ha : EX X Γ a Ow.v ma ta) : EC X Γ .Is a (.Constant .none j p2) (do let a ← ma; pure a.isNone) rIsNo ta (tC .non) :=
  ⟨op_isN, ha.pe, pe_non, nomark _, fun HF0 G HF H σ g c hc Q k => by
    obtain ⟨x, e1, hc⟩ := bind_ok hc
    cases pure_ok hc
    refine ha.sem HF0 G HF H σ g x e1 _ fun v HF1 H1 fp s1 r1 _ _ => ⟨rfl, ?_⟩
    rw [Fl.sh_iff.mp r1.1, opN_dec]
    exact (k.back s1).flat s1.sub⟩
theorem ec_notN [Fl (Option α)] [OpN α] {j p2} {ma : M (Option α)} (ha : EX X Γ a Ow.v ma ta) : EC X Γ .IsNot a (.Constant .none j p2) (do let a ← ma; pure a.isSome) rNotNo ta (tC .non) :=
  ⟨op_notN, ha.pe, pe_non, nomark _, fun HF0 G HF H σ g c hc Q k => by
    obtain ⟨x, e1, hc⟩ := bind_ok hc
    cases pure_ok hc
    refine ha.sem HF0 G HF H σ g x e1 _ fun v HF1 H1 fp s1 r1 _ _ => ⟨rfl, ?_⟩
    rw [Fl.sh_iff.mp r1.1, opN_dec]
    have e : (!x.isNone) = x.isSome := by cases x <;> rfl
    rw [e]
    exact (k.back s1).flat s1.sub⟩
/-- in, not in -/
class Mem (α : Type) [Fl α] [DecidableEq α] : Prop where
  fl : ∀ a : α, flatV (Fl.enc a) = true
  ev : ∀ a b : α, eqV (Fl.enc a) (Fl.enc b) = decide (a = b)
instance : Mem Int := ⟨fun _ => rfl, fun a b => by
  show (a == b) = decide (a = b)
  by_cases h : a = b <;> simp [h]⟩
instance : Mem Str := ⟨fun _ => rfl, fun a b => by
  show (a == b) = decide (a = b)
  by_cases h : a = b <;> simp [h]⟩
theorem mem_flat [Fl α] [DecidableEq α] [Mem α] : ∀ as : List α, (as.map Fl.enc).all flatV = true
  | [] => rfl
  | a :: as => by rw [List.map_cons, List.all_cons, Mem.fl, mem_flat as]; rfl
theorem mem_in [Fl α] [DecidableEq α] [Mem α] (a : α) : ∀ as : List α, inV (Fl.enc a) (as.map Fl.enc) = decide (a ∈ as)
  | [] => by simp [inV]
  | b :: as => by
    have ih := mem_in a as
    unfold inV at ih ⊢
    rw [List.map_cons, List.any_cons, ih, Mem.ev]
    by_cases h1 : b = a <;> by_cases h2 : a ∈ as <;> simp [h1, h2, eq_comm]
    · intro h; exact h1 h.symm
theorem sr_inL [Fl α] [DecidableEq α] [Mem α] {K : PySem.W.Frag} (neg : Bool) : SemR2 K (rIn K neg) Ow.v (fun (a : α) (b : List α) => pure (if neg then !decide (a ∈ b) else decide (a ∈ b))) := fun HF H v w a b c s ra ⟨q, us, e, h1, h2⟩ hc Q k => by
  cases pure_ok hc
  subst e
  have e2 := Fa.flat.mp h2
  subst e2
  rw [Fl.sh_iff.mp ra]
  refine ⟨q, _, rfl, .inl (SqL.of (s _ _ h1)), Mem.fl a, mem_flat b, ?_⟩
  rw [mem_in]; exact k.flat s
theorem sr_inT [Fl α] [DecidableEq α] [Mem α] {K : PySem.W.Frag} (neg : Bool) : SemR2 K (rIn K neg) Ow.v (fun (a : α) (b : Tu α) => pure (if neg then !decide (a ∈ b.l) else decide (a ∈ b.l))) := fun HF H v w a b c s ra ⟨q, us, e, h1, h2⟩ hc Q k => by
  cases pure_ok hc
  subst e
  have e2 := Fa.flat.mp h2
  subst e2
  rw [Fl.sh_iff.mp ra]
  refine ⟨q, _, rfl, .inr (sqT_mono s h1), Mem.fl a, mem_flat b.l, ?_⟩
  rw [mem_in]; exact k.flat s
theorem ec_ninL {K : PySem.W.Frag} [Fl α] [DecidableEq α] [Mem α] {ma : M α} {mb : M (List α)} (ha : EX X Γ a Ow.v ma ta) (hb : EX X Γ b Ow.v mb tb) (hm : behindInMarks .NotIn b = false := by rfl) (hK : X.K = K := by rfl) : EC X Γ .NotIn a b (do let a ← ma; let b ← mb; pure (!decide (a ∈ b))) (rIn K true) ta tb := by
  subst hK
  exact ec_of op_notIn_seq (sr_inL true) ha hb hm
theorem ec_inT {K : PySem.W.Frag} [Fl α] [DecidableEq α] [Mem α] {ma : M α} {mb : M (Tu α)} (ha : EX X Γ a Ow.v ma ta) (hb : EX X Γ b Ow.v mb tb) (hm : behindInMarks .In b = false := by rfl) (hK : X.K = K := by rfl) : EC X Γ .In a b (do let a ← ma; let b ← mb; pure (decide (a ∈ b.l))) (rIn K false) ta tb := by
  subst hK
  exact ec_of op_in_seq (sr_inT false) ha hb hm
/-- a < b < c -/
def chainM (p q : Int → Int → Bool) (ma mb mc : M Int) : M Bool := do
  let a ← ma
  let b ← mb
  if p a b then do
    let c ← mc
    pure (q b c)
  else pure false
theorem semChain {K : PySem.W.Frag} {p q : Int → Int → Bool} {ma mb mc : M Int} (ha : SemE K Γ ta Ow.v ma) (hb : SemE K Γ tb Ow.v mb) (hc : SemE K Γ tc Ow.v mc) : SemE K Γ (tChain (rI0 fun i j => .bl (p i j)) (rI0 fun i j => .bl (q i j)) ta tb tc) Ow.v (chainM p q ma mb mc) := fun HF0 G HF H σ g c hcc Q k => by
  obtain ⟨x, e1, hcc⟩ := bind_ok hcc
  obtain ⟨y, e2, hcc⟩ := bind_ok hcc
  refine ha HF0 G HF H σ g x e1 _ fun v HF1 H1 fp s1 r1 _ _ => ?_
  refine hb HF0 G HF1 H1 σ (g.step s1) y e2 _ fun w HF2 H2 fp2 s2 r2 _ _ => ?_
  have s12 := s1.trans s2
  refine ⟨x, y, r1.1, r2.1, p x y, rfl, ?_⟩
  by_cases h : p x y = true
  · rw [if_pos h] at hcc ⊢
    obtain ⟨z, e3, hcc⟩ := bind_ok hcc
    cases pure_ok hcc
    refine hc HF0 G HF2 H2 σ (g.step s12) z e3 _ fun u HF3 H3 fp3 s3 r3 _ _ => ?_
    exact ⟨y, z, r2.1, r3.1, (k.back (s12.trans s3)).flat s3.sub⟩
  · rw [if_neg h] at hcc ⊢
    cases pure_ok hcc
    exact (k.back s12).flat s2.sub
theorem et_chain {op op' : CmpOp} {p q : Int → Int → Bool} {ma mb mc : M Int} (ho : OpR X (compareOp op) (rI0 fun i j => .bl (p i j))) (ho' : OpR X (compareOp op') (rI0 fun i j => .bl (q i j))) (ha : EX X Γ a Ow.v ma ta) (hb : EX X Γ b Ow.v mb tb) (hc : EX X Γ c Ow.v mc tc) (hm : lastMarks [op, op'] [b, c] = false := by with_unfolding_all rfl) : ET X Γ (.Compare a [op, op'] [b, c] pos) (chainM p q ma mb mc) (tTest (tChain (rI0 fun i j => .bl (p i j)) (rI0 fun i j => .bl (q i j)) ta tb tc)) :=
  ⟨pt_chain ho ho' ha.pe hb.pe hc.pe hm, fun HF0 G HF H σ g c hc' Q k => semChain ha.sem hb.sem hc.sem HF0 G HF H σ g c hc' _ fun v HF' H' fp s r _ _ => ⟨c, r.1, k HF' H' s⟩⟩

/-! ### sum, any, all, int -/
theorem ex_any {K : PySem.W.Frag} {m : M (List Bool)} (hc : X.calm = true) (hm : X.mg "any" = none) (h : EX X Γ e Ow.v m te) (hg : Gl X "any" := by rfl) (h1 : starEach [e] X.env = (false, eval e X.env) :: starEach [] X.env := by rfl) (hK : X.K = K := by rfl) : EX X Γ (.Call (.Name "any" p) [e] [] pos) Ow.v (do let a ← m; pure (a.any id)) (tCB (rAny K) (tCons te tNil)) := by
  subst hK
  exact ex_b1 (cr_any hc) (show SemC1 X.K (rAny X.K) Ow.v (fun (a : List Bool) => pure (a.any id)) from fun HF H v a c s ⟨q, us, e, h1, h2⟩ hc Q k => by
    cases pure_ok hc
    subst e
    have e2 := Fa.flat.mp h2
    subst e2
    exact ⟨q, a, rfl, SqL.of (s _ _ h1), k.flat s⟩) boot_any hm h hg (h1 := h1)
def rInt1 : List V → Hp → VK → Prop := fun xs H Q => (∃ i, xs = [.int i] ∧ Q (.int i) H) ∨ ∃ k, xs = [.bl k] ∧ Q (.int (if k then 1 else 0)) H
theorem ex_intB {m : M Bool} (hm : X.mg "int" = none) (h : EX X Γ e Ow.v m te) (hg : Gl X "int" := by rfl) (h1 : starEach [e] X.env = (false, eval e X.env) :: starEach [] X.env := by rfl) : EX X Γ (.Call (.Name "int" p) [e] [] pos) Ow.v (do let a ← m; pure (if a then (1 : Int) else 0)) (tCB rInt1 (tCons te tNil)) :=
  ex_t1 call_int1 (show SemC1 X.K rInt1 Ow.v (fun (a : Bool) => pure (if a then (1 : Int) else 0)) from fun HF H v a c s ra hc Q k => by
    cases pure_ok hc
    cases ra
    exact .inr ⟨a, rfl, k.flat s⟩) boot_int hm h hg (h1 := h1)
/-- a module's text -/
theorem ex_gstr {x z : Str} {pos : Pos} (hm : ∃ t, X.mg x = some (.str z t)) (hg : Gl X x := by rfl) (hd : (x == ("__debug__" : Str)) = false := by decide) : EX X Γ (.Name x pos) Ow.v (pure z) (tC (.str z)) := by
  obtain ⟨t, h⟩ := hm
  exact ⟨pe_glob hg h ⟨t, rfl⟩ hd, fun HF0 G HF H σ g c hc Q k => by cases pure_ok hc; exact k.flat g.sub⟩
theorem Has.at {P : Program} {w : World} {K : PySem.W.Frag} {mg : Str → Option Value} {base : Heap} {x : Str} {k : Nat} {ps : List Str} {sp : Sp} {f : Addr} (h : Has P w K mg base x k ps sp) (hm : mg x = some (.ref f)) : ∃ fd, FnOk P w K mg base CX0 k f fd ps sp := by
  obtain ⟨f', fd, F, m, _, _⟩ := h
  rw [hm] at m
  cases m
  exact ⟨fd, F⟩
end
/-! ### stores -/
def set2M {α : Type} (as : List (List α)) (k l : Int) (a : α) : M (List (List α)) := do
  let j ← ofO (ixN as.length k)
  let r ← ofO as[j]?
  let i ← ofO (ixN r.length l)
  pure (as.set j (r.set i a))
theorem Rl.get {α : Type} {R : V → α → List Addr → Prop} : ∀ {vs : List V} {as : List α} {fp : List Addr} {j : Nat} {a : α}, Rl R vs as fp → as[j]? = some a → ∃ v f, vs[j]? = some v ∧ R v a f ∧ (∀ p ∈ f, p ∈ fp) ∧
    ∀ {v' : V} {a' : α} {f' : List Addr}, R v' a' f' → (∀ p ∈ f', p ∈ f ∨ p ∉ fp) → f'.Nodup → fp.Nodup → ∃ fp', Rl R (vs.set j v') (as.set j a') fp' ∧ fp'.Nodup ∧ (∀ p ∈ fp', p ∈ fp ∨ p ∈ f') ∧ ∀ p ∈ fp, p ∈ fp' ∨ p ∈ f
  | [], [], _, j, a, _, e => by simp at e
  | v :: vs, b :: as, fp, 0, a, ⟨f1, f2, e1, h1, h2⟩, e => by
    have e' : b = a := Option.some.inj e
    subst e'
    refine ⟨v, f1, rfl, h1, fun p hp => by rw [e1]; exact List.mem_append_left _ hp, fun {v' a' f'} r hf nd nf => ?_⟩
    rw [e1] at nf
    obtain ⟨n1, n2, n3⟩ := List.nodup_append.mp nf
    refine ⟨f' ++ f2, ⟨f', f2, rfl, r, h2⟩, List.nodup_append.mpr ⟨nd, n2, fun p hp q hq e => ?_⟩, fun p hp => ?_, fun p hp => ?_⟩
    · subst e
      rcases hf p hp with z | z
      · exact n3 p z p hq rfl
      · exact z (by rw [e1]; exact List.mem_append_right _ hq)
    · rcases List.mem_append.mp hp with z | z
      · exact .inr z
      · exact .inl (by rw [e1]; exact List.mem_append_right _ z)
    · rw [e1] at hp
      rcases List.mem_append.mp hp with z | z
      · exact .inr z
      · exact .inl (List.mem_append_right _ z)
  | v :: vs, b :: as, fp, j + 1, a, ⟨f1, f2, e1, h1, h2⟩, e => by
    obtain ⟨w, f, q1, q2, q3, q4⟩ := Rl.get (j := j) h2 e
    refine ⟨w, f, q1, q2, fun p hp => by rw [e1]; exact List.mem_append_right _ (q3 p hp), fun {v' a' f'} r hf nd nf => ?_⟩
    have nf' := nf
    rw [e1] at nf'
    obtain ⟨n1, n2, n3⟩ := List.nodup_append.mp nf'
    obtain ⟨fp', w1, w2, w3, w4⟩ := q4 r (fun p hp => (hf p hp).imp id fun z y => z (by rw [e1]; exact List.mem_append_right _ y)) nd n2
    refine ⟨f1 ++ fp', ⟨f1, fp', rfl, h1, w1⟩, List.nodup_append.mpr ⟨n1, w2, fun p hp q hq e => ?_⟩, fun p hp => ?_, fun p hp => ?_⟩
    · subst e
      rcases w3 p hq with z | z
      · exact n3 p hp p z rfl
      · rcases hf p z with y | y
        · exact n3 p hp p (q3 p y) rfl
        · exact y (by rw [e1]; exact List.mem_append_left _ hp)
    · rcases List.mem_append.mp hp with z | z
      · exact .inl (by rw [e1]; exact List.mem_append_left _ z)
      · exact (w3 p z).imp (fun y => by rw [e1]; exact List.mem_append_right _ y) id
    · rw [e1] at hp
      rcases List.mem_append.mp hp with z | z
      · exact .inl (List.mem_append_left _ z)
      · exact (w4 p z).imp (fun y => List.mem_append_right _ y) id
  | [], _ :: _, _, _, _, x, _ => x.elim
  | _ :: _, [], _, _, _, x, _ => x.elim
end Ty

namespace Ty
open PySem
/-! ### plain lemmas about the mirror's words -/
/-- a proof that the simplifier does not take for a definition's own -/
theorem nd {p : Prop} (h : p) : p := h
@[simp] theorem okB {α β : Type} (a : α) (k : α → M β) : ((Except.ok a : M α) >>= k) = k a := nd rfl
@[simp] theorem pureB {α β : Type} (a : α) (k : α → M β) : ((pure a : M α) >>= k) = k a := nd rfl
theorem bindA {α β γ : Type} (m : M α) (f : α → M β) (g : β → M γ) : ((m >>= f) >>= g) = m >>= fun a => f a >>= g := by cases m <;> rfl
@[simp] theorem gdT : gd true = .ok () := nd rfl
@[simp] theorem ofOs {α : Type} (a : α) : ofO (some a) = .ok a := nd rfl
@[simp] theorem runRt {ρ : Type} (r : ρ) : runC (.ok (.rt r) : M (Ctl Unit Empty ρ)) = .ok r := nd rfl
@[simp] theorem runRt' {ρ : Type} (r : ρ) : runC (pure (.rt r) : M (Ctl Unit Empty ρ)) = .ok r := nd rfl
@[simp] theorem thenLi {S' S L ρ : Type} (s : S') (k : S' → M (Ctl S L ρ)) : thenL (.inl s : S' ⊕ ρ) k = k s := nd rfl
@[simp] theorem thenLr {S' S L ρ : Type} (r : ρ) (k : S' → M (Ctl S L ρ)) : thenL (.inr r : S' ⊕ ρ) k = .ok (.rt r) := nd rfl
@[simp] theorem thenCn {S' S L ρ : Type} (s : S') (k : S' → M (Ctl S L ρ)) : thenC (.nx s : Ctl S' L ρ) k = k s := nd rfl
@[simp] theorem thenCr {S' S L ρ : Type} (r : ρ) (k : S' → M (Ctl S L ρ)) : thenC (.rt r : Ctl S' L ρ) k = .ok (.rt r) := nd rfl
@[simp] theorem thenCb {S' S L ρ : Type} (r : L) (k : S' → M (Ctl S L ρ)) : thenC (.bk r : Ctl S' L ρ) k = .ok (.bk r) := nd rfl
@[simp] theorem thenCc {S' S L ρ : Type} (r : L) (k : S' → M (Ctl S L ρ)) : thenC (.ct r : Ctl S' L ρ) k = .ok (.ct r) := nd rfl
/-- a loop, by what holds behind each turn -/
theorem loop_ind {α S ρ : Type} {f : α → S → M (Ctl S S ρ)} (P : List α → S → Prop) {xs : List α} {s : S} (h0 : P [] s) (h : ∀ pre x post s, xs = pre ++ x :: post → P pre s → ∃ s', f x s = .ok (.nx s') ∧ P (pre ++ [x]) s') : ∃ s', loopM f xs s = .ok (.inl s') ∧ P xs s' := by
  have q : ∀ (post pre : List α) (s : S), xs = pre ++ post → P pre s → ∃ s', loopM f post s = .ok (.inl s') ∧ P xs s' := by
    intro post
    induction post with
    | nil =>
      intro pre s e p
      rw [List.append_nil] at e
      subst e
      exact ⟨s, rfl, p⟩
    | cons x post ih =>
      intro pre s e p
      obtain ⟨s1, e1, p1⟩ := h pre x post s e p
      obtain ⟨s2, e2, p2⟩ := ih (pre ++ [x]) s1 (by rw [e]; simp) p1
      refine ⟨s2, ?_, p2⟩
      show (f x s >>= _) = _
      rw [e1]
      exact e2
  exact q xs [] s rfl h0
theorem comp_fm {α β : Type} {t : α → M Bool} {f : α → M β} (p : α → Bool) (g : α → β) : ∀ {xs : List α}, (∀ x ∈ xs, t x = .ok (p x)) → (∀ x ∈ xs, p x = true → f x = .ok (g x)) → compL t f xs = .ok ((xs.filter p).map g)
  | [], _, _ => rfl
  | x :: xs, ht, h => by
    have ih := comp_fm p g (xs := xs) (fun y hy => ht y (List.mem_cons_of_mem _ hy)) fun y hy => h y (List.mem_cons_of_mem _ hy)
    show (t x >>= _) = _
    rw [ht x (List.mem_cons_self ..)]
    cases q : p x with
    | false =>
      rw [List.filter_cons_of_neg (by rw [q]; decide)]
      exact ih
    | true =>
      rw [List.filter_cons_of_pos q]
      show (f x >>= _) = _
      rw [h x (List.mem_cons_self ..) q]
      show (compL t f xs >>= _) = _
      rw [ih]
      rfl
theorem compM_fm {α β : Type} {t : α → M Bool} {f : α → M β} (p : α → Bool) (g : α → β) {xs : List α} (hl : xs.length ≤ 16777216) (ht : ∀ x ∈ xs, t x = .ok (p x)) (h : ∀ x ∈ xs, p x = true → f x = .ok (g x)) : compM xs t f = .ok ((xs.filter p).map g) := by
  unfold compM
  rw [sizeLine_eq, decide_eq_true hl]
  exact comp_fm p g ht h
/-- bounds -/
theorem atI_ok {α : Type} {xs : List α} {i : Int} (h0 : 0 ≤ i) (h1 : i < xs.length) : L2.atI xs i = xs[i.toNat]? := by
  unfold L2.atI L2.ixN
  rw [if_pos h0, if_pos h1]
  rfl
theorem atM_ok {α : Type} [Inhabited α] {xs : List α} {i : Int} (h0 : 0 ≤ i) (h1 : i < xs.length) : atM xs i = .ok (xs.getD i.toNat default) := by
  unfold atM
  rw [atI_ok h0 h1, List.getElem?_eq_getElem (by omega), List.getD_eq_getElem?_getD, List.getElem?_eq_getElem (by omega)]
  rfl
theorem modM_ok {a b : Int} (h : 0 < b) : modM a b = .ok (a % b) := by simp [modM, posB, h]; rfl
theorem powM_ok {a b : Int} (h : powB a b = true) : powM a b = .ok (a ^ b.toNat) := by simp [powM, h]; rfl
theorem range1_ok {n : Int} (h0 : 0 ≤ n) (h1 : n < 4611686018427387904) : range1 n = .ok (rangeL 0 n) := by
  have e : rgB n = true := by
    unfold rgB
    rw [Bool.and_eq_true, decide_eq_true_eq, decide_eq_true_eq]
    omega
  unfold range1
  rw [e]; rfl
theorem mem_range1 {n x : Int} (h : x ∈ rangeL 0 n) : 0 ≤ x ∧ x < n := by
  unfold rangeL at h
  simp only [List.mem_map, List.mem_range] at h
  obtain ⟨k, hk, e⟩ := h
  omega
theorem lstM_ok {α : Type} {as : List α} (h : as.length ≤ 1000) : lstM as = .ok as := by
  unfold lstM szB
  rw [sizeLine_eq, decide_eq_true (by omega)]
  rfl
theorem appM_ok {α : Type} {as : List α} {a : α} (h : as.length ≤ 1000000) : appM as a = .ok (as ++ [a]) := by
  unfold appM
  rw [sizeLine_eq, decide_eq_true (by omega)]
  rfl
theorem catM_ok {α : Type} {as bs : List α} (h : as.length + bs.length ≤ 1000000) : catM as bs = .ok (as ++ bs) := by
  unfold catM szB
  rw [sizeLine_eq, decide_eq_true (by omega)]
  rfl

/-! ### what a mirror yields -/
def Ev {α : Type} (m : M α) (Q : α → Prop) : Prop := ∃ a, m = .ok a ∧ Q a
theorem Ev.ok {α : Type} {a : α} {Q : α → Prop} (h : Q a) : Ev (.ok a) Q := ⟨a, rfl, h⟩
theorem Ev.pure {α : Type} {a : α} {Q : α → Prop} (h : Q a) : Ev (Pure.pure a) Q := ⟨a, rfl, h⟩
theorem Ev.of {α : Type} {m : M α} {a : α} {Q : α → Prop} (e : m = .ok a) (h : Q a) : Ev m Q := ⟨a, e, h⟩
theorem Ev.eq {α : Type} {m : M α} {a : α} (h : Ev m (· = a)) : m = .ok a := by
  obtain ⟨b, e, h⟩ := h
  rw [e, h]
theorem Ev.mono {α : Type} {m : M α} {P Q : α → Prop} (h : Ev m P) (k : ∀ a, P a → Q a) : Ev m Q := by
  obtain ⟨a, e, h⟩ := h
  exact ⟨a, e, k a h⟩
theorem Ev.bind {α β : Type} {m : M α} {k : α → M β} {P : α → Prop} {Q : β → Prop} (h : Ev m P) (hk : ∀ a, P a → Ev (k a) Q) : Ev (m >>= k) Q := by
  obtain ⟨a, e, h⟩ := h
  rw [e]
  exact hk a h
theorem Ev.run {ρ : Type} {m : M (Ctl Unit Empty ρ)} {Q : ρ → Prop} (h : Ev m fun c => ∃ r, c = .rt r ∧ Q r) : Ev (runC m) Q := by
  obtain ⟨c, e, r, e2, h⟩ := h
  subst e e2
  exact ⟨r, rfl, h⟩
theorem Ev.loop {α S ρ : Type} {f : α → S → M (Ctl S S ρ)} {xs : List α} {s : S} (P : List α → S → Prop) (h0 : P [] s) (h : ∀ pre x post s, xs = pre ++ x :: post → P pre s → Ev (f x s) fun c => ∃ s', c = .nx s' ∧ P (pre ++ [x]) s') : Ev (loopM f xs s) fun c => ∃ s', c = .inl s' ∧ P xs s' := by
  obtain ⟨s', e, p⟩ := loop_ind P h0 fun pre x post s e p => by
    obtain ⟨c, e1, s', e2, q⟩ := h pre x post s e p
    subst e2
    exact ⟨s', e1, q⟩
  exact ⟨_, e, s', rfl, p⟩
/-- a loop, then the rest -/
theorem Ev.loopL {α S S' L ρ : Type} {f : α → S → M (Ctl S S ρ)} {xs : List α} {s : S} {k : S → M (Ctl S' L ρ)} {Q : Ctl S' L ρ → Prop} (P : List α → S → Prop) (h0 : P [] s) (h : ∀ pre x post s, xs = pre ++ x :: post → P pre s → Ev (f x s) fun c => ∃ s', c = .nx s' ∧ P (pre ++ [x]) s') (hk : ∀ s', P xs s' → Ev (k s') Q) : Ev (loopM f xs s >>= fun c => thenL c k) Q :=
  Ev.bind (Ev.loop P h0 h) fun c ⟨s', e, p⟩ => by subst e; exact hk s' p
/-- a loop that may return: P ahead of each turn; a return is as wanted -/
theorem Ev.loopR {α S S' L ρ : Type} {f : α → S → M (Ctl S S ρ)} {xs : List α} {s : S} {k : S → M (Ctl S' L ρ)} {Q : Ctl S' L ρ → Prop} (P : List α → S → Prop) (h0 : P [] s)
    (h : ∀ pre x post s, xs = pre ++ x :: post → P pre s → Ev (f x s) fun c => (∃ s', (c = .nx s' ∨ c = .ct s') ∧ P (pre ++ [x]) s') ∨ (∃ r, c = .rt r ∧ Q (.rt r)) ∨ (∃ s', c = .bk s' ∧ Ev (k s') Q)) (hk : ∀ s', P xs s' → Ev (k s') Q) : Ev (loopM f xs s >>= fun c => thenL c k) Q := by
  have q : ∀ (post pre : List α) (s : S), xs = pre ++ post → P pre s → Ev (loopM f post s >>= fun c => thenL c k) Q := by
    intro post
    induction post with
    | nil =>
      intro pre s e p
      rw [List.append_nil] at e
      subst e
      exact hk s p
    | cons x post ih =>
      intro pre s e p
      obtain ⟨c, e1, h1⟩ := h pre x post s e p
      have e2 : loopM f (x :: post) s = (f x s >>= fun c => match c with
        | .nx s' => loopM f post s'
        | .ct s' => loopM f post s'
        | .bk s' => (Except.ok (Sum.inl s') : M (S ⊕ ρ))
        | .rt r => (Except.ok (Sum.inr r) : M (S ⊕ ρ))) := rfl
      rw [e2, e1]
      rcases h1 with ⟨s', e3, p'⟩ | ⟨r, e3, p'⟩ | ⟨s', e3, p'⟩
      · rcases e3 with e3 | e3 <;> subst e3 <;> exact ih (pre ++ [x]) s' (by rw [e]; simp) p'
      · subst e3; exact ⟨_, rfl, p'⟩
      · subst e3; exact p'
  exact q xs [] s rfl h0
theorem Ev.ite {α : Type} {c : Prop} [Decidable c] {a b : M α} {Q : α → Prop} (h1 : c → Ev a Q) (h2 : ¬ c → Ev b Q) : Ev (if c then a else b) Q := by
  by_cases h : c
  · rw [if_pos h]; exact h1 h
  · rw [if_neg h]; exact h2 h
theorem Ev.bif {α : Type} {c : Bool} {a b : M α} {Q : α → Prop} (h1 : c = true → Ev a Q) (h2 : c = false → Ev b Q) : Ev (if c then a else b) Q := Ev.ite h1 fun h => h2 (by simpa using h)
theorem pre_lt {α : Type} {xs pre post : List α} {x : α} (e : xs = pre ++ x :: post) : pre.length < xs.length := by
  have := congrArg List.length e
  simp at this; omega
theorem pre_mem {α : Type} {xs pre post : List α} {x : α} (e : xs = pre ++ x :: post) : x ∈ xs := by rw [e]; simp
/-- data without texts can always be compared -/
class EqvT (α : Type) [Rp α] [DecidableEq α] [Eqv α] : Prop where
  all : ∀ a : α, Eqv.ok a = true
instance : EqvT Int := ⟨fun _ => rfl⟩
instance : EqvT Bool := ⟨fun _ => rfl⟩
instance {α : Type} [Rp α] [DecidableEq α] [Eqv α] [EqvT α] : EqvT (List α) := ⟨fun as => List.all_eq_true.mpr fun a _ => EqvT.all a⟩
instance {α : Type} [Rp α] [DecidableEq α] [Eqv α] [EqvT α] : EqvT (Tu α) := ⟨fun as => List.all_eq_true.mpr fun a _ => EqvT.all a⟩
instance {α β : Type} [Rp α] [Rp β] [DecidableEq α] [DecidableEq β] [Eqv α] [Eqv β] [EqvT α] [EqvT β] : EqvT (α × β) := ⟨fun a => by
  show (Eqv.ok a.1 && Eqv.ok a.2) = true
  rw [EqvT.all, EqvT.all]; rfl⟩
theorem neM_ok {α : Type} [Rp α] [DecidableEq α] [Eqv α] [EqvT α] (a b : α) : neM a b = .ok (!decide (a = b)) := by
  unfold neM
  rw [EqvT.all, EqvT.all]; rfl
end Ty

namespace Ty
open PySem PySem.Spec PyProof.Rows L2
section
variable {X : Cx} {Γ : Ctx} {S L ρ α β γ A B S' : Type} [Rp ρ] {o : Ow ρ} {Γo : S → Ctx} {ΓL : L → Ctx} {a b e : Expr} {es : List Expr} {pos p p1 p2 apos cpos : Pos} {ta tb tc te : TE} {t : TA} {sts : List Stmt} {tr tr' : TS}
theorem Rl.mut {α : Type} {R : V → α → List Addr → Prop} : ∀ {vs : List V} {as : List α} {fp : List Addr} {j : Nat} {a : α}, Rl R vs as fp → fp.Nodup → as[j]? = some a → ∃ v f, vs[j]? = some v ∧ R v a f ∧ f.Nodup ∧ (∀ p ∈ f, p ∈ fp) ∧
    ∀ {a' : α} {f' : List Addr} {R' : V → α → List Addr → Prop}, (∀ v a f0, (∀ p ∈ f0, p ∈ fp ∧ p ∉ f) → R v a f0 → R' v a f0) → R' v a' f' → f'.Nodup → (∀ p ∈ f', p ∈ f ∨ p ∉ fp) → ∃ fp', Rl R' vs (as.set j a') fp' ∧ fp'.Nodup ∧ ∀ p ∈ fp', p ∈ fp ∨ p ∈ f'
  | [], [], _, j, a, _, _, e => by simp at e
  | v :: vs, b :: as, fp, 0, a, ⟨f1, f2, e1, h1, h2⟩, nd, e => by
    have e' : b = a := Option.some.inj e
    subst e'
    rw [e1] at nd
    obtain ⟨n1, n2, n3⟩ := List.nodup_append.mp nd
    refine ⟨v, f1, rfl, h1, n1, fun p hp => by rw [e1]; exact List.mem_append_left _ hp, fun {a' f' R'} k r nf hf => ?_⟩
    refine ⟨f' ++ f2, ⟨f', f2, rfl, r, Rl.mono (fun v a f0 h0 r0 => k v a f0 (fun p hp => ⟨by rw [e1]; exact List.mem_append_right _ (h0 p hp), fun z => n3 p z p (h0 p hp) rfl⟩) r0) h2⟩, List.nodup_append.mpr ⟨nf, n2, fun p hp q hq e => ?_⟩, fun p hp => ?_⟩
    · subst e
      rcases hf p hp with z | z
      · exact n3 p z p hq rfl
      · exact z (by rw [e1]; exact List.mem_append_right _ hq)
    · rcases List.mem_append.mp hp with z | z
      · exact .inr z
      · exact .inl (by rw [e1]; exact List.mem_append_right _ z)
  | v :: vs, b :: as, fp, j + 1, a, ⟨f1, f2, e1, h1, h2⟩, nd, e => by
    have nd' := nd
    rw [e1] at nd'
    obtain ⟨n1, n2, n3⟩ := List.nodup_append.mp nd'
    obtain ⟨w, f, q1, q2, q3, q4, q5⟩ := Rl.mut (j := j) h2 n2 e
    refine ⟨w, f, q1, q2, q3, fun p hp => by rw [e1]; exact List.mem_append_right _ (q4 p hp), fun {a' f' R'} k r nf hf => ?_⟩
    obtain ⟨fp', w1, w2, w3⟩ := q5 (R' := R') (fun v a f0 h0 r0 => k v a f0 (fun p hp => ⟨by rw [e1]; exact List.mem_append_right _ (h0 p hp).1, (h0 p hp).2⟩) r0) r nf fun p hp => (hf p hp).imp id fun z y => z (by rw [e1]; exact List.mem_append_right _ y)
    refine ⟨f1 ++ fp', ⟨f1, fp', rfl, k v b f1 (fun p hp => ⟨by rw [e1]; exact List.mem_append_left _ hp, fun z => n3 p hp p (q4 p z) rfl⟩) h1, w1⟩, List.nodup_append.mpr ⟨n1, w2, fun p hp q hq e => ?_⟩, fun p hp => ?_⟩
    · subst e
      rcases w3 p hq with z | z
      · exact n3 p hp p z rfl
      · rcases hf p z with y | y
        · exact n3 p hp p (q4 p y) rfl
        · exact y (by rw [e1]; exact List.mem_append_left _ hp)
    · rcases List.mem_append.mp hp with z | z
      · exact .inl (by rw [e1]; exact List.mem_append_left _ z)
      · exact (w3 p z).imp (fun y => by rw [e1]; exact List.mem_append_right _ y) id
  | [], _ :: _, _, _, _, x, _, _ => x.elim
  | _ :: _, [], _, _, _, x, _, _ => x.elim
/-- the j-th of an own list of own lists, changed in place -/
theorem Good.take2 {K : PySem.W.Frag} {HF0 G HF H HF1 H1 : Hp} {σ : L2.St} {i j : Nat} [Rp α] {u : Ow α} {as : List (List α)} {r : List α} (g : Good K HF0 G Γ HF H σ) (hl : look Γ i = .mk (Ow.l (Ow.l u)) as) (st : Step HF H HF1 H1) (hj : as[j]? = some r) :
    ∃ p vs q ws fq, σ[i]? = some (some (.ref p)) ∧ H p = some (.lst vs) ∧ vs.length = as.length ∧ vs[j]? = some (.ref q) ∧ H1 q = some (.lst ws) ∧ Rl (u.rep K HF1 H1) ws r fq ∧ fq.Nodup ∧ q ∉ fq ∧ H1 p = some (.lst vs) ∧ (∀ p' ∈ fq, ∃ w, H p' = some w) ∧ (∃ w, H q = some w) ∧ p ≠ q ∧
      ∀ {HF2 H2 : Hp} {ws' : List V} {r' : List α} {fq' : List Addr}, Step HF1 H1 HF2 H2 → Rl (u.rep K HF2 (upd H2 q (.lst ws'))) ws' r' fq' → fq'.Nodup → q ∉ fq' → (∀ p' ∈ fq', p' ∈ fq ∨ (H p' = none ∧ HF2 p' = none)) →
        Good K HF0 G (put Γ i (.mk (Ow.l (Ow.l u)) (as.set j r'))) HF2 (upd H2 q (.lst ws')) σ := by
  obtain ⟨v, fo, hσ, ⟨p, vs, fp, h1, h2, h3, h4⟩, nd, hfo, back⟩ := g.take hl
  subst h1 h2
  have hp := (List.nodup_cons.mp nd).1
  have nfp := (List.nodup_cons.mp nd).2
  have dmf := Rl.dom (fun v a f r => (Ow.l u).dom r) h4
  obtain ⟨v, f, e1, ⟨q, ws, fq, e2, e3, h5, h6⟩, nf, hf, mk⟩ := Rl.mut (Rl.step h4 st) nfp hj
  subst e2 e3
  have hq : q ∉ fq := (List.nodup_cons.mp nf).1
  have hqp : q ∈ fp := hf q (List.mem_cons_self ..)
  have hpq : p ≠ q := fun z => hp (by rw [z]; exact hqp)
  refine ⟨p, vs, q, ws, fq, hσ, h3, h4.len, e1, h5, h6, (List.nodup_cons.mp nf).2, hq, st.exH _ _ h3, fun p' hp' => dmf p' (hf p' (List.mem_cons_of_mem _ hp')), dmf q hqp, hpq, ?_⟩
  intro HF2 H2 ws' r' fq' st2 hr nq hnq hsub
  have st12 := st.trans st2
  obtain ⟨fp', w1, w2, w3⟩ := mk (a' := r') (f' := q :: fq') (R' := (Ow.l u).rep K HF2 (upd H2 q (.lst ws'))) (fun v a f0 h0 r0 => (Ow.l u).mono st2.exF (fun p' hp' o e => by
      rw [upd_ne (fun z => (h0 p' hp').2 (by rw [z]; exact List.mem_cons_self ..))]
      exact st2.exH _ _ e) r0) ⟨q, ws', fq', rfl, rfl, upd_same, hr⟩ (List.nodup_cons.mpr ⟨hnq, nq⟩) (fun p' hp' => by
      rcases List.mem_cons.mp hp' with z | z
      · exact .inl (by rw [z]; exact List.mem_cons_self ..)
      · rcases hsub p' z with y | y
        · exact .inl (List.mem_cons_of_mem _ y)
        · exact .inr fun y' => by
            obtain ⟨w, hw⟩ := dmf p' y'
            rw [y.1] at hw; cases hw)
  have hp' : p ∉ fp' := fun z => by
    rcases w3 p z with y | y
    · exact hp y
    · rcases List.mem_cons.mp y with y | y
      · exact hpq y
      · rcases hsub p y with x | x
        · exact hp (hf p (List.mem_cons_of_mem _ x))
        · rw [h3] at x; cases x.1
  have gg := back (u' := Ow.l (Ow.l u)) (b := as.set j r') (v' := .ref p) (f' := p :: fp') (H' := upd H2 q (.lst ws')) st12 (fun p' w hn e => by rw [upd_ne (fun z => hn (by rw [z]; exact List.mem_cons_of_mem _ hqp))]; exact e)
    ⟨p, vs, fp', rfl, rfl, by rw [upd_ne hpq]; exact st12.exH _ _ h3, w1⟩ (List.nodup_cons.mpr ⟨hp', w2⟩) (fun p' hp' => by
      rcases List.mem_cons.mp hp' with z | z
      · exact .inl (by rw [z]; exact List.mem_cons_self ..)
      · rcases w3 p' z with y | y
        · exact .inl (List.mem_cons_of_mem _ y)
        · rcases List.mem_cons.mp y with y | y
          · exact .inl (by rw [y]; exact List.mem_cons_of_mem _ hqp)
          · rcases hsub p' y with x | x
            · exact .inl (List.mem_cons_of_mem _ (hf p' (List.mem_cons_of_mem _ x)))
            · exact .inr x)
  rw [set_self hσ] at gg
  exact gg
/-- x[i][j] = e -/
theorem ss_set2 {K : PySem.W.Frag} [Fl α] (i : Nat) {as : List (List α)} {x : Str} {m : M α} {ma mb : M Int} {k : List (List α) → M (Ctl S L ρ)} (he : EX X Γ e Ow.v m te) (ha : EX X Γ a Ow.v ma ta) (hb : EX X Γ b Ow.v mb tb) (hr : ∀ l, SS X (put Γ i (.mk (Ow.l (Ow.l (Ow.v : Ow α))) l)) sts Γo ΓL o (k l) tr) (hl : look Γ i = .mk (Ow.l (Ow.l (Ow.v : Ow α))) as := by rfl) (hN : X.N[i]? = some x := by rfl) (hv : Vis X.env.scope x := by first | exact Or.inl rfl | exact Or.inr (Or.inl rfl) | exact Or.inr (Or.inr rfl)) (hd : (x == ("__debug__" : Str)) = false := by decide)
    (hcd : (x == ("__classdict__" : Str)) = false := by decide) (hK : X.K = K := by rfl)
    (hps : PE X e te → PG X (.Subscript (.Subscript (.Name x p) a p2) b p1) (gSub (tOp (rIxL K) (tVar i) ta) tb rSetL) → PS X (.Assign [.Subscript (.Subscript (.Name x p) a p2) b p1] e pos) (tAsg te (gSub (tOp (rIxL K) (tVar i) ta) tb rSetL)) := by exact fun h h' => ps_asg h h')
    (hpg : PE X (.Name x p) (tVar i) → PE X a ta → PE X b tb → PG X (.Subscript (.Subscript (.Name x p) a p2) b p1) (gSub (tOp (rIxL K) (tVar i) ta) tb rSetL) := by exact fun h h' h'' => pg_sub (pe_ix ix_list h h' (fun _ _ => rfl)) h'' set_list) :
    SS X Γ (.Assign [.Subscript (.Subscript (.Name x p) a p2) b p1] e pos :: sts) Γo ΓL o (do let a ← m; let b ← ma; let c ← mb; let l ← set2M as b c a; k l) (tSeq (tAsg te (gSub (tOp (rIxL K) (tVar i) ta) tb rSetL)) tr) := by
  subst hK
  exact ⟨pss_cons (hps he.pe (hpg (pe_var hN hv hd hcd) ha.pe hb.pe)) (hr []).pss, fun HF0 G HF H σ g c hc D kk => by
    obtain ⟨y, e1, hc⟩ := bind_ok hc
    obtain ⟨ix, e2, hc⟩ := bind_ok hc
    obtain ⟨iy, e3, hc⟩ := bind_ok hc
    obtain ⟨l, e4, hc⟩ := bind_ok hc
    obtain ⟨j, e5, e4⟩ := bind_ok e4
    obtain ⟨r, e6, e4⟩ := bind_ok e4
    obtain ⟨n, e7, e4⟩ := bind_ok e4
    have e8 := pure_ok e4
    subst e8
    have e5 := ofO_ok e5
    have e6 := ofO_ok e6
    have e7 := ofO_ok e7
    refine he.sem HF0 G HF H σ g y e1 _ fun v' HF1 H1 fp st1 r1 _ _ => ?_
    obtain ⟨p, vs, q, ws, fq, hσ, h3, hlen, hvq, _, _, _, _, _, _, _, _, _⟩ := g.take2 (u := Ow.v) hl (Step.refl g.sub) e6
    refine ⟨.ref p, hσ, ?_⟩
    refine ha.sem HF0 G HF1 H1 σ (g.step st1) ix e2 _ fun w2 HF2 H2 fp2 st2 r2 _ _ => ?_
    have st12 := st1.trans st2
    refine ⟨p, vs, ix, .ref q, rfl, r2.1, SqL.of (st12.exH _ _ h3), ?_, ?_⟩
    · unfold atI
      rw [hlen, e5]
      exact hvq
    refine hb.sem HF0 G HF2 H2 σ (g.step st12) iy e3 _ fun w3 HF3 H3 fp3 st3 r3 _ _ => ?_
    have st123 := st12.trans st3
    obtain ⟨p', vs', q', ws', fq', hσ', h3', _, hvq', hq1, hr1, nq, hnq, _, _, _, _, back⟩ := g.take2 (u := Ow.v) hl st123 e6
    rw [hσ] at hσ'
    cases hσ'
    rw [h3] at h3'
    cases h3'
    rw [hvq] at hvq'
    cases hvq'
    obtain ⟨hfa, hnil⟩ := Rl.toFa hr1
    refine ⟨q, ws', iy, n, rfl, r3.1, hq1, by rw [hr1.len]; exact e7, ?_⟩
    have gg := back (HF2 := HF3) (H2 := H3) (ws' := ws'.set n v') (r' := r.set n y) (fq' := []) (Step.refl st123.sub) (Rl.ofFa (Fa.set (Rp.mono (st2.exF.trans st3.exF) r1.1) n hfa)) List.nodup_nil (by simp) (by simp)
    exact (hr (as.set j (r.set n y))).sem HF0 G HF3 _ σ gg c hc D (kk.mono st123.exF)⟩
/-- a, b = e -/
theorem ss_asgT [Rp α] [Inhabited α] {tg : Expr} {g : TG} {Γt : α → Ctx} {js : List Nat} {m : M α} {k : α → M (Ctl S L ρ)} (he : EX X Γ e Ow.v m te) (hg : ∀ x, EG X Γ tg g x (Γt x) js) (hr : ∀ x, SS X (Γt x) sts Γo ΓL o (k x) tr) (hs : swapsWithSole [tg] e pos.line X.env = pure false := by rfl) (hw : swappedStores [tg] e X.env = pure none := by rfl)
    (h1 : (assignEach [tg] X.env).map (·.2) = [assign tg X.env] := by rfl) : SS X Γ (.Assign [tg] e pos :: sts) Γo ΓL o (do let a ← m; k a) (tSeq (tAsg te g) tr) :=
  ⟨pss_cons (ps_asg he.pe (hg default).pg hs hw h1) (hr default).pss, fun HF0 G HF H σ gd c hc D kk => by
    obtain ⟨y, e1, hc⟩ := bind_ok hc
    refine he.sem HF0 G HF H σ gd y e1 _ fun v HF1 H1 fp st r n f => ?_
    refine (hg y).sem HF0 G HF1 H1 σ v (gd.step st) r.1 _ fun σ' g' _ _ => ?_
    exact (hr y).sem HF0 G HF1 H1 σ' g' c hc D (kk.mono st.exF)⟩
end
end Ty

namespace Ty
open PySem
/-! ### rows, tables, ranges -/
def row {α : Type} (n : Nat) (g : Nat → α) : List α := (List.range n).map g
theorem row_len {α : Type} (n : Nat) (g : Nat → α) : (row n g).length = n := by simp [row]
theorem row_get {α : Type} {n : Nat} {g : Nat → α} {i : Nat} (h : i < n) : (row n g)[i]? = some (g i) := by
  simp [row, h]
theorem row_congr {α : Type} {n : Nat} {g g' : Nat → α} (h : ∀ i, i < n → g i = g' i) : row n g = row n g' := List.map_congr_left fun i hi => h i (List.mem_range.mp hi)
theorem row_ext {α : Type} {n : Nat} {g : Nat → α} {l : List α} (hl : l.length = n) (h : ∀ i, i < n → l[i]? = some (g i)) : l = row n g := by
  apply List.ext_getElem?
  intro i
  by_cases hi : i < n
  · rw [h i hi, row_get hi]
  · rw [List.getElem?_eq_none (by omega), List.getElem?_eq_none (by rw [row_len]; omega)]
theorem row_of {α : Type} [Inhabited α] (l : List α) : l = row l.length fun i => l.getD i default := row_ext rfl fun i hi => by rw [List.getElem?_eq_getElem hi, List.getD_eq_getElem?_getD, List.getElem?_eq_getElem hi]; rfl
theorem atM_row {α : Type} {n : Nat} {g : Nat → α} {i : Int} (h0 : 0 ≤ i) (h1 : i < n) : atM (row n g) i = .ok (g i.toNat) := by
  unfold atM
  rw [atI_ok h0 (by rw [row_len]; exact h1), row_get (by omega)]
  rfl
theorem atM_rowN {α : Type} {n : Nat} {g : Nat → α} {i : Nat} (h1 : i < n) : atM (row n g) (i : Int) = .ok (g i) := by
  rw [atM_row (by omega) (by omega)]; rfl
theorem row_set {α : Type} {n : Nat} {g : Nat → α} {i : Nat} {v : α} (h : i < n) : (row n g).set i v = row n (fun j => if j = i then v else g j) := by
  apply row_ext (by rw [List.length_set, row_len])
  intro j hj
  by_cases e : j = i
  · subst e
    rw [if_pos rfl, List.getElem?_set_self (by rw [row_len]; exact hj)]
  · rw [if_neg e, List.getElem?_set_ne (fun z => e z.symm), row_get hj]
def tab (n : Nat) (f : Nat → Nat → Int) : List (List Int) := row n fun i => row n (f i)
theorem tab_len (n : Nat) (f : Nat → Nat → Int) : (tab n f).length = n := row_len _ _
theorem tab_congr {n : Nat} {f g : Nat → Nat → Int} (h : ∀ i j, i < n → j < n → f i j = g i j) : tab n f = tab n g := row_congr fun i hi => row_congr fun j hj => h i j hi hj
theorem atM_tab {n : Nat} {f : Nat → Nat → Int} {i : Int} (h0 : 0 ≤ i) (h1 : i < n) : atM (tab n f) i = .ok (row n (f i.toNat)) := atM_row h0 h1
theorem atM_tabN {n : Nat} {f : Nat → Nat → Int} {i : Nat} (h1 : i < n) : atM (tab n f) (i : Int) = .ok (row n (f i)) := atM_rowN h1
theorem set2M_tab {n : Nat} {f : Nat → Nat → Int} {i j v : Int} (h0 : 0 ≤ i) (h1 : i < n) (h2 : 0 ≤ j) (h3 : j < n) : set2M (tab n f) i j v = .ok (tab n fun a b => if a = i.toNat ∧ b = j.toNat then v else f a b) := by
  unfold set2M
  rw [show L2.ixN (tab n f).length i = some i.toNat from by unfold L2.ixN; rw [if_pos h0, if_pos (by rw [tab_len]; exact h1)]]
  simp only [ofOs, okB]
  rw [show (tab n f)[i.toNat]? = some (row n (f i.toNat)) from row_get (by omega)]
  simp only [ofOs, okB]
  rw [show L2.ixN (row n (f i.toNat)).length j = some j.toNat from by unfold L2.ixN; rw [if_pos h2, if_pos (by rw [row_len]; exact h3)]]
  simp only [ofOs, okB]
  show (Except.ok _ : M _) = _
  unfold tab
  rw [row_set (by omega), row_set (by omega)]
  congr 1
  apply row_congr
  intro a ha
  by_cases e : a = i.toNat
  · subst e
    rw [if_pos rfl]
    apply row_congr
    intro b hb
    by_cases e2 : b = j.toNat <;> simp [e2]
  · rw [if_neg e]
    apply row_congr
    intro b hb
    simp [e]
theorem range_row (m : Int) : rangeL 0 m = row m.toNat (fun k => (k : Int)) := by
  unfold rangeL row
  rw [Int.sub_zero]
  exact List.map_congr_left fun k _ => by omega
theorem comp_rows {α β : Type} {n : Nat} {r : Nat → α} {f : α → M β} (g : Nat → β) (hn : n ≤ 1000000) (h : ∀ k, k < n → f (r k) = .ok (g k)) : compM (row n r) (fun _ => pure true) f = .ok (row n g) := by
  unfold compM
  rw [sizeLine_eq, decide_eq_true (by rw [row_len]; omega)]
  show compL _ _ _ = _
  unfold row
  have q : ∀ l : List Nat, (∀ k ∈ l, f (r k) = .ok (g k)) → compL (fun _ => pure true) f (l.map r) = .ok (l.map g) := by
    intro l
    induction l with
    | nil => intro _; rfl
    | cons k l ih =>
      intro hl
      show (f (r k) >>= _) = _
      rw [hl k (List.mem_cons_self ..)]
      show (compL _ f (l.map r) >>= _) = _
      rw [ih fun z hz => hl z (List.mem_cons_of_mem _ hz)]
      rfl
  exact q _ fun k hk => h k (List.mem_range.mp hk)
/-- a loop over range(m), by the number of turns -/
theorem Ev.loopN {S S' L ρ : Type} {f : Int → S → M (Ctl S S ρ)} {m : Int} {s : S} {k : S → M (Ctl S' L ρ)} {Q : Ctl S' L ρ → Prop} (P : Nat → S → Prop) (h0 : P 0 s) (h : ∀ (i : Nat) s, (i : Int) < m → P i s → Ev (f (i : Int) s) fun c => ∃ s', c = .nx s' ∧ P (i + 1) s') (hk : ∀ s', P m.toNat s' → Ev (k s') Q) : Ev (loopM f (rangeL 0 m) s >>= fun c => thenL c k) Q := by
  rw [range_row]
  refine Ev.loopL (fun pre s => P pre.length s) h0 ?_ fun s' p => hk s' (by rw [row_len] at p; exact p)
  intro pre x post s e p
  have hl := pre_lt e
  rw [row_len] at hl
  have hx : x = (pre.length : Int) := by
    have := congrArg (·[pre.length]?) e
    simp only [row_get hl] at this
    rw [List.getElem?_append_right (Nat.le_refl _), Nat.sub_self] at this
    exact (Option.some.inj this).symm
  subst hx
  refine (h pre.length s (by omega) p).mono ?_
  rintro c ⟨s', e, p'⟩
  exact ⟨s', e, by rw [List.length_append]; exact p'⟩
theorem ixN_ok {n : Nat} {k : Int} (h0 : 0 ≤ k) (h1 : k < n) : L2.ixN n k = some k.toNat := by unfold L2.ixN; rw [if_pos h0, if_pos h1]
end Ty

namespace Ty
open PySem PySem.Spec PyProof.Rows L2
/-! ### dicts with keys that are ints or texts -/
class Ky (κ : Type) extends Fl κ where
  key : κ → Key
  kv : ∀ k, kV (key k) = Fl.enc k
  inj : ∀ a b, key a = key b → a = b
instance : Ky Int := { toFl := inferInstanceAs (Fl Int), key := Sum.inl, kv := fun _ => rfl, inj := fun _ _ h => Sum.inl.inj h }
instance : Ky Str := { toFl := inferInstanceAs (Fl Str), key := Sum.inr, kv := fun _ => rfl, inj := fun _ _ h => Sum.inr.inj h }
structure Dc (κ β : Type) where
  l : List (κ × β)
instance {κ β : Type} : Inhabited (Dc κ β) := ⟨⟨[]⟩⟩
def Fk {κ β : Type} [Ky κ] (R : V → β → Prop) : List (Key × V) → List (κ × β) → Prop
  | [], [] => True
  | p :: ps, q :: qs => (p.1 = Ky.key q.1 ∧ R p.2 q.2) ∧ Fk R ps qs
  | _, _ => False
theorem Fk.mono {κ β : Type} [Ky κ] {R R' : V → β → Prop} (h : ∀ v b, R v b → R' v b) : ∀ {ps : List (Key × V)} {qs : List (κ × β)}, Fk R ps qs → Fk R' ps qs
  | [], [], _ => True.intro
  | _ :: _, _ :: _, ⟨⟨x, y⟩, z⟩ => ⟨⟨x, h _ _ y⟩, Fk.mono h z⟩
  | [], _ :: _, x => x.elim
  | _ :: _, [], x => x.elim
theorem Fk.len {κ β : Type} [Ky κ] {R : V → β → Prop} : ∀ {ps : List (Key × V)} {qs : List (κ × β)}, Fk R ps qs → ps.length = qs.length
  | [], [], _ => rfl
  | _ :: _, _ :: _, ⟨_, z⟩ => congrArg (· + 1) (Fk.len z)
  | [], _ :: _, x => x.elim
  | _ :: _, [], x => x.elim
instance rpDc {κ β : Type} [Ky κ] [Rp β] : Rp (Dc κ β) where
  sh K H v d := ∃ p kvs, v = .ref p ∧ H p = some (.dK kvs) ∧ Fk (Rp.sh K H) kvs d.l
  mono := fun e ⟨p, kvs, h1, h2, h3⟩ => ⟨p, kvs, h1, e _ _ h2, Fk.mono (fun _ _ h => Rp.mono e h) h3⟩
/-- an own dict, its values shared -/
def Ow.d {κ β : Type} [Ky κ] [Rp β] : Ow (Dc κ β) where
  rep K HF H v d fp := ∃ p kvs, v = .ref p ∧ fp = [p] ∧ H p = some (.dK kvs) ∧ Fk (Rp.sh K HF) kvs d.l
  mono := fun e k ⟨p, kvs, h1, h2, h3, h4⟩ => by
    subst h2
    exact ⟨p, kvs, h1, rfl, k p (List.mem_singleton.mpr rfl) _ h3, Fk.mono (fun _ _ h => Rp.mono e h) h4⟩
  dom := fun ⟨p, kvs, h1, h2, h3, h4⟩ q hq => by
    subst h2
    rw [List.mem_singleton.mp hq]
    exact ⟨_, h3⟩
  frz := fun e k ⟨p, kvs, h1, h2, h3, h4⟩ => by
    subst h2
    exact ⟨p, kvs, h1, k p (List.mem_singleton.mpr rfl) _ h3, Fk.mono (fun _ _ h => Rp.mono e h) h4⟩
instance indD {κ β : Type} [Ky κ] [Fl β] : Ind (Ow.d (κ := κ) (β := β)) where
  ind := fun ⟨p, kvs, h1, h2, h3, h4⟩ => ⟨p, kvs, h1, h2, h3, Fk.mono (fun _ _ h => Fl.sh_iff.mpr (Fl.sh_iff.mp h)) h4⟩
/-- the value of a key; a key's value put; a key dropped -/
def dget {κ β : Type} [DecidableEq κ] (l : List (κ × β)) (k : κ) : Option β := (l.find? fun p => decide (p.1 = k)).map (·.2)
def dput {κ β : Type} [DecidableEq κ] (l : List (κ × β)) (k : κ) (v : β) : List (κ × β) := if (l.any fun p => decide (p.1 = k)) = true then l.map fun p => if p.1 = k then (k, v) else p else l ++ [(k, v)]
def ddrop {κ β : Type} [DecidableEq κ] (l : List (κ × β)) (k : κ) : List (κ × β) := l.filter fun p => decide (p.1 ≠ k)
section
variable {κ β : Type} [Ky κ] [DecidableEq κ] {R : V → β → Prop}
theorem key_dec (a b : κ) : decide (Ky.key a = Ky.key b) = decide (a = b) := by
  by_cases h : a = b
  · subst h; simp
  · rw [decide_eq_false h, decide_eq_false fun e => h (Ky.inj a b e)]
theorem Fk.get (k : κ) : ∀ {ps : List (Key × V)} {qs : List (κ × β)}, Fk R ps qs → (∀ b, dget qs k = some b → ∃ v, valV ps (Ky.key k) = some v ∧ R v b) ∧ (dget qs k = none → valV ps (Ky.key k) = none)
  | [], [], _ => ⟨fun b h => by simp [dget] at h, fun _ => rfl⟩
  | p :: ps, q :: qs, ⟨⟨x, y⟩, z⟩ => by
    have ih := Fk.get k z
    by_cases h : q.1 = k
    · have e1 : dget (q :: qs) k = some q.2 := by simp [dget, h]
      have e2 : valV (p :: ps) (Ky.key k) = some p.2 := valV_pos (by rw [x, h])
      rw [e1, e2]
      exact ⟨fun b e => ⟨p.2, rfl, by rw [← Option.some.inj e]; exact y⟩, fun e => by cases e⟩
    · have e1 : dget (q :: qs) k = dget qs k := by simp [dget, h]
      have e2 : valV (p :: ps) (Ky.key k) = valV ps (Ky.key k) := valV_neg fun e => h (Ky.inj _ _ (by rw [← x, e]))
      rw [e1, e2]
      exact ih
  | [], _ :: _, x => x.elim
  | _ :: _, [], x => x.elim
theorem Fk.any (k : κ) : ∀ {ps : List (Key × V)} {qs : List (κ × β)}, Fk R ps qs → (ps.any fun p => decide (p.1 = Ky.key k)) = qs.any fun p => decide (p.1 = k)
  | [], [], _ => rfl
  | p :: ps, q :: qs, ⟨⟨x, y⟩, z⟩ => by rw [List.any_cons, List.any_cons, Fk.any k z, x, key_dec]
  | [], _ :: _, x => x.elim
  | _ :: _, [], x => x.elim
theorem Fk.app : ∀ {ps ps' : List (Key × V)} {qs qs' : List (κ × β)}, Fk R ps qs → Fk R ps' qs' → Fk R (ps ++ ps') (qs ++ qs')
  | [], _, [], _, _, h => h
  | _ :: _, _, _ :: _, _, ⟨x, y⟩, h => ⟨x, Fk.app y h⟩
  | [], _, _ :: _, _, x, _ => x.elim
  | _ :: _, _, [], _, x, _ => x.elim
theorem Fk.upd (k : κ) {v : V} {b : β} (h : R v b) : ∀ {ps : List (Key × V)} {qs : List (κ × β)}, Fk R ps qs → Fk R (ps.map fun p => if p.1 = Ky.key k then (p.1, v) else p) (qs.map fun p => if p.1 = k then (k, b) else p)
  | [], [], _ => True.intro
  | p :: ps, q :: qs, ⟨⟨x, y⟩, z⟩ => by
    refine ⟨?_, Fk.upd k h z⟩
    show (if p.1 = Ky.key k then (p.1, v) else p).1 = Ky.key (if q.1 = k then (k, b) else q).1 ∧ R (if p.1 = Ky.key k then (p.1, v) else p).2 (if q.1 = k then (k, b) else q).2
    by_cases e : q.1 = k
    · rw [if_pos (by rw [x, e]), if_pos e]
      exact ⟨by rw [x, e], h⟩
    · rw [if_neg (fun w => e (Ky.inj _ _ (by rw [← x, w]))), if_neg e]
      exact ⟨x, y⟩
  | [], _ :: _, x => x.elim
  | _ :: _, [], x => x.elim
theorem Fk.drop (k : κ) : ∀ {ps : List (Key × V)} {qs : List (κ × β)}, Fk R ps qs → Fk R (dropK ps (Ky.key k)) (ddrop qs k)
  | [], [], _ => True.intro
  | p :: ps, q :: qs, ⟨⟨x, y⟩, z⟩ => by
    have ih := Fk.drop k z
    unfold dropK ddrop at ih ⊢
    by_cases e : q.1 = k
    · rw [List.filter_cons_of_neg (by simp [x, e]), List.filter_cons_of_neg (by simp [e])]
      exact ih
    · rw [List.filter_cons_of_pos (by simp [x]; exact fun w => e (Ky.inj _ _ w)), List.filter_cons_of_pos (by simp [e])]
      exact ⟨⟨x, y⟩, ih⟩
  | [], _ :: _, x => x.elim
  | _ :: _, [], x => x.elim
end
theorem Fk.put {κ β : Type} [Ky κ] [DecidableEq κ] {R : V → β → Prop} (k : κ) {v : V} {b : β} (h : R v b) {ps : List (Key × V)} {qs : List (κ × β)} (f : Fk R ps qs) : Fk R (putK ps (Ky.key k) v) (dput qs k b) := by
  unfold putK dput
  rw [f.any k]
  by_cases c : (qs.any fun p => decide (p.1 = k)) = true
  · rw [if_pos c, if_pos c]; exact f.upd k h
  · rw [if_neg c, if_neg c]
    exact f.app ⟨⟨rfl, h⟩, True.intro⟩
section
variable {X : Cx} {Γ : Ctx} {S L ρ α β κ γ A B S' : Type} [Rp ρ] {o : Ow ρ} {Γo : S → Ctx} {ΓL : L → Ctx} {a b c e : Expr} {es : List Expr} {pos p p1 p2 apos cpos : Pos} {ta tb tc te : TE} {t : TA} {sts : List Stmt} {tr tr' : TS}
structure EK (X : Cx) (Γ : Ctx) (op : CmpOp) (a b : Expr) (m : M Bool) (t : TE) : Prop where
  pc : PC X op a b t
  hm : behindInMarks op b = false
  sem : SemE X.K Γ t Ow.v m
end
end Ty

namespace Ty
open PySem
/-! maths lemmas, second part -/
theorem divM_ok {a b : Int} (h : 0 < b) (h2 : b < 2 ^ 8999) : divM a b = .ok (a / b) := by
  have : b.natAbs.log2 < 9000 := by
    have hb : b.natAbs ≠ 0 := by omega
    rw [Nat.log2_lt hb]
    have : (b.natAbs : Int) < 2 ^ 8999 := by omega
    have h3 : b.natAbs < 2 ^ 8999 := by exact_mod_cast this
    exact Nat.lt_trans h3 (Nat.pow_lt_pow_right (by decide) (by decide))
  simp only [divM, divB, decide_eq_true h, decide_eq_true this, Bool.and_self, gdT, okB]
  rfl
theorem divM_s {a b : Int} (h : 0 < b) (h2 : b < 18446744073709551616) : divM a b = .ok (a / b) :=
  divM_ok h (by
    have e : (18446744073709551616 : Int) = 2 ^ 64 := by decide
    have : (2 : Int) ^ 64 ≤ 2 ^ 8999 := by exact_mod_cast Nat.pow_le_pow_right (by decide) (by decide)
    rw [e] at h2
    exact Int.lt_of_lt_of_le h2 this)
theorem cutL_to {α : Type} (xs : List α) (n : Int) (h : 0 ≤ n) : cutL xs none (some n) = xs.take n.toNat := by
  unfold cutL
  show (xs.drop 0).take ((if n < 0 then _ else min n.toNat xs.length) - 0) = _
  rw [if_neg (by omega), List.drop_zero, Nat.sub_zero, ← List.take_eq_take_min]
/-- a while that keeps P and lessens the measure -/
theorem Ev.whileR {S ρ S' L : Type} {c : S → M Bool} {f : S → M (Ctl S S ρ)} {k : S → M (Ctl S' L ρ)} {Q : Ctl S' L ρ → Prop} (P : S → Prop) (μ : S → Nat)
    (hf : ∀ s, P s → Ev (c s) fun b => if b then Ev (f s) fun y => (∃ s', (y = .nx s' ∨ y = .ct s') ∧ P s' ∧ μ s' < μ s) ∨ (∃ r, y = .rt r ∧ Q (.rt r)) ∨ (∃ s', y = .bk s' ∧ Ev (k s') Q) else Ev (k s) Q) :
    ∀ n s, P s → μ s < n → Ev (whileM c f n s >>= fun c => thenL c k) Q
  | 0, s, _, h => absurd h (by omega)
  | n + 1, s, hp, hm => by
    obtain ⟨b, eb, hb⟩ := hf s hp
    unfold whileM
    rw [bindA, eb, okB]
    cases b with
    | false =>
      simp only [Bool.false_eq_true, if_false, pureB, thenLi] at hb ⊢
      exact hb
    | true =>
      simp only [if_true] at hb ⊢
      obtain ⟨y, ey, hy⟩ := hb
      rw [bindA, ey, okB]
      rcases hy with ⟨s', h | h, hp', hm'⟩ | ⟨r, rfl, hq⟩ | ⟨s', rfl, hk⟩
      · subst h
        exact Ev.whileR P μ hf n s' hp' (by omega)
      · subst h
        exact Ev.whileR P μ hf n s' hp' (by omega)
      · exact ⟨_, rfl, hq⟩
      · simp only [pureB, thenLi]
        exact hk
theorem row_succ {α : Type} (n : Nat) (g : Nat → α) : row (n + 1) g = row n g ++ [g n] := by
  unfold row
  rw [List.range_succ, List.map_append]
  rfl
/-- the element that a loop over a row has reached -/
theorem row_pre {α : Type} {n : Nat} {g : Nat → α} {pre post : List α} {x : α} (e : row n g = pre ++ x :: post) : pre.length < n ∧ x = g pre.length ∧ pre = row pre.length g := by
  have hlt := pre_lt e
  rw [row_len] at hlt
  have h := row_get (g := g) hlt
  rw [e] at h
  refine ⟨hlt, by simpa using h, row_ext rfl fun i hi => ?_⟩
  have h := row_get (g := g) (show i < n by omega)
  rw [e, List.getElem?_append_left hi] at h
  exact h
end Ty

namespace Ty
open PySem PySem.Spec PyProof.Rows L2
/-! ## Ty13: sorted, list(range), pop, insert -/
def isort (a : List Int) : List Int := a.mergeSort (fun x y => decide (x ≤ y))
theorem isort_eq {a b : List Int} (h : b.Perm a) (hs : b.Pairwise (· ≤ ·)) : b = isort a := by
  have h1 : List.Pairwise (fun a b : Int => decide (a ≤ b) = true) (isort a) := List.pairwise_mergeSort (fun a b c h1 h2 => by simp at *; omega) (fun a b => by simp; omega) a
  have h1 : List.Pairwise (· ≤ ·) (isort a) := h1.imp fun h => by simpa using h
  exact List.Perm.eq_of_pairwise (fun a b _ _ h1 h2 => by omega) hs h1 (h.trans (List.mergeSort_perm a _).symm)
section
variable {X : Cx} {Γ : Ctx} {S L ρ α β γ A B S' : Type} [Rp ρ] {o : Ow ρ} {Γo : S → Ctx} {ΓL : L → Ctx} {a b e f : Expr} {es : List Expr} {pos p apos cpos pos2 : Pos} {ta tb te tf : TE} {t : TA} {sts : List Stmt} {tr tr' : TS} {tg : Expr}
theorem ex_sorted {K : PySem.W.Frag} {m : M (List Int)} (hm : X.mg "sorted" = none) (h : EX X Γ e Ow.v m te) (hg : Gl X "sorted" := by rfl) (h1 : starEach [e] X.env = (false, eval e X.env) :: starEach [] X.env := by rfl) (hK : X.K = K := by rfl) : EX X Γ (.Call (.Name "sorted" p) [e] [] pos) (Ow.l Ow.v) (do let a ← m; pure (isort a)) (tCB (rSortedI K) (tCons te tNil)) := by
  subst hK
  exact ex_b1 cr_sortedI (show SemC1 X.K (rSortedI X.K) (Ow.l Ow.v) (fun (a : List Int) => pure (isort a)) from fun HF H v a c s ⟨q, us, e, h1, h2⟩ hc Q k => by
    cases pure_ok hc
    subst e
    have e2 := Fa.flat.mp h2
    subst e2
    exact ⟨q, a, rfl, SqL.of (s _ _ h1), fun ns' p hp hs hn => by
      have e3 := isort_eq hp hs
      subst e3
      exact k.lst s (Fa.flat.mpr rfl) hn⟩) (by decide +kernel) hm h hg (h1 := h1)
def rgB2 (i j : Int) : Bool := decide (-(2 ^ 62) ≤ i) && decide (i < 2 ^ 62) && decide (-(2 ^ 62) ≤ j) && decide (j < 2 ^ 62) && decide ((j - i).toNat ≤ 2 ^ 24)
def lrange (i j : Int) : M (List Int) := do gd (rgB2 i j); pure (rangeL i j)
theorem rgB2_ok {i j : Int} (h : rgB2 i j = true) : RgOk i j := by
  simp only [rgB2, Bool.and_eq_true, decide_eq_true_eq] at h
  exact ⟨h.1.1.1.1, h.1.1.1.2, h.1.1.2, h.1.2, h.2⟩
theorem rgV_enc (i j : Int) : rgV i j = (rangeL i j).map Fl.enc := by
  unfold rgV rangeL
  rw [List.map_map]
  rfl
theorem ex_listRg1 {m : M Int} (hc : X.calm = true) (ml : X.mg "list" = none) (mr : X.mg "range" = none) (h : EX X Γ e Ow.v m te) (hg : Gl X "list" := by rfl) (hg2 : Gl X "range" := by rfl) (h1 : starEach [e] X.env = (false, eval e X.env) :: starEach [] X.env := by rfl)
    (h2 : starEach [.Call (.Name "range" p) [e] [] pos] X.env = (false, eval (.Call (.Name "range" p) [e] [] pos) X.env) :: starEach [] X.env := by rfl) : EX X Γ (.Call (.Name "list" apos) [.Call (.Name "range" p) [e] [] pos] [] cpos) (Ow.l Ow.v) (do let a ← m; lrange 0 a) (tLstRg (tRg1 te)) :=
  ⟨pe_listRg hc hg ml (prg_1 hg2 mr h.pe h1) h2, fun HF0 G HF H σ g c hc' Q k => by
    obtain ⟨i, e1, hc'⟩ := bind_ok hc'
    obtain ⟨u, e2, hc'⟩ := bind_ok hc'
    cases pure_ok hc'
    refine h.sem HF0 G HF H σ g i e1 _ fun v HF1 H1 fp st r n f => ⟨i, Fl.sh_iff.mp r.1, rgB2_ok (gd_ok e2), fun q hq => ?_⟩
    rw [rgV_enc]
    exact (show RetK X.K HF1 H1 (Ow.l Ow.v) (rangeL 0 i) Q from fun v' HF' H' fp' st' r' n' f' => k v' HF' H' fp' (st.trans st') r' n' (fun p hp => ⟨st.exH.free (f' p hp).1, (f' p hp).2⟩)).lst st.sub (Fa.flat.mpr rfl) hq⟩
/-! ### an expression that takes from a list at slot i -/
structure EP [Rp α] [Rp β] (X : Cx) (Γ : Ctx) (i : Nat) (e : Expr) (m : M (β × List α)) (t : TE) : Prop where
  pe : PE X e t
  sem : ∀ HF0 G HF H σ, Good X.K HF0 G Γ HF H σ → ∀ c l, m = .ok (c, l) → ∀ Q : VK, (∀ v HF1 H1, Same HF HF1 → Rp.sh X.K HF1 v c → Good X.K HF0 G (put Γ i (.mk (Ow.l (Ow.v : Ow α)) l)) HF1 H1 σ → Q v H1) → t σ H Q
def popAtM {α : Type} (as : List α) (i : Int) : M (α × List α) := do gd (decide (-(2 ^ 63) ≤ i) && decide (i < 2 ^ 63)); let k ← ofO (seqIndex? i as.length); let y ← ofO as[k]?; pure (y, as.eraseIdx k)
theorem Fa.eraseIdx' {R : V → α → Prop} : ∀ {vs : List V} {as : List α} (i : Nat), Fa R vs as → Fa R (vs.eraseIdx i) (as.eraseIdx i)
  | [], [], _, h => h
  | v :: vs, a :: as, 0, h => h.2
  | v :: vs, a :: as, i + 1, h => ⟨h.1, Fa.eraseIdx' i h.2⟩
  | [], _ :: _, _, h => h.elim
  | _ :: _, [], _, h => h.elim
theorem ep_popAt [Rp α] (i : Nat) {as : List α} {x : Str} {m : M Int} (he : EX X Γ e Ow.v m te) (hl : look Γ i = .mk (Ow.l (Ow.v : Ow α)) as := by rfl) (hN : X.N[i]? = some x := by rfl) (hv : Vis X.env.scope x := by first | exact Or.inl rfl | exact Or.inr (Or.inl rfl) | exact Or.inr (Or.inr rfl)) (hd : (x == ("__debug__" : Str)) = false := by decide)
    (hcd : (x == ("__classdict__" : Str)) = false := by decide)
    (hpe : ∀ {to : TE} {tt : TA}, PE X (.Name x p) to → PA X [e] tt → PE X (.Call (.Attribute (.Name x p) "pop" apos) [e] [] cpos) (tBM X.K "list" rPopAt to tt) := by exact fun h h' => pe_bm PySem.F.plainAttrs_list PySem.F.slot_list_pop PySem.F.type_list_pop mt_popAt h h')
    (h1 : starEach [e] X.env = (false, eval e X.env) :: starEach [] X.env := by rfl) :
    EP X Γ i (.Call (.Attribute (.Name x p) "pop" apos) [e] [] cpos) (do let j ← m; popAtM as j) (tBM X.K "list" rPopAt (tVar i) (tCons te tNil)) :=
  ⟨hpe (pe_var hN hv hd hcd) (pa_cons he.pe pa_nil h1), fun HF0 G HF H σ g c l hc Q k => by
    obtain ⟨j, e0, hc⟩ := bind_ok hc
    obtain ⟨u, e8, hc⟩ := bind_ok hc
    obtain ⟨n, e9, hc⟩ := bind_ok hc
    obtain ⟨y, e1, hc⟩ := bind_ok hc
    cases pure_ok hc
    obtain ⟨v, fo, hσ, ⟨q, vs, fq, h1, h2, h3, h4⟩, nd, hfo, back⟩ := g.take hl
    subst h1 h2
    obtain ⟨fa, e5⟩ := h4.toFa
    subst e5
    obtain ⟨w, e6, e7⟩ := fa.get' (ofO_ok e1)
    refine ⟨.ref q, hσ, .inl ⟨rfl, vs, SqL.of h3⟩, ?_⟩
    refine he.sem HF0 G HF H σ g j e0 _ fun v' HF1 H1 fp st r n' f => ?_
    have e10 := gd_ok e8
    rw [Bool.and_eq_true, decide_eq_true_eq, decide_eq_true_eq] at e10
    refine ⟨q, vs, j, n, w, rfl, by rw [Fl.sh_iff.mp r.1]; rfl, st.exH _ _ h3, e10.1, e10.2, by rw [fa.len]; exact ofO_ok e9, e6, ?_⟩
    have fa1 := fa.mono (fun v a h => Rp.mono st.exF h)
    have gg := back st (H' := upd H1 q (.lst (vs.eraseIdx n))) (u' := Ow.l (Ow.v : Ow α)) (b := as.eraseIdx n) (v' := .ref q) (f' := [q]) (fun p w hp e => by rw [upd_ne (fun z => hp (by rw [z]; exact List.mem_cons_self ..))]; exact e)
      ⟨q, vs.eraseIdx n, [], rfl, rfl, upd_same, Rl.ofFa (Fa.eraseIdx' n fa1)⟩ (by simp) (fun p hp => .inl hp)
    rw [set_self hσ] at gg
    exact k w HF1 _ st.exF (Rp.mono st.exF e7) gg⟩
/-- ..pop.. -/
theorem ss_dropP [Rp α] [Rp β] [Inhabited β] (i : Nat) {m : M (β × List α)} {k : β × List α → M (Ctl S L ρ)} (he : EP X Γ i e m te) (hr : ∀ q : β × List α, SS X (put Γ i (.mk (Ow.l (Ow.v : Ow α)) q.2)) sts Γo ΓL o (k q) tr)
    (hs : swapsWith e none pos.line X.env = pure false := by rfl) : SS X Γ (.Expr e pos :: sts) Γo ΓL o (do let a ← m; k a) (tSeq (tDrop te) tr) :=
  ⟨pss_cons (ps_expr he.pe hs) (hr default).pss, fun HF0 G HF H σ g c hc D kk => by
    obtain ⟨⟨y, l⟩, e1, hc⟩ := bind_ok hc
    refine he.sem HF0 G HF H σ g y l e1 _ fun v HF' H' st r gg => ?_
    exact (hr (y, l)).sem HF0 G HF' H' _ gg c hc D (kk.mono st)⟩
/-- x.append(..pop..) -/
theorem ss_appP [Rp α] [Rp β] [Inhabited β] (i j : Nat) {bs : List β} {x : Str} {m : M (β × List α)} {k : β × List α → List β → M (Ctl S L ρ)} (he : EP X Γ i e m te) (hr : ∀ (q : β × List α) y, SS X (put (put Γ i (.mk (Ow.l (Ow.v : Ow α)) q.2)) j (.mk (Ow.l (Ow.v : Ow β)) y)) sts Γo ΓL o (k q y) tr) (hl0 : look Γ j = .mk (Ow.l (Ow.v : Ow β)) bs := by rfl) (hl : ∀ l, look (put Γ i (.mk (Ow.l (Ow.v : Ow α)) l)) j = .mk (Ow.l (Ow.v : Ow β)) bs := by intro; rfl) (hN : X.N[j]? = some x := by rfl) (hv : Vis X.env.scope x := by first | exact Or.inl rfl | exact Or.inr (Or.inl rfl) | exact Or.inr (Or.inr rfl)) (hd : (x == ("__debug__" : Str)) = false := by decide)
    (hcd : (x == ("__classdict__" : Str)) = false := by decide)
    (hpe : ∀ {to : TE} {tt : TA}, PE X (.Name x p) to → PA X [e] tt → PE X (.Call (.Attribute (.Name x p) "append" apos) [e] [] cpos) (tBM X.K "list" rAppend to tt) := by exact fun h h' => pe_bm PySem.F.plainAttrs_list PySem.F.slot_list_append PySem.F.type_list_append mt_append h h')
    (h1 : starEach [e] X.env = (false, eval e X.env) :: starEach [] X.env := by rfl)
    (hs : swapsWith (.Call (.Attribute (.Name x p) "append" apos) [e] [] cpos) none pos.line X.env = pure false := by rfl) :
    SS X Γ (.Expr (.Call (.Attribute (.Name x p) "append" apos) [e] [] cpos) pos :: sts) Γo ΓL o (do let a ← m; let y ← appM bs a.1; k a y) (tSeq (tDrop (tBM X.K "list" rAppend (tVar j) (tCons te tNil))) tr) :=
  ⟨pss_cons (ps_expr (hpe (pe_var hN hv hd hcd) (pa_cons he.pe pa_nil h1)) hs) (hr default default).pss, fun HF0 G HF H σ g c hc D kk => by
    obtain ⟨⟨y, l⟩, e1, hc⟩ := bind_ok hc
    obtain ⟨l2, e2, hc⟩ := bind_ok hc
    obtain ⟨w, e3, e2⟩ := bind_ok e2
    have e4 := pure_ok e2
    subst e4
    obtain ⟨v0, fo0, hσ0, ⟨q0, vs0, fq0, h01, h02, h03, h04⟩, _⟩ := g.take hl0
    subst h01
    refine ⟨.ref q0, hσ0, .inl ⟨rfl, vs0, SqL.of h03⟩, ?_⟩
    refine he.sem HF0 G HF H σ g y l e1 _ fun v' HF1 H1 st r gg => ?_
    obtain ⟨v, fo, hσ, ⟨q, vs, fq, h1, h2, h3, h4⟩, nd, hfo, back⟩ := gg.take (hl l)
    rw [hσ0] at hσ
    cases hσ
    cases h1
    subst h2
    obtain ⟨fa, e5⟩ := h4.toFa
    subst e5
    refine ⟨q0, vs, v', rfl, rfl, h3, by rw [fa.len]; exact of_decide_eq_true (gd_ok e3), ?_⟩
    have g2 := back (Step.refl gg.sub) (H' := upd H1 q0 (.lst (vs ++ [v']))) (u' := Ow.l (Ow.v : Ow β)) (b := bs ++ [y]) (v' := .ref q0) (f' := [q0]) (fun p w hp e => by rw [upd_ne (fun z => hp (by rw [z]; exact List.mem_cons_self ..))]; exact e)
      ⟨q0, vs ++ [v'], [], rfl, rfl, upd_same, Rl.ofFa (fa.append ⟨r, True.intro⟩)⟩ (by simp) (fun p hp => .inl hp)
    rw [set_self hσ0] at g2
    exact (hr (y, l) (bs ++ [y])).sem HF0 G HF1 _ σ g2 c hc D (kk.mono st)⟩
/-- a, b = a list of two -/
def twoM {α : Type} : List α → M (α × α)
  | [x, y] => pure (x, y)
  | _ => no
theorem twoM_ok {as : List α} {u : α × α} (h : twoM as = .ok u) : as = [u.1, u.2] := by
  match as, h with
  | [x, y], h => cases h; rfl
theorem ss_asgU {K : PySem.W.Frag} [Rp α] [Inhabited α] {x y : Expr} {kk : Nat} {g1 g2 : TG} {Γ1 : α → Ctx} {Γ2 : α → α → Ctx} {js ks : List Nat} {m : M (List α)} {k : α × α → M (Ctl S L ρ)} (hcm : X.calm = true) (he : EX X Γ e Ow.v m te) (hg1 : ∀ u, EG X Γ x g1 u (Γ1 u) js) (hg2 : ∀ u v, EG X (Γ1 u) y g2 v (Γ2 u v) ks) (hr : ∀ u : α × α, SS X (Γ2 u.1 u.2) sts Γo ΓL o (k u) tr)
    (hs1 : (assignEach [y] X.env).map (fun x => x.2) = assign y X.env :: (assignEach [] X.env).map (fun x => x.2) := by rfl) (hs2 : (assignEach [x, y] X.env).map (fun x => x.2) = assign x X.env :: (assignEach [y] X.env).map (fun x => x.2) := by rfl)
    (hpg : PGs X [x, y] (gCons g1 (gCons g2 gNil)) → PG X (.Tuple [x, y] kk pos2) (gUnl X.K 2 (gCons g1 (gCons g2 gNil))) := by exact fun h => pg_unl (by first | rfl | assumption) h)
    (hs : swapsWithSole [.Tuple [x, y] kk pos2] e pos.line X.env = pure false := by rfl) (hw : swappedStores [.Tuple [x, y] kk pos2] e X.env = pure none := by rfl)
    (h1 : (assignEach [.Tuple [x, y] kk pos2] X.env).map (·.2) = [assign (.Tuple [x, y] kk pos2) X.env] := by rfl) (hK : X.K = K := by rfl) :
    SS X Γ (.Assign [.Tuple [x, y] kk pos2] e pos :: sts) Γo ΓL o (do let a ← m; let u ← twoM a; k u) (tSeq (tAsg te (gUnl K 2 (gCons g1 (gCons g2 gNil)))) tr) := by
  subst hK
  exact ⟨pss_cons (ps_asg he.pe (hpg (pgs_cons (hg1 default).pg (pgs_cons (hg2 default default).pg pgs_nil hs1) hs2)) hs hw h1) (hr default).pss, fun HF0 G HF H σ gd c hc D kk => by
    obtain ⟨a, e1, hc⟩ := bind_ok hc
    obtain ⟨u, e2, hc⟩ := bind_ok hc
    have e3 := twoM_ok e2
    subst e3
    refine he.sem HF0 G HF H σ gd _ e1 _ fun v HF1 H1 fp st r n f => ?_
    obtain ⟨q, us, e4, e5, e6⟩ := r.1
    match us, e6 with
    | [va, vb], ⟨e7, e8, _⟩ =>
      refine ⟨q, [va, vb], e4, SqL.of (st.sub _ _ e5), rfl, va, [vb], rfl, ?_⟩
      refine (hg1 u.1).sem HF0 G HF1 H1 σ va (gd.step st) e7 _ fun σ1 G1 l1 s1 => ⟨vb, [], rfl, ?_⟩
      refine (hg2 u.1 u.2).sem HF0 G HF1 H1 σ1 vb G1 e8 _ fun σ2 G2 l2 s2 => ⟨rfl, ?_⟩
      exact (hr u).sem HF0 G HF1 H1 σ2 G2 c hc D (kk.mono st.exF)⟩
end
end Ty

namespace Ty
open PySem PySem.Spec PyProof.Rows L2
/-! ## Ty14: divmod, module tuples, dict.get -/
section
variable {X : Cx} {Γ : Ctx} {S L ρ α β γ A B S' : Type} [Rp ρ] {o : Ow ρ} {Γo : S → Ctx} {ΓL : L → Ctx} {a b e f : Expr} {es : List Expr} {pos p apos cpos pos2 : Pos} {ta tb te tf : TE} {t : TA} {sts : List Stmt} {tr tr' : TS} {tg : Expr}
theorem ex_gint {x : Str} {z : Int} {pos : Pos} (hm : ∃ t, X.mg x = some (.int z t)) (hg : Gl X x := by rfl) (hd : (x == ("__debug__" : Str)) = false := by decide) : EX X Γ (.Name x pos) Ow.v (pure z) (tC (.int z)) := by
  obtain ⟨t, h⟩ := hm
  exact ⟨pe_glob hg h ⟨t, rfl⟩ hd, fun HF0 G HF H σ g c hc Q k => by cases pure_ok hc; exact k.flat g.sub⟩
end
end Ty

namespace Ty
open PySem
/-! ## Ty15: maths: walks that come back, nets -/
theorem len_le_of_lt : ∀ (m : Nat) (l : List Nat), l.Nodup → (∀ x ∈ l, x < m) → l.length ≤ m
  | 0, l, _, h => by
    cases l with
    | nil => simp
    | cons a l => exact absurd (h a (List.mem_cons_self ..)) (by omega)
  | m + 1, l, hn, h => by
    by_cases hm : m ∈ l
    · have := len_le_of_lt m (l.erase m) (hn.erase m) (fun x hx => by
        rw [hn.mem_erase_iff] at hx
        have := h x hx.2
        omega)
      rw [List.length_erase_of_mem hm] at this
      omega
    · have := len_le_of_lt m l hn (fun x hx => by
        have := h x hx
        rcases Nat.lt_or_ge x m with h1 | h1
        · exact h1
        · have : x = m := by omega
          subst this; exact absurd hx hm)
      omega
theorem pigeon (m : Nat) (f : Nat → Nat) (h : ∀ i, i ≤ m → f i < m) : ∃ i j, i < j ∧ j ≤ m ∧ f i = f j := by
  refine Classical.byContradiction fun hc => ?_
  have hn : ((List.range (m + 1)).map f).Nodup := by
    rw [List.nodup_iff_pairwise_ne, List.pairwise_map]
    refine List.Pairwise.imp_of_mem ?_ (List.pairwise_lt_range)
    intro a b ha hb hab e
    exact hc ⟨a, b, hab, by have := List.mem_range.mp hb; omega, e⟩
  have := len_le_of_lt m _ hn (fun x hx => by
    obtain ⟨i, hi, rfl⟩ := List.mem_map.mp hx
    exact h i (by have := List.mem_range.mp hi; omega))
  simp at this
  omega
theorem least_of (P : Nat → Prop) [DecidablePred P] : ∀ n, P n → ∃ k, k ≤ n ∧ P k ∧ ∀ j, j < k → ¬ P j
  | 0, h => ⟨0, Nat.le_refl _, h, fun j hj => absurd hj (by omega)⟩
  | n + 1, h => by
    by_cases h0 : P 0
    · exact ⟨0, by omega, h0, fun j hj => absurd hj (by omega)⟩
    · obtain ⟨k, h1, h2, h3⟩ := least_of (fun i => P (i + 1)) n h
      exact ⟨k + 1, by omega, h2, fun j hj => by
        cases j with
        | zero => exact h0
        | succ j => exact h3 j (by omega)⟩
/-- the walk s e, s (s e), .. -/
def orb (s : Int → Int) (e : Int) : Nat → Int
  | 0 => e
  | k + 1 => s (orb s e k)
theorem orb_in {s : Int → Int} {e : Int} {m : Nat} (h : ∀ x : Int, 0 ≤ x → x < m → 0 ≤ s x ∧ s x < m) (h0 : 0 ≤ e) (h1 : e < m) : ∀ k, 0 ≤ orb s e k ∧ orb s e k < m
  | 0 => ⟨h0, h1⟩
  | k + 1 => h _ (orb_in h h0 h1 k).1 (orb_in h h0 h1 k).2
/-- an injective step comes back -/
theorem orb_back {s : Int → Int} {e : Int} {m : Nat} (h : ∀ x : Int, 0 ≤ x → x < m → 0 ≤ s x ∧ s x < m) (inj : ∀ x y : Int, 0 ≤ x → x < m → 0 ≤ y → y < m → s x = s y → x = y) (h0 : 0 ≤ e) (h1 : e < m) :
    ∃ k, 1 ≤ k ∧ k ≤ m ∧ orb s e k = e ∧ ∀ j, 1 ≤ j → j < k → orb s e j ≠ e := by
  have hin := orb_in h h0 h1
  obtain ⟨i, j, hij, hj, e1⟩ := pigeon m (fun k => (orb s e k).toNat) (fun i _ => by have := hin i; omega)
  have e1 : orb s e i = orb s e j := by
    have a := hin i; have b := hin j
    have e1 : (orb s e i).toNat = (orb s e j).toNat := e1
    omega
  have back : ∀ i d, orb s e i = orb s e (i + d) → orb s e d = e := by
    intro i
    induction i with
    | zero => intro d q; rw [Nat.zero_add] at q; exact q.symm
    | succ i ih =>
      intro d q
      refine ih d ?_
      rw [show i + 1 + d = (i + d) + 1 by omega] at q
      exact inj _ _ (hin i).1 (hin i).2 (hin (i + d)).1 (hin (i + d)).2 q
  have e2 := back i (j - i) (by rw [show i + (j - i) = j by omega]; exact e1)
  obtain ⟨k, hk, hk2, hk3⟩ := least_of (fun k => orb s e (k + 1) = e) (j - i - 1) (by rw [show j - i - 1 + 1 = j - i by omega]; exact e2)
  refine ⟨k + 1, by omega, by omega, hk2, fun j' h1 h2 => ?_⟩
  have := hk3 (j' - 1) (by omega)
  rw [show j' - 1 + 1 = j' by omega] at this
  exact this
theorem popAtM_ok {α : Type} [Inhabited α] {as : List α} {i : Int} (h0 : 0 ≤ i) (h1 : i < as.length) (h2 : i < 9223372036854775808) : popAtM as i = .ok (as.getD i.toNat default, as.eraseIdx i.toNat) := by
  unfold popAtM
  have e1 : (decide (-(2 ^ 63) ≤ i) && decide (i < 2 ^ 63)) = true := by simp; omega
  have e2 : seqIndex? i as.length = some i.toNat := (L2.ixN_seq (ixN_ok h0 h1)).1
  rw [e1, e2]
  simp only [gdT, okB, ofOs]
  rw [List.getD_eq_getElem?_getD, List.getElem?_eq_getElem (by omega)]
  rfl
theorem lrange_ok {n : Int} (h0 : 0 ≤ n) (h1 : n ≤ 16777216) : lrange 0 n = .ok (rangeL 0 n) := by
  unfold lrange rgB2
  have e : (decide (-(2 ^ 62) ≤ (0 : Int)) && decide ((0 : Int) < 2 ^ 62) && decide (-(2 ^ 62) ≤ n) && decide (n < 2 ^ 62) && decide ((n - 0).toNat ≤ 2 ^ 24)) = true := by simp; omega
  rw [e]; rfl
/-- joining by a way -/
def jn (w s : Int) : Int := if w = 0 then (if s = 0 then 1 else if s = 1 then 0 else if s = 2 then 3 else 2) else if w = 1 then (if s = 0 then 2 else if s = 1 then 3 else if s = 2 then 0 else 1) else 3 - s
theorem jn_in {w s : Int} (h0 : 0 ≤ s) (h1 : s < 4) : 0 ≤ jn w s ∧ jn w s < 4 := by
  unfold jn
  repeat' split
  all_goals omega
theorem jn_jn {w s : Int} (h0 : 0 ≤ s) (h1 : s < 4) : jn w (jn w s) = s := by
  have hs : s = 0 ∨ s = 1 ∨ s = 2 ∨ s = 3 := by omega
  unfold jn
  by_cases h : w = 0
  · rcases hs with rfl | rfl | rfl | rfl <;> simp [h]
  · by_cases h2 : w = 1
    · rcases hs with rfl | rfl | rfl | rfl <;> simp [h2]
    · simp [h, h2]; omega
/-- the end joined with an end -/
def par (c : Nat → Int) (e : Int) : Int := 4 * (e / 4) + jn (c (e / 4).toNat) (e % 4)
theorem par_in {c : Nat → Int} {e : Int} {n : Nat} (h0 : 0 ≤ e) (h1 : e < ((4 * n : Nat) : Int)) : 0 ≤ par c e ∧ par c e < ((4 * n : Nat) : Int) := by
  have := jn_in (w := c (e / 4).toNat) (s := e % 4) (by omega) (by omega)
  unfold par
  omega
theorem par_par {c : Nat → Int} {e : Int} (h0 : 0 ≤ e) : par c (par c e) = e := by
  have h := jn_in (w := c (e / 4).toNat) (s := e % 4) (by omega) (by omega)
  have h2 := jn_jn (w := c (e / 4).toNat) (s := e % 4) (by omega) (by omega)
  have e1 : par c e / 4 = e / 4 := by unfold par; omega
  have e2 : par c e % 4 = jn (c (e / 4).toNat) (e % 4) := by unfold par; omega
  have : par c (par c e) = 4 * (par c e / 4) + jn (c (par c e / 4).toNat) (par c e % 4) := rfl
  rw [this, e1, e2, h2]
  omega
/-- a net of m ends -/
def Net (m : Nat) (f : Nat → Int) : Prop := ∀ i, i < m → 0 ≤ f i ∧ f i < m ∧ f (f i).toNat = i
/-- a round's list after k steps -/
def wl (s p : Int → Int) (e : Int) : Nat → List Int
  | 0 => []
  | k + 1 => wl s p e k ++ [orb s e k, p (orb s e k)]
theorem wl_len (s p : Int → Int) (e : Int) : ∀ k, (wl s p e k).length = 2 * k
  | 0 => rfl
  | k + 1 => by
    show (wl s p e k ++ [_, _]).length = _
    rw [List.length_append, wl_len s p e k]; simp; omega
end Ty

namespace Ty
open PySem PySem.Spec PyProof.Rows L2
/-! ## Ty16: lists of two or three unlike things -/
structure H3 (α β γ : Type) where
  a : α
  b : β
  c : γ
deriving DecidableEq
instance {α β γ : Type} [Inhabited α] [Inhabited β] [Inhabited γ] : Inhabited (H3 α β γ) := ⟨⟨default, default, default⟩⟩
instance rpH3 {α β γ : Type} [Rp α] [Rp β] [Rp γ] : Rp (H3 α β γ) where
  sh K H v x := ∃ p va vb vc, v = .ref p ∧ H p = some (.lst [va, vb, vc]) ∧ Rp.sh K H va x.a ∧ Rp.sh K H vb x.b ∧ Rp.sh K H vc x.c
  mono := fun e ⟨p, va, vb, vc, h1, h2, h3, h4, h5⟩ => ⟨p, va, vb, vc, h1, e _ _ h2, Rp.mono e h3, Rp.mono e h4, Rp.mono e h5⟩
/-- an own list of three, its items shared -/
def Ow.h3 {α β γ : Type} [Rp α] [Rp β] [Rp γ] : Ow (H3 α β γ) where
  rep K HF H v x fp := ∃ p va vb vc, v = .ref p ∧ fp = [p] ∧ H p = some (.lst [va, vb, vc]) ∧ Rp.sh K HF va x.a ∧ Rp.sh K HF vb x.b ∧ Rp.sh K HF vc x.c
  mono := fun e k ⟨p, va, vb, vc, h1, h2, h3, h4, h5, h6⟩ => by
    subst h2
    exact ⟨p, va, vb, vc, h1, rfl, k p (List.mem_singleton.mpr rfl) _ h3, Rp.mono e h4, Rp.mono e h5, Rp.mono e h6⟩
  dom := fun ⟨p, va, vb, vc, h1, h2, h3, h4, h5, h6⟩ q hq => by
    subst h2
    rw [List.mem_singleton.mp hq]
    exact ⟨_, h3⟩
  frz := fun e k ⟨p, va, vb, vc, h1, h2, h3, h4, h5, h6⟩ => by
    subst h2
    exact ⟨p, va, vb, vc, h1, k p (List.mem_singleton.mpr rfl) _ h3, Rp.mono e h4, Rp.mono e h5, Rp.mono e h6⟩
instance eqvH3 {α β γ : Type} [Rp α] [Rp β] [Rp γ] [DecidableEq α] [DecidableEq β] [DecidableEq γ] [Eqv α] [Eqv β] [Eqv γ] : Eqv (H3 α β γ) where
  py x := .list [Eqv.py x.a, Eqv.py x.b, Eqv.py x.c]
  ok x := Eqv.ok x.a && (Eqv.ok x.b && Eqv.ok x.c)
  dep := max (Eqv.dep α) (max (Eqv.dep β) (Eqv.dep γ)) + 1
  dp := fun ⟨p, va, vb, vc, h1, h2, h3, h4, h5⟩ => by subst h1; exact .lst (SqL.of h2) (.cons (Eqv.dp h3) (.cons (Eqv.dp h4) (.cons (Eqv.dp h5) .nil)))
  lay := fun x h => by
    rw [Bool.and_eq_true, Bool.and_eq_true] at h
    simp [PyData.canLay0, PyData.canLayAll0, Eqv.lay x.a h.1, Eqv.lay x.b h.2.1, Eqv.lay x.c h.2.2]
  deep := fun x => by
    have h1 := Eqv.deep x.a
    have h2 := Eqv.deep x.b
    have h3 := Eqv.deep x.c
    simp only [PyData.depth, PyData.depthAll]
    omega
  eqv := fun ⟨a, b, c⟩ ⟨d, e, f⟩ => by
    simp only [PyData.eqv, PyData.eqvAll, Eqv.eqv]
    by_cases h1 : a = d <;> by_cases h2 : b = e <;> by_cases h3 : c = f <;> simp [h1, h2, h3]
instance {α β γ : Type} [Rp α] [Rp β] [Rp γ] [DecidableEq α] [DecidableEq β] [DecidableEq γ] [Eqv α] [Eqv β] [Eqv γ] [EqvT α] [EqvT β] [EqvT γ] : EqvT (H3 α β γ) := ⟨fun x => by
  show (Eqv.ok x.a && (Eqv.ok x.b && Eqv.ok x.c)) = true
  rw [EqvT.all, EqvT.all, EqvT.all]; rfl⟩
section
variable {X : Cx} {Γ : Ctx} {α β γ : Type} {a b c e : Expr} {pos p : Pos} {ta tb tc : TE}
end
section
variable {X : Cx} {Γ : Ctx} {S L ρ α β γ A B S' : Type} [Rp ρ] {o : Ow ρ} {Γo : S → Ctx} {ΓL : L → Ctx} {a b e f : Expr} {es : List Expr} {pos p apos cpos pos2 : Pos} {ta tb te tf : TE} {t : TA} {sts : List Stmt} {tr tr' : TS}
/-- x = [..], looked at: own things stand in it -/
theorem ss_asgLcV [Rp α] [Rp β] [Inhabited α] {o' : Ow β} [Ind (Ow.l o')] (i : Nat) {y : Str} {py : Pos} {elt tg iter : Expr} {ifs : List Expr} {scope : Scope} {own : List (Str × Nat)} {wi : TI} {g : TG} {tt : TT} {m : M (List α)} {tm : α → M Bool} {fm : α → M β} {Γt : α → Ctx} {js : List Nat} {k : List β → M (Ctl S L ρ)} {cpos : Pos} (hc : X.calm = true) (hN : X.N.Nodup)
    (hi : EI X (vw Γ) tg iter m wi) (ok : blkC X.N X.env.scope scope own = true) (hown : (own.map (·.2)).all (fun i => decide (i < (vw Γ).length)) = true) (hjs : js.all (fun i => (own.map (·.2)).contains i) = true)
    (hg : ∀ (s : Shared) (H : Hp) (C : Addr) (cl : List (Str × Addr)) (fp : List Addr) (x : α), EG (X.blk s H scope (compEnvC scope cl C X.env) fp) (wipeC (vw Γ) (own.map (·.2))) tg g x (Γt x) js)
    (ht : ∀ (s : Shared) (H : Hp) (C : Addr) (cl : List (Str × Addr)) (fp : List Addr) (x : α), EF (X.blk s H scope (compEnvC scope cl C X.env) fp) (Γt x) ifs (tm x) tt)
    (he : ∀ (s : Shared) (H : Hp) (C : Addr) (cl : List (Str × Addr)) (fp : List Addr) (x : α), EX (X.blk s H scope (compEnvC scope cl C X.env) fp) (Γt x) elt o' (fm x) te)
    (hr : ∀ a, SS X (put Γ i (.mk (Ow.l o') a)) sts Γo ΓL o (k a) tr)
    (hlt : Nat.blt i Γ.length = true := by rfl) (hy : X.N[i]? = some y := by rfl) (hyl : X.env.scope.names.lookup y = some .local := by rfl)
    (hsw : swapsWith (.ListComp elt [⟨tg, iter, ifs, 0⟩] scope cpos) (some (.Name y py)) pos.line X.env = pure true := by exact sw_true rfl rfl rfl (by decide +kernel))
    (hs : ∀ x, foldedSetIterable iter X.env x = pure x := by intro _; rfl) :
    SS X Γ (.Assign [.Name y py] (.ListComp elt [⟨tg, iter, ifs, 0⟩] scope cpos) pos :: sts) Γo ΓL o (do let a ← (do let xs ← m; compM xs tm fm); k a) (tSeq (tAsg (tLc wi g tt te (own.map (·.2))) (gName i)) tr) := by
  have q : EX X Γ (.ListComp elt [⟨tg, iter, ifs, 0⟩] scope cpos) (Ow.l o') (do let xs ← m; compM xs tm fm) (tLc wi g tt te (own.map (·.2))) := ex_view (ex_lc hc hN hi ok hown hjs hg ht he hs)
  exact ⟨pss_cons (ps_setLc hc hN hy hyl hsw hi.pi (blkOk_by ok) (fun s H C cl fp => (hg s H C cl fp default).pg) (fun s H C cl fp => (ht s H C cl fp default).pts) (fun s H C cl fp => (he s H C cl fp default).pe) hs) (hr default).pss, fun HF0 G HF H σ gd c hcc D kk => by
    obtain ⟨z, e1, hcc⟩ := bind_ok hcc
    show tLc wi g tt te (own.map (·.2)) σ H (fun x H1 => tr D (σ.set i (some x)) H1)
    refine q.sem HF0 G HF H σ gd z e1 _ fun v HF' H' fp st r n f => ?_
    exact (hr z).sem HF0 G HF' H' _ (gd.set (of_blt hlt) st r n f) c hcc D (kk.mono st.exF)⟩
end
end Ty

namespace Ty
open PySem
/-! ## Ty17: maths: ends tied two and two -/
/-- the ends of l are left; all others are tied by f -/
structure Prt (m : Nat) (l : List Int) (f : Nat → Int) : Prop where
  nd : l.Nodup
  rg : ∀ x ∈ l, 0 ≤ x ∧ x < (m : Int)
  tied : ∀ i : Nat, i < m → (i : Int) ∉ l → 0 ≤ f i ∧ f i < (m : Int) ∧ f i ∉ l ∧ f (f i).toNat = i ∧ f i ≠ i
end Ty

namespace Ty
open PySem PySem.Spec PyProof.Rows L2
/-! ## Ty18: len(set(..)), len of a dict, dict.get -/
section
variable {X : Cx} {Γ : Ctx} {α β κ : Type} {a b e f : Expr} {pos p p2 q apos cpos : Pos} {ta tb te tf : TE}
end
end Ty

namespace Ty
open PySem
/-! ## Ty19: maths: rounds have each end once; dicts -/
theorem jn_ne {w s : Int} (h0 : 0 ≤ s) (h1 : s < 4) : jn w s ≠ s := by
  have hs : s = 0 ∨ s = 1 ∨ s = 2 ∨ s = 3 := by omega
  unfold jn
  rcases hs with rfl | rfl | rfl | rfl <;> repeat' split
  all_goals omega
theorem par_ne {c : Nat → Int} {e : Int} (h0 : 0 ≤ e) : par c e ≠ e := by
  have h := jn_ne (w := c (e / 4).toNat) (s := e % 4) (by omega) (by omega)
  unfold par
  omega
section
variable {s p f : Int → Int} {e : Int} {m : Nat} (hs : ∀ x, s x = f (p x)) (hpi : ∀ x : Int, 0 ≤ x → x < m → 0 ≤ p x ∧ p x < m ∧ p (p x) = x ∧ p x ≠ x) (hfi : ∀ x : Int, 0 ≤ x → x < m → 0 ≤ f x ∧ f x < m ∧ f (f x) = x ∧ f x ≠ x) (h0 : 0 ≤ e) (h1 : e < m)
include hs hpi hfi h0 h1
theorem orb_rng (k : Nat) : 0 ≤ orb s e k ∧ orb s e k < m := orb_in (fun x a b => by
  rw [hs]
  have := hpi x a b
  have := hfi (p x) this.1 this.2.1
  exact ⟨this.1, this.2.1⟩) h0 h1 k
theorem s_inj {x y : Int} (a : 0 ≤ x) (b : x < m) (c : 0 ≤ y) (d : y < m) (h : s x = s y) : x = y := by
  rw [hs, hs] at h
  have a1 := hpi x a b
  have a2 := hpi y c d
  have b1 := hfi (p x) a1.1 a1.2.1
  have b2 := hfi (p y) a2.1 a2.2.1
  have : p x = p y := by rw [← b1.2.2.1, h, b2.2.2.1]
  rw [← a1.2.2.1, this, a2.2.2.1]
theorem orb_sub (i d : Nat) (h : orb s e i = orb s e (i + d)) : orb s e d = e := by
  induction i generalizing d with
  | zero => rw [Nat.zero_add] at h; exact h.symm
  | succ i ih =>
    refine ih d ?_
    rw [show i + 1 + d = (i + d) + 1 by omega] at h
    have a := orb_rng hs hpi hfi h0 h1 i
    have b := orb_rng hs hpi hfi h0 h1 (i + d)
    exact s_inj hs hpi hfi h0 h1 a.1 a.2 b.1 b.2 h
/-- no end of a round is the partner of one at which it comes in -/
theorem orb_par (i d : Nat) : p (orb s e i) ≠ orb s e (i + d) := by
  induction d using Nat.strongRecOn generalizing i with
  | _ d ih =>
    intro h
    have a := orb_rng hs hpi hfi h0 h1 i
    have a1 := hpi _ a.1 a.2
    match d with
    | 0 => exact a1.2.2.2 h
    | 1 =>
      have e1 : orb s e (i + 1) = f (p (orb s e i)) := hs _
      have := (hfi _ a1.1 a1.2.1).2.2.2
      rw [← e1, ← h] at this
      exact this rfl
    | d + 2 =>
      refine ih d (by omega) (i + 1) ?_
      have b := orb_rng hs hpi hfi h0 h1 (i + d + 1)
      have b1 := hpi _ b.1 b.2
      have e1 : orb s e (i + (d + 2)) = f (p (orb s e (i + d + 1))) := hs _
      have e2 : orb s e (i + 1) = f (p (orb s e i)) := hs _
      have e3 : f (orb s e (i + (d + 2))) = p (orb s e (i + d + 1)) := by
        rw [e1]
        exact (hfi _ b1.1 b1.2.1).2.2.1
      rw [h, e3] at e2
      rw [e2, b1.2.2.1, show i + 1 + d = i + d + 1 by omega]
theorem orb_par' (i j : Nat) : p (orb s e i) ≠ orb s e j := by
  rcases Nat.le_total i j with h | h
  · have := orb_par hs hpi hfi h0 h1 i (j - i)
    rwa [show i + (j - i) = j by omega] at this
  · intro z
    have a := orb_rng hs hpi hfi h0 h1 i
    have a1 := hpi _ a.1 a.2
    have := orb_par hs hpi hfi h0 h1 j (i - j)
    rw [show j + (i - j) = i by omega] at this
    apply this
    rw [← z, a1.2.2.1]
omit hs hpi hfi h0 h1 in
theorem mem_wl {x : Int} : ∀ k, x ∈ wl s p e k ↔ ∃ i, i < k ∧ (x = orb s e i ∨ x = p (orb s e i))
  | 0 => by simp [wl]
  | k + 1 => by
    show x ∈ wl s p e k ++ [_, _] ↔ _
    rw [List.mem_append, mem_wl k]
    constructor
    · rintro (⟨i, h, h2⟩ | h)
      · exact ⟨i, by omega, h2⟩
      · simp at h
        exact ⟨k, by omega, h⟩
    · rintro ⟨i, h, h2⟩
      by_cases hk : i < k
      · exact .inl ⟨i, hk, h2⟩
      · have : i = k := by omega
        subst this
        exact .inr (by simpa using h2)
theorem wl_nodup (k : Nat) (hk : ∀ j, 1 ≤ j → j < k → orb s e j ≠ e) : (wl s p e k).Nodup := by
  induction k with
  | zero => exact List.nodup_nil
  | succ k ih =>
    have ih := ih fun j a b => hk j a (by omega)
    have hd : ∀ i, i < k → orb s e k ≠ orb s e i := fun i hi z => by
      have := orb_sub hs hpi hfi h0 h1 i (k - i) (by rw [show i + (k - i) = k by omega]; exact z.symm)
      exact hk (k - i) (by omega) (by omega) this
    have hp := fun i => hpi _ (orb_rng hs hpi hfi h0 h1 i).1 (orb_rng hs hpi hfi h0 h1 i).2
    show (wl s p e k ++ [_, _]).Nodup
    refine List.nodup_append.mpr ⟨ih, by simpa using fun z => orb_par' hs hpi hfi h0 h1 k k z.symm, ?_⟩
    intro x hx y hy z
    subst z
    obtain ⟨i, hi, hx⟩ := (mem_wl k).mp hx
    simp at hy
    rcases hy with rfl | rfl <;> rcases hx with hx | hx
    · exact hd i hi hx
    · exact orb_par' hs hpi hfi h0 h1 i k hx.symm
    · exact orb_par' hs hpi hfi h0 h1 k i hx
    · refine hd i hi ?_
      rw [← (hp k).2.2.1, hx, (hp i).2.2.1]
end
theorem wl_get {s p : Int → Int} {e : Int} : ∀ {k i : Nat}, i < k → (wl s p e k)[2 * i]? = some (orb s e i) ∧ (wl s p e k)[2 * i + 1]? = some (p (orb s e i))
  | 0, _, h => absurd h (by omega)
  | k + 1, i, h => by
    have hl := wl_len s p e k
    show (wl s p e k ++ [_, _])[2 * i]? = _ ∧ (wl s p e k ++ [_, _])[2 * i + 1]? = _
    by_cases hk : i < k
    · rw [List.getElem?_append_left (by omega), List.getElem?_append_left (by omega)]
      exact wl_get hk
    · have : i = k := by omega
      subst this
      rw [List.getElem?_append_right (by omega), List.getElem?_append_right (by omega), hl]
      simp
theorem perm_erase {α : Type} : ∀ {l : List α} {k : Nat} (h : k < l.length), (l[k] :: l.eraseIdx k).Perm l
  | [], _, h => absurd h (by simp)
  | a :: l, 0, _ => List.Perm.refl _
  | a :: l, k + 1, h => by
    have hk : k < l.length := by simpa using h
    exact (List.Perm.swap a l[k] (l.eraseIdx k)).trans ((perm_erase hk).cons a)
end Ty

set_option maxHeartbeats 1000000
/-! ## Ty20: list(reversed(x)) -/
namespace RT
open PySem PySem.Spec PyProof.Rows L2
section
variable {prog : Program} {w : World} {A : Around} {E : Value → Shared → Prop} {s : Shared}
end
section
variable {X : Cx}
end
end RT
namespace Ty
open PySem PySem.Spec PyProof.Rows L2
section
variable {X : Cx} {Γ : Ctx} {S L ρ α β γ A B S' : Type} [Rp ρ] {o : Ow ρ} {Γo : S → Ctx} {ΓL : L → Ctx} {a b e f : Expr} {es : List Expr} {pos p apos cpos pos2 : Pos} {ta tb te tf : TE} {t : TA} {sts : List Stmt} {tr tr' : TS} {tg : Expr}
end
end Ty

/-! ## Ty21: for r in x: r[i] = e -/
namespace Ty
open PySem PySem.Spec PyProof.Rows L2
section
variable {X : Cx} {Γ : Ctx} {S L ρ α β γ A B S' : Type} [Rp ρ] {o : Ow ρ} {Γo : S → Ctx} {ΓL : L → Ctx} {a b e f : Expr} {es : List Expr} {pos p p1 p5 apos cpos pos2 : Pos} {ta tb te tf : TE} {t : TA} {sts : List Stmt} {tr tr' : TS} {tg : Expr}
end
end Ty

/-! ## Ty22: more for the mathematics -/
namespace Ty
open PySem L2
theorem range2_ok {a b : Int} (h0 : 0 ≤ a) (h1 : a ≤ 1000) (h2 : 0 ≤ b) (h3 : b ≤ 1000) : range2 a b = .ok (rangeL a b) := by
  unfold range2 rgB
  have e : ((decide (-(2 ^ 62) ≤ a) && decide (a < 2 ^ 62)) && (decide (-(2 ^ 62) ≤ b) && decide (b < 2 ^ 62))) = true := by simp; omega
  rw [e]; rfl
theorem mem_range2 {a b x : Int} (h : x ∈ rangeL a b) : a ≤ x ∧ x < b := by
  unfold rangeL at h
  obtain ⟨i, hi, rfl⟩ := List.mem_map.mp h
  have := List.mem_range.mp hi
  omega
theorem enum_row {α : Type} (n : Nat) (g : Nat → α) : enumL (row n g) = row n fun k => ((k : Int), g k) := by
  unfold enumL row
  apply List.ext_getElem?
  intro i
  simp [List.getElem?_zipIdx]
  by_cases h : i < n
  · simp [h]
  · simp [h]
end Ty

/-! ## Ty23: a thing or None; x.insert(i, x.pop(j)) -/
namespace Ty
open PySem PySem.Spec PyProof.Rows L2
structure Op (α : Type) where
  o : Option α
  deriving DecidableEq
instance {α : Type} : Inhabited (Op α) := ⟨⟨none⟩⟩
instance rpOp {α : Type} [Rp α] : Rp (Op α) where
  sh K H v x := match x.o with
    | none => v = .non
    | some a => Rp.sh K H v a
  mono := fun {K H H' v a} e h => by
    obtain ⟨o⟩ := a
    cases o with
    | none => exact h
    | some a => exact Rp.mono e h
def Ow.op {α : Type} [Rp α] (o : Ow α) : Ow (Op α) where
  rep K HF H v x fp := match x.o with
    | none => v = .non ∧ fp = []
    | some a => o.rep K HF H v a fp
  mono := fun {K HF HF' H H' v a fp} e k h => by
    obtain ⟨x⟩ := a
    cases x with
    | none => exact h
    | some a => exact o.mono e k h
  dom := fun {K HF H v a fp} h => by
    obtain ⟨x⟩ := a
    cases x with
    | none =>
      intro p hp
      have e : fp = [] := h.2
      subst e; cases hp
    | some a => exact o.dom h
  frz := fun {K HF HF' H v a fp} e k h => by
    obtain ⟨x⟩ := a
    cases x with
    | none => exact h.1
    | some a => exact o.frz e k h
instance indOp {α : Type} [Rp α] {o : Ow α} [Ind o] : Ind o.op where
  ind := fun {K HF HF' H v a fp} h => by
    obtain ⟨x⟩ := a
    cases x with
    | none => exact h
    | some a => exact Ind.ind (o := o) h
/-- things that stand in the heap -/
class Ob (α : Type) [Rp α] : Prop where
  ref : ∀ {K : PySem.W.Frag} {H : Hp} {v : V} {a : α}, Rp.sh K H v a → ∃ p, v = .ref p
instance {α : Type} [Rp α] : Ob (List α) := ⟨fun ⟨p, _, e, _⟩ => ⟨p, e⟩⟩
instance {α : Type} [Rp α] : Ob (Tu α) := ⟨fun ⟨p, _, e, _⟩ => ⟨p, e⟩⟩
instance {α β : Type} [Rp α] [Rp β] : Ob (α × β) := ⟨fun ⟨p, _, _, e, _⟩ => ⟨p, e⟩⟩
section
variable {X : Cx} {Γ : Ctx} {S L ρ α β γ A B S' : Type} [Rp ρ] {o : Ow ρ} {Γo : S → Ctx} {ΓL : L → Ctx} {a b e f : Expr} {es : List Expr} {pos p p1 p5 apos cpos pos2 : Pos} {ta tb te tf : TE} {t : TA} {sts : List Stmt} {tr tr' : TS} {tg : Expr}
theorem ex_opN [Rp α] {w : Ow α} {j pos} : EX X Γ (.Constant .none j pos) w.op (pure (⟨none⟩ : Op α)) (tC .non) :=
  ⟨pe_non, fun HF0 G HF H σ g c hc Q k => by
    cases pure_ok hc
    exact k .non HF H [] (Step.refl g.sub) ⟨rfl, rfl⟩ List.nodup_nil (fun p hp => by cases hp)⟩
theorem ex_opS [Rp α] {w : Ow α} {m : M α} (h : EX X Γ e w m te) : EX X Γ e w.op (do let a ← m; pure (⟨some a⟩ : Op α)) te :=
  ⟨h.pe, fun HF0 G HF H σ g c hc Q k => by
    obtain ⟨i, e1, e2⟩ := bind_ok hc
    cases pure_ok e2
    exact h.sem HF0 G HF H σ g i e1 Q fun v HF' H' fp st r n f => k v HF' H' fp st r n f⟩
theorem ex_unOv [Rp α] {m : M (Op α)} (h : EX X Γ e Ow.v m te) : EX X Γ e Ow.v (do let a ← m; ofO a.o) te :=
  ⟨h.pe, fun HF0 G HF H σ g c hc Q k => by
    obtain ⟨⟨i⟩, e1, e2⟩ := bind_ok hc
    have e3 : i = some c := ofO_ok e2
    subst e3
    exact h.sem HF0 G HF H σ g _ e1 Q fun v HF' H' fp st r n f => k v HF' H' fp st r n f⟩
theorem ec_isOp [Rp α] [Ob α] {j p2} {ma : M (Op α)} (ha : EX X Γ a Ow.v ma ta) : EC X Γ .Is a (.Constant .none j p2) (do let a ← ma; pure a.o.isNone) rIsNo ta (tC .non) :=
  ⟨op_isN, ha.pe, pe_non, nomark _, fun HF0 G HF H σ g c hc Q k => by
    obtain ⟨⟨x⟩, e1, hc⟩ := bind_ok hc
    cases pure_ok hc
    refine ha.sem HF0 G HF H σ g _ e1 _ fun v HF1 H1 fp s1 r1 _ _ => ⟨rfl, ?_⟩
    have q : decide (v = V.non) = x.isNone := by
      cases x with
      | none => exact decide_eq_true r1.1
      | some x =>
        obtain ⟨p, e⟩ := Ob.ref (show Rp.sh X.K HF1 v x from r1.1)
        subst e; rfl
    rw [q]
    exact (k.back s1).flat s1.sub⟩
end
end Ty

/-! ## Ty24: {k: v}; max, min of a list; for x in l: d[x] = e -/
namespace Ty
open PySem PySem.Spec PyProof.Rows L2
section
variable {X : Cx} {Γ : Ctx} {S L ρ α β κ γ A B S' : Type} [Rp ρ] {o : Ow ρ} {Γo : S → Ctx} {ΓL : L → Ctx} {a b e f : Expr} {es : List Expr} {pos p p1 p5 apos cpos pos2 : Pos} {ta tb te tf : TE} {t : TA} {sts : List Stmt} {tr tr' : TS} {tg : Expr}
end
end Ty

/-! ## Ty25: abs -/
namespace Ty
open PySem PySem.Spec PyProof.Rows L2
section
variable {X : Cx} {Γ : Ctx} {e : Expr} {pos p : Pos} {te : TE}
end
end Ty

/-! ## Ty26: a loop that looks at own things, which stay own -/
namespace Ty
open PySem PySem.Spec PyProof.Rows L2
/-- a thing, and the value that stands for it -/
structure Pn (α : Type) where
  v : V
  a : α
instance rpPn {α : Type} [Rp α] : Rp (Pn α) where
  sh K H w x := w = x.v ∧ Rp.sh K H w x.a
  mono := fun e ⟨h1, h2⟩ => ⟨h1, Rp.mono e h2⟩
/-- those told by true lean on nothing shared -/
inductive IndC : List Bool → Ctx → Prop where
  | n : IndC [] []
  | p {fl : List Bool} {s : Sl} {Γ : Ctx} : IndC fl Γ → IndC (false :: fl) (s :: Γ)
  | u {fl : List Bool} {Γ : Ctx} : IndC fl Γ → IndC (true :: fl) (.un :: Γ)
  | i {α : Type} [Rp α] {o : Ow α} [Ind o] {a : α} {fl : List Bool} {Γ : Ctx} : IndC fl Γ → IndC (true :: fl) (.mk o a :: Γ)
/-- behind the loop -/
inductive Pe (vs : Nat → V) : Nat → List Bool → Ctx → Ctx → Ctx → Prop where
  | n {i : Nat} : Pe vs i [] [] [] []
  | p {α : Type} [Rp α] {o : Ow α} {a : α} {i : Nat} {fl : List Bool} {Γ Δ Θ : Ctx} : Pe vs (i + 1) fl Γ Δ Θ → Pe vs i (false :: fl) (.mk o a :: Γ) (.mk (α := Pn α) Ow.v ⟨vs i, a⟩ :: Δ) (.mk o a :: Θ)
  | u {f : Bool} {s t : Sl} {i : Nat} {fl : List Bool} {Γ Δ Θ : Ctx} : Pe vs (i + 1) fl Γ Δ Θ → Pe vs i (f :: fl) (s :: Γ) (t :: Δ) (.un :: Θ)
  | i {f : Bool} {α : Type} [Rp α] {o : Ow α} [Ind o] {a : α} {s : Sl} {i : Nat} {fl : List Bool} {Γ Δ Θ : Ctx} : Pe vs (i + 1) fl Γ Δ Θ → Pe vs i (f :: fl) (s :: Γ) (.mk o a :: Δ) (.mk o a :: Θ)
/-- the names told by true own fc, the others fn -/
def SplitH (K : PySem.W.Frag) (HF H : Hp) : List Bool → Ctx → L2.St → List Addr → List Addr → Prop
  | [], [], [], fc, fn => fc = [] ∧ fn = []
  | true :: fl, s :: Γ, x :: σ, fc, fn => ∃ f1 c2, HoldS K HF H s x f1 ∧ SplitH K HF H fl Γ σ c2 fn ∧ fc = f1 ++ c2
  | false :: fl, s :: Γ, x :: σ, fc, fn => ∃ f1 n2, HoldS K HF H s x f1 ∧ SplitH K HF H fl Γ σ fc n2 ∧ fn = f1 ++ n2
  | _, _, _, _, _ => False
theorem IndC.split {K : PySem.W.Frag} {HF H : Hp} : ∀ {fl : List Bool} {Γ : Ctx}, IndC fl Γ → ∀ {σ : L2.St} {fs : List Addr}, Holds K HF H Γ σ fs → fs.Nodup → ∃ fc fn : List Addr, SplitH K HF H fl Γ σ fc fn ∧ (∀ p, p ∈ fs ↔ p ∈ fc ∨ p ∈ fn) ∧ fc.Nodup ∧ fn.Nodup ∧ ∀ p ∈ fc, p ∉ fn := by
  intro fl Γ h
  have cT : ∀ {fl : List Bool} {s : Sl} {Γ : Ctx}, (∀ {σ : L2.St} {fs : List Addr}, Holds K HF H Γ σ fs → fs.Nodup → ∃ fc fn : List Addr, SplitH K HF H fl Γ σ fc fn ∧ (∀ p, p ∈ fs ↔ p ∈ fc ∨ p ∈ fn) ∧ fc.Nodup ∧ fn.Nodup ∧ ∀ p ∈ fc, p ∉ fn) →
      ∀ {σ : L2.St} {fs : List Addr}, Holds K HF H (s :: Γ) σ fs → fs.Nodup → ∃ fc fn : List Addr, SplitH K HF H (true :: fl) (s :: Γ) σ fc fn ∧ (∀ p, p ∈ fs ↔ p ∈ fc ∨ p ∈ fn) ∧ fc.Nodup ∧ fn.Nodup ∧ ∀ p ∈ fc, p ∉ fn := by
    intro fl s Γ ih σ fs h nd
    cases σ with
    | nil => exact h.elim
    | cons x σ =>
      obtain ⟨f1, f2, e, h1, h2⟩ := h
      rw [e] at nd
      obtain ⟨n1, n2, n3⟩ := List.nodup_append.mp nd
      obtain ⟨fc, fn, q0, q1, q2, q3, q4⟩ := ih h2 n2
      refine ⟨f1 ++ fc, fn, ⟨f1, fc, h1, q0, rfl⟩, fun p => ?_, List.nodup_append.mpr ⟨n1, q2, fun p hp q hq => n3 p hp q ((q1 q).mpr (.inl hq))⟩, q3, fun p hp hq => ?_⟩
      · rw [e, List.mem_append, List.mem_append, q1]
        constructor
        · rintro (a | a | a)
          · exact .inl (.inl a)
          · exact .inl (.inr a)
          · exact .inr a
        · rintro ((a | a) | a)
          · exact .inl a
          · exact .inr (.inl a)
          · exact .inr (.inr a)
      · rcases List.mem_append.mp hp with z | z
        · exact n3 p z p ((q1 p).mpr (.inr hq)) rfl
        · exact q4 p z hq
  induction h with
  | n =>
    intro σ fs h nd
    cases σ with
    | nil =>
      have e : fs = [] := h
      subst e
      exact ⟨[], [], ⟨rfl, rfl⟩, fun p => by simp, List.nodup_nil, List.nodup_nil, by simp⟩
    | cons x σ => exact h.elim
  | @p fl s Γ _ ih =>
    intro σ fs h nd
    cases σ with
    | nil => exact h.elim
    | cons x σ =>
      obtain ⟨f1, f2, e, h1, h2⟩ := h
      rw [e] at nd
      obtain ⟨n1, n2, n3⟩ := List.nodup_append.mp nd
      obtain ⟨fc, fn, q0, q1, q2, q3, q4⟩ := ih h2 n2
      refine ⟨fc, f1 ++ fn, ⟨f1, fn, h1, q0, rfl⟩, fun p => ?_, q2, List.nodup_append.mpr ⟨n1, q3, fun p hp q hq => n3 p hp q ((q1 q).mpr (.inr hq))⟩, fun p hp hq => ?_⟩
      · rw [e, List.mem_append, List.mem_append, q1]
        constructor
        · rintro (a | a | a)
          · exact .inr (.inl a)
          · exact .inl a
          · exact .inr (.inr a)
        · rintro (a | a | a)
          · exact .inr (.inl a)
          · exact .inl a
          · exact .inr (.inr a)
      · rcases List.mem_append.mp hq with z | z
        · exact n3 p z p ((q1 p).mpr (.inl hp)) rfl
        · exact q4 p hp z
  | u _ ih => exact fun h nd => cT (fun h nd => ih h nd) h nd
  | i _ ih => exact fun h nd => cT (fun h nd => ih h nd) h nd
theorem Pe.join {K : PySem.W.Frag} {vs : Nat → V} {HF H L' H' : Hp} : ∀ {i : Nat} {fl : List Bool} {Γ Δ Θ : Ctx}, Pe vs i fl Γ Δ Θ → ∀ {σ σ' : L2.St} {fc fn fe : List Addr}, SplitH K HF H fl Γ σ fc fn → Holds K L' H' Δ σ' fe → (∀ j v, σ[j]? = some (some v) → vs (i + j) = v) → (∀ p ∈ fn, ∀ o, H p = some o → H' p = some o) → fn.Nodup → fe.Nodup → (∀ p ∈ fe, p ∉ fn) →
    ∃ fs', Holds K HF H' Θ σ' fs' ∧ fs'.Nodup ∧ ∀ p ∈ fs', p ∈ fe ∨ p ∈ fn := by
  intro i fl Γ Δ Θ h
  -- what of the split stays for the rest
  have rest : ∀ {f : Bool} {fl : List Bool} {s : Sl} {Γ : Ctx} {x : Option V} {σ : L2.St} {fc fn : List Addr}, SplitH K HF H (f :: fl) (s :: Γ) (x :: σ) fc fn → ∃ c2 n2, SplitH K HF H fl Γ σ c2 n2 ∧ (∀ p ∈ n2, p ∈ fn) ∧ (fn.Nodup → n2.Nodup) := by
    intro f fl s Γ x σ fc fn h
    cases f with
    | true =>
      obtain ⟨f1, c2, _, h2, _⟩ := h
      exact ⟨c2, fn, h2, fun p hp => hp, fun h => h⟩
    | false =>
      obtain ⟨f1, n2, _, h2, e⟩ := h
      subst e
      exact ⟨fc, n2, h2, fun p hp => List.mem_append_right _ hp, fun nd => (List.nodup_append.mp nd).2.1⟩
  induction h with
  | n =>
    intro σ σ' fc fn fe h1 h2 hv hk nn ne hd
    cases σ' with
    | nil => exact ⟨[], rfl, List.nodup_nil, by simp⟩
    | cons x σ' => exact h2.elim
  | @p α ir o a i fl Γ Δ Θ _ ih =>
    intro σ σ' fc fn fe h1 h2 hv hk nn ne hd
    cases σ with
    | nil => exact h1.elim
    | cons x σ =>
      cases σ' with
      | nil => exact h2.elim
      | cons x' σ' =>
        obtain ⟨f1, n2, ⟨v, hx, r⟩, h12, e⟩ := h1
        subst e hx
        obtain ⟨g1, g2, e', ⟨v', hx', ⟨e1, _⟩, e2⟩, h22⟩ := h2
        have e2 : g1 = [] := e2
        subst e2
        rw [List.nil_append] at e'
        subst e'
        obtain ⟨m1, m2, m3⟩ := List.nodup_append.mp nn
        obtain ⟨fs', w1, w2, w3⟩ := ih h12 h22 (fun j v hj => by rw [show i + 1 + j = i + (j + 1) by omega]; exact hv (j + 1) v hj) (fun p hp => hk p (List.mem_append_right _ hp)) m2 ne fun p hp hq => hd p hp (List.mem_append_right _ hq)
        have ev : v' = v := e1.trans (hv 0 v rfl)
        refine ⟨f1 ++ fs', ⟨f1, fs', rfl, ⟨v, by rw [hx', ev], @Ow.mono α ir o _ _ _ _ _ _ _ _ (Same.refl _) (fun p hp => hk p (List.mem_append_left _ hp)) r⟩, w1⟩, List.nodup_append.mpr ⟨m1, w2, fun p hp q hq e => ?_⟩, fun p hp => ?_⟩
        · subst e
          rcases w3 p hq with z | z
          · exact hd p z (List.mem_append_left _ hp)
          · exact m3 p hp p z rfl
        · rcases List.mem_append.mp hp with z | z
          · exact .inr (List.mem_append_left _ z)
          · exact (w3 p z).imp id (List.mem_append_right _)
  | @u f s t i fl Γ Δ Θ _ ih =>
    intro σ σ' fc fn fe h1 h2 hv hk nn ne hd
    cases σ with
    | nil => cases f <;> exact h1.elim
    | cons x σ =>
      cases σ' with
      | nil => exact h2.elim
      | cons x' σ' =>
        obtain ⟨c2, n2, h12, hn2, hnn⟩ := rest h1
        obtain ⟨g1, g2, e', _, h22⟩ := h2
        subst e'
        obtain ⟨m1, m2, m3⟩ := List.nodup_append.mp ne
        obtain ⟨fs', w1, w2, w3⟩ := ih h12 h22 (fun j v hj => by rw [show i + 1 + j = i + (j + 1) by omega]; exact hv (j + 1) v hj) (fun p hp => hk p (hn2 p hp)) (hnn nn) m2 fun p hp hq => hd p (List.mem_append_right _ hp) (hn2 p hq)
        exact ⟨fs', ⟨[], fs', rfl, rfl, w1⟩, w2, fun p hp => (w3 p hp).imp (List.mem_append_right _) (hn2 p)⟩
  | @i f α ir o io a s i fl Γ Δ Θ _ ih =>
    intro σ σ' fc fn fe h1 h2 hv hk nn ne hd
    cases σ with
    | nil => cases f <;> exact h1.elim
    | cons x σ =>
      cases σ' with
      | nil => exact h2.elim
      | cons x' σ' =>
        obtain ⟨c2, n2, h12, hn2, hnn⟩ := rest h1
        obtain ⟨g1, g2, e', ⟨v, hx, r⟩, h22⟩ := h2
        subst e'
        obtain ⟨m1, m2, m3⟩ := List.nodup_append.mp ne
        obtain ⟨fs', w1, w2, w3⟩ := ih h12 h22 (fun j v hj => by rw [show i + 1 + j = i + (j + 1) by omega]; exact hv (j + 1) v hj) (fun p hp => hk p (hn2 p hp)) (hnn nn) m2 fun p hp hq => hd p (List.mem_append_right _ hp) (hn2 p hq)
        refine ⟨g1 ++ fs', ⟨g1, fs', rfl, ⟨v, hx, Ind.ind r⟩, w1⟩, List.nodup_append.mpr ⟨m1, w2, fun p hp q hq e => ?_⟩, fun p hp => ?_⟩
        · subst e
          rcases w3 p hq with z | z
          · exact m3 p hp p z rfl
          · exact hd p (List.mem_append_left _ hp) (hn2 p z)
        · rcases List.mem_append.mp hp with z | z
          · exact .inl (List.mem_append_left _ z)
          · exact (w3 p z).imp (List.mem_append_right _) (hn2 p)
section
variable {X : Cx} {Γ : Ctx} {S L ρ α β κ γ A B S' : Type} [Rp ρ] {o : Ow ρ} {Γo : S → Ctx} {ΓL : L → Ctx} {a b e f : Expr} {es : List Expr} {pos p p1 p5 apos cpos pos2 : Pos} {ta tb te tf : TE} {t : TA} {sts : List Stmt} {tr tr' : TS} {tg : Expr}
end
end Ty

/-! ## Ty27: x.pop() of own things -/
namespace Ty
open PySem PySem.Spec PyProof.Rows L2
section
variable {X : Cx} {Γ : Ctx} {S L ρ α β κ γ A B S' : Type} [Rp ρ] {o : Ow ρ} {Γo : S → Ctx} {ΓL : L → Ctx} {a b e f : Expr} {es : List Expr} {pos p p1 p5 apos cpos pos2 : Pos} {ta tb te tf : TE} {t : TA} {sts : List Stmt} {tr tr' : TS} {tg : Expr}
end
end Ty

/-! ## Ty28: own exceptions without own __init__: raised, let through, caught -/
namespace Ty
open PySem PySem.Spec PyProof.Rows L2
/-- the class of a name -/
abbrev clv (K : PySem.W.Frag) (c : Str) : Value := .ref (He.ga K c)
def vOf (K : PySem.W.Frag) (D : Str) : Value := if D = ("ValueError" : Str) then .type "ValueError" else clv K D
/-- what is told of the classes: c under D or not -/
abbrev CTab := List (Str × Str × Bool)
structure ExF (K : PySem.W.Frag) (names : List Str) (tb : CTab) : Prop where
  ok : ∀ c ∈ names, PySem.W.excIn K (He.ga K c) He.veBase "ValueError.__new__" = true ∧ PySem.W.keepIn K (clv K c) = true ∧ PySem.W.subIn K (clv K c) (.type "BaseException") = some true ∧ PySem.W.typeIn K (clv K c) = some (.type "type") ∧ PySem.W.nsIn K mainGlobals c = some (some (clv K c))
  cls : ∀ c ∈ names, ExcC K (He.ga K c)
  kit : ∀ {c D b}, (c, D, b) ∈ tb → PySem.W.kitOne K (clv K c) (vOf K D) = some b
  exm : ∀ {c D b}, (c, D, b) ∈ tb → PySem.W.exmOne K (clv K c) (vOf K D) = some b
theorem ExF.raises {X : Cx} {names : List Str} {tb : CTab} (T : ExF X.K names tb) {c : Str} (hc : c ∈ names) : Raises X (clv X.K c) := raises_own (T.ok c hc).2.2.1 (T.ok c hc).2.2.2.1
/-- a value, or the name of the class of what is raised -/
instance rpRs {ρ : Type} [Rp ρ] : Rp (ρ ⊕ Str) where
  sh K H v x := match x with
    | .inl r => Rp.sh K H v r
    | .inr _ => True
  mono := fun {K H H' v a} e h => by
    cases a with
    | inl r => exact Rp.mono e h
    | inr _ => trivial
def Ow.x {ρ : Type} [Rp ρ] (o : Ow ρ) (cl : Str → Value) (E : XK) : Ow (ρ ⊕ Str) where
  rep K HF H v x fp := match x with
    | .inl r => o.rep K HF H v r fp
    | .inr _ => fp = []
  mono := fun {K HF HF' H H' v a fp} e k h => by
    cases a with
    | inl r => exact o.mono e k h
    | inr _ => exact h
  dom := fun {K HF H v a fp} h p hp => by
    cases a with
    | inl r => exact o.dom h p hp
    | inr _ =>
      have h : fp = [] := h
      subst h; cases hp
  frz := fun {K HF HF' H v a fp} e k h => by
    cases a with
    | inl r => exact o.frz e k h
    | inr _ => trivial
  out x R v H := match x with
    | .inl r => o.out r R v H
    | .inr c => E (cl c) none H
section
variable {P : Program} {w : World} {K : PySem.W.Frag} {mg : Str → Option Value} {base : Heap}
end
section
variable {X : Cx} {Γ : Ctx} {S L ρ α β A S' : Type} [Rp ρ] {o : Ow ρ} {Γo : S → Ctx} {ΓL : L → Ctx} {a b e f : Expr} {es : List Expr} {pos p p1 p2 pos2 : Pos} {ta tb te tf : TE} {t : TA} {sts : List Stmt} {tr tr' : TS}
/-- an expression that may raise -/
structure EXr [Rp ρ] (X : Cx) (W : WX) (Γ : Ctx) (e : Expr) (o : Ow ρ) (m : M (ρ ⊕ Str)) (t : TE) : Prop where
  pe : PE X e t
  sem : ∀ HF0 G HF H σ, Good X.K HF0 G Γ HF H σ → ∀ c, m = .ok c → ∀ Q : VK, (match c with
    | .inl r => RetK X.K HF H o r Q
    | .inr x => ∀ HF' H', Step HF H HF' H' → W (clv X.K x) none σ H') → t σ H Q
section
variable {K : PySem.W.Frag} {E : XK}
end
/-! ### try -/
structure BX (X : Cx) (W : WX) (Γ : Ctx) (sts : List Stmt) (Γb : α → Ctx) (m : M (α ⊕ Str)) (t : TS) : Prop where
  pss : PSs X sts t
  sem : ∀ HF0 G HF H σ, Good X.K HF0 G Γ HF H σ → ∀ c, m = .ok c → ∀ D : Ends, (match c with
    | .inl a => ∀ HF' H' σ', Same HF HF' → Good X.K HF0 G (Γb a) HF' H' σ' → D.nx σ' H'
    | .inr x => ∀ HF' H', Step HF H HF' H' → W (clv X.K x) none σ H') → t D σ H
/-- the exception that a suite holds -/
structure ExO where
  a : Addr
instance : Rp ExO where
  sh _ _ v x := v = .ref x.a
  mono := fun _ h => h
end
end Ty

/-! ## Ty29: sorted(set(..)) of a list of whole numbers -/
namespace Ty
open PySem PySem.Spec PyProof.Rows L2
section
variable {P : Program} {w : World} {A : Around} {E : Value → Shared → Prop} {s : Shared}
abbrev set0 (w : World) : Obj := { cls := .type "set", dict := none, data := .set #[] 0 (.fresh 0 0 (!w.params.followText "set-order")) }
end
/-- each once -/
def once (l : List Int) : List Int := l.foldr (fun x r => if x ∈ r then r else x :: r) []
theorem once_cons (x : Int) (l : List Int) : once (x :: l) = if x ∈ once l then once l else x :: once l := rfl
theorem mem_once {x : Int} : ∀ {l : List Int}, x ∈ once l ↔ x ∈ l
  | [] => Iff.rfl
  | y :: l => by
    rw [once_cons]
    have ih := mem_once (x := x) (l := l)
    split
    · rename_i h
      rw [ih, List.mem_cons]
      constructor
      · exact .inr
      · rintro (z | z)
        · rw [z]; exact mem_once.mp h
        · exact z
    · rw [List.mem_cons, List.mem_cons, ih]
theorem nodup_once : ∀ {l : List Int}, (once l).Nodup
  | [] => List.nodup_nil
  | y :: l => by
    rw [once_cons]
    split
    · exact nodup_once
    · exact List.nodup_cons.mpr ⟨‹_›, nodup_once⟩
/-- rising, each once -/
def sset (l : List Int) : List Int := isort (once l)
theorem isort_perm (l : List Int) : (isort l).Perm l := List.mergeSort_perm _ _
theorem isort_up (l : List Int) : (isort l).Pairwise (· ≤ ·) := by
  have h1 : List.Pairwise (fun a b : Int => decide (a ≤ b) = true) (isort l) := List.pairwise_mergeSort (fun a b c h1 h2 => by simp at *; omega) (fun a b => by simp; omega) l
  exact h1.imp fun h => by simpa using h
theorem mem_sset {x : Int} {l : List Int} : x ∈ sset l ↔ x ∈ l := (isort_perm _).mem_iff.trans mem_once
theorem sset_up (l : List Int) : (sset l).Pairwise (· < ·) := by
  have h1 := isort_up (once l)
  have h2 : (sset l).Nodup := (isort_perm _).nodup_iff.mpr nodup_once
  rw [List.nodup_iff_pairwise_ne] at h2
  exact (List.pairwise_and_iff.mpr ⟨h1, h2⟩).imp fun ⟨a, b⟩ => by omega
section
variable {X : Cx} {Γ : Ctx} {a : Expr} {p p2 q : Pos} {ta : TE}
end
end Ty

/-! ## Ty30: defs without a return; lists that may be another's -/
namespace Ty
open PySem PySem.Spec PyProof.Rows L2
section
variable {P : Program} {w : World} {K : PySem.W.Frag} {mg : Str → Option Value} {base : Heap}
end
/-- a thing that is own, or another's -/
structure Al (α : Type) where
  sh : Bool
  a : α
instance {α : Type} [Inhabited α] : Inhabited (Al α) := ⟨⟨true, default⟩⟩
instance rpAl {α : Type} [Rp α] : Rp (Al α) where
  sh K H v x := Rp.sh K H v x.a
  mono := fun e h => Rp.mono e h
def Ow.al {α : Type} [Rp α] (u : Ow α) : Ow (Al α) where
  rep K HF H v x fp := if x.sh then (Rp.sh K HF v x.a ∧ fp = []) else u.rep K HF H v x.a fp
  mono := fun {K HF HF' H H' v x fp} e k h => by
    cases q : x.sh with
    | true =>
      rw [q, if_pos rfl] at h
      rw [if_pos rfl]
      exact ⟨Rp.mono e h.1, h.2⟩
    | false =>
      rw [q, if_neg (by simp)] at h
      rw [if_neg (by simp)]
      exact u.mono e k h
  dom := fun {K HF H v x fp} h p hp => by
    cases q : x.sh with
    | true =>
      rw [q, if_pos rfl] at h
      rw [h.2] at hp; cases hp
    | false =>
      rw [q, if_neg (by simp)] at h
      exact u.dom h p hp
  frz := fun {K HF HF' H v x fp} e k h => by
    cases q : x.sh with
    | true =>
      rw [q, if_pos rfl] at h
      exact Rp.mono e h.1
    | false =>
      rw [q, if_neg (by simp)] at h
      exact u.frz e k h
section
variable {X : Cx} {Γ : Ctx} {S L ρ α β A S' : Type} [Rp ρ] {o : Ow ρ} {Γo : S → Ctx} {ΓL : L → Ctx} {a b e f : Expr} {es : List Expr} {pos p p1 p2 pos2 : Pos} {ta tb te tf : TE} {t : TA} {sts : List Stmt} {tr tr' : TS}
end
end Ty

/-! ## Ty31: things in lists of data; x.clear(); calls that could raise but don't -/
namespace Ty
open PySem PySem.Spec PyProof.Rows L2
theorem un65 {k : Nat} {A : Around} (r : Room k A) : A.units + 65 < cLine := by have := r.un; omega
def inDM {α : Type} [Rp α] [DecidableEq α] [Eqv α] (a : α) (b : List α) : M Bool := do gd (Eqv.ok a && Eqv.ok b); pure (decide (a ∈ b))
theorem any_eqv {α : Type} [Rp α] [DecidableEq α] [Eqv α] (a : α) : ∀ bs : List α, ((bs.map Eqv.py).any fun z => PyData.eqv z (Eqv.py a)) = decide (a ∈ bs)
  | [] => rfl
  | b :: bs => by
    rw [List.map_cons, List.any_cons, any_eqv a bs, Eqv.eqv]
    by_cases h : b = a
    · subst h; simp
    · have h' : ¬ a = b := fun z => h z.symm
      simp [h, h']
section
variable {X : Cx} {Γ : Ctx} {S L ρ α β γ A B S' : Type} {o : Expr} {a b e : Expr} {es : List Expr} {pos p apos cpos p1 p2 : Pos} {ta tb te : TE} {t : TA} {sts : List Stmt} {tr : TS}
theorem ec_ninD {K : PySem.W.Frag} [Rp α] [DecidableEq α] [Eqv α] {ma : M α} {mb : M (List α)} (hu : X.A.units + 65 < cLine) (ha : EX X Γ a Ow.v ma ta) (hb : EX X Γ b Ow.v mb tb) (hd : Eqv.dep α + 1 ≤ 64 := by decide) (hm : behindInMarks .NotIn b = false := by rfl) (hK : X.K = K := by rfl) : EC X Γ .NotIn a b (do let a ← ma; let b ← mb; let c ← inDM a b; pure (!c)) (rNotInD K) ta tb := by
  subst hK
  exact ec_of (op_notInD hu) (fun HF H v w a b c s ra rb hc Q k => by
    obtain ⟨c1, e0, hc⟩ := bind_ok hc
    obtain ⟨u, e3, hc1⟩ := bind_ok e0
    cases pure_ok hc1
    cases pure_ok hc
    have e2 := gd_ok e3
    rw [Bool.and_eq_true] at e2
    refine ⟨Eqv.py a, b.map Eqv.py, Eqv.dp (Rp.mono s ra), Eqv.dp (α := List α) (Rp.mono s rb), eqv_shaped e2.1 (by omega), eqv_shaped (α := List α) e2.2 hd, ?_⟩
    rw [any_eqv]; exact k.flat s) ha hb hm
end
/-! ### x.clear() -/
section
variable {X : Cx} {Γ : Ctx} {S L ρ α : Type} [Rp ρ] {o : Ow ρ} {Γo : S → Ctx} {ΓL : L → Ctx} {pos p apos cpos : Pos} {sts : List Stmt} {tr : TS}
end
end Ty

/-! ## Ty32: a def that is handed the exception which an except suite holds -/
namespace Ty
open PySem PySem.Spec PyProof.Rows L2
/-- what is known of the exception at hand: its class is c -/
structure ExP (K : PySem.W.Frag) (c : Str) (p : Addr × Obj) : Prop where
  C : ExcC K (He.ga K c)
  hz : Zc (clv K c) none p.2
  hf : ∃ vs, p.2.data = .fields vs
def spE {ρ : Type} [Rp ρ] (K : PySem.W.Frag) (o : Ow ρ) (fm : Str → M ρ) (c : Str) (H : Hp) (Q : VK) : Prop := ∃ HF r, Same HF H ∧ fm c = .ok r ∧ RetK K HF H o r Q
structure FnE (P : Program) (w : World) (K : PySem.W.Frag) (mg : Str → Option Value) (base : Heap) (k : Nat) (f : Addr) (fd : FuncData) (y : Str) {ρ : Type} [Rp ρ] (o : Ow ρ) (fm : Str → M ρ) : Prop where
  run : ∀ (A : Around) (outer : List Env) (s : Shared) (H : Hp) (args : Args) (Q : VK) (E : XK) (p : Addr × Obj) (c : Str), L2H.RoomH k A → ExP K c p → L2H.PinOk outer H s p → Env0 P w K mg base A outer s H → BindsTo s fd args [(y, .ref p.1)] → spE K o fm c H Q →
    codeAny (model P w) A (.call (.ref f) args) (CR CX0 outer P w H s Q E) s
section
variable {P : Program} {w : World} {K : PySem.W.Frag} {mg : Str → Option Value} {base : Heap}
end
section
variable {X : Cx} {Γ : Ctx} {ρ : Type} [Rp ρ] {o : Ow ρ} {a b e f : Expr} {es : List Expr} {pos p p1 p2 pos2 : Pos} {ta tb te tf : TE} {t : TA}
end
/-! ### x.pop(i) of own things -/
theorem Rl.eraseIdx {α : Type} {R : V → α → List Addr → Prop} : ∀ {vs : List V} {as : List α} {fp : List Addr} (i : Nat), Rl R vs as fp → ∃ fp', Rl R (vs.eraseIdx i) (as.eraseIdx i) fp' ∧ (∀ p ∈ fp', p ∈ fp) ∧ (fp.Nodup → fp'.Nodup)
  | [], [], fp, _, h => ⟨fp, h, fun _ h => h, fun h => h⟩
  | v :: vs, a :: as, fp, 0, ⟨f1, f2, e, h1, h2⟩ => ⟨f2, h2, fun p hp => by rw [e]; exact List.mem_append_right _ hp, fun nd => by rw [e] at nd; exact (List.nodup_append.mp nd).2.1⟩
  | v :: vs, a :: as, fp, i + 1, ⟨f1, f2, e, h1, h2⟩ => by
    obtain ⟨f', q1, q2, q3⟩ := Rl.eraseIdx i h2
    refine ⟨f1 ++ f', ⟨f1, f', rfl, h1, q1⟩, fun p hp => ?_, fun nd => ?_⟩
    · rw [e]
      rcases List.mem_append.mp hp with z | z
      · exact List.mem_append_left _ z
      · exact List.mem_append_right _ (q2 p z)
    · rw [e] at nd
      obtain ⟨a1, a2, a3⟩ := List.nodup_append.mp nd
      exact List.nodup_append.mpr ⟨a1, q3 a2, fun p hp q hq e => a3 p hp q (q2 q hq) e⟩
  | [], _ :: _, _, _, h => h.elim
  | _ :: _, [], _, _, h => h.elim
section
variable {X : Cx} {Γ : Ctx} {S L ρ α β κ γ A B S' : Type} [Rp ρ] {o : Ow ρ} {Γo : S → Ctx} {ΓL : L → Ctx} {a b e f : Expr} {es : List Expr} {pos p p1 p5 apos cpos pos2 : Pos} {ta tb te tf : TE} {t : TA} {sts : List Stmt} {tr tr' : TS} {tg : Expr}
end
end Ty

/-! ## Ty33: methods of texts; join; extend; enumerate of a text -/
namespace Ty
open PySem PySem.Spec PyProof.Rows L2
def rCount : V → List V → Hp → VK → Prop := fun x xs H Q => ∃ a b, x = .str a ∧ xs = [.str b] ∧ Q (.int (Txt.count a b)) H
section
variable {X : Cx} {Γ : Ctx} {S L ρ α β γ A B S' : Type} {a b e o : Expr} {es : List Expr} {pos p p1 p2 apos cpos : Pos} {ta tb te to : TE} {t : TA} {sts : List Stmt} {tr : TS}
/-- text.name(args) -/
theorem ex_tm {A γ : Type} [Rp γ] {w : Ow γ} {name : Str} {id : String} {K : PySem.W.Frag} {r : V → List V → Hp → VK → Prop} {r0 : As A} {f : Str → A → M γ} {mo : M Str} {ma : M A}
    (slot : Slot "str" name id) (hty : typeOf (.builtin id) = pure (.type "method_descriptor")) (hm : MtR X id r)
    (hr : ∀ HF H (x : Str) vs (y : A) (c : γ), Same HF H → r0.rep K HF vs y → f x y = .ok c → ∀ Q : VK, RetK K HF H w c Q → r (.str x) vs H Q)
    (ho : EX X Γ o Ow.v mo to) (ha : EA X Γ (e :: es) r0 ma t)
    (hbase : attributeBase o name X.env (eval o X.env) = eval o X.env := by rfl)
    (hfew : ((backTo cpos (starEach (e :: es) X.env)).all (fun x => !x.1) && (backToKw cpos (keywordEach [] X.env)).all (fun x => x.1.isSome)
      && decide ((e :: es).length + ([] : List Keyword).length + (if ([] : List Keyword).isEmpty then 0 else 1) < 30)) = true := by rfl)
    (hline : (apos.endLine == cpos.line) = true := by rfl) (hs : starEach (e :: es) X.env = (false, eval e X.env) :: starEach es X.env := by rfl) (hplain : (backTo cpos (starEach es X.env)).any (·.1) = false := by rfl) (hK : X.K = K := by rfl) :
    EX X Γ (.Call (.Attribute o name apos) (e :: es) [] cpos) w (do let x ← mo; let y ← ma; f x y) (tBM K "str" r to t) := by
  subst hK
  exact ⟨pe_bm PySem.F.plainAttrs_str slot hty hm ho.pe ha.pa hbase hfew hline hs hplain, fun HF0 G HF H σ g c hc Q k => by
    obtain ⟨x, e1, hc⟩ := bind_ok hc
    obtain ⟨y, e2, hc⟩ := bind_ok hc
    refine ho.sem HF0 G HF H σ g x e1 _ fun v HF1 H1 fp s1 r1 _ _ => ?_
    have r1 := Fl.sh_iff.mp r1.1
    subst r1
    refine ⟨rfl, ?_⟩
    refine ha.sem HF0 G HF1 H1 σ (g.step s1) y e2 _ fun vs HF2 H2 s2 r2 => ?_
    exact hr HF2 H2 x vs y c s2.sub r2 hc Q (k.back (s1.trans s2))⟩
theorem as1 {α : Type} [Rp α] {K : PySem.W.Frag} {HF : Hp} {vs : List V} {y : α × Unit} (h : (As.cons (α := α) As.nil).rep K HF vs y) : ∃ v, vs = [v] ∧ Rp.sh K HF v y.1 := by
  obtain ⟨v, ws, h1, h2, h3⟩ := h
  have h3 : ws = [] := h3
  subst h3
  exact ⟨v, h1, h2⟩
theorem ex_count {K : PySem.W.Frag} {mo : M Str} {ma : M (Str × Unit)} (ho : EX X Γ o Ow.v mo to) (ha : EA X Γ [e] (As.cons (α := Str) As.nil) ma t) (hbase : attributeBase o "count" X.env (eval o X.env) = eval o X.env := by rfl)
    (hfew : ((backTo cpos (starEach [e] X.env)).all (fun x => !x.1) && (backToKw cpos (keywordEach [] X.env)).all (fun x => x.1.isSome)
      && decide ([e].length + ([] : List Keyword).length + (if ([] : List Keyword).isEmpty then 0 else 1) < 30)) = true := by rfl)
    (hline : (apos.endLine == cpos.line) = true := by rfl) (hs : starEach [e] X.env = (false, eval e X.env) :: starEach [] X.env := by rfl) (hplain : (backTo cpos (starEach [] X.env)).any (·.1) = false := by rfl) (hK : X.K = K := by rfl) :
    EX X Γ (.Call (.Attribute o "count" apos) [e] [] cpos) Ow.v (do let x ← mo; let y ← ma; pure (Txt.count x y.1)) (tBM K "str" rCount to t) :=
  ex_tm (r := rCount) (A := Str × Unit) (γ := Int) (w := Ow.v) (f := fun (x : Str) (y : Str × Unit) => (pure (Txt.count x y.1) : M Int)) PySem.F.slot_str_count PySem.F.type_str_count mt_count (fun HF H x vs y c s h hc Q k => by
    obtain ⟨v, rfl, z⟩ := as1 h
    cases pure_ok hc
    exact ⟨x, y.1, rfl, by rw [Fl.sh_iff.mp z]; rfl, k.flat s⟩) ho ha hbase hfew hline hs hplain hK
def indexM (x y : Str) : M Int := do let k ← ofO (Txt.index0 x y); pure (k : Int)
end
end Ty

/-! ## Ty34: sorted(set(text)) -/
namespace Ty
open PySem PySem.Spec PyProof.Rows L2
def keyS (e : Int × Value) : Str := match e.2 with | .str k _ => k | _ => ⟨#[]⟩
def GoodS (w : World) (e : Int × Value) : Prop := ∃ k tk, e.2 = Value.str k tk ∧ e.1 = hashStr w k
theorem is_strT (k : Str) (u : Tok) {P : Program} {w : World} : (strKind P w).is k (.str k u) = true := by
  show Value.isStrOf k (.str k u) = true
  simp [Value.isStrOf]
theorem goodS_elems {P : Program} {w : World} {l : List (Int × Value)} (g : ∀ e ∈ l, GoodS w e) : ElemsOf (strKind P w) l := fun e he => by
  obtain ⟨k, tk, h1, h2⟩ := g e he
  exact ⟨⟨k, by rw [h1]; exact is_strT k tk, h2⟩, by rw [h1] <;> rfl⟩
theorem goodS_is {P : Program} {w : World} {e : Int × Value} (g : GoodS w e) (k : Str) : (strKind P w).is k e.2 = true ↔ keyS e = k := by
  obtain ⟨k0, tk, h1, _⟩ := g
  have h2 : keyS e = k0 := by unfold keyS; rw [h1]
  rw [h2]
  constructor
  · intro h
    exact ((strKind P w).inj _ _ _ h (by rw [h1]; exact is_strT k0 tk)).symm
  · rintro rfl
    rw [h1]
    exact is_strT k0 tk
theorem goodS_mem {P : Program} {w : World} {l : List (Int × Value)} (g : ∀ e ∈ l, GoodS w e) (k : Str) : k ∈ l.map keyS ↔ ∃ e ∈ l, (strKind P w).is k e.2 = true := by
  rw [List.mem_map]
  constructor
  · rintro ⟨e, he, q⟩
    exact ⟨e, he, (goodS_is (g e he) k).2 q⟩
  · rintro ⟨e, he, q⟩
    exact ⟨e, he, (goodS_is (P := P) (g e he) k).1 q⟩
/-- the set of texts at a -/
def SetX (w : World) (h : Heap) (a : Addr) (S : Str → Bool) (n : Nat) : Prop :=
  ∃ o es ep t, h.get? a = some o ∧ o.ExactSet ∧ o.data = .set es ep t ∧ (∀ e ∈ es.toList, GoodS w e) ∧ (es.toList.map keyS).Nodup ∧ (∀ k, S k = true ↔ k ∈ es.toList.map keyS) ∧
    es.size < scanBound ∧ t.fits es.size = true ∧ es.size = n ∧ Ris t.place.toList ∧ (w.params.followText "set-order" = true ∨ t.led = true)
section
variable {P : Program} {w : World} {h h' : Heap} {a : Addr} {S : Str → Bool} {n : Nat}
theorem SetX.at (R : SetX w h a S n) (k : ∀ o, h.get? a = some o → h'.get? a = some o) : SetX w h' a S n := by
  obtain ⟨o, es, ep, t, ho, r⟩ := R
  exact ⟨o, es, ep, t, k o ho, r⟩
theorem SetX.congr {S' : Str → Bool} (R : SetX w h a S n) (e : ∀ k, S' k = S k) : SetX w h a S' n := by
  have q : S' = S := funext e
  rw [q]; exact R
end
section
variable {P : Program} {w : World} {A : Around} {E : Value → Shared → Prop} {s : Shared} {a : Addr} {S : Str → Bool} {n : Nat}
theorem setX_add_tail {g : Bool → Sem Unit} (hg : ∀ (b : Bool) (s₁ : Shared) (Q' : Unit → Shared → Prop), Q' () s₁ → wpAny (model P w) A (g b) Q' E s₁)
    {o : Obj} {es : Array (Int × Value)} {ep : Nat} {t : SetTable} (ho : s.heap.get? a = some o) (hex : o.ExactSet) (hd : o.data = .set es ep t)
    {es1 : Array (Int × Value)} {t2 : SetTable} {S' : Str → Bool} (g1 : ∀ e ∈ es1.toList, GoodS w e) (nd1 : (es1.toList.map keyS).Nodup) (m1 : ∀ k, S' k = true ↔ k ∈ es1.toList.map keyS)
    (hb1 : es1.size < scanBound) (hf2 : t2.fits es1.size = true) (hr : Ris t2.place.toList) (hl : w.params.followText "set-order" = true ∨ t2.led = true) {wasDummy : Bool} {R : Option Bool → Shared → Prop}
    (hR : ∀ h', Heap.SameBut a s.heap h' → SetX w h' a S' es1.size → R (some true) { s with heap := h' }) :
    wpAny (model P w) A (do
        storeSet a es1 t2
        if (!wasDummy && t2.tooFull) = true then do
            g (relayAll t2 es1 (SetTable.grown es1.size)).2.2
            storeSet a (relayAll t2 es1 (SetTable.grown es1.size)).1 (relayAll t2 es1 (SetTable.grown es1.size)).2.1
            pure (some true)
          else pure (some true)) R E s := by
  refine wpAny_bind (wpAny_storeSet_of ho hd ?_ (fits_of_scanBound hb1))
  have ho1 := store_at (es' := es1) (t' := t2) ho hd
  have sb1 := Heap.SameBut.update s.heap a (Obj.putSet es1 t2)
  split
  · have pm := relayAll_perm t2 es1 (SetTable.grown es1.size)
    have hf3 := relayAll_fits t2 es1 (SetTable.grown es1.size)
    have hr3 := relayAll_ris t2 es1 (SetTable.grown es1.size)
    have hl3 := relayAll_led t2 es1 (SetTable.grown es1.size)
    generalize relayAll t2 es1 (SetTable.grown es1.size) = Z at pm hf3 hr3 hl3 ⊢
    obtain ⟨es2, t3, gave⟩ := Z
    dsimp only at pm hf3 hr3 hl3 ⊢
    have hsz : es2.size = es1.size := by rw [← Array.length_toList, pm.length_eq, Array.length_toList]
    have hb2 : es2.size < scanBound := by rw [hsz]; exact hb1
    refine wpAny_bind (hg _ _ _ ?_)
    refine wpAny_bind (wpAny_storeSet_of ho1 rfl ?_ (fits_of_scanBound hb2))
    have ho2 := store_at (es' := es2) (t' := t3) ho1 rfl
    refine wpAny_pure (hR _ (sb1.trans (Heap.SameBut.update _ a _)) ?_)
    exact ⟨_, es2, _, t3, ho2, hex, rfl, fun e he => g1 e (pm.mem_iff.mp he), (pm.map keyS).nodup_iff.mpr nd1, fun k => (m1 k).trans (pm.map keyS).mem_iff.symm, hb2, hf3, hsz, hr3,
      hl.imp id fun z => by rw [hl3]; exact z⟩
  · exact wpAny_pure (hR _ sb1 ⟨_, es1, _, t2, ho1, hex, rfl, g1, nd1, m1, hb1, hf2, rfl, hr, hl⟩)
theorem setX_add_hashed {k : Str} {tk : Tok} {Q : Bool → Shared → Prop} (R : SetX w s.heap a S n) (room : n + 1 < scanBound)
    (hQ : ∀ h', Heap.SameBut a s.heap h' → SetX w h' a (fun j => S j || decide (j = k)) (if S k = true then n else n + 1) → Q (!S k) { s with heap := h' }) :
    wpAny (model P w) A (setAddHashed a (.str k tk) ((strKind P w).hash k)) Q E s := by
  obtain ⟨o, es, ep, t, ho, hex, hd, g, nd, hm, hb, hf, hn, hr, hl⟩ := R
  have hkey : (strKind P w).is k (.str k tk) = true := is_strT k tk
  have hsc : (Value.str k tk).scannable = true := rfl
  have hel : ElemsOf (strKind P w) es.toList := goodS_elems g
  unfold setAddHashed setAddHashedIn
  refine wpAny_holding (wpAny_bind (wpAny_setState_of ho hd hf ?_))
  dsimp only
  rw [byScan_of hsc hb hel]
  simp only [↓reduceIte]
  unfold setAddByScan
  refine wpAny_bind ?_
  refine wpAny_bind (wpAny_rule ?_)
  refine wpAny_bind (wpAny_setScan_of hkey ho hd hf hel ?_)
  cases hfi : List.findIdx? (fun e => (strKind P w).is k e.2) es.toList with
  | some j =>
    dsimp only
    obtain ⟨hj, pj, _⟩ := List.findIdx?_eq_some_iff_getElem.mp hfi
    have hSk : S k = true := (hm k).2 ((goodS_mem (P := P) (w := w) g k).2 ⟨es.toList[j], List.getElem_mem hj, pj⟩)
    refine wpAny_pure (wpAny_pure ?_)
    have q := hQ s.heap (Heap.SameBut.refl a s.heap) ⟨o, es, ep, t, ho, hex, hd, g, nd, fun i => by
      rw [Bool.or_eq_true, decide_eq_true_eq, ← hm i]
      exact ⟨fun z => z.elim id (fun e => e ▸ hSk), .inl⟩, hb, hf, by rw [if_pos hSk]; exact hn, hr, hl⟩
    rw [hSk] at q
    exact q
  | none =>
    dsimp only
    have hnk : k ∉ es.toList.map keyS := fun z => by
      obtain ⟨e, he, q⟩ := (goodS_mem (P := P) (w := w) g k).1 z
      have c := List.findIdx?_eq_none_iff.mp hfi e he
      rw [q] at c
      cases c
    have hSk : S k = false := by
      cases q : S k with
      | false => rfl
      | true => exact absurd ((hm k).1 q) hnk
    have hgw : ∀ (b : Bool) {s₁ : Shared} {Q' : Unit → Shared → Prop}, Q' () s₁ → wpAny (model P w) A (match b with | true => rule "set.scan.the-table-gave-way" | false => pure ()) Q' E s₁ :=
      fun b s₁ Q' q => by cases b <;> first | exact wpAny_pure q | exact wpAny_rule q
    have pm := layNew_perm t es ((strKind P w).hash k) (.str k tk)
    have hf1 := layNew_fits t es ((strKind P w).hash k) (.str k tk)
    have hr1 := layNew_ris t es ((strKind P w).hash k) (.str k tk) hr
    have hl1 := layNew_led t es ((strKind P w).hash k) (.str k tk)
    generalize layNew t es ((strKind P w).hash k) (.str k tk) = Z at pm hf1 hr1 hl1 ⊢
    obtain ⟨es1, t1, wasDummy, gave⟩ := Z
    dsimp only at pm hf1 hr1 hl1 ⊢
    rw [Array.toList_push] at pm
    have pc : es1.toList.Perm (((strKind P w).hash k, Value.str k tk) :: es.toList) := pm.trans (List.perm_append_singleton _ _)
    have pk : (es1.toList.map keyS).Perm (k :: es.toList.map keyS) := pc.map keyS
    have g1 : ∀ e ∈ es1.toList, GoodS w e := fun e he => by
      rcases List.mem_cons.mp (pc.mem_iff.mp he) with z | z
      · rw [z]; exact ⟨k, tk, rfl, rfl⟩
      · exact g e z
    have nd1 : (es1.toList.map keyS).Nodup := pk.nodup_iff.mpr (List.nodup_cons.mpr ⟨hnk, nd⟩)
    have m1 : ∀ i, (S i || decide (i = k)) = true ↔ i ∈ es1.toList.map keyS := fun i => by
      rw [Bool.or_eq_true, decide_eq_true_eq, hm i, pk.mem_iff, List.mem_cons]
      exact Or.comm
    have hsz : es1.size = n + 1 := by rw [← Array.length_toList, pc.length_eq, List.length_cons, Array.length_toList, hn]
    have hb1 : es1.size < scanBound := by rw [hsz]; exact room
    have hled : w.params.followText "set-order" = true ∨ t1.led = true := hl.imp id fun z => by rw [hl1]; exact z
    have fin : ∀ h', Heap.SameBut a s.heap h' → SetX w h' a (fun j => S j || decide (j = k)) es1.size → Q true { s with heap := h' } := fun h' sb r => by
      have q := hQ h' sb
      rw [hSk] at q
      rw [hsz] at r
      exact q r
    refine wpAny_bind (hgw _ ?_)
    split
    · refine wpAny_bind ?_
      rw [hashByValue_scannable 8 hsc]
      refine wpAny_pure ?_
      refine setX_add_tail ?_ ho hex hd g1 nd1 m1 hb1 ?_ ?_ ?_ ?_
      · intro b s₁ Q' q; cases b <;> first | exact wpAny_pure q | exact wpAny_rule q
      · first | (split <;> first | exact hf1 | exact SetTable.fits_plain_off hf1) | exact hf1
      · first | (split <;> exact hr1) | exact hr1
      · first | (split <;> exact hled) | exact hled
      · intro h' sb r
        exact wpAny_pure (fin h' sb r)
    · refine wpAny_bind (wpAny_pure ?_)
      simp only [↓reduceIte]
      refine setX_add_tail ?_ ho hex hd g1 nd1 m1 hb1 ?_ ?_ ?_ ?_
      · intro b s₁ Q' q; cases b <;> first | exact wpAny_pure q | exact wpAny_rule q
      · first | (split <;> first | exact hf1 | exact SetTable.fits_plain_off hf1) | exact hf1
      · first | (split <;> exact hr1) | exact hr1
      · first | (split <;> exact hled) | exact hled
      · intro h' sb r
        exact wpAny_pure (fin h' sb r)
theorem set_update_strs {I : Addr} {fp wr : List Addr} {G : Array GenState → Array GenState → Prop} {n : Nat} {Pv : Nat → Value → Prop} {St : Nat → Shared → Prop} {R : Result → Shared → Prop}
    (W : WalksS P w A.in1 I fp wr G n Pv St) (S : Addr) (hSf : S ∉ fp) (ns : List Str) (hn : n = ns.length) (hb : ns.length + 1 < scanBound) (hval : ∀ i v, Pv i v → ∃ k t, ns[i]? = some k ∧ v = .str k t) :
    ∀ (k i : Nat) (s : Shared), n - i = k → i ≤ n → St i s → (∃ c, c ≤ i ∧ SetX w s.heap S (fun j => decide (j ∈ ns.take i)) c) →
      (∀ s' c, Moved (S :: wr) G s s' → c ≤ n → SetX w s'.heap S (fun j => decide (j ∈ ns)) c → R (.ok (.ret .none)) s') →
      codeAny (model P w) A (.builtin "set.update.loop" ⟨[.ref S, .ref I], []⟩) R s := by
  have hSw : S ∉ wr := fun h => hSf (W.sub _ h)
  have hsub : ∀ b ∈ wr, b ∈ S :: wr := fun b hb => List.mem_cons_of_mem _ hb
  intro k
  induction k with
  | zero =>
    intro i s hk' hi hst ⟨c, hc, hS⟩ hR
    have hin : i = n := by omega
    subst hin
    refine codeAny_builtin PyProof.Rows.F.entry_set_update_loop ?_
    rw [Around.under_plainId PyProof.Rows.F.plain_set_update_loop _]
    show wpAny _ A.in1 (pyNext (.ref I) >>= _) _ _ s
    refine wpAny_bind (W.done s _ _ hst fun s' hm => ?_)
    show wpAny _ A.in1 (ret Value.none) _ _ s'
    have e : ns.take i = ns := List.take_of_length_le (by omega)
    rw [e] at hS
    exact wpAny_pure (hR s' c (hm.mono hsub) hc (hS.at fun o e => hm.heap S o hSw e))
  | succ k ih =>
    intro i s hk' hi hst ⟨c, hc, hS⟩ hR
    have hlt : i < n := by omega
    refine codeAny_builtin PyProof.Rows.F.entry_set_update_loop ?_
    rw [Around.under_plainId PyProof.Rows.F.plain_set_update_loop _]
    show wpAny _ A.in1 (pyNext (.ref I) >>= _) _ _ s
    refine wpAny_bind (W.item i s _ _ hlt hst fun v s' hP hst' hm => ?_)
    obtain ⟨z, t, hz, rfl⟩ := hval i v hP
    have hS' : SetX w s'.heap S (fun j => decide (j ∈ ns.take i)) c := hS.at fun o e => hm.heap S o hSw e
    show wpAny _ A.in1 (holding [Value.str z t] (setAdd S (.str z t)) >>= _) _ _ s'
    refine wpAny_bind (wpAny_holding ?_)
    unfold setAdd
    refine wpAny_holding ?_
    refine wpAny_bind ((strKind P w).pyHash (k := z) (is_strT _ _) ?_)
    refine setX_add_hashed (s := { s' with toks := s'.toks + 1 }) hS' (by omega) fun h' hsb hS2 => ?_
    have hS3 : SetX w h' S (fun j => decide (j ∈ ns.take (i + 1))) (if decide (z ∈ ns.take i) = true then c else c + 1) := hS2.congr fun j => by
      rw [List.take_add_one, hz]
      simp [List.mem_append]
    have hc3 : (if decide (z ∈ ns.take i) = true then c else c + 1) ≤ i + 1 := by
      split <;> omega
    refine wpAny_pure ⟨plainId_quiet PyProof.Rows.F.plain_set_update_loop _, ih (i + 1) _ (by omega) hlt (W.frame _ s' _ _ hst' (Nat.le_succ _) fun b hb o e => ?_) ⟨_, hc3, hS3⟩ fun s'' c2 hm'' hc'' hS'' => ?_⟩
    · rw [hsb.2 b (fun h : b = S => hSf (by rw [← h]; exact hb))]; exact e
    · refine hR s'' c2 (Moved.trans W.gtrans ((hm.mono hsub).then_heap (Nat.le_succ _) fun b o hb e => ?_) hm'') hc'' hS''
      rw [hsb.2 b (fun h : b = S => hb (by rw [h]; exact List.mem_cons_self))]; exact e
theorem setX_new_at {h : Heap} {a : Addr} {w : World} (ho : h.get? a = some (set0 w)) : SetX w h a (fun j => decide (j ∈ ([] : List Str))) 0 :=
  ⟨_, #[], 0, _, ho, ⟨rfl, rfl, rfl⟩, rfl, fun e he => by simp at he, by simp, fun k => by simp, by unfold scanBound; decide, rfl, rfl, List.Pairwise.nil, by
    cases w.params.followText "set-order" <;> first | exact .inl rfl | exact .inr rfl⟩
set_option maxHeartbeats 3200000 in
theorem call_set_txt {x : Str} {u : Tok} {Q : Value → Shared → Prop} (hh : A.handled = none) (hb : x.cps.size + 1 < scanBound)
    (h : ∀ (h' : Heap) (tk c : Nat), SetX w h' s.heap.objs.size (fun j => decide (j ∈ x.cps.toList.map sgS)) c → c ≤ x.cps.size → (∀ b o, s.heap.get? b = some o → h'.get? b = some o) → Q (.ref s.heap.objs.size) { s with heap := h', toks := tk }) :
    wpAny (model P w) A (call (.type "set") [.str x u]) Q E s := by
  have ⟨c, tl, hmro⟩ := PySem.F.called_set.mro
  have hmade := PySem.F.called_set.made
  have hsub := PySem.F.called_set.sub
  have h1 := PySem.F.called_set.notType
  have h2 := PySem.F.called_set.canCreate
  have hct := PySem.F.typeCall_set_1 (.str x u)
  refine wpAny_call (codeAny_of_tree ?_)
  show wpAny _ _ (callAny (.type "set") _) _ _ _
  refine wpAny_pure ⟨Code.quiet_builtin _ (by decide +kernel), codeAny_builtin PySem.F.entry_type_call ?_⟩
  rw [Around.under_plain (weight_type_call_type "set" [.str x u] []) rfl]
  repeat (any_goals (first | assumption | wp_step))
  refine codeAny_mono (code_set_led1 (.str x u) (E := E) (Q₁ := fun obj s₁ => obj = .ref s.heap.objs.size ∧ s₁ = { s with heap := s.heap.push (set0 w) }) ⟨rfl, rfl⟩) fun r s₁ hr => ?_
  cases r with
  | error e => exact hr
  | ok fl =>
    cases fl with
    | ret obj =>
      obtain ⟨rfl, rfl⟩ := hr
      have hS : (s.heap.push (set0 w)).get? s.heap.objs.size = some (set0 w) := Heap.get?_push_size _ rfl
      have hT : Shared.TypeIs { s with heap := s.heap.push (set0 w) } (.ref s.heap.objs.size) "set" := ⟨_, hS, rfl⟩
      have hli := PySem.F.called_set.init.lookup
      have hbi := PySem.F.called_set.init.bind (.ref s.heap.objs.size)
      repeat (any_goals (first | assumption | wp_step))
      refine codeAny_mono (codeAny_call_builtin (R := wants (fun r s₂ => r = .none ∧ ∃ h' tk c, s₂ = { s with heap := h', toks := tk } ∧ SetX w h' s.heap.objs.size (fun j => decide (j ∈ x.cps.toList.map sgS)) c ∧ c ≤ x.cps.size ∧
          (∀ b o, s.heap.get? b = some o → h'.get? b = some o)) E) PySem.F.called_set.init.plain PySem.F.entry_set_init (check_set_init_1 hT ?_)) fun r₂ s₂ hr₂ => ?_
      · have hsl := PySem.F.sub_str_set
        have hslf := PySem.F.sub_str_frozenset
        have hne : (Value.type "str" == Value.type "dict") = false := by decide
        unfold Builtin.«set.__init__» noKeywords Builtin.Frozenset.updateFrom
        generalize hPI : pyIter = PI
        wp_walk
        subst hPI
        refine wpAny_pyIter_str fun oI St hW hst => ?_
        refine wpAny_bind (wpAny_runValue ?_)
        have hsz : (s.heap.push (set0 w)).objs.size = s.heap.objs.size + 1 := Heap.size_push ..
        have hSf : s.heap.objs.size ∉ [(s.heap.push (set0 w)).objs.size] := by
          rw [hsz]; simp only [List.mem_cons, List.not_mem_nil, or_false]; exact Nat.ne_of_lt (Nat.lt_succ_self _)
        have hlen : x.cps.size = (x.cps.toList.map sgS).length := by rw [List.length_map, Array.length_toList]
        have hval : ∀ (i : Nat) (v : Value), SignAt x i v → ∃ k t, (x.cps.toList.map sgS)[i]? = some k ∧ v = .str k t := fun i v hv => by
          obtain ⟨c, u, h1, h2⟩ := hv
          refine ⟨⟨#[c]⟩, u, ?_, h2⟩
          rw [List.getElem?_map, Array.getElem?_toList, h1]; rfl
        refine set_update_strs ((hW A.in1.in1.in1 (by simp [hh])).toS) s.heap.objs.size hSf (x.cps.toList.map sgS) hlen (by rw [← hlen]; exact hb) hval (x.cps.size - 0) 0 _ (by omega) (Nat.zero_le _) ?_ ?_ ?_
        · exact hst
        · exact ⟨0, Nat.le_refl 0, setX_new_at (Heap.get?_push_of_some _ hS)⟩
        intro s' c' hm hc' hS'
        obtain ⟨h', g2, d', tk', os'⟩ := s'
        obtain rfl : g2 = s.gens := hm.gens
        obtain rfl : d' = s.drawn := hm.drawn
        obtain rfl : os' = s.os := hm.os
        show wpAny _ _ _ _ _ _
        refine wpAny_pure ?_
        show wpAny _ _ (ret Value.none) _ _ _
        refine wpAny_pure ⟨rfl, h', tk', c', rfl, hS', hc', fun b o e => ?_⟩
        have hb0 : b < s.heap.objs.size := Heap.lt_size e
        refine hm.heap b o ?_ (Heap.get?_push_of_some _ (Heap.get?_push_of_some _ e))
        simp only [List.mem_cons, List.not_mem_nil, or_false, not_or]
        exact ⟨Nat.ne_of_lt hb0, by rw [hsz]; exact Nat.ne_of_lt (Nat.lt_succ_of_lt hb0)⟩
      · cases r₂ with
        | error e => exact hr₂
        | ok fl₂ =>
          cases fl₂ with
          | ret r =>
            obtain ⟨rfl, h', tk, c', rfl, hS', hc', hk'⟩ := hr₂
            repeat (any_goals (first | assumption | wp_step))
            exact h _ _ _ hS' hc' hk'
          | _ => exact hr₂.elim
    | _ => exact hr.elim
theorem strs_of : ∀ (vs : List Value), (∀ v ∈ vs, ∃ (k : Str) (t : Tok), v = .str k t) → ∀ (f : Value → Str), (∀ k t, f (.str k t) = k) → StrsAre vs (vs.map f)
  | [], _, _, _ => .nil
  | v :: vs, h, f, hf => by
    obtain ⟨k, t, e⟩ := h v List.mem_cons_self
    subst e
    rw [List.map_cons, hf]
    exact .cons _ _ (strs_of vs (fun u hu => h u (List.mem_cons_of_mem _ hu)) f hf)
theorem sorted_setX (R : SetX w s.heap a S n) (hh : A.handled = none) (h64 : n < 64) {Q : Value → Shared → Prop}
    (hQ : ∀ s' p (out : Array Value) (c : Nat) (ns : List Str), (∀ b o, s.heap.get? b = some o → s'.heap.get? b = some o) → s'.gens = s.gens → s'.os = s.os → s.heap.objs.size ≤ p →
      s'.heap.get? p = some (seqObj "list" out c) → StrsAre out.toList ns → sortedS ns = true → ns.Nodup → (∀ k, k ∈ ns ↔ S k = true) → ns.length = n → Q (.ref p) s') :
    wpAny (model P w) A (call (.builtin "sorted") [.ref a]) Q E s := by
  obtain ⟨o, es, ep, t, ho, hex, hd, g, nd, hm, hb, hf, hn, hr, hl⟩ := R
  refine Calls.call_function_entry kind_sorted plain_sorted entry_sorted (args_sorted1 _) ?_
  unfold Builtin.«sorted»
  refine wpAny_bind (m := checkCount "sorted" 1 1 _) (wpAny_pure ?_)
  refine wpAny_bind (collect_set (A := A.in1) hh ⟨o, ho, hex.1, hd⟩ hf hb hr hl fun s1 vs k1 hz g1 o1 pm => ?_)
  have hvl : vs.length = n := by rw [pm.length_eq, List.length_map, Array.length_toList]; exact hn
  have hI : StrsAre vs (vs.map fun v => keyS (0, v)) := strs_of vs (fun v hv => by
    obtain ⟨e, he, q⟩ := List.mem_map.mp (pm.mem_iff.mp hv)
    obtain ⟨k, tk, h1, _⟩ := g e he
    exact ⟨k, tk, by rw [← q]; exact h1⟩) _ fun _ _ => rfl
  have pk : (vs.map fun v => keyS (0, v)).Perm (es.toList.map keyS) := by
    have q := pm.map fun v => keyS (0, v)
    rw [List.map_map] at q
    exact q
  refine wpAny_bind (wpAny_newList ?_ (by rw [hvl, sizeLine_eq]; omega))
  have hoL : (s1.heap.push (seqObj "list" vs.toArray 0)).get? s1.heap.objs.size = some (seqObj "list" vs.toArray 0) := Heap.get?_push_size _ rfl
  refine wpAny_bind (wpAny_holding (wpAny_call_entry slot_list_sort ⟨_, hoL, rfl⟩ entry_list_sort (list_sort_treeK strKind_oneLt hoL hI.keysOf (fun v₁ v₂ rest e => keyKind_strs (by rw [← e]; exact hI)) (by rw [hvl]; exact h64) fun st' hp hs => ⟨_, rfl, ?_⟩) (args_list_sort _)))
  obtain ⟨ys, a1, a2, a3⟩ := sorted_out_str hI hp hs
  obtain ⟨c, hc⟩ := sortedHeap_at (vs := vs) (out := (arrOf st').map (·.2)) hoL
  have pn : ys.Perm (es.toList.map keyS) := a2.trans pk
  refine wpAny_pure ⟨_, rfl, hQ _ s1.heap.objs.size _ c ys (fun b u e => ?_) g1 o1 hz hc a1 a3 (pn.nodup_iff.mpr nd) (fun k => by rw [pn.mem_iff, ← hm k]) ?_⟩
  · have q := k1 b u e
    have hlt := Heap.lt_size q
    show (sortedHeap (s1.heap.push (seqObj "list" vs.toArray 0)) s1.heap.objs.size vs _).get? b = some u
    rw [sortedHeap_old (Nat.ne_of_lt hlt) (by rw [size_push']; exact Nat.lt_succ_of_lt hlt)]
    exact Heap.get?_push_of_some _ q
  · rw [pn.length_eq, List.length_map, Array.length_toList]; exact hn
end
/-! ### the law of what is told -/
theorem ltCps_one (a b : Nat) : ltCps [a] [b] = decide (a < b) := by
  show (decide (a < b) || (a == b && ltCps [] [])) = _
  simp [ltCps]
theorem rising_sing : ∀ (l : List Nat) (p : Nat), risingS (sgS p) (l.map sgS) = true → (p :: l).Pairwise (· ≤ ·)
  | [], p, _ => List.pairwise_singleton ..
  | x :: l, p, h => by
    have h : (!ltCps [x] [p] && risingS (sgS x) (l.map sgS)) = true := h
    rw [Bool.and_eq_true, Bool.not_eq_true', ltCps_one, decide_eq_false_iff_not] at h
    have ih := rising_sing l x h.2
    refine List.pairwise_cons.mpr ⟨fun y hy => ?_, ih⟩
    rcases List.mem_cons.mp hy with z | z
    · omega
    · have := (List.pairwise_cons.mp ih).1 y z
      omega
theorem sorted_sing {l : List Nat} (h : sortedS (l.map sgS) = true) : l.Pairwise (· ≤ ·) := by
  cases l with
  | nil => exact .nil
  | cons p l => exact rising_sing l p h
theorem sg_inj {a b : Nat} (h : sgS a = sgS b) : a = b := by
  have q : [a] = [b] := congrArg (fun y : Str => y.cps.toList) h
  exact (List.cons.inj q).1
/-- the signs of a text, rising, each once -/
def csort (x : Str) : List Nat := (sset (x.cps.toList.map Int.ofNat)).map Int.toNat
theorem mem_csort {x : Str} {c : Nat} : c ∈ csort x ↔ c ∈ x.cps.toList := by
  unfold csort
  rw [List.mem_map]
  constructor
  · rintro ⟨i, h, rfl⟩
    obtain ⟨n, h2, rfl⟩ := List.mem_map.mp (mem_sset.mp h)
    exact h2
  · intro h
    exact ⟨Int.ofNat c, mem_sset.mpr (List.mem_map.mpr ⟨c, h, rfl⟩), rfl⟩
theorem csort_up (x : Str) : (csort x).Pairwise (· < ·) := by
  unfold csort
  rw [List.pairwise_map]
  refine (sset_up _).imp_of_mem ?_
  intro a b ha hb h
  obtain ⟨n, _, rfl⟩ := List.mem_map.mp (mem_sset.mp ha)
  obtain ⟨m, _, rfl⟩ := List.mem_map.mp (mem_sset.mp hb)
  have h : (n : Int) < (m : Int) := h
  show n < m
  omega
theorem nup_uniq {a b : List Nat} (ha : a.Pairwise (· < ·)) (hb : b.Pairwise (· < ·)) (h : ∀ x, x ∈ a ↔ x ∈ b) : a = b := by
  have na : a.Nodup := by rw [List.nodup_iff_pairwise_ne]; exact ha.imp fun h => by omega
  have nb : b.Nodup := by rw [List.nodup_iff_pairwise_ne]; exact hb.imp fun h => by omega
  exact List.Perm.eq_of_pairwise (le := fun (x y : Nat) => x ≤ y) (fun a b _ _ h1 h2 => by omega) (ha.imp fun h => by omega) (hb.imp fun h => by omega) ((List.perm_ext_iff_of_nodup na nb).mpr h)
theorem tset_uniq {x : Str} {ys : List Str} (h1 : sortedS ys = true) (h2 : ys.Nodup) (h3 : ∀ k, k ∈ ys ↔ k ∈ x.cps.toList.map sgS) : ys = (csort x).map sgS := by
  have : ∃ l : List Nat, ys = l.map sgS := by
    have : ∀ ys : List Str, (∀ k ∈ ys, k ∈ x.cps.toList.map sgS) → ∃ l : List Nat, ys = l.map sgS := by
      intro ys
      induction ys with
      | nil => intro _; exact ⟨[], rfl⟩
      | cons y ys ih =>
        intro h
        obtain ⟨c, _, e⟩ := List.mem_map.mp (h y List.mem_cons_self)
        obtain ⟨l, e2⟩ := ih fun k hk => h k (List.mem_cons_of_mem _ hk)
        exact ⟨c :: l, by rw [List.map_cons, e, e2]⟩
    exact this ys fun k hk => (h3 k).mp hk
  obtain ⟨l, rfl⟩ := this
  have a1 := sorted_sing h1
  have a2 : l.Nodup := List.Pairwise.of_map sgS (fun a b h e => h (by rw [e])) h2
  rw [List.nodup_iff_pairwise_ne] at a2
  have a3 : l.Pairwise (· < ·) := (List.pairwise_and_iff.mpr ⟨a1, a2⟩).imp fun ⟨a, b⟩ => by omega
  congr 1
  refine nup_uniq a3 (csort_up x) fun c => ?_
  rw [mem_csort]
  have q := h3 (sgS c)
  constructor
  · intro h
    obtain ⟨d, h, e⟩ := List.mem_map.mp (q.mp (List.mem_map.mpr ⟨c, h, rfl⟩))
    rw [← sg_inj e]; exact h
  · intro h
    obtain ⟨d, h, e⟩ := List.mem_map.mp (q.mpr (List.mem_map.mpr ⟨c, h, rfl⟩))
    rw [← sg_inj e]; exact h
def tSortSetX (ta : TE) : TE := fun σ H Q => ta σ H fun x H1 => ∃ z : Str, x = .str z ∧ z.length ≤ 60 ∧
  ∀ (p : Addr) (H2 : Hp), H1 p = none → Same H1 H2 → H2 p = some (.lst (((csort z).map sgS).map V.str)) → Q (.ref p) H2
def sortTxtM (x : Str) : M (List Str) := do gd (decide (x.length ≤ 60)); pure ((csort x).map sgS)
section
variable {X : Cx} {Γ : Ctx} {a : Expr} {p p2 q : Pos} {ta : TE}
theorem pe_sortSetX (hg : Gl X "sorted") (hm : X.mg "sorted" = none) (hg2 : Gl X "set") (hm2 : X.mg "set" = none) (ha : PE X a ta) (hc : X.calm = true := by rfl)
    (na : starEach [a] X.env = (false, eval a X.env) :: starEach [] X.env := by rfl) : PE X (.Call (.Name "sorted" p) [.Call (.Name "set" p2) [a] [] q] [] pos) (tSortSetX ta) := by
  refine ⟨fun pins s σ H Q I h => ?_⟩
  refine Call_ (ld_blt (u := .builtin "sorted") I hg hm (by decide +kernel) ?_)
  refine PyProof.Rows.callWith_builtin1 (PyProof.Rows.args_cons ?_ rfl) rfl rfl
  refine Call_ (ld_blt I hg2 hm2 boot_set ?_)
  refine PyProof.Rows.callWith_type1 (PyProof.Rows.args_cons (thn (ha.run pins s σ H _ I h) fun v s1 ⟨x, H1, I1, r1, q1⟩ => PyProof.Rows.args_nil ?_) na) na rfl
  obtain ⟨z, rfl, hl, q1⟩ := q1
  obtain ⟨t, rfl⟩ := r1
  have hl : z.cps.size ≤ 60 := hl
  refine call_set_txt (I1.ok.hd hc) (by unfold scanBound; omega) fun h' tk c hS hcl hk => ?_
  refine PyProof.Rows.args_nil ?_
  have I2 : Inv X pins σ H1 { s1 with heap := h', toks := tk } := I1.kept fun b o e => hk b o e
  have hS2 : SetX X.w ({ s1 with heap := h', toks := tk } : Shared).heap s1.heap.objs.size (fun j => decide (j ∈ z.cps.toList.map sgS)) c := hS
  have hcd := I1.ok.hd hc
  generalize ({ s1 with heap := h', toks := tk } : Shared) = s2 at I2 hS2 ⊢
  refine sorted_setX (s := s2) hS2 (I1.ok.hd hc) (by omega) fun s' p out c' ns k g o hp hg hi hs hnd hmem hlen => ?_
  have hn : H1 p = none := I2.hok.fresh hp
  have en : ns = (csort z).map sgS := tset_uniq hs hnd fun k => (hmem k).trans (by simp)
  have hlen : (ns.map V.str).length ≤ sizeLine := by rw [List.length_map, hlen, sizeLine_eq]; omega
  have J : Inv X pins σ (upd H1 p (.lst (ns.map V.str))) { s2 with heap := s'.heap, gens := s'.gens, drawn := s'.drawn, toks := s'.toks } :=
    I2.call (ch := []) (Un.laid k hp hn) (I2.hok.laid k hp ⟨hlen, out.toList, c', vals_of_strs hi, hg⟩) (by rw [g]; exact I2.bare) (fun _ z => nomatch z)
  have e : s' = { s2 with heap := s'.heap, gens := s'.gens, drawn := s'.drawn, toks := s'.toks } := by
    cases s'
    cases s2
    cases o
    rfl
  rw [e]
  refine ⟨.ref p, _, J, rfl, q1 p _ hn (fun b u e => ?_) (by rw [en]; exact upd_same)⟩
  rw [upd_ne (ne_of_none e hn)]; exact e
theorem ex_sortSetX {K : PySem.W.Frag} {m : M Str} (hc : X.calm = true) (hm : X.mg "sorted" = none) (hm2 : X.mg "set" = none) (h : EX X Γ a Ow.v m ta) (hg : Gl X "sorted" := by rfl) (hg2 : Gl X "set" := by rfl) (na : starEach [a] X.env = (false, eval a X.env) :: starEach [] X.env := by rfl) (hK : X.K = K := by rfl) :
    EX X Γ (.Call (.Name "sorted" p) [.Call (.Name "set" p2) [a] [] q] [] pos) (Ow.l Ow.v) (do let a ← m; sortTxtM a) (tSortSetX ta) := by
  subst hK
  exact ⟨pe_sortSetX hg hm hg2 hm2 h.pe hc na, fun HF0 G HF H σ g c hcc Q k => by
    obtain ⟨x, e1, hcc⟩ := bind_ok hcc
    obtain ⟨u, e2, hcc⟩ := bind_ok hcc
    cases pure_ok hcc
    refine h.sem HF0 G HF H σ g x e1 _ fun v HF1 H1 fp s1 r1 _ _ => ?_
    have r1 := Fl.sh_iff.mp r1.1
    subst r1
    refine ⟨x, rfl, of_decide_eq_true (gd_ok e2), fun p H2 p3 p4 p5 => ?_⟩
    have hp0 : ∀ (M : Hp), Same M H1 → M p = none := fun M sm => by
      cases z : M p with
      | none => rfl
      | some u =>
        have := sm _ _ z
        rw [p3] at this; cases this
    exact k (.ref p) HF1 H2 [p] (s1.trans ⟨Same.refl _, p4, s1.sub.trans p4, fun b u e f => by rw [f] at e; cases e⟩) ⟨p, ((csort x).map sgS).map V.str, [], rfl, rfl, p5, Rl.ofFa (Fa.flat.mpr rfl)⟩ (by simp) fun b hb => by
      rw [List.mem_singleton.mp hb]
      exact ⟨hp0 H s1.exH, hp0 HF1 s1.sub⟩⟩
end
end Ty

/-! ## Ty35: x.extend(a new list) -/
namespace Ty
open PySem PySem.Spec PyProof.Rows L2
section
variable {X : Cx} {Γ : Ctx} {S L ρ α β γ A B S' : Type} [Rp ρ] {o : Ow ρ} {Γo : S → Ctx} {ΓL : L → Ctx} {a b e : Expr} {es : List Expr} {pos p apos cpos : Pos} {ta tb te : TE} {t : TA} {sts : List Stmt} {tr tr' : TS}
end
end Ty

/-! ## Ty36: enumerate of a text; count and index in lists -/
namespace Ty
open PySem PySem.Spec PyProof.Rows L2
/-- each sign of a text, in a new pair with its place -/
def Itb (x : Str) : It :=
  ⟨fun i _ => i < x.cps.size, fun i H v H' => ∃ T c, v = .ref T ∧ H T = none ∧ x.cps[i]? = some c ∧ H' = upd H T (.tup [.int (i : Nat), .str ⟨#[c]⟩]), fun i _ => x.cps.size ≤ i⟩
theorem drw_str {P : Program} {w : World} {A : Around} (hh : A.handled = none) (it : Addr) (x : Str) (t : Tok) {ty : String} (hty : ty = "str_ascii_iterator" ∨ ty = "str_iterator") :
    Draws P w A.in1 it [it] x.cps.size (fun i v => ∃ c u, x.cps[i]? = some c ∧ v = .str ⟨#[c]⟩ u) (fun i h => h.IsStrIter it ty x t i) := by
  rcases hty with e | e
  · rw [e]; exact Draws.strAscii (A := A.in1) hh it x t
  · rw [e]; exact Draws.strWide (A := A.in1) hh it x t
theorem turn_enumS {P : Program} {w : World} {K : PySem.W.Frag} {elts : List Expr} {kk : Nat} {tpos : Pos} (e it : Addr) (x : Str) (t : Tok) {ty : String} (hty : ty = "str_ascii_iterator" ∨ ty = "str_iterator") :
    Turn P w K (.Tuple elts kk tpos) (Itb x) [e, it] e (fun i h => (∃ old, IsEnum h e it ((i : Nat) : Int) old) ∧ h.IsStrIter it ty x t i ∧ e ≠ it) where
  mem := by simp
  obj := fun i h st b hb => by
    obtain ⟨⟨old, he⟩, ⟨o, ho, hc, hd⟩, _⟩ := st
    have e' : b = e ∨ b = it := by simpa using hb
    rcases e' with z | z
    · rw [z]; exact ⟨_, he, fun v q => nomatch q⟩
    · rw [z]; exact ⟨o, ho, fun v q => by rw [hd] at q; cases q⟩
  keep := fun i h h' st k => let ⟨⟨old, he⟩, hi, hne⟩ := st; ⟨⟨old, k e (by simp) _ he⟩, (let ⟨o, ho, r⟩ := hi; ⟨o, k it (by simp) o ho, r⟩), hne⟩
  item := by
    intro X hP hw hK hc i pins s σ H E I hf st hg
    subst hP hw hK
    obtain ⟨⟨old, he⟩, hit, hne⟩ := st
    have D := drw_str (P := X.prog) (w := X.w) (A := X.A) (I.ok.hd hc) it x t hty
    have hel : e < s.heap.objs.size := Heap.lt_size he
    have hil : it < s.heap.objs.size := by obtain ⟨_, q, _⟩ := hit; exact Heap.lt_size q
    refine wpAny_pyNext_enum_itemD D he hit hg hne (by simpa using hne) fun u h' tk hu ho hit' hT hsz hk => ?_
    obtain ⟨c, v0, hcx, rfl⟩ := hu
    refine ⟨_, rfl, wpAny_letOwnedTupleGo_enum (prog := X.prog) (w := X.w) (s := { s with heap := h', toks := tk + 1 }) ho fun h'' he' sb => ?_⟩
    have hT2 : h''.get? s.heap.objs.size = some { cls := .type "tuple", data := .seq #[.int i tk, .str ⟨#[c]⟩ v0] } := (sb.2 _ (Nat.ne_of_gt hel)).trans hT
    have new : ObjOk X.prog X.w (upd H s.heap.objs.size (.tup [.int (i : Nat), .str ⟨#[c]⟩])) h'' s.heap.objs.size (.tup [.int (i : Nat), .str ⟨#[c]⟩]) :=
      ⟨by show 2 ≤ sizeLine; decide, [.int i tk, .str ⟨#[c]⟩ v0], .cons ⟨_, rfl⟩ (.cons ⟨_, rfl⟩ .nil), ⟨_, hT2, rfl, _, rfl⟩⟩
    have I1 : Inv X pins σ (upd H s.heap.objs.size (.tup [.int (i : Nat), .str ⟨#[c]⟩])) { s with heap := h'', toks := tk + 1 } :=
      I.turnedNew (ch := [e, it]) (fun b ob hb q => (sb.2 b (fun z => hb (by simp [z]))).trans (hk b ob (fun z => hb (by simp [z])) (fun z => hb (by simp [z])) q)) hf (Nat.le_refl _) new
    refine ⟨.ref s.heap.objs.size, _, I1, rfl, ⟨_, c, rfl, I.hok.fresh (Nat.le_refl _), hcx, rfl⟩, ⟨⟨.str ⟨#[c]⟩ v0, ?_⟩, (let ⟨o, q, r⟩ := hit'; ⟨o, (sb.2 it (Ne.symm hne)).trans q, r⟩), hne⟩, fun b hb => ?_⟩
    · have e1 : ((i + 1 : Nat) : Int) = (i : Int) + 1 := by omega
      rw [e1]; exact he'
    · have hb' : b < s.heap.objs.size := by
        have e' : b = e ∨ b = it := by simpa using hb
        rcases e' with z | z
        · rw [z]; exact hel
        · rw [z]; exact hil
      rw [upd_ne (Nat.ne_of_lt hb')]
      exact (hf b hb).1
  done := by
    intro X hP hw hK hc i pins s σ H E I hf st hg
    subst hP hw hK
    obtain ⟨⟨old, he⟩, hit, hne⟩ := st
    obtain ⟨f0, f1, f2, f3, f4, f5⟩ := hf it (by simp)
    have hx : x.cps[i]? = none := Array.getElem?_eq_none hg
    have hT : s.TypeIs (.ref e) "enumerate" := ⟨_, he, rfl⟩
    have hh : X.A.handled = none := I.ok.hd hc
    have fin : ∀ h', Heap.ExtBut it s.heap h' → L2.Inv X pins σ H { s with heap := h' } := fun h' eb => I.turned (t' := s.toks) (fun b o hb q => eb b o hb q) f0 f1 f3 f4 f5
    have key : ∀ (Q2 : Value → Shared → Prop) (E2 : Value → Shared → Prop), (∀ h' e, Heap.ExtBut it s.heap h' → (∃ o, h'.get? e = some o ∧ o.cls = .type "StopIteration") → E2 (.ref e) { s with heap := h' }) → wpAny (model X.prog X.w) X.A.in1 (Builtin.SmallTypes.nextOf (.ref it)) Q2 E2 s := fun Q2 E2 hE => by
      rcases hty with q | q
      · rw [q] at hit; exact wpAny_nextOf_ascii_end (A := X.A.in1) hh hit hx hE
      · rw [q] at hit; exact wpAny_nextOf_wide_end (A := X.A.in1) hh hit hx hE
    unfold pyNext
    refine wpAny_bind (wpAny_attempt (wpAny_callSpecial?_slot (name := Str.ofString "__next__") hT F.slot_enumerate_next
      (wpAny_call_entry F.slot_enumerate_next hT F.entry_enumerate_next ?_ (F.args_enumerate_next_1 _))))
    show wpAny _ _ (field (.ref e) 2 >>= _) _ _ _
    refine wpAny_bind (wpAny_field he rfl (x := .ref it) rfl ?_)
    refine wpAny_bind (key _ _ fun h' x he' hx' => ?_)
    obtain ⟨o, ho, hc⟩ := hx'
    refine wpAny_bind (wpAny_isInstance (T := "StopIteration") (b := true) ⟨o, ho, hc⟩ isSubtype_stop ?_)
    exact wpAny_pure ⟨rfl, fin h' he'⟩
  self := fun A i s Q E st h => let ⟨⟨_, he⟩, _⟩ := st; wpAny_pyIter_enum he h
def iEnumS (ta : TA) : TI := fun σ H R => ta σ H fun vs H1 => ∃ x : Str, vs = [.str x] ∧ R (Itb x) H1
theorem pi_enumS {X : Cx} {e : Expr} {ta : TA} {p pos tpos : Pos} {elts : List Expr} {kk : Nat} (hg : Gl X "enumerate") (hm : X.mg "enumerate" = none) (ha : PA X [e] ta) (hs : starEach [e] X.env = [(false, eval e X.env)] := by rfl) :
    PI X (.Tuple elts kk tpos) (.Call (.Name "enumerate" p) [e] [] pos) (iEnumS ta) := by
  refine ⟨fun pins s σ H R I h => ?_⟩
  refine Call_ (ld_blt I hg hm boot_enumerate (PyProof.Rows.callWith_type1 (thn (ha.run pos pins s σ H _ I h) fun us s1 ⟨vs, H1, I1, r1, q1⟩ => ?_) hs rfl))
  obtain ⟨x, ex, q⟩ := q1
  subst ex
  cases r1 with
  | cons r rr =>
    cases rr
    obtain ⟨t, rfl⟩ := r
    refine call_enumerate_str fun h' he hit hsz hk => wpAny_pyIter_enum he ?_
    have I2 : L2.Inv X pins σ H1 { s1 with heap := h' } := I1.kept (t' := s1.toks) hk
    have hty : strIterType x = "str_ascii_iterator" ∨ strIterType x = "str_iterator" := by
      unfold strIterType
      split
      · exact .inl rfl
      · exact .inr rfl
    refine ⟨s1.heap.objs.size + 1, [s1.heap.objs.size + 1, s1.heap.objs.size], _, _, H1, rfl, I2, turn_enumS (s1.heap.objs.size + 1) s1.heap.objs.size x t hty, ⟨⟨.none, he⟩, hit, Nat.succ_ne_self _⟩, fun b hb => ?_, q⟩
    have e' : b = s1.heap.objs.size + 1 ∨ b = s1.heap.objs.size := by simpa using hb
    have hle : s1.heap.objs.size ≤ b := by
      rcases e' with z | z
      · rw [z]; exact Nat.le_add_right _ _
      · rw [z]; exact Nat.le_refl _
    exact I1.fpOk hle (I1.hok.fresh hle)
section
variable {X : Cx} {Γ : Ctx} {S L ρ α β γ A B S' : Type} {a b e o : Expr} {es : List Expr} {pos p p1 p2 apos cpos : Pos} {ta tb te to : TE} {t : TA} {sts : List Stmt} {tr : TS}
theorem ei_enumS {m : M Str} {elts : List Expr} {kk : Nat} {tpos : Pos} (hm : X.mg "enumerate" = none) (h : EX X Γ e Ow.v m te) (hg : Gl X "enumerate" := by rfl) (hs : starEach [e] X.env = [(false, eval e X.env)] := by rfl) : EI X Γ (.Tuple elts kk tpos) (.Call (.Name "enumerate" p) [e] [] pos) (do let a ← m; pure (enumL (a.cps.toList.map sgS))) (iEnumS (tCons te tNil)) :=
  ⟨pi_enumS hg hm (pa_cons h.pe pa_nil (by exact hs)) hs, fun HF0 G HF H σ g xs hc R k => by
    obtain ⟨x, e1, hc⟩ := bind_ok hc
    cases pure_ok hc
    refine h.sem HF0 G HF H σ g x e1 _ fun v HF1 H1 fp s1 r1 _ _ => ?_
    have r1 := Fl.sh_iff.mp r1.1
    subst r1
    refine ⟨x, rfl, k _ HF1 H1 s1 fun HF2 H2 i a b => ?_⟩
    refine ⟨fun y hy => ?_, fun hle => ?_⟩
    · obtain ⟨hy1, hy2⟩ := enumL_get hy
      rw [List.getElem?_map] at hy2
      cases q : x.cps.toList[i]? with
      | none => rw [q] at hy2; cases hy2
      | some c =>
        rw [q] at hy2
        have hy3 : y.2 = sgS c := (Option.some.inj hy2).symm
        have hq : x.cps[i]? = some c := by rw [← Array.getElem?_toList]; exact q
        refine ⟨(Array.getElem?_eq_some_iff.mp hq).1, fun w H3 ⟨T, c', e, hT, hc', eH⟩ => ?_⟩
        subst e eH
        rw [hq] at hc'
        cases hc'
        have st := Step.shr (o := .tup [.int (i : Nat), .str ⟨#[c]⟩]) b hT
        exact ⟨_, st, T, .int (i : Nat), .str ⟨#[c]⟩, rfl, SqT.of upd_same, by rw [hy1]; rfl, by rw [hy3]; rfl⟩
    · rw [enumL_len, List.length_map, Array.length_toList] at hle
      exact hle⟩
end
end Ty

/-! ## Ty37: own exceptions with an own __init__ that keeps one field: made, raised, caught, kept behind the suite -/
namespace PySem.W
open PySem PySem.Spec PySem.Calls PyProof.Rows
end PySem.W
namespace Ty
open PySem PySem.Spec PyProof.Rows L2
structure OexF (K : PySem.W.Frag) (c f : Str) (fI : Addr) : Prop where
  T : OexC K (He.ga K c)
  no : PySem.W.findIn K (clv K c) f = some none
  init : PySem.W.findIn K (clv K c) "__init__" = some (some (.ref fI))
  ty : PySem.W.typeIn K (.ref fI) = some (.type "function")
section
variable {X : Cx} {o e : Expr} {es : List Expr} {to te : TE} {ta : TA} {f c : Str} {p p' p1 p2 pos : Pos}
end
section
variable {P : Program} {w : World} {K : PySem.W.Frag} {mg : Str → Option Value} {base : Heap}
end
/-! ### values that exceptions bear -/
inductive PV where
  | i (n : Int)
  | s (x : Str)
  deriving DecidableEq
def PV.enc : PV → V
  | .i n => .int n
  | .s x => .str x
/-- what is raised: the class's name, the field -/
structure Exn where
  c : Str
  p : Option (Str × PV)
def vD : Option Addr → V
  | some dd => .ref dd
  | none => .non
def XD (HF : Hp) (d : Option Addr) (x : Exn) : Prop := match x.p with
  | none => d = none
  | some (f, v) => ∃ dd, d = some dd ∧ HF dd = some (.xd [(f, v.enc)])
theorem XD.mono {HF HF' : Hp} {d : Option Addr} {x : Exn} (s : Same HF HF') (h : XD HF d x) : XD HF' d x := by
  unfold XD at *
  split at h
  · exact h
  · obtain ⟨dd, h1, h2⟩ := h
    exact ⟨dd, h1, s _ _ h2⟩
instance rpRy {ρ : Type} [Rp ρ] : Rp (ρ ⊕ Exn) where
  sh K H v x := match x with
    | .inl r => Rp.sh K H v r
    | .inr _ => True
  mono := fun {K H H' v a} e h => by
    cases a with
    | inl r => exact Rp.mono e h
    | inr _ => trivial
def Ow.y {ρ : Type} [Rp ρ] (o : Ow ρ) (cl : Str → Value) (E : XK) : Ow (ρ ⊕ Exn) where
  rep K HF H v x fp := match x with
    | .inl r => o.rep K HF H v r fp
    | .inr x => fp = [] ∧ ∃ d, v = vD d ∧ XD HF d x
  mono := fun {K HF HF' H H' v a fp} e k h => by
    cases a with
    | inl r => exact o.mono e k h
    | inr x =>
      obtain ⟨h1, d, h2, h3⟩ := h
      exact ⟨h1, d, h2, h3.mono e⟩
  dom := fun {K HF H v a fp} h p hp => by
    cases a with
    | inl r => exact o.dom h p hp
    | inr _ =>
      have h : fp = [] := h.1
      subst h; cases hp
  frz := fun {K HF HF' H v a fp} e k h => by
    cases a with
    | inl r => exact o.frz e k h
    | inr _ => trivial
  out x R v H := match x with
    | .inl r => o.out r R v H
    | .inr x => ∃ d, v = vD d ∧ E (cl x.c) d H

section
variable {P : Program} {w : World} {K : PySem.W.Frag} {mg : Str → Option Value} {base : Heap}
end
section
variable {X : Cx} {Γ : Ctx} {S L ρ α β A S' : Type} [Rp ρ] {o : Ow ρ} {Γo : S → Ctx} {ΓL : L → Ctx} {a b e f : Expr} {es : List Expr} {pos p p1 p2 pos2 : Pos} {ta tb te tf : TE} {t : TA} {sts : List Stmt} {tr tr' : TS}
/-- an expression that may raise -/
structure EXs [Rp ρ] (X : Cx) (W : WX) (Γ : Ctx) (e : Expr) (o : Ow ρ) (m : M (ρ ⊕ Exn)) (t : TE) : Prop where
  pe : PE X e t
  sem : ∀ HF0 G HF H σ, Good X.K HF0 G Γ HF H σ → ∀ c, m = .ok c → ∀ Q : VK, (match c with
    | .inl r => RetK X.K HF H o r Q
    | .inr x => ∀ HF' H' d, Step HF H HF' H' → XD HF' d x → W (clv X.K x.c) d σ H') → t σ H Q
section
variable {K : PySem.W.Frag} {E : XK}
end
end
end Ty

/-! ## Ty38: try: f(..) / except C as e: kept = e; what follows knows the exception -/
namespace L2
open PySem PySem.Spec PyProof.Rows
abbrev Cx.kp (X : Cx) (q : Addr × Obj) : Cx := { X with pn := q :: X.pn }
section
variable {X : Cx} {x n kx : Str} {c : Value} {i ik : Nat} {body rest : List Stmt} {np pos pos' p1 p2 p3 : Pos} {tb : WX → TS} {t0 : TS} {t1 : Addr → Value → Option Addr → TS} {Wout : WX}
theorem Cx.Ok.kp (ok : X.Ok) (q : Addr × Obj) : (X.kp q).Ok := { ok with }
end
end L2

/-! ## Ty39: the kept exception: its class, its field -/
namespace Ty
open PySem PySem.Spec PyProof.Rows L2
/-- an exception at hand -/
structure ExY where
  a : Addr
  d : Option Addr
  x : Exn
instance : Rp ExY where
  sh _ HF v e := v = .ref e.a ∧ XD HF e.d e.x
  mono := fun s h => ⟨h.1, h.2.mono s⟩
/-- what is known of the pinned exception -/
structure PinY (X : Cx) (c : Str) (d : Option Addr) (p : Addr × Obj) : Prop where
  C : ExcC X.K (He.ga X.K c)
  hz : Zc (clv X.K c) d p.2
  hf : ∃ vs, p.2.data = .fields vs
  hp : p ∈ X.pn
section
variable {X : Cx} {Γ : Ctx} {S L ρ α β A S' : Type} [Rp ρ] {o : Ow ρ} {Γo : S → Ctx} {ΓL : L → Ctx} {a b e f : Expr} {es : List Expr} {pos p p1 p2 pos2 : Pos} {ta tb te tf : TE} {t : TA} {sts : List Stmt} {tr tr' : TS}
/-- names of classes, one behind another -/
structure CN (X : Cx) (es : List Expr) (Ds : List Str) (t : TA) : Prop where
  pa : PA X es t
  sem : ∀ σ H (Q : List V → Hp → Prop), Q (Ds.map fun D => V.ref (He.ga X.K D)) H → t σ H Q
  nv : ∀ D ∈ Ds, D ≠ ("ValueError" : Str)
/-! ### try -/
structure BXs (X : Cx) (W : WX) (Γ : Ctx) (sts : List Stmt) (Γb : α → Ctx) (m : M (α ⊕ Exn)) (t : TS) : Prop where
  pss : PSs X sts t
  sem : ∀ HF0 G HF H σ, Good X.K HF0 G Γ HF H σ → ∀ c, m = .ok c → ∀ D : Ends, (match c with
    | .inl a => ∀ HF' H' σ', Same HF HF' → Good X.K HF0 G (Γb a) HF' H' σ' → D.nx σ' H'
    | .inr x => ∀ HF' H' d, Step HF H HF' H' → XD HF' d x → W (clv X.K x.c) d σ H') → t D σ H
end

/-! ### for the printer -/
end Ty

namespace Ty
open PySem PySem.W PySem.Calls PyProof.Rows He
/-! ### a hook that holds the statics' list, too -/
structure SaysZ (fa : List He.Fa) (fn : List He.DefD) (ex : PySem.W.Frag → Bool) (K : PySem.W.Frag) : Prop where
  d : He.SaysD fa fn K
  more : ex K = true
end Ty
namespace Ty
open PySem PySem.Spec PyProof.Rows L2
/-! ### great factors, of together less than 100 million bits -/
def CMulX (i j : Int) : Prop := i.natAbs.log2 + j.natAbs.log2 < 100000000
theorem CMulX.ok {i j : Int} (h : CMulX i j) : IntMulOk i j := by
  have b : ∀ x : Int, Builtin.Int.intBits x ≤ x.natAbs.log2 + 1 := fun x => by
    unfold Builtin.Int.intBits
    split <;> omega
  have h1 := b i
  have h2 := b j
  have h3 : i.natAbs.log2 + j.natAbs.log2 < 100000000 := h
  have e : bitsLine = 134217728 := by decide
  unfold IntMulOk
  intro z
  rw [Bool.and_eq_true] at z
  have z2 := z.2
  unfold Builtin.Int.intTooBig at z2
  have z3 := of_decide_eq_true z2
  rw [e] at z3
  omega
section
variable {X : Cx} {Γ : Ctx} {a b : Expr} {pos : Pos} {ta tb : TE}
end
end Ty
namespace L2
open PySem PySem.Spec PyProof.Rows
end L2

/-! ## Ty41: list(text) -/
namespace L2
open PySem PySem.Spec PyProof.Rows
end L2
namespace Ty
open PySem PySem.Spec PyProof.Rows L2
section
variable {X : Cx} {Γ : Ctx} {a : Expr} {ta : TE} {p pos : Pos}
end
end Ty

/-! ## Ty42: text.upper(), text[::-1], list[::k] -/
namespace L2
open PySem PySem.Spec PyProof.Rows
section
variable {X : Cx} {e : Expr} {te : TE}
/-! ### list[::k] -/
end
end L2
namespace Ty
open PySem PySem.Spec PyProof.Rows L2
section
variable {X : Cx} {Γ : Ctx} {a e o : Expr} {ta te to : TE} {p p1 p2 p3 pos apos cpos : Pos}
instance kdTu {α : Type} [Rp α] : Kd (Tu α) := ⟨"tuple", fun ⟨p, vs, e, h, _⟩ => by
  subst e
  rcases h with (h | ⟨o, h⟩) | ⟨o, its, n, e, c, _⟩
  · exact .base (.tup h)
  · exact .fTuple h
  · exact .kTuple e c⟩
end
end Ty

/-! ## Ty43: an except suite that hands its exception, field and all, to a def; calls in that def -/
namespace Ty
open PySem PySem.Spec PyProof.Rows L2
/-- a def called while an exception is handled -/
structure FnHt (P : Program) (w : World) (K : PySem.W.Frag) (mg : Str → Option Value) (base : Heap) (k : Nat) (f : Addr) (fd : FuncData) (ps : List Str) (sp : Sp) : Prop where
  len : ∀ vs H Q E, sp vs H Q E → vs.length = ps.length
  run : ∀ (A : Around) (outer : List Env) (s : Shared) (H : Hp) (args : Args) (us : List Value) (vs : List V) (Q : VK) (E : XK) (p : Addr × Obj), L2H.RoomH k A → L2H.PinOk outer H s p → Env0 P w K mg base A outer s H → BindsTo s fd args (ps.zip us) → Vals vs us → sp vs H Q E →
    codeAny (model P w) A (.call (.ref f) args) (CR CX0 outer P w H s Q E) s
/-- a def that is handed the exception -/
structure PinZ (K : PySem.W.Frag) (c : Str) (d : Option Addr) (p : Addr × Obj) : Prop where
  C : ExcC K (He.ga K c)
  hz : Zc (clv K c) d p.2
  hf : ∃ vs, p.2.data = .fields vs
def spZ {ρ : Type} [Rp ρ] (K : PySem.W.Frag) (o : Ow ρ) (fm : Exn → M ρ) (d : Option Addr) (x : Exn) (H : Hp) (Q : VK) : Prop := ∃ HF r, Same HF H ∧ XD HF d x ∧ fm x = .ok r ∧ RetK K HF H o r Q
structure FnZ (P : Program) (w : World) (K : PySem.W.Frag) (mg : Str → Option Value) (base : Heap) (k : Nat) (f : Addr) (fd : FuncData) (y : Str) {ρ : Type} [Rp ρ] (o : Ow ρ) (fm : Exn → M ρ) : Prop where
  run : ∀ (A : Around) (outer : List Env) (s : Shared) (H : Hp) (args : Args) (Q : VK) (E : XK) (p : Addr × Obj) (d : Option Addr) (x : Exn), L2H.RoomH k A → PinZ K x.c d p → L2H.PinOk outer H s p → Env0 P w K mg base A outer s H → BindsTo s fd args [(y, .ref p.1)] → spZ K o fm d x H Q →
    codeAny (model P w) A (.call (.ref f) args) (CR CX0 outer P w H s Q E) s
section
variable {P : Program} {w : World} {K : PySem.W.Frag} {mg : Str → Option Value} {base : Heap}
end
section
variable {X : Cx} {Γ : Ctx} {ρ α : Type} [Rp ρ] {o : Ow ρ} {a b e f : Expr} {es : List Expr} {pos p p1 p2 pos2 : Pos} {ta tb te tf : TE} {t : TA}
end
section
variable {X : Cx} {Γ : Ctx} {S L ρ α : Type} [Rp ρ] {o : Ow ρ} {Γo : S → Ctx} {ΓL : L → Ctx} {pos : Pos} {sts : List Stmt} {tr : TS}
end
end Ty

/-! ## Ty44: sorted(list of texts), min(list of texts), x = d.setdefault(k, e) -/
namespace L2
open PySem PySem.Spec PyProof.Rows
end L2
namespace Ty
open PySem PySem.Spec PyProof.Rows L2
section
variable {X : Cx} {Γ : Ctx} {S L ρ α β : Type} [Rp ρ] {o : Ow ρ} {Γo : S → Ctx} {ΓL : L → Ctx} {a b e : Expr} {pos p p1 apos cpos : Pos} {ta tb te : TE} {sts : List Stmt} {tr : TS}
/-! ### x = d.setdefault(k, e) -/
end
end Ty

set_option maxHeartbeats 1000000
/-! ## Ty45: reversed(text), at the library's level -/
namespace RS
open PySem PySem.Spec PyProof.Rows RT
def IsRs (h : Heap) (a : Addr) (x : Str) (t : Tok) (i : Int) : Prop := ∃ o, h.get? a = some o ∧ o.cls = .type "reversed" ∧ o.data = .fields #[.str x t, rawInt i]
theorem IsRs.at {h h' : Heap} {a : Addr} {x : Str} {t : Tok} {i : Int} (q : IsRs h a x t i) (e : ∀ o, h.get? a = some o → h'.get? a = some o) : IsRs h' a x t i := let ⟨o, ho, r⟩ := q; ⟨o, e _ ho, r⟩
section
variable {prog : Program} {w : World} {A : Around} {E : Value → Shared → Prop} {s : Shared} {x : Str} {t : Tok}
theorem IsRs.typeIs {a : Addr} {i : Int} (q : IsRs s.heap a x t i) : s.TypeIs (.ref a) "reversed" := let ⟨o, ho, hc, _⟩ := q; ⟨o, ho, hc⟩
end
section
variable {prog : Program} {w : World} {A : Around} {E : Value → Shared → Prop} {s : Shared} {x : Str} {t : Tok}
end
section
variable {prog : Program} {w : World} {A : Around} {s : Shared} {R : Result → Shared → Prop} {x : Str} {t : Tok}
end
end RS

set_option maxHeartbeats 1000000
/-! ## Ty46: sep.join(reversed(text)), list(reversed(text)) -/
namespace RS
open PySem PySem.Spec PyProof.Rows RT Builtin Builtin.Str
section
variable {prog : Program} {w : World} {A : Around} {E : Value → Shared → Prop} {s : Shared} {x sep : Str} {t u : Tok}
end
end RS
namespace RS
open PySem PySem.Spec PyProof.Rows L2
section
variable {X : Cx}
end
end RS
namespace Ty
open PySem PySem.Spec PyProof.Rows L2
section
variable {X : Cx} {Γ : Ctx} {e o : Expr} {te to : TE} {p p2 pos pos2 apos cpos : Pos}
end
end Ty

set_option maxHeartbeats 1000000
/-! ## Ty47: instances of own classes, fields set by __init__, methods told by the class -/
namespace L2
open PySem PySem.Spec PyProof.Rows
theorem PE.or {X : Cx} {e : Expr} {t1 t2 : TE} (h1 : PE X e t1) (h2 : PE X e t2) : PE X e (fun σ H Q => t1 σ H Q ∨ t2 σ H Q) := ⟨fun pins s σ H Q I h => h.elim (h1.run pins s σ H Q I) (h2.run pins s σ H Q I)⟩
end L2
namespace Ty
open PySem PySem.Spec PyProof.Rows L2
/-- an instance: its class's name, its fields -/
structure Ins where
  c : Str
  fs : List (Str × PV)
def fenc (fs : List (Str × PV)) : List (Str × V) := fs.map fun p => (p.1, p.2.enc)
instance : Rp Ins where
  sh K HF v x := ∃ a dx, v = .ref a ∧ HF a = some (.ins (He.ga K x.c) dx (fenc x.fs))
  mono := fun s ⟨a, dx, h1, h2⟩ => ⟨a, dx, h1, s _ _ h2⟩
instance : Inhabited Ins := ⟨⟨"", []⟩⟩
/-- what is known of a class -/
structure OCls (K : PySem.W.Frag) (c : Str) : Prop where
  cl : Cls K (He.ga K c)
  ha : PySem.W.findIn K (clv K c) "__class__" = some (some (.builtin "object.__class__"))
  hn : PySem.W.specialIn K (.builtin "object.__class__") "__get__" = some (some (.builtin "getset_descriptor.__get__"))
  ht : PySem.W.takesIn K (.builtin "object.__class__") = some true
  hm : PySem.W.mroIn K (He.ga K c) (.type "object") = some true
class Pvl (α : Type) [Rp α] where
  pv : α → PV
  ok : ∀ {K : PySem.W.Frag} {HF : Hp} {v : V} {a : α}, Rp.sh K HF v a → v = (pv a).enc
instance : Pvl Int := ⟨.i, fun h => Fl.sh_iff.mp h⟩
instance : Pvl Str := ⟨.s, fun h => Fl.sh_iff.mp h⟩
section
variable {P : Program} {w : World} {K : PySem.W.Frag} {mg : Str → Option Value} {base : Heap}
/-- a class that has no __init__ -/
structure MkN (K : PySem.W.Frag) (c : Str) : Prop where
  makes : PySem.W.makesIn K (He.ga K c) = true
  init : PySem.W.findIn K (clv K c) "__init__" = some (some (.builtin "object.__init__"))
  kp : PySem.W.keepIn K (clv K c) = true
end
section
variable {X : Cx} {Γ : Ctx} {α β γ A : Type} [Rp γ] {w : Ow γ} {a b e o : Expr} {es : List Expr} {pos p p1 apos cpos : Pos} {ta tb te to : TE} {t : TA}
/-! ### C(..) -/
end
end Ty

set_option maxHeartbeats 1000000
/-! ## Ty48: methods of own classes that may raise -/
namespace L2
open PySem PySem.Spec PyProof.Rows
/-! ### list.count of a text -/
end L2
namespace Ty
open PySem PySem.Spec PyProof.Rows L2
section
variable {X : Cx} {Γ : Ctx} {α ρ A : Type} [Rp ρ] {o : Ow ρ} {a b e e0 : Expr} {es : List Expr} {pos p p1 apos cpos : Pos} {ta tb te to : TE} {t : TA}
theorem ex_unOS {m : M (Option Str)} (h : EX X Γ e Ow.v m te) : EX X Γ e Ow.v (do let a ← m; ofO a) te :=
  ⟨h.pe, fun HF0 G HF H σ g c hc Q k => by
    obtain ⟨i, e1, e2⟩ := bind_ok hc
    have e3 : i = some c := ofO_ok e2
    subst e3
    exact h.sem HF0 G HF H σ g _ e1 Q fun v HF' H' fp st r n f => k v HF' H' fp st ⟨r.1, r.2⟩ n f⟩
end
section
variable {X : Cx} {Γ : Ctx} {S L ρ α β : Type} [Rp ρ] {o : Ow ρ} {Γo : S → Ctx} {ΓL : L → Ctx} {e f : Expr} {pos : Pos} {te tf : TE} {sts : List Stmt} {tr : TS}
end
end Ty

/-! ## Ty49: rfind -/
namespace Ty
open PySem PySem.Spec PyProof.Rows L2
section
variable {X : Cx} {Γ : Ctx} {o e : Expr} {apos cpos : Pos} {to : TE} {t : TA}
end
end Ty

/-! ## Ty50: values of one of several flat kinds -/
namespace Ty
open PySem PySem.Spec PyProof.Rows L2
/-- a number, a text or a truth value -/
inductive Uv where
  | i (n : Int)
  | s (x : Str)
  | b (x : Bool)
  deriving DecidableEq
def Uv.enc : Uv → V
  | .i n => .int n
  | .s x => .str x
  | .b x => .bl x
instance : Inhabited Uv := ⟨.i 0⟩
instance : Fl Uv := flOf Uv.enc
instance : Inhabited PV := ⟨.i 0⟩
instance : Fl PV := flOf PV.enc
def PV.py : PV → PyData
  | .i n => .int n
  | .s x => .str x
instance : Eqv PV := ⟨PV.py, fun u => match u with
    | .i _ => true
    | .s x => PySem.PyData.strOk x, 0, fun {K H v a} h => by
    cases a with
    | i n => cases h; exact .int _
    | s x => cases h; exact .str _, fun a h => by
    cases a with
    | i n => rfl
    | s x => simpa [PV.py, PyData.canLay0] using h, fun a => by cases a <;> simp [PV.py, PyData.depth], fun a b => by
    cases a <;> cases b <;> simp only [PV.py, PyData.eqv]
    · rename_i x y; by_cases h : x = y <;> simp [h]
    · simp
    · simp
    · rename_i x y; by_cases h : x = y <;> simp [h]⟩
section
variable {X : Cx} {Γ : Ctx} {e : Expr} {te : TE}
end
end Ty

/-! ## Ty51: sorted(text) -/
namespace L2
open PySem PySem.Spec PyProof.Rows
section
variable {X : Cx}
end
end L2
namespace Ty
open PySem PySem.Spec PyProof.Rows L2
section
variable {X : Cx} {Γ : Ctx} {e : Expr} {te : TE} {p pos : Pos}
end
end Ty
/-! ### range with a step -/
namespace Ty
open PySem PySem.Spec PyProof.Rows L2
section
variable {X : Cx} {Γ : Ctx} {a b c tg : Expr} {ta tb tc : TE} {p pos : Pos}
end
end Ty
/-! ### a name that a loop may have bound -/
namespace Ty
open PySem PySem.Spec PyProof.Rows L2
section
variable {X : Cx} {Γ : Ctx} {S L ρ α : Type} [Rp ρ] {o : Ow ρ} {Γo : S → Ctx} {ΓL : L → Ctx} {sts : List Stmt} {tr : TS}
end
end Ty

/-! ## Ty52: dict(enumerate(list)), dict(d), x = d.pop(k), d.pop(k), defs that call themselves, a default None -/
namespace L2
open PySem PySem.Spec PyProof.Rows
section
variable {X : Cx} {a : Expr} {p p2 q pos : Pos} {ta : TE}
end
end L2
namespace Ty
open PySem PySem.Spec PyProof.Rows L2
section
variable {X : Cx} {Γ : Ctx} {S L ρ α β κ : Type} [Rp ρ] {o : Ow ρ} {Γo : S → Ctx} {ΓL : L → Ctx} {a b e : Expr} {pos p p1 p2 q apos cpos : Pos} {ta tb te : TE} {sts : List Stmt} {tr : TS}
end
/-! ### a def that calls itself, its turns told -/
section
variable {P : Program} {w : World} {K : PySem.W.Frag} {mg : Str → Option Value} {base : Heap}
theorem fn_none {A ρ : Type} [Rp ρ] {CX : CXT} {k : Nat} {f : Addr} {fd : FuncData} {ps : List Str} {r : As A} {o : Ow ρ} {fm : A → M ρ} (h : ∀ a, fm a = no) : FnOk P w K mg base CX k f fd ps (spF K r o fm) := by
  refine ⟨fun vs H Q E hs => ?_, fun A outer s H args us vs Q E hr he hb hv hs => ?_⟩
  · obtain ⟨HF, a, c, h1, h2, h3, h4⟩ := hs
    rw [h a] at h3
    cases h3
  · obtain ⟨HF, a, c, h1, h2, h3, h4⟩ := hs
    rw [h a] at h3
    cases h3
end
/-! ### a default None -/
section
variable {X : Cx} {Γ : Ctx} {A A' ρ : Type} {e : Expr} {es : List Expr} {p pos : Pos} {t : TA}
end
end Ty
namespace Ty
open PySem PySem.Spec PyProof.Rows L2
end Ty

set_option maxHeartbeats 1000000
/-! ## Ty53: list(reversed(range(..))) -/
namespace RT
open PySem PySem.Spec PyProof.Rows L2
section
variable {prog : Program} {w : World} {A : Around} {E : Value → Shared → Prop} {s : Shared}
end
section
variable {X : Cx}
end
end RT
namespace Ty
open PySem PySem.Spec PyProof.Rows L2
section
variable {X : Cx} {Γ : Ctx} {e : Expr} {p p2 pos pos2 apos cpos : Pos} {te : TE}
end
end Ty

/-! ## Ty54: a loop that takes the own things of a list no one else has -/
namespace Ty
open PySem PySem.Spec PyProof.Rows L2
theorem Good.less {K : PySem.W.Frag} {HF0 G G' HF H : Hp} {Γ : Ctx} {σ : L2.St} (g : Good K HF0 G Γ HF H σ) (h : Same G' G) : Good K HF0 G' Γ HF H σ := by
  have hn : ∀ p, G p = none → G' p = none := fun p e => by
    cases q : G' p with
    | none => rfl
    | some u => rw [h p u q] at e; cases e
  obtain ⟨fs, h1, h2, h3⟩ := g.held
  exact ⟨g.sub, g.f0, h.trans g.g0, fun p o a b => hn p (g.nf p o a b), fs, h1, h2, fun p hp => ⟨(h3 p hp).1, hn p (h3 p hp).2⟩⟩
section
variable {X : Cx} {Γ : Ctx} {S L ρ α S' : Type} [Rp ρ] {o : Ow ρ} {Γo : S → Ctx} {ΓL : L → Ctx} {e : Expr} {pos p1 : Pos} {te : TE} {sts : List Stmt} {tr : TS}
end
end Ty

/-! ## Ty55: sorted(d.values()), texts; d[k] = ..pop.. -/
namespace L2
open PySem PySem.Spec PyProof.Rows
section
variable {X : Cx}
variable {o : Expr} {p pos apos mpos : Pos} {td : TE}
end
end L2
namespace Ty
open PySem PySem.Spec PyProof.Rows L2
section
variable {X : Cx} {Γ : Ctx} {S L ρ α β γ κ : Type} [Rp ρ] {o : Ow ρ} {Γo : S → Ctx} {ΓL : L → Ctx} {a b e f : Expr} {pos p p1 apos cpos mpos : Pos} {ta tb te tf : TE} {t : TA} {sts : List Stmt} {tr : TS}
end
end Ty

/-! ## Ty56: text.split(sep), max(d), int(text) -/
namespace L2
open PySem PySem.Spec PyProof.Rows
section
variable {X : Cx}
end
end L2
namespace Ty
open PySem PySem.Spec PyProof.Rows L2
section
variable {X : Cx} {Γ : Ctx} {S L ρ α β γ κ : Type} [Rp ρ] {o : Expr} {a b e f : Expr} {pos p p1 apos cpos mpos : Pos} {ta tb te tf to : TE} {t : TA} {sts : List Stmt} {tr : TS}
end
end Ty

/-! ## Ty57: sorted(d), int keys -/
namespace Ty
open PySem PySem.Spec PyProof.Rows L2
section
variable {X : Cx} {Γ : Ctx} {α β : Type} {e : Expr} {pos p : Pos} {te : TE}
end
end Ty

/-! ## Ty58: statements that are not come to -/
namespace Ty
open PySem PySem.Spec PyProof.Rows L2
theorem ss_no {S L ρ : Type} [Rp ρ] {X : Cx} {Γ : Ctx} {sts : List Stmt} {Γo : S → Ctx} {ΓL : L → Ctx} {o : Ow ρ} : SS X Γ sts Γo ΓL o (no : M (Ctl S L ρ)) (fun _ _ _ => False) :=
  ⟨⟨fun _ _ _ _ _ _ h => h.elim⟩, fun _ _ _ _ _ _ c hc => by cases hc⟩
end Ty

/-! ## Ty59: sorted(tuple), min of two tuples, tuple + tuple, list[a:b:c] -/
namespace PySem.W
open PySem PySem.Calls PyProof.Rows PyProof.V PySem.Spec
section
variable {prog : Program} {w : World} {A : Around} {E : Value → Shared → Prop} {s : Shared}
end
end PySem.W
namespace L2
open PySem PySem.Spec PyProof.Rows
section
variable {X : Cx}
end
end L2
namespace L2
open PySem PySem.Spec PyProof.Rows
section
variable {X : Cx}
end
end L2
namespace Ty
open PySem PySem.Spec PyProof.Rows L2
section
variable {X : Cx} {Γ : Ctx} {S L ρ α β γ : Type} [Rp ρ] {o : Ow ρ} {Γo : S → Ctx} {ΓL : L → Ctx} {a b e f : Expr} {pos p p1 p2 p3 apos cpos mpos pos2 : Pos} {ta tb te tf to : TE} {t : TA} {sts : List Stmt} {tr : TS}
end
end Ty
namespace L2
open PySem PySem.Spec PyProof.Rows
section
variable {X : Cx} {e : Expr} {te : TE}
end
end L2
namespace Ty
open PySem PySem.Spec PyProof.Rows L2
section
variable {X : Cx} {Γ : Ctx} {S L ρ α β γ : Type} [Rp ρ] {o : Ow ρ} {Γo : S → Ctx} {ΓL : L → Ctx} {a b e f : Expr} {pos p p1 p2 p3 p4 apos cpos mpos pos2 : Pos} {ta tb te tf to : TE} {t : TA} {sts : List Stmt} {tr : TS}
end
end Ty

/-! ## Ty60: a value that is None, a text or a list of truth values -/
namespace Ty
open PySem PySem.Spec PyProof.Rows L2
inductive Jv where
  | n
  | s (x : Str)
  | l (xs : List Bool)
instance : Inhabited Jv := ⟨.n⟩
instance : Rp Jv where
  sh K H v j := match j with
    | .n => v = .non
    | .s x => v = .str x
    | .l xs => Rp.sh K H v xs
  mono {K H H' v a} e h := by
    cases a with
    | n => exact h
    | s x => exact h
    | l xs => exact Rp.mono (α := List Bool) e h
section
variable {X : Cx} {Γ : Ctx} {e : Expr} {te : TE}
end
end Ty

/-! ## Ty61: lists whose items are the same objects -/
namespace L2
open PySem PySem.Spec PyProof.Rows
end L2
namespace Ty
open PySem PySem.Spec PyProof.Rows L2
/-- a list of instances whose items are known as they lie -/
structure Zr (vs : List V) where
  xs : List Ins
instance {vs : List V} : Rp (Zr vs) where
  sh K H v z := ∃ p, v = .ref p ∧ H p = some (.lst vs) ∧ Fa (Rp.sh K H) vs z.xs
  mono := fun {K H H' v a} e ⟨p, h1, h2, h3⟩ => ⟨p, h1, e _ _ h2, Fa.mono (fun _ _ h => Rp.mono e h) h3⟩
instance {vs : List V} : Inhabited (Zr vs) := ⟨⟨[]⟩⟩
section
variable {X : Cx} {Γ : Ctx} {e a b : Expr} {te ta tb : TE} {vs : List V}
end
section
variable {X : Cx} {Γ : Ctx} {S L ρ : Type} [Rp ρ] {o : Ow ρ} {Γo : S → Ctx} {ΓL : L → Ctx} {sts : List Stmt} {tr : TS}
end
section
variable {X : Cx} {Γ : Ctx} {γ : Type} [Rp γ] {w : Ow γ} {o : Expr} {pos apos : Pos} {to : TE}
end
end Ty

/-! ## Ty62: a def that changes its first argument, an own thing of the caller -/
namespace Ty
open PySem PySem.Spec PyProof.Rows L2
/-- the very thing at a place -/
def Ow.at {α : Type} [Rp α] (a0 : V) (o : Ow α) : Ow α where
  rep K HF H v a fp := v = a0 ∧ o.rep K HF H v a fp
  mono := fun e k ⟨h0, h⟩ => ⟨h0, o.mono e k h⟩
  dom := fun ⟨_, h⟩ => o.dom h
  frz := fun e k ⟨_, h⟩ => o.frz e k h
section
variable {X : Cx} {Γ : Ctx} {S L ρ α β : Type} [Rp ρ] {o : Ow ρ} {Γo : S → Ctx} {ΓL : L → Ctx} {a b e : Expr} {pos p p1 p2 : Pos} {ta tb te : TE} {sts : List Stmt} {tr : TS}
end
section
variable {P : Program} {w : World} {K : PySem.W.Frag} {mg : Str → Option Value} {base : Heap}
end
section
variable {X : Cx} {Γ : Ctx} {S L ρ α A : Type} [Rp ρ] {o : Ow ρ} {Γo : S → Ctx} {ΓL : L → Ctx} {e : Expr} {es : List Expr} {pos p p1 p2 : Pos} {t : TA} {sts : List Stmt} {tr : TS}
end
end Ty

/-! ## Ty63: a def of the program handed to another one; a test at a suite's only place; a default in a call that may raise -/
namespace Ty
open PySem PySem.Spec PyProof.Rows L2
inductive Fv where
  | mk
instance : Inhabited Fv := ⟨.mk⟩
instance : Rp Fv where
  sh K H v a := ∃ f, v = .ref f
  mono := fun _ h => h
section
variable {X : Cx} {Γ : Ctx} {S L ρ α β A A' B : Type} [Rp ρ] {o : Ow ρ} {Γo : S → Ctx} {ΓL : L → Ctx} {a b e : Expr} {es : List Expr} {pos p p1 p2 : Pos} {ta tb te : TE} {t : TA} {sts : List Stmt} {tr : TS}
end
end Ty

/-! ## Ty64: lists of two unlike things -/
namespace Ty
open PySem PySem.Spec PyProof.Rows L2
structure H2 (α β : Type) where
  a : α
  b : β
deriving DecidableEq
instance {α β : Type} [Inhabited α] [Inhabited β] : Inhabited (H2 α β) := ⟨⟨default, default⟩⟩
instance rpH2 {α β : Type} [Rp α] [Rp β] : Rp (H2 α β) where
  sh K H v x := ∃ p va vb, v = .ref p ∧ H p = some (.lst [va, vb]) ∧ Rp.sh K H va x.a ∧ Rp.sh K H vb x.b
  mono := fun e ⟨p, va, vb, h1, h2, h3, h4⟩ => ⟨p, va, vb, h1, e _ _ h2, Rp.mono e h3, Rp.mono e h4⟩
/-- an own list of two, its items shared -/
def Ow.h2 {α β : Type} [Rp α] [Rp β] : Ow (H2 α β) where
  rep K HF H v x fp := ∃ p va vb, v = .ref p ∧ fp = [p] ∧ H p = some (.lst [va, vb]) ∧ Rp.sh K HF va x.a ∧ Rp.sh K HF vb x.b
  mono := fun e k ⟨p, va, vb, h1, h2, h3, h4, h5⟩ => by
    subst h2
    exact ⟨p, va, vb, h1, rfl, k p (List.mem_singleton.mpr rfl) _ h3, Rp.mono e h4, Rp.mono e h5⟩
  dom := fun ⟨p, va, vb, h1, h2, h3, h4, h5⟩ q hq => by
    subst h2
    rw [List.mem_singleton.mp hq]
    exact ⟨_, h3⟩
  frz := fun e k ⟨p, va, vb, h1, h2, h3, h4, h5⟩ => by
    subst h2
    exact ⟨p, va, vb, h1, k p (List.mem_singleton.mpr rfl) _ h3, Rp.mono e h4, Rp.mono e h5⟩
instance eqvH2 {α β : Type} [Rp α] [Rp β] [DecidableEq α] [DecidableEq β] [Eqv α] [Eqv β] : Eqv (H2 α β) where
  py x := .list [Eqv.py x.a, Eqv.py x.b]
  ok x := Eqv.ok x.a && Eqv.ok x.b
  dep := max (Eqv.dep α) (Eqv.dep β) + 1
  dp := fun ⟨p, va, vb, h1, h2, h3, h4⟩ => by subst h1; exact .lst (SqL.of h2) (.cons (Eqv.dp h3) (.cons (Eqv.dp h4) .nil))
  lay := fun x h => by
    rw [Bool.and_eq_true] at h
    simp [PyData.canLay0, PyData.canLayAll0, Eqv.lay x.a h.1, Eqv.lay x.b h.2]
  deep := fun x => by
    have h1 := Eqv.deep x.a
    have h2 := Eqv.deep x.b
    simp only [PyData.depth, PyData.depthAll]
    omega
  eqv := fun ⟨a, b⟩ ⟨d, e⟩ => by
    simp only [PyData.eqv, PyData.eqvAll, Eqv.eqv]
    by_cases h1 : a = d <;> by_cases h2 : b = e <;> simp [h1, h2]
instance {α β : Type} [Rp α] [Rp β] [DecidableEq α] [DecidableEq β] [Eqv α] [Eqv β] [EqvT α] [EqvT β] : EqvT (H2 α β) := ⟨fun x => by
  show (Eqv.ok x.a && Eqv.ok x.b) = true
  rw [EqvT.all, EqvT.all]; rfl⟩
end Ty
namespace Ty
open PySem PySem.Spec PyProof.Rows L2
/-! ### a call one of whose arguments may raise -/
structure EAs {A : Type} (X : Cx) (W : WX) (Γ : Ctx) (es : List Expr) (r : As A) (m : M (A ⊕ Exn)) (t : TA) : Prop where
  pa : PA X es t
  sem : ∀ HF0 G HF H σ, Good X.K HF0 G Γ HF H σ → ∀ c, m = .ok c → ∀ Q : List V → Hp → Prop, (match c with
    | .inl a => ∀ vs HF' H', Step HF H HF' H' → r.rep X.K HF' vs a → Q vs H'
    | .inr x => ∀ HF' H' d, Step HF H HF' H' → XD HF' d x → W (clv X.K x.c) d σ H') → t σ H Q
section
variable {X : Cx} {Γ : Ctx} {α A B ρ : Type} [Rp ρ] {e : Expr} {es : List Expr} {p pos : Pos} {te : TE} {t : TA}
end
end Ty

namespace Ty
open PySem PySem.Spec PyProof.Rows L2
/-! ### tuples of ints and texts as keys of dicts -/
class Kt (κ : Type) where
  keys : κ → List Key
  inj : ∀ a b, keys a = keys b → a = b
theorem inl_inj : ∀ a b : List Int, a.map (Sum.inl : Int → Key) = b.map Sum.inl → a = b
  | [], [], _ => rfl
  | [], _ :: _, h => by simp at h
  | _ :: _, [], h => by simp at h
  | x :: a, y :: b, h => by
    rw [List.map_cons, List.map_cons] at h
    obtain ⟨h1, h2⟩ := List.cons.inj h
    rw [Sum.inl.inj h1, inl_inj a b h2]
instance ktL : Kt (List Int) := ⟨fun l => l.map Sum.inl, inl_inj⟩
instance ktP {α β : Type} [Ky α] [Ky β] : Kt (α × β) := ⟨fun p => [Ky.key p.1, Ky.key p.2], fun a b h => by
  obtain ⟨h1, h2⟩ := List.cons.inj h
  obtain ⟨h3, -⟩ := List.cons.inj h2
  exact Prod.ext (Ky.inj _ _ h1) (Ky.inj _ _ h3)⟩
structure Tq (κ : Type) where
  a : κ
  deriving DecidableEq
instance {κ : Type} [Inhabited κ] : Inhabited (Tq κ) := ⟨⟨default⟩⟩
instance rpTq {κ : Type} [Kt κ] : Rp (Tq κ) where
  sh K H v x := ∃ b, v = .ref b ∧ H b = some (.tup ((Kt.keys x.a).map kV))
  mono := fun e ⟨b, h1, h2⟩ => ⟨b, h1, e _ _ h2⟩
structure Dt (κ β : Type) where
  l : List (κ × β)
instance {κ β : Type} : Inhabited (Dt κ β) := ⟨⟨[]⟩⟩
def Ft {κ β : Type} [Kt κ] (R : V → β → Prop) : List (List Key × V) → List (κ × β) → Prop
  | [], [] => True
  | p :: ps, q :: qs => (p.1 = Kt.keys q.1 ∧ R p.2 q.2) ∧ Ft R ps qs
  | _, _ => False
theorem Ft.mono {κ β : Type} [Kt κ] {R R' : V → β → Prop} (h : ∀ v b, R v b → R' v b) : ∀ {ps : List (List Key × V)} {qs : List (κ × β)}, Ft R ps qs → Ft R' ps qs
  | [], [], _ => True.intro
  | _ :: _, _ :: _, ⟨⟨x, y⟩, z⟩ => ⟨⟨x, h _ _ y⟩, Ft.mono h z⟩
  | [], _ :: _, x => x.elim
  | _ :: _, [], x => x.elim
theorem Ft.len {κ β : Type} [Kt κ] {R : V → β → Prop} : ∀ {ps : List (List Key × V)} {qs : List (κ × β)}, Ft R ps qs → ps.length = qs.length
  | [], [], _ => rfl
  | _ :: _, _ :: _, ⟨_, z⟩ => congrArg (· + 1) (Ft.len z)
  | [], _ :: _, x => x.elim
  | _ :: _, [], x => x.elim
instance rpDt {κ β : Type} [Kt κ] [Rp β] : Rp (Dt κ β) where
  sh K H v d := ∃ p kvs, v = .ref p ∧ H p = some (.dT kvs) ∧ Ft (Rp.sh K H) kvs d.l
  mono := fun e ⟨p, kvs, h1, h2, h3⟩ => ⟨p, kvs, h1, e _ _ h2, Ft.mono (fun _ _ h => Rp.mono e h) h3⟩
def Rt {κ β : Type} [Kt κ] (R : V → β → List Addr → Prop) : List (List Key × V) → List (κ × β) → List Addr → Prop
  | [], [], fp => fp = []
  | p :: ps, q :: qs, fp => p.1 = Kt.keys q.1 ∧ ∃ f1 f2, fp = f1 ++ f2 ∧ R p.2 q.2 f1 ∧ Rt R ps qs f2
  | _, _, _ => False
theorem Rt.mono {κ β : Type} [Kt κ] {R R' : V → β → List Addr → Prop} : ∀ {ps : List (List Key × V)} {qs : List (κ × β)} {fp : List Addr}, (∀ v b f, (∀ p ∈ f, p ∈ fp) → R v b f → R' v b f) → Rt R ps qs fp → Rt R' ps qs fp
  | [], [], _, _, e => e
  | p :: ps, q :: qs, fp, h, ⟨x, f1, f2, e, y, z⟩ => ⟨x, f1, f2, e, h _ _ _ (fun p hp => by rw [e]; exact List.mem_append_left _ hp) y,
      Rt.mono (fun v a f hf => h v a f fun p hp => by rw [e]; exact List.mem_append_right _ (hf p hp)) z⟩
  | [], _ :: _, _, _, x => x.elim
  | _ :: _, [], _, _, x => x.elim
theorem Rt.ft {κ β : Type} [Kt κ] {R : V → β → List Addr → Prop} {R' : V → β → Prop} : ∀ {ps : List (List Key × V)} {qs : List (κ × β)} {fp : List Addr}, (∀ v b f, (∀ p ∈ f, p ∈ fp) → R v b f → R' v b) → Rt R ps qs fp → Ft R' ps qs
  | [], [], _, _, _ => True.intro
  | p :: ps, q :: qs, fp, h, ⟨x, f1, f2, e, y, z⟩ => ⟨⟨x, h _ _ _ (fun p hp => by rw [e]; exact List.mem_append_left _ hp) y⟩,
      Rt.ft (fun v a f hf => h v a f fun p hp => by rw [e]; exact List.mem_append_right _ (hf p hp)) z⟩
  | [], _ :: _, _, _, x => x.elim
  | _ :: _, [], _, _, x => x.elim
theorem Rt.dom {κ β : Type} [Kt κ] {R : V → β → List Addr → Prop} {D : Addr → Prop} (h : ∀ v b f, R v b f → ∀ p ∈ f, D p) : ∀ {ps : List (List Key × V)} {qs : List (κ × β)} {fp : List Addr}, Rt R ps qs fp → ∀ p ∈ fp, D p
  | [], [], fp, e, p, hp => by
    have e' : fp = [] := e
    subst e'; cases hp
  | _ :: ps, q :: qs, fp, ⟨x, f1, f2, e, y, z⟩, p, hp => by
    rw [e] at hp
    rcases List.mem_append.mp hp with hp | hp
    · exact h _ _ _ y p hp
    · exact Rt.dom h z p hp
  | [], _ :: _, _, x, _, _ => x.elim
  | _ :: _, [], _, x, _, _ => x.elim
theorem Rt.snoc {κ β : Type} [Kt κ] {R : V → β → List Addr → Prop} {k : κ} {v : V} {b : β} {g : List Addr} (h : R v b g) : ∀ {ps : List (List Key × V)} {qs : List (κ × β)} {fp : List Addr}, Rt R ps qs fp → Rt R (ps ++ [(Kt.keys k, v)]) (qs ++ [(k, b)]) (fp ++ g)
  | [], [], fp, e => by
    have e' : fp = [] := e
    subst e'
    exact ⟨rfl, g, [], by simp, h, rfl⟩
  | p :: ps, q :: qs, fp, ⟨x, f1, f2, e, y, z⟩ => ⟨x, f1, f2 ++ g, by rw [e, List.append_assoc], y, Rt.snoc h z⟩
  | [], _ :: _, _, x => x.elim
  | _ :: _, [], _, x => x.elim
theorem Rt.len {κ β : Type} [Kt κ] {R : V → β → List Addr → Prop} : ∀ {ps : List (List Key × V)} {qs : List (κ × β)} {fp : List Addr}, Rt R ps qs fp → ps.length = qs.length
  | [], [], _, _ => rfl
  | _ :: _, _ :: _, _, ⟨_, _, _, _, _, z⟩ => congrArg (· + 1) (Rt.len z)
  | [], _ :: _, _, x => x.elim
  | _ :: _, [], _, x => x.elim
theorem Rt.toFt {κ β : Type} [Kt κ] [Rp β] {K : PySem.W.Frag} {HF H : Hp} : ∀ {ps : List (List Key × V)} {qs : List (κ × β)} {fp : List Addr}, Rt (Ow.v.rep K HF H) ps qs fp → Ft (Rp.sh K HF) ps qs ∧ fp = []
  | [], [], _, e => ⟨True.intro, e⟩
  | p :: ps, q :: qs, fp, ⟨x, f1, f2, e, ⟨y, e1⟩, z⟩ => by
    obtain ⟨z1, e2⟩ := Rt.toFt z
    exact ⟨⟨⟨x, y⟩, z1⟩, by rw [e, e1, e2]; rfl⟩
  | [], _ :: _, _, x => x.elim
  | _ :: _, [], _, x => x.elim
/-- an own dict whose keys are tuples -/
def Ow.dt {κ β : Type} [Kt κ] [Rp β] (o : Ow β) : Ow (Dt κ β) where
  rep K HF H v d fp := ∃ p kvs fq, v = .ref p ∧ fp = p :: fq ∧ H p = some (.dT kvs) ∧ Rt (o.rep K HF H) kvs d.l fq
  mono := fun e k ⟨p, kvs, fq, h1, h2, h3, h4⟩ => by
    subst h2
    exact ⟨p, kvs, fq, h1, rfl, k p (List.mem_cons_self ..) _ h3, Rt.mono (fun v a f hf h => o.mono e (fun q hq => k q (List.mem_cons_of_mem _ (hf q hq))) h) h4⟩
  dom := fun ⟨p, kvs, fq, h1, h2, h3, h4⟩ q hq => by
    subst h2
    rcases List.mem_cons.mp hq with e | hq
    · exact ⟨_, e ▸ h3⟩
    · exact Rt.dom (fun v a f h => o.dom h) h4 q hq
  frz := fun e k ⟨p, kvs, fq, h1, h2, h3, h4⟩ => by
    subst h2
    exact ⟨p, kvs, h1, k p (List.mem_cons_self ..) _ h3, Rt.ft (fun v a f hf h => o.frz e (fun q hq => k q (List.mem_cons_of_mem _ (hf q hq))) h) h4⟩
instance indDt {κ β : Type} [Kt κ] [Rp β] {o : Ow β} [Ind o] : Ind (Ow.dt (κ := κ) o) where
  ind := fun ⟨p, kvs, fq, h1, h2, h3, h4⟩ => ⟨p, kvs, fq, h1, h2, h3, Rt.mono (fun v a f _ h => Ind.ind h) h4⟩
section
variable {κ β : Type} [Kt κ] [DecidableEq κ] {R : V → β → Prop}
theorem keys_dec (a b : κ) : decide (Kt.keys a = Kt.keys b) = decide (a = b) := by
  by_cases h : a = b
  · subst h; simp
  · rw [decide_eq_false h, decide_eq_false fun e => h (Kt.inj a b e)]
theorem Ft.get (k : κ) : ∀ {ps : List (List Key × V)} {qs : List (κ × β)}, Ft R ps qs → (∀ b, dget qs k = some b → ∃ v, valV ps (Kt.keys k) = some v ∧ R v b) ∧ (dget qs k = none → valV ps (Kt.keys k) = none)
  | [], [], _ => ⟨fun b h => by simp [dget] at h, fun _ => rfl⟩
  | p :: ps, q :: qs, ⟨⟨x, y⟩, z⟩ => by
    have ih := Ft.get k z
    by_cases h : q.1 = k
    · have e1 : dget (q :: qs) k = some q.2 := by simp [dget, h]
      have e2 : valV (p :: ps) (Kt.keys k) = some p.2 := valV_pos (by rw [x, h])
      rw [e1, e2]
      exact ⟨fun b e => ⟨p.2, rfl, by rw [← Option.some.inj e]; exact y⟩, fun e => by cases e⟩
    · have e1 : dget (q :: qs) k = dget qs k := by simp [dget, h]
      have e2 : valV (p :: ps) (Kt.keys k) = valV ps (Kt.keys k) := valV_neg fun e => h (Kt.inj _ _ (by rw [← x, e]))
      rw [e1, e2]
      exact ih
  | [], _ :: _, x => x.elim
  | _ :: _, [], x => x.elim
/-- the own value of a key -/
theorem Rt.get {R : V → β → List Addr → Prop} (k : κ) {b : β} : ∀ {ps : List (List Key × V)} {qs : List (κ × β)} {fp : List Addr}, Rt R ps qs fp → dget qs k = some b → ∃ v f, valV ps (Kt.keys k) = some v ∧ R v b f ∧ (∀ p ∈ f, p ∈ fp) ∧ (fp.Nodup → f.Nodup)
  | [], [], _, _, h => by simp [dget] at h
  | p :: ps, q :: qs, fp, ⟨x, f1, f2, e, y, z⟩, hb => by
    by_cases h : q.1 = k
    · have e1 : dget (q :: qs) k = some q.2 := by simp [dget, h]
      have e2 : valV (p :: ps) (Kt.keys k) = some p.2 := valV_pos (by rw [x, h])
      rw [e1] at hb
      rw [← Option.some.inj hb]
      exact ⟨p.2, f1, e2, y, fun p hp => by rw [e]; exact List.mem_append_left _ hp, fun n => by rw [e] at n; exact (List.nodup_append.mp n).1⟩
    · have e1 : dget (q :: qs) k = dget qs k := by simp [dget, h]
      have e2 : valV (p :: ps) (Kt.keys k) = valV ps (Kt.keys k) := valV_neg fun e => h (Kt.inj _ _ (by rw [← x, e]))
      rw [e1] at hb
      obtain ⟨v, f, a1, a2, a3, a4⟩ := Rt.get k z hb
      exact ⟨v, f, by rw [e2]; exact a1, a2, fun p hp => by rw [e]; exact List.mem_append_right _ (a3 p hp), fun n => by rw [e] at n; exact a4 (List.nodup_append.mp n).2.1⟩
  | [], _ :: _, _, x, _ => x.elim
  | _ :: _, [], _, x, _ => x.elim
theorem Rt.put {R : V → β → List Addr → Prop} (k : κ) {v : V} {b : β} {g fp : List Addr} (h : R v b g) {ps : List (List Key × V)} {qs : List (κ × β)} (f : Rt R ps qs fp) (hn : dget qs k = none) : Rt R (putK ps (Kt.keys k) v) (qs ++ [(k, b)]) (fp ++ g) := by
  have : (ps.any fun p => decide (p.1 = Kt.keys k)) = false := by
    induction ps generalizing qs fp with
    | nil => rfl
    | cons p ps ih =>
      cases qs with
      | nil => exact f.elim
      | cons q qs =>
        obtain ⟨x, f1, f2, e, y, z⟩ := f
        have hq : q.1 ≠ k := fun e => by simp [dget, e] at hn
        have e1 : dget (q :: qs) k = dget qs k := by simp [dget, hq]
        rw [List.any_cons, ih z (by rw [← e1]; exact hn), x, keys_dec, decide_eq_false hq]; rfl
  unfold putK
  rw [this, if_neg (by decide)]
  exact Rt.snoc h f
theorem Ft.any (k : κ) : ∀ {ps : List (List Key × V)} {qs : List (κ × β)}, Ft R ps qs → (ps.any fun p => decide (p.1 = Kt.keys k)) = qs.any fun p => decide (p.1 = k)
  | [], [], _ => rfl
  | p :: ps, q :: qs, ⟨⟨x, y⟩, z⟩ => by rw [List.any_cons, List.any_cons, Ft.any k z, x, keys_dec]
  | [], _ :: _, x => x.elim
  | _ :: _, [], x => x.elim
theorem Ft.app : ∀ {ps ps' : List (List Key × V)} {qs qs' : List (κ × β)}, Ft R ps qs → Ft R ps' qs' → Ft R (ps ++ ps') (qs ++ qs')
  | [], _, [], _, _, h => h
  | _ :: _, _, _ :: _, _, ⟨x, y⟩, h => ⟨x, Ft.app y h⟩
  | [], _, _ :: _, _, x, _ => x.elim
  | _ :: _, _, [], _, x, _ => x.elim
theorem Ft.upd (k : κ) {v : V} {b : β} (h : R v b) : ∀ {ps : List (List Key × V)} {qs : List (κ × β)}, Ft R ps qs → Ft R (ps.map fun p => if p.1 = Kt.keys k then (p.1, v) else p) (qs.map fun p => if p.1 = k then (k, b) else p)
  | [], [], _ => True.intro
  | p :: ps, q :: qs, ⟨⟨x, y⟩, z⟩ => by
    refine ⟨?_, Ft.upd k h z⟩
    show (if p.1 = Kt.keys k then (p.1, v) else p).1 = Kt.keys (if q.1 = k then (k, b) else q).1 ∧ R (if p.1 = Kt.keys k then (p.1, v) else p).2 (if q.1 = k then (k, b) else q).2
    by_cases e : q.1 = k
    · rw [if_pos (by rw [x, e]), if_pos e]
      exact ⟨by rw [x, e], h⟩
    · rw [if_neg (fun w => e (Kt.inj _ _ (by rw [← x, w]))), if_neg e]
      exact ⟨x, y⟩
  | [], _ :: _, x => x.elim
  | _ :: _, [], x => x.elim
theorem Ft.put (k : κ) {v : V} {b : β} (h : R v b) {ps : List (List Key × V)} {qs : List (κ × β)} (f : Ft R ps qs) : Ft R (putK ps (Kt.keys k) v) (dput qs k b) := by
  unfold putK dput
  rw [f.any k]
  by_cases c : (qs.any fun p => decide (p.1 = k)) = true
  · rw [if_pos c, if_pos c]; exact f.upd k h
  · rw [if_neg c, if_neg c]
    exact f.app ⟨⟨rfl, h⟩, True.intro⟩
end
/-! ### {tuple: value} -/
section
variable {X : Cx} {Γ : Ctx} {S L ρ α β κ γ A B S' : Type} [Rp ρ] {o : Ow ρ} {Γo : S → Ctx} {ΓL : L → Ctx} {a b c e f : Expr} {es : List Expr} {pos p p1 p2 apos cpos : Pos} {ta tb tc te tf : TE} {t : TA} {sts : List Stmt} {tr tr' : TS}
end
end Ty

namespace Ty
open PySem PySem.Spec PyProof.Rows L2
section
variable {X : Cx} {Γ : Ctx} {S L ρ α β κ γ A B S' : Type} [Rp ρ] {o : Ow ρ} {Γo : S → Ctx} {ΓL : L → Ctx} {a b c e f : Expr} {es : List Expr} {pos p p1 p2 apos cpos : Pos} {ta tb tc te tf : TE} {t : TA} {sts : List Stmt} {tr tr' : TS}
/-- an own list's shared item -/
theorem ex_ixOv {K : PySem.W.Frag} [Rp α] (i : Nat) {as : List α} {x : Str} {n : M Int} (hb : EX X Γ b Ow.v n tb) (hl : look Γ i = .mk (Ow.l (Ow.v (α := α))) as := by rfl) (hN : X.N[i]? = some x := by rfl) (hv : Vis X.env.scope x := by first | exact Or.inl rfl | exact Or.inr (Or.inl rfl) | exact Or.inr (Or.inr rfl)) (hd : (x == ("__debug__" : Str)) = false := by decide)
    (hcd : (x == ("__classdict__" : Str)) = false := by decide) (hs : PlainIx b := by intro _ _; rfl) (hK : X.K = K := by rfl) : EX X Γ (.Subscript (.Name x p) b pos) Ow.v (do let b ← n; atM as b) (tOp (rIxL K) (tVar i) tb) := by
  subst hK
  exact ⟨pe_ix ix_list (pe_var hN hv hd hcd) hb.pe hs, fun HF0 G HF H σ g c hc Q k => by
    obtain ⟨y, e1, hc⟩ := bind_ok hc
    obtain ⟨fs, g1, _, _⟩ := g.held
    obtain ⟨v, f, g2, ⟨q, vs, fq, h1, h2, h3, h4⟩, _⟩ := g1.get hl
    have h5 := Rl.toFa h4
    refine ⟨v, g2, ?_⟩
    refine hb.sem HF0 G HF H σ g y e1 _ fun w HF1 H1 fp s1 r1 _ _ => ?_
    have e5 := Fl.sh_iff.mp r1.1
    obtain ⟨z, a1, a2⟩ := atI_fa (R := Rp.sh X.K HF1) (Fa.mono (fun _ _ h => Rp.mono s1.exF h) h5.1) (ofO_ok hc)
    exact ⟨q, vs, y, z, h1, e5, SqL.of (s1.exH _ _ h3), a1, (k.back s1).shv s1.sub a2⟩⟩
end
end Ty

/-! ## Ty67: some statements that look at own things, which stay own -/
namespace Ty
open PySem PySem.Spec PyProof.Rows L2
section
variable {X : Cx} {Γ : Ctx} {S L ρ α β κ γ A B S' : Type} [Rp ρ] {o : Ow ρ} {Γo : S → Ctx} {ΓL : L → Ctx} {a b c e f : Expr} {es : List Expr} {pos p p1 p2 apos cpos : Pos} {ta tb tc te tf : TE} {t : TA} {sts : List Stmt} {tr tr' : TS}
end
end Ty

/-! ## Ty68: None, a list of whatever things, or a text and a number -/
namespace Ty
open PySem PySem.Spec PyProof.Rows L2
inductive Opq where
  | o
  deriving DecidableEq
instance : Inhabited Opq := ⟨.o⟩
instance : Rp Opq where
  sh _ _ _ _ := True
  mono _ h := h
inductive Xv where
  | n
  | l (as : List Opq)
  | p (x : Str × Int)
instance : Inhabited Xv := ⟨.n⟩
instance : Rp Xv where
  sh K H v j := match j with
    | .n => v = .non
    | .l xs => Rp.sh K H v xs
    | .p x => Rp.sh K H v x
  mono {K H H' v a} e h := by
    cases a with
    | n => exact h
    | l xs => exact Rp.mono (α := List Opq) e h
    | p x => exact Rp.mono (α := Str × Int) e h
section
variable {X : Cx} {Γ : Ctx} {α A B ρ : Type} [Rp ρ] {e : Expr} {es : List Expr} {p pos : Pos} {te : TE} {t : TA}
end
end Ty

/-! ## Ty69: a def that may raise and tells nothing -/
namespace Ty
open PySem PySem.Spec PyProof.Rows L2
section
variable {P : Program} {w : World} {K : PySem.W.Frag} {mg : Str → Option Value} {base : Heap}
end
end Ty

/-! ## Ty70: the keys of a dict of tuples as a list; tuples of ints sorted -/
namespace Ty
open PySem PySem.Spec PyProof.Rows L2
/-! ### the order of lists of ints -/
/-! ### sorted -/
section
variable {X : Cx} {pins : List (Addr × Obj)} {σ : L2.St} {H : Hp} {s : Shared}
end
section
variable {X : Cx} {Γ : Ctx} {α β κ : Type} {e : Expr} {p pos : Pos} {te : TE}
end
end Ty

/-! ## Ty71: three things told as one; list[::-1] -/
namespace L2
open PySem PySem.Spec PyProof.Rows
section
variable {X : Cx} {e : Expr} {te : TE}
end
end L2
namespace Ty
open PySem PySem.Spec PyProof.Rows L2
/-- a list of whatever -/
inductive Lsv where
  | l
  deriving DecidableEq
instance : Inhabited Lsv := ⟨.l⟩
instance : Rp Lsv where
  sh K H v _ := ∃ p vs, v = .ref p ∧ H p = some (.lst vs)
  mono := fun {K H H' v a} e ⟨p, vs, h1, h2⟩ => ⟨p, vs, h1, e _ _ h2⟩
instance : Kd Lsv := ⟨"list", fun ⟨p, vs, e, h⟩ => by subst e; exact .base (.lst h)⟩
instance kdT3 {α β γ : Type} [Rp α] [Rp β] [Rp γ] : Kd (T3 α β γ) := ⟨"tuple", fun ⟨p, va, vb, vc, e, h, _⟩ => by
  subst e
  rcases h with (h | ⟨o, h⟩) | ⟨o, its, n, e, c, _⟩
  · exact .base (.tup h)
  · exact .fTuple h
  · exact .kTuple e c⟩
instance eqvT3 {α β γ : Type} [Rp α] [Rp β] [Rp γ] [DecidableEq α] [DecidableEq β] [DecidableEq γ] [Eqv α] [Eqv β] [Eqv γ] : Eqv (T3 α β γ) where
  py x := .tuple [Eqv.py x.a, Eqv.py x.b, Eqv.py x.c]
  ok x := Eqv.ok x.a && (Eqv.ok x.b && Eqv.ok x.c)
  dep := max (Eqv.dep α) (max (Eqv.dep β) (Eqv.dep γ)) + 1
  dp := fun ⟨p, va, vb, vc, h1, h2, h3, h4, h5⟩ => by subst h1; exact .tup h2 (.cons (Eqv.dp h3) (.cons (Eqv.dp h4) (.cons (Eqv.dp h5) .nil)))
  lay := fun x h => by
    rw [Bool.and_eq_true, Bool.and_eq_true] at h
    simp [PyData.canLay0, PyData.canLayAll0, Eqv.lay x.a h.1, Eqv.lay x.b h.2.1, Eqv.lay x.c h.2.2]
  deep := fun x => by
    have h1 := Eqv.deep x.a
    have h2 := Eqv.deep x.b
    have h3 := Eqv.deep x.c
    simp only [PyData.depth, PyData.depthAll]
    omega
  eqv := fun ⟨a, b, c⟩ ⟨d, e, f⟩ => by
    simp only [PyData.eqv, PyData.eqvAll, Eqv.eqv, T3.mk.injEq]
    by_cases h1 : a = d <;> by_cases h2 : b = e <;> by_cases h3 : c = f <;> simp [h1, h2, h3]
instance {α β γ : Type} [Rp α] [Rp β] [Rp γ] [DecidableEq α] [DecidableEq β] [DecidableEq γ] [Eqv α] [Eqv β] [Eqv γ] [EqvT α] [EqvT β] [EqvT γ] : EqvT (T3 α β γ) := ⟨fun a => by
  show (Eqv.ok a.a && (Eqv.ok a.b && Eqv.ok a.c)) = true
  rw [EqvT.all, EqvT.all, EqvT.all]; rfl⟩
instance eqvOpL {α : Type} [Rp α] [DecidableEq α] [Eqv α] : Eqv (Op (List α)) where
  py x := match x.o with | none => .none | some a => Eqv.py a
  ok x := match x.o with | none => true | some a => Eqv.ok a
  dep := Eqv.dep (List α)
  dp := fun {K H v a} h => by
    obtain ⟨o⟩ := a
    cases o with
    | none => have h : v = .non := h; subst h; exact .non
    | some a => exact Eqv.dp (α := List α) h
  lay := fun x h => by
    obtain ⟨o⟩ := x
    cases o with
    | none => simp [PyData.canLay0]
    | some a => exact Eqv.lay (α := List α) a h
  deep := fun x => by
    obtain ⟨o⟩ := x
    cases o with
    | none => simp [PyData.depth]
    | some a => exact Eqv.deep (α := List α) a
  eqv := fun ⟨a⟩ ⟨b⟩ => by
    cases a with
    | none =>
      cases b with
      | none => simp [PyData.eqv]
      | some b =>
        show PyData.eqv .none (.list (b.map Eqv.py)) = _
        simp [PyData.eqv]
    | some a =>
      cases b with
      | none =>
        show PyData.eqv (.list (a.map Eqv.py)) .none = _
        simp [PyData.eqv]
      | some b =>
        show PyData.eqv (Eqv.py a) (Eqv.py b) = _
        rw [Eqv.eqv]
        by_cases h : a = b <;> simp [h]
instance {α : Type} [Rp α] [DecidableEq α] [Eqv α] [EqvT α] : EqvT (Op (List α)) := ⟨fun ⟨a⟩ => by
  cases a with
  | none => rfl
  | some a => exact EqvT.all a⟩
theorem step_none {HF1 H1 HF2 H2 : Hp} {p : Addr} (s : Step HF1 H1 HF2 H2) (h : HF1 p = none) (d : ∃ u, H1 p = some u) : HF2 p = none := by
  cases q : HF2 p with
  | none => rfl
  | some u =>
    have := s.new p u q h
    obtain ⟨u', hu⟩ := d
    rw [this] at hu; cases hu
section
variable {X : Cx} {Γ : Ctx} {S L ρ α β γ A B S' : Type} {a b c e : Expr} {es : List Expr} {pos p apos cpos p1 p2 : Pos} {ta tb te : TE} {t : TA} [Rp ρ] {o : Ow ρ} {Γo : S → Ctx} {ΓL : L → Ctx} {sts : List Stmt} {tr tr' : TS}
theorem ex_triple [Rp α] [Rp β] [Rp γ] {o : Ow α} {u : Ow β} {w : Ow γ} {m : M α} {n : M β} {l : M γ} {k} (ha : EX X Γ a o m ta) (hb : EX X Γ b u n tb) (hc : EX X Γ c w l te) (h1 : starEach [a, b, c] X.env = (false, eval a X.env) :: starEach [b, c] X.env := by rfl) (h2 : starEach [b, c] X.env = (false, eval b X.env) :: starEach [c] X.env := by rfl) (h3 : starEach [c] X.env = (false, eval c X.env) :: starEach [] X.env := by rfl) :
    EX X Γ (.Tuple [a, b, c] k pos) (Ow.t3 o u w) (do let a ← m; let b ← n; let c ← l; pure (T3.mk a b c)) (tTup (tCons ta (tCons tb (tCons te tNil)))) :=
  ⟨pe_tup (pa_cons ha.pe (pa_cons hb.pe (pa_cons hc.pe pa_nil h3) h2) h1), fun HF0 G HF H σ g cc hcc Q kk => by
    obtain ⟨x, e1, hcc⟩ := bind_ok hcc
    obtain ⟨y, e2, hcc⟩ := bind_ok hcc
    obtain ⟨z, e3, hcc⟩ := bind_ok hcc
    cases pure_ok hcc
    refine ha.sem HF0 G HF H σ g x e1 _ fun v HF1 H1 fp s1 r1 n1 f1 => ?_
    refine hb.sem HF0 G HF1 H1 σ (g.step s1) y e2 _ fun v2 HF2 H2 fq s2 r2 n2 f2 => ?_
    refine hc.sem HF0 G HF2 H2 σ ((g.step s1).step s2) z e3 _ fun v3 HF3 H3 fr s3 r3 n3 f3 => ⟨by show 3 ≤ sizeLine; decide, fun p hp => ?_⟩
    have d1 := o.dom r1
    have d2 := u.dom r2
    have d3 := w.dom r3
    have d1' : ∀ p ∈ fp, ∃ u, H2 p = some u := fun p hp => by obtain ⟨u, hu⟩ := d1 p hp; exact ⟨u, s2.exH p u hu⟩
    have r1' : o.rep X.K HF3 H3 v x fp := o.mono (s2.trans s3).exF (fun p _ o e => (s2.trans s3).exH p o e) r1
    have r2' : u.rep X.K HF3 H3 v2 y fq := u.mono s3.exF (fun p _ o e => s3.exH p o e) r2
    refine kk.obj ((s1.trans s2).trans s3) hp (fp := fp ++ (fq ++ fr)) ⟨p, v, v2, v3, fp, fq, fr, rfl, rfl, upd_same, o.mono (Same.refl _) (fun q _ u e => upd_keep hp q u e) r1', u.mono (Same.refl _) (fun q _ u e => upd_keep hp q u e) r2', w.mono (Same.refl _) (fun q _ u e => upd_keep hp q u e) r3⟩ (List.nodup_append.mpr ⟨n1, List.nodup_append.mpr ⟨n2, n3, fun p hp q hq e => ?_⟩, fun p hp q hq e => ?_⟩) (fun p hp => ?_) fun p hp => ?_
    · subst e
      obtain ⟨u, hu⟩ := d2 p hp
      rw [(f3 p hq).1] at hu; cases hu
    · subst e
      rcases List.mem_append.mp hq with hq | hq
      · obtain ⟨u, hu⟩ := d1 p hp
        rw [(f2 p hq).1] at hu; cases hu
      · obtain ⟨u, hu⟩ := d1' p hp
        rw [(f3 p hq).1] at hu; cases hu
    · rcases List.mem_append.mp hp with hp | hp
      · exact ⟨(f1 p hp).1, step_none s3 (step_none s2 (f1 p hp).2 (d1 p hp)) (d1' p hp)⟩
      · rcases List.mem_append.mp hp with hp | hp
        · exact ⟨s1.exH.free (f2 p hp).1, step_none s3 (f2 p hp).2 (d2 p hp)⟩
        · exact ⟨(s1.trans s2).exH.free (f3 p hp).1, (f3 p hp).2⟩
    · rcases List.mem_append.mp hp with hp | hp
      · obtain ⟨u, hu⟩ := d1' p hp
        exact ⟨u, s3.exH p u hu⟩
      · rcases List.mem_append.mp hp with hp | hp
        · obtain ⟨u, hu⟩ := d2 p hp
          exact ⟨u, s3.exH p u hu⟩
        · exact d3 p hp⟩
end
end Ty

/-! ## Ty72: three own things handed back as one; own parts of a tuple changed -/
namespace Ty
open PySem PySem.Spec PyProof.Rows L2
theorem Holds.pull {K : PySem.W.Frag} {HF H : Hp} {Γ : Ctx} {σ : L2.St} {fs : List Addr} {i : Nat} {α : Type} [Rp α] {u : Ow α} {x : α} (h1 : Holds K HF H Γ σ fs) (nd : fs.Nodup) (hl : look Γ i = .mk u x) :
    ∃ v fo fr, σ[i]? = some (some v) ∧ u.rep K HF H v x fo ∧ fo.Nodup ∧ Holds K HF H (Ty.put Γ i .un) σ fr ∧ fr.Nodup ∧ (∀ p ∈ fo, p ∈ fs) ∧ (∀ p ∈ fr, p ∈ fs) ∧ ∀ p ∈ fo, p ∉ fr := by
  have hjl := look_lt' hl
  obtain ⟨fo, fr', q1, q2, q3, q4⟩ := h1.put hjl
  obtain ⟨n1, n2, n3⟩ := q3 nd
  rw [hl] at q1
  obtain ⟨v, e1, r1⟩ := q1
  have hlen := h1.len
  have hσ : σ[i]? = some (some v) := by
    rw [List.getElem?_eq_getElem (by omega)]
    rw [List.getD_eq_getElem?_getD, List.getElem?_eq_getElem (by omega)] at e1
    exact congrArg some e1
  obtain ⟨fs', w1, w2, w3⟩ := q4 (HF' := HF) (H' := H) (s := .un) (x := some v) (f := []) (fun _ h => h) (fun _ h => h) rfl
  rw [set_self hσ] at w1
  have inr : ∀ p, p ∈ fs' → p ∈ fr' := fun p hp => ((w2 p).mp hp).elim (fun z => by cases z) id
  exact ⟨v, fo, fs', hσ, r1, n2, w1, w3 n1 List.nodup_nil (fun p hp => by cases hp), fun p hp => (q2 p).mpr (.inl hp), fun p hp => (q2 p).mpr (.inr (inr p hp)), fun p hp z => n3 p hp (inr p z)⟩
section
variable {X : Cx} {Γ : Ctx} {S L ρ α β γ A B S' : Type} {a b c e : Expr} {es : List Expr} {pos p apos cpos p1 p2 : Pos} {ta tb te : TE} {t : TA} {sts : List Stmt} {tr tr' : TS}
def appT1M {α β γ : Type} (d : T3 β (List α) γ) (a : α) : M (T3 β (List α) γ) := do let l ← appM d.b a; pure ⟨d.a, l, d.c⟩
/-- x[1].append(e), a part of an own tuple -/
theorem ss_appT1 {K : PySem.W.Frag} [Rp α] [Rp β] [Rp γ] [Rp ρ] {o : Ow ρ} {Γo : S → Ctx} {ΓL : L → Ctx} (i : Nat) {u : Ow α} {u1 : Ow β} {u3 : Ow γ} {d : T3 β (List α) γ} {x : Str} {m : M α} {k : T3 β (List α) γ → M (Ctl S L ρ)} {kk : Nat} (he : EX X Γ e u m te) (hr : ∀ l, SS X (put Γ i (.mk (Ow.t3 u1 (Ow.l u) u3) l)) sts Γo ΓL o (k l) tr) (dd : T3 β (List α) γ) (hl : look Γ i = .mk (Ow.t3 u1 (Ow.l u) u3) d := by rfl) (hN : X.N[i]? = some x := by rfl) (hv : Vis X.env.scope x := by first | exact Or.inl rfl | exact Or.inr (Or.inl rfl) | exact Or.inr (Or.inr rfl)) (hd : (x == ("__debug__" : Str)) = false := by decide)
    (hcd : (x == ("__classdict__" : Str)) = false := by decide) (hK : X.K = K := by rfl)
    (hpe : ∀ {tt : TA}, PE X (.Name x p) (tVar i) → PA X [e] tt → PE X (.Call (.Attribute (.Subscript (.Name x p) (.Constant (.int 1) kk p1) p2) "append" apos) [e] [] cpos) (tBM K "list" rAppend (tOp (rIxT K) (tVar i) (tC (.int 1))) tt) := by exact fun h h'' => pe_bm PySem.F.plainAttrs_list PySem.F.slot_list_append PySem.F.type_list_append mt_append (pe_ix ix_tup h pe_int (fun _ _ => rfl)) h'')
    (h1 : starEach [e] X.env = (false, eval e X.env) :: starEach [] X.env := by rfl)
    (hs : swapsWith (.Call (.Attribute (.Subscript (.Name x p) (.Constant (.int 1) kk p1) p2) "append" apos) [e] [] cpos) none pos.line X.env = pure false := by rfl) :
    SS X Γ (.Expr (.Call (.Attribute (.Subscript (.Name x p) (.Constant (.int 1) kk p1) p2) "append" apos) [e] [] cpos) pos :: sts) Γo ΓL o (do let a ← m; let l ← appT1M d a; k l) (tSeq (tDrop (tBM K "list" rAppend (tOp (rIxT K) (tVar i) (tC (.int 1))) (tCons te tNil))) tr) := by
  subst hK
  exact ⟨pss_cons (ps_expr (hpe (pe_var hN hv hd hcd) (pa_cons he.pe pa_nil h1)) hs) (hr dd).pss, fun HF0 G HF H σ g c hc D kk => by
    obtain ⟨y, e1, hc⟩ := bind_ok hc
    obtain ⟨l0, e0, hc⟩ := bind_ok hc
    obtain ⟨l, e2, e0⟩ := bind_ok e0
    cases pure_ok e0
    obtain ⟨w0, e3, e2⟩ := bind_ok e2
    have e4 := pure_ok e2
    subst e4
    obtain ⟨v, fo, hσ, ⟨p, va, vb, vc, f1, f2, f3, t1, t2, t3, ra, rb, rc⟩, nd, hfo, back⟩ := g.take hl
    subst t1 t2
    obtain ⟨q, vs, fq, q1, q2, q3, q4⟩ := rb
    subst q1 q2
    refine ⟨.ref p, hσ, p, _, 1, .ref q, rfl, rfl, SqT.of t3, rfl, .inl ⟨rfl, vs, SqL.of q3⟩, ?_⟩
    refine he.sem HF0 G HF H σ g y e1 _ fun v' HF1 H1 fp st r n f => ?_
    refine ⟨q, vs, v', rfl, rfl, st.exH _ _ q3, by rw [q4.len]; exact of_decide_eq_true (gd_ok e3), ?_⟩
    have hall : ∀ z ∈ (p :: (f1 ++ ((q :: fq) ++ f3))), ∃ w, H z = some w := fun z hz => (Ow.t3 u1 (Ow.l u) u3).dom (show (Ow.t3 u1 (Ow.l u) u3).rep X.K HF H (.ref p) d _ from ⟨p, _, _, _, f1, (q :: fq), f3, rfl, rfl, t3, ra, ⟨q, vs, fq, rfl, rfl, q3, q4⟩, rc⟩) z hz
    have hnf : ∀ z ∈ (p :: (f1 ++ ((q :: fq) ++ f3))), z ∉ fp := fun z hz z' => by
      obtain ⟨w, hw⟩ := hall z hz
      rw [(f z z').1] at hw; cases hw
    have hpq : p ≠ q := fun z => (List.nodup_cons.mp nd).1 (by rw [z]; simp)
    have hmem : q ∈ (p :: (f1 ++ ((q :: fq) ++ f3))) := by simp
    have hqn : ∀ {z : Addr}, z ∈ fq → z ≠ q := fun {z} hz e => by
      subst e
      have := List.nodup_iff_count.mp nd z
      have h2 := List.one_le_count_iff.mpr hz
      simp [List.count_append, List.count_cons] at this
      omega
    have hqp : q ∉ fp := hnf q hmem
    have hperm : ((p :: (f1 ++ ((q :: (fq ++ fp)) ++ f3)))).Perm (((p :: (f1 ++ ((q :: fq) ++ f3)))) ++ fp) := List.perm_iff_count.mpr fun a => by
      simp only [List.count_append, List.count_cons]
      omega
    have hother : ∀ {z : Addr}, z ∈ f1 ++ f3 → z ≠ q := fun {z} hz e => by
      subst e
      have := List.nodup_iff_count.mp nd z
      have h2 := List.one_le_count_iff.mpr hz
      simp [List.count_append, List.count_cons] at this h2
      omega
    have gg := back (u' := Ow.t3 u1 (Ow.l u) u3) (b := ⟨d.a, d.b ++ [y], d.c⟩) (v' := .ref p) (f' := (p :: (f1 ++ ((q :: (fq ++ fp)) ++ f3)))) (H' := upd H1 q (.lst (vs ++ [v']))) st (fun p' w hp e => by rw [upd_ne (fun z => hp (by rw [z]; exact hmem))]; exact e)
      ⟨p, _, _, _, f1, (q :: (fq ++ fp)), f3, rfl, rfl, by rw [upd_ne hpq]; exact st.exH _ _ t3, u1.mono st.exF (fun z hz _ e => by rw [upd_ne (hother (by simp [hz]))]; exact st.exH _ _ e) ra, ⟨q, vs ++ [v'], fq ++ fp, rfl, rfl, upd_same, Rl.append (Rl.mono (fun v a f0 h0 r0 => u.mono (Same.refl _) (fun z hz w e => by rw [upd_ne (hqn (h0 z hz))]; exact e) r0) (Rl.step q4 st)) (Rl.one (u.mono (Same.refl _) (fun z hz w e => by rw [upd_ne (fun y => hqp (by rw [← y]; exact hz))]; exact e) r))⟩, u3.mono st.exF (fun z hz _ e => by rw [upd_ne (hother (by simp [hz]))]; exact st.exH _ _ e) rc⟩
      (hperm.nodup_iff.mpr (List.nodup_append.mpr ⟨nd, n, fun z hz z' hz' e => by subst e; exact hnf z hz hz'⟩))
      (fun z hz => by
        rcases List.mem_append.mp (hperm.mem_iff.mp hz) with y | y
        · exact .inl y
        · exact .inr (f z y))
    rw [set_self hσ] at gg
    exact (hr ⟨d.a, d.b ++ [y], d.c⟩).sem HF0 G HF1 _ σ gg c hc D (kk.mono st.exF)⟩
end
end Ty

/-! ## Ty73: sorted of lists of whole numbers -/
namespace Ty
open PySem PySem.Spec PyProof.Rows L2
section
variable {X : Cx} {pins : List (Addr × Obj)} {σ : L2.St} {H : Hp} {s : Shared}
end
/-- a thing and its own value -/
structure Idr (α : Type) where
  v : V
  a : α
instance {α : Type} [Inhabited α] : Inhabited (Idr α) := ⟨⟨.non, default⟩⟩
instance {α : Type} [Rp α] : Rp (Idr α) where
  sh K H v x := v = x.v ∧ Rp.sh K H v x.a
  mono := fun e h => ⟨h.1, Rp.mono e h.2⟩
section
variable {X : Cx} {Γ : Ctx} {S L ρ α β γ A S' : Type} {a b e f : Expr} {es : List Expr} {pos p p1 p2 q1 : Pos} {ta tb te tf : TE} {t : TA} {sts : List Stmt} {tr tr' : TS}
end
end Ty

/-! ## Ty74: len(set(text)), len(set(list of texts)) -/
namespace Ty
open PySem PySem.Spec PyProof.Rows L2
/-- each once -/
def dd : List Str → List Str
  | [] => []
  | x :: l => if x ∈ dd l then dd l else x :: dd l
section
variable {P : Program} {w : World} {A : Around} {E : Value → Shared → Prop} {s : Shared} {a : Addr} {S : Str → Bool} {n : Nat}
end
section
variable {X : Cx} {Γ : Ctx} {a : Expr} {pos p p2 q : Pos} {ta : TE}
end
end Ty

/-! ## Ty75: zip of two texts -/
namespace RZ
open PySem
open PySem.Sem (wp)
set_option maxHeartbeats 1000000
section
variable {prog : Program} {w : World} {A : Around} {E : Value → Shared → Prop} {s : Shared}
theorem nextOf_ascii_item {it : Addr} {x : Str} {t : Tok} {i c : Nat} {Q : Value → Shared → Prop} (hit : s.heap.IsStrIter it "str_ascii_iterator" x t i) (hx : x.cps[i]? = some c)
    (hQ : ∀ h', h'.IsStrIter it "str_ascii_iterator" x t (i + 1) → Heap.SameBut it s.heap h' → Q (.str ⟨#[c]⟩ s.toks) { s with heap := h', toks := s.toks + 1 }) :
    wpAny (model prog w) A (Builtin.SmallTypes.nextOf (.ref it)) Q E s := by
  obtain ⟨o, ho, hc, hd⟩ := id hit
  unfold Builtin.SmallTypes.nextOf
  refine wpAny_bind (wpAny_callSpecial?_slot (name := Str.ofString "__next__") hit.typeIs F.slot_str_ascii_iterator_next
    (wpAny_call_entry F.slot_str_ascii_iterator_next hit.typeIs F.entry_str_ascii_iterator_next ?_ (F.args_str_ascii_iterator_next_1 _)))
  show wpAny _ _ (field (.ref it) 0 >>= _) _ _ s
  refine wpAny_bind (wpAny_field ho hd (x := .str x t) rfl ?_)
  show wpAny _ _ (field (.ref it) 1 >>= _) _ _ s
  refine wpAny_bind (wpAny_field ho hd (x := .int i 0) rfl ?_)
  simp only [Int.toNat_natCast, hx]
  refine wpAny_bind (wpAny_setField ho hd (by simp) (wpAny_bind (wpAny_mkStr (wpAny_pure ⟨_, rfl, wpAny_pure (hQ _ ?_ (Heap.SameBut.update ..))⟩) (by show 1 ≤ sizeLine; decide))))
  exact ⟨_, Heap.get?_update_self _ ho (Obj.isFreed_of_fields (Obj.data_mapFields hd _)), (Obj.cls_mapFields ..).trans hc, by
    rw [Obj.data_mapFields hd]; simp [rawInt]⟩
theorem nextOf_ascii_end {it : Addr} {x : Str} {t : Tok} {i : Nat} {Q : Value → Shared → Prop} (hh : A.handled = none)
    (hit : s.heap.IsStrIter it "str_ascii_iterator" x t i) (hx : x.cps[i]? = none)
    (hE : ∀ h' e, Heap.ExtBut it s.heap h' → (∃ o, h'.get? e = some o ∧ o.cls = .type "StopIteration") → E (.ref e) { s with heap := h' }) :
    wpAny (model prog w) A (Builtin.SmallTypes.nextOf (.ref it)) Q E s := by
  obtain ⟨o, ho, hc, hd⟩ := id hit
  unfold Builtin.SmallTypes.nextOf
  refine wpAny_bind (wpAny_callSpecial?_slot (name := Str.ofString "__next__") hit.typeIs F.slot_str_ascii_iterator_next
    (wpAny_call_entry F.slot_str_ascii_iterator_next hit.typeIs F.entry_str_ascii_iterator_next ?_ (F.args_str_ascii_iterator_next_1 _)))
  show wpAny _ _ (field (.ref it) 0 >>= _) _ _ s
  refine wpAny_bind (wpAny_field ho hd (x := .str x t) rfl ?_)
  show wpAny _ _ (field (.ref it) 1 >>= _) _ _ s
  refine wpAny_bind (wpAny_field ho hd (x := .int i 0) rfl ?_)
  simp only [Int.toNat_natCast, hx]
  refine wpAny_bind (wpAny_rule (wpAny_bind (wpAny_setField ho hd (by simp) (wpAny_bind (wpAny_letGo ?_)))))
  show wpAny _ _ (newExc (.type "StopIteration") [] >>= _) _ _ _
  refine wpAny_bind ?_
  simp only [newExc, newTuple]
  refine wpAny_bind (wpAny_newObj_type ?_ (by size_fits))
  refine wpAny_bind (m := firstArgMember _ _) (wpAny_of_eq (a := Value.none) (by first | rfl | (simp only [firstArgMember]; rfl)) ?_)
  refine wpAny_newObj_type ?_ (by size_fits)
  simp only [raiseNew]
  refine wpAny_bind (wpAny_handled ?_)
  first | rw [show A.in1.handled = none from hh] | rw [hh]
  refine wpAny_bind (wpAny_pure (wpAny_throw ?_))
  exact hE _ _ (((Heap.SameBut.update ..).extBut.push _).push _) ⟨_, Heap.get?_push_size _ rfl, rfl⟩
theorem nextOf_wide_item {it : Addr} {x : Str} {t : Tok} {i c : Nat} {Q : Value → Shared → Prop} (hit : s.heap.IsStrIter it "str_iterator" x t i) (hx : x.cps[i]? = some c)
    (hQ : ∀ h', h'.IsStrIter it "str_iterator" x t (i + 1) → Heap.SameBut it s.heap h' → Q (.str ⟨#[c]⟩ s.toks) { s with heap := h', toks := s.toks + 1 }) :
    wpAny (model prog w) A (Builtin.SmallTypes.nextOf (.ref it)) Q E s := by
  obtain ⟨o, ho, hc, hd⟩ := id hit
  unfold Builtin.SmallTypes.nextOf
  refine wpAny_bind (wpAny_callSpecial?_slot (name := Str.ofString "__next__") hit.typeIs F.slot_str_iterator_next
    (wpAny_call_entry F.slot_str_iterator_next hit.typeIs F.entry_str_iterator_next ?_ (F.args_str_iterator_next_1 _)))
  show wpAny _ _ (field (.ref it) 0 >>= _) _ _ s
  refine wpAny_bind (wpAny_field ho hd (x := .str x t) rfl ?_)
  show wpAny _ _ (field (.ref it) 1 >>= _) _ _ s
  refine wpAny_bind (wpAny_field ho hd (x := .int i 0) rfl ?_)
  simp only [Int.toNat_natCast, hx]
  refine wpAny_bind (wpAny_setField ho hd (by simp) (wpAny_bind (wpAny_mkStr (wpAny_pure ⟨_, rfl, wpAny_pure (hQ _ ?_ (Heap.SameBut.update ..))⟩) (by show 1 ≤ sizeLine; decide))))
  exact ⟨_, Heap.get?_update_self _ ho (Obj.isFreed_of_fields (Obj.data_mapFields hd _)), (Obj.cls_mapFields ..).trans hc, by
    rw [Obj.data_mapFields hd]; simp [rawInt]⟩
theorem nextOf_wide_end {it : Addr} {x : Str} {t : Tok} {i : Nat} {Q : Value → Shared → Prop} (hh : A.handled = none)
    (hit : s.heap.IsStrIter it "str_iterator" x t i) (hx : x.cps[i]? = none)
    (hE : ∀ h' e, Heap.ExtBut it s.heap h' → (∃ o, h'.get? e = some o ∧ o.cls = .type "StopIteration") → E (.ref e) { s with heap := h' }) :
    wpAny (model prog w) A (Builtin.SmallTypes.nextOf (.ref it)) Q E s := by
  obtain ⟨o, ho, hc, hd⟩ := id hit
  unfold Builtin.SmallTypes.nextOf
  refine wpAny_bind (wpAny_callSpecial?_slot (name := Str.ofString "__next__") hit.typeIs F.slot_str_iterator_next
    (wpAny_call_entry F.slot_str_iterator_next hit.typeIs F.entry_str_iterator_next ?_ (F.args_str_iterator_next_1 _)))
  show wpAny _ _ (field (.ref it) 0 >>= _) _ _ s
  refine wpAny_bind (wpAny_field ho hd (x := .str x t) rfl ?_)
  show wpAny _ _ (field (.ref it) 1 >>= _) _ _ s
  refine wpAny_bind (wpAny_field ho hd (x := .int i 0) rfl ?_)
  simp only [Int.toNat_natCast, hx]
  refine wpAny_bind (wpAny_rule (wpAny_bind (wpAny_setField ho hd (by simp) (wpAny_bind (wpAny_letGo ?_)))))
  show wpAny _ _ (newExc (.type "StopIteration") [] >>= _) _ _ _
  refine wpAny_bind ?_
  simp only [newExc, newTuple]
  refine wpAny_bind (wpAny_newObj_type ?_ (by size_fits))
  refine wpAny_bind (m := firstArgMember _ _) (wpAny_of_eq (a := Value.none) (by first | rfl | (simp only [firstArgMember]; rfl)) ?_)
  refine wpAny_newObj_type ?_ (by size_fits)
  simp only [raiseNew]
  refine wpAny_bind (wpAny_handled ?_)
  first | rw [show A.in1.handled = none from hh] | rw [hh]
  refine wpAny_bind (wpAny_pure (wpAny_throw ?_))
  exact hE _ _ (((Heap.SameBut.update ..).extBut.push _).push _) ⟨_, Heap.get?_push_size _ rfl, rfl⟩

def TyS (ty : String) : Prop := ty = "str_ascii_iterator" ∨ ty = "str_iterator"
theorem nextOf_str_item {it : Addr} {ty : String} {x : Str} {t : Tok} {i c : Nat} {Q : Value → Shared → Prop} (hty : TyS ty) (hit : s.heap.IsStrIter it ty x t i) (hx : x.cps[i]? = some c)
    (hQ : ∀ h', h'.IsStrIter it ty x t (i + 1) → Heap.SameBut it s.heap h' → Q (.str ⟨#[c]⟩ s.toks) { s with heap := h', toks := s.toks + 1 }) :
    wpAny (model prog w) A (Builtin.SmallTypes.nextOf (.ref it)) Q E s := by
  rcases hty with e | e
  · subst e; exact nextOf_ascii_item hit hx hQ
  · subst e; exact nextOf_wide_item hit hx hQ
theorem nextOf_str_end {it : Addr} {ty : String} {x : Str} {t : Tok} {i : Nat} {Q : Value → Shared → Prop} (hh : A.handled = none) (hty : TyS ty)
    (hit : s.heap.IsStrIter it ty x t i) (hx : x.cps[i]? = none)
    (hE : ∀ h' e, Heap.ExtBut it s.heap h' → (∃ o, h'.get? e = some o ∧ o.cls = .type "StopIteration") → E (.ref e) { s with heap := h' }) :
    wpAny (model prog w) A (Builtin.SmallTypes.nextOf (.ref it)) Q E s := by
  rcases hty with e | e
  · subst e; exact nextOf_ascii_end hh hit hx hE
  · subst e; exact nextOf_wide_end hh hit hx hE
end
section
variable {prog : Program} {w : World} {A : Around} {E : Value → Shared → Prop} {s : Shared}
end
end RZ
namespace RZ
open PySem PySem.Spec PyProof.Rows L2
end RZ
namespace Ty
open PySem PySem.Spec PyProof.Rows L2
section
variable {X : Cx} {Γ : Ctx} {a b : Expr} {pos p : Pos} {ta tb : TE}
end
end Ty

/-! ## Vdesk (under way): an own instance with a text and an own list of texts, whose fields change -/
namespace Ty
open PySem PySem.Spec PyProof.Rows L2
/-- a desk: its class's name, its word, the words ahead -/
structure Dsk where
  c : Str
  word : Str
  ahead : List Str
instance : Inhabited Dsk := ⟨⟨"", "", []⟩⟩
instance : Rp Dsk where
  sh K H v d := ∃ a dx al, v = .ref a ∧ H a = some (.ins (He.ga K d.c) dx [("word", .str d.word), ("ahead", .ref al)]) ∧ H al = some (.lst (d.ahead.map V.str))
  mono := fun s ⟨a, dx, al, h1, h2, h3⟩ => ⟨a, dx, al, h1, s _ _ h2, s _ _ h3⟩
def Ow.dsk : Ow Dsk where
  rep K HF H v d fp := ∃ a dx al, v = .ref a ∧ fp = [a, dx, al] ∧ H a = some (.ins (He.ga K d.c) dx [("word", .str d.word), ("ahead", .ref al)]) ∧ H dx = some (.own a) ∧ H al = some (.lst (d.ahead.map V.str))
  mono := fun e k ⟨a, dx, al, h1, h2, h3, h4, h5⟩ => by
    subst h2
    exact ⟨a, dx, al, h1, rfl, k a (by simp) _ h3, k dx (by simp) _ h4, k al (by simp) _ h5⟩
  dom := fun ⟨a, dx, al, h1, h2, h3, h4, h5⟩ q hq => by
    subst h2
    rcases List.mem_cons.mp hq with e | hq
    · exact ⟨_, e ▸ h3⟩
    · rcases List.mem_cons.mp hq with e | hq
      · exact ⟨_, e ▸ h4⟩
      · rw [List.mem_singleton.mp hq]; exact ⟨_, h5⟩
  frz := fun e k ⟨a, dx, al, h1, h2, h3, h4, h5⟩ => by
    subst h2
    exact ⟨a, dx, al, h1, k a (by simp) _ h3, k al (by simp) _ h5⟩
instance : Ind Ow.dsk where
  ind := fun h => h
/-- what is known of the class -/
structure DskC (K : PySem.W.Frag) (c : Str) : Prop where
  cl : Cls K (He.ga K c)
  nw : NoAttr K (He.ga K c) "word"
  na : NoAttr K (He.ga K c) "ahead"
section
variable {X : Cx} {Γ : Ctx} {S L ρ α : Type} [Rp ρ] {o : Ow ρ} {Γo : S → Ctx} {ΓL : L → Ctx} {e : Expr} {pos p apos cpos p2 : Pos} {te : TE} {sts : List Stmt} {tr : TS}
end
section
variable {P : Program} {w : World} {K : PySem.W.Frag} {mg : Str → Option Value} {base : Heap}
end
section
variable {X : Cx} {Γ : Ctx} {pos p : Pos}
end
/-! ### methods that change the desk and tell a text -/
structure Rs where
  d : Dsk
  s : Str
instance : Inhabited Rs := ⟨⟨default, ""⟩⟩
instance : Rp Rs where
  sh _ _ v x := v = .str x.s
  mono := fun _ h => h
/-- a text told, and the desk at a0 as it is now -/
def Ow.rs (a0 : V) : Ow Rs where
  rep K HF H v x fp := v = .str x.s ∧ Ow.dsk.rep K HF H a0 x.d fp
  mono := fun e k ⟨h0, h⟩ => ⟨h0, Ow.dsk.mono e k h⟩
  dom := fun ⟨_, h⟩ => Ow.dsk.dom h
  frz := fun _ _ ⟨h0, _⟩ => h0
section
variable {X : Cx} {Γ : Ctx} {S L : Type} {Γo : S → Ctx} {ΓL : L → Ctx} {e : Expr} {pos : Pos} {te : TE}
end
section
variable {P : Program} {w : World} {K : PySem.W.Frag} {mg : Str → Option Value} {base : Heap}
end
section
variable {X : Cx} {Γ : Ctx} {S L ρ A : Type} [Rp ρ] {o : Ow ρ} {Γo : S → Ctx} {ΓL : L → Ctx} {e : Expr} {es : List Expr} {pos cpos apos px py : Pos} {t : TA} {sts : List Stmt} {tr : TS}
end
end Ty
/-! ## Vdesk2 (under way): a method that changes the desk and tells a text, or raises -/
namespace Ty
open PySem PySem.Spec PyProof.Rows L2
/-- a text told, with the desk as it is now; or the class of what is raised, with the desk -/
inductive Rx where
  | told (r : Rs)
  | bad (d : Dsk) (x : Exn)
instance : Inhabited Rx := ⟨.told default⟩
def Rx.d : Rx → Dsk
  | .told r => r.d
  | .bad d _ => d
def Rx.fin (K : PySem.W.Frag) (Q : VK) (E : XK) (HF H : Hp) : Rx → Prop
  | .told r => Q (.str r.s) H
  | .bad _ x => ∀ dd, XD HF dd x → E (clv K x.c) dd H
instance : Rp Rx where
  sh _ _ v x := match x with
    | .told r => v = .str r.s
    | .bad _ _ => True
  mono := fun {K H H' v a} e h => by
    cases a with
    | told r => exact h
    | bad d c => trivial
def Ow.rx (a0 : V) (cl : Str → Value) (E : XK) : Ow Rx where
  rep K HF H v x fp := match x with
    | .told r => (Ow.rs a0).rep K HF H v r fp
    | .bad d x => Ow.dsk.rep K HF H a0 d fp ∧ ∃ dd, v = vD dd ∧ XD HF dd x
  mono := fun {K HF HF' H H' v a fp} e k h => by
    cases a with
    | told r => exact (Ow.rs a0).mono e k h
    | bad d c =>
      obtain ⟨h1, dd, h2, h3⟩ := h
      exact ⟨Ow.dsk.mono e k h1, dd, h2, h3.mono e⟩
  dom := fun {K HF H v a fp} h p hp => by
    cases a with
    | told r => exact (Ow.rs a0).dom h p hp
    | bad d c => exact Ow.dsk.dom h.1 p hp
  frz := fun {K HF HF' H v a fp} e k h => by
    cases a with
    | told r => exact (Ow.rs a0).frz e k h
    | bad d c => trivial
  out x R v H := match x with
    | .told _ => R v H
    | .bad _ x => ∃ dd, v = vD dd ∧ E (cl x.c) dd H
section
variable {X : Cx} {Γ : Ctx} {S L : Type} {Γo : S → Ctx} {ΓL : L → Ctx} {e : Expr} {pos p p2 pos2 : Pos} {te : TE} {E : XK}
end
section
variable {P : Program} {w : World} {K : PySem.W.Frag} {mg : Str → Option Value} {base : Heap}
end
end Ty

/-! ## Vdesk3 (under way): the call of a method that changes the desk and tells a text, or raises -/
namespace Ty
open PySem PySem.Spec PyProof.Rows L2
def Rx.finW (K : PySem.W.Frag) (W : WX) (Q : VK) (σ : L2.St) (HF H : Hp) : Rx → Prop
  | .told r => Q (.str r.s) H
  | .bad _ x => ∀ dd, XD HF dd x → W (clv K x.c) dd σ H
/-- an expression that changes the desk in slot i, and tells a text or raises -/
structure EXd (X : Cx) (W : WX) (Γ : Ctx) (e : Expr) (i : Nat) (m : M Rx) (t : TE) : Prop where
  pe : PE X e t
  sem : ∀ HF0 G HF H σ, Good X.K HF0 G Γ HF H σ → ∀ c, m = .ok c → ∀ Q : VK, (∀ HF' H', Good X.K HF0 G (put Γ i (.mk Ow.dsk c.d)) HF' H' σ → Same HF HF' → c.finW X.K W Q σ HF' H') → t σ H Q
section
variable {X : Cx} {Γ : Ctx} {S L ρ A : Type} [Rp ρ] {o : Ow ρ} {Γo : S → Ctx} {ΓL : L → Ctx} {e : Expr} {es : List Expr} {pos cpos apos px py : Pos} {t : TA} {sts : List Stmt} {tr : TS}
end
end Ty
/-! ## return x.m(e) in a method of the desk, where e may raise and m changes the desk -/
namespace Ty
open PySem PySem.Spec PyProof.Rows L2
section
variable {X : Cx} {Γ : Ctx} {S L A : Type} {Γo : S → Ctx} {ΓL : L → Ctx} {e : Expr} {pos cpos apos px : Pos} {te : TE} {E : XK}
end
end Ty
/-! ## Vdesk5 (under way): expressions that may raise, in a method of the desk: `return e`, `x = e` -/
namespace Ty
open PySem PySem.Spec PyProof.Rows L2
section
variable {X : Cx} {Γ : Ctx} {S L α : Type} {Γo : S → Ctx} {ΓL : L → Ctx} {e : Expr} {pos : Pos} {te : TE} {tr : TS} {sts : List Stmt} {E : XK}
end
end Ty
/-! ## Vdesk6 (under way): return x.m(e, ..) in a method of the desk, where m may change the desk, tell or raise -/
namespace Ty
open PySem PySem.Spec PyProof.Rows L2
section
variable {X : Cx} {Γ : Ctx} {S L A : Type} {Γo : S → Ctx} {ΓL : L → Ctx} {e : Expr} {es : List Expr} {pos cpos apos px : Pos} {t : TA} {E : XK}
end
end Ty

/-! ## Ty78: expressions and tests that may change own desks; defs that are handed a desk and hand back a flat value -/
namespace Ty
open PySem PySem.Spec PyProof.Rows L2
/-- a flat value told, with the desk as it is now -/
structure Rg (ρ : Type) where
  d : Dsk
  s : ρ
instance {ρ : Type} [Inhabited ρ] : Inhabited (Rg ρ) := ⟨⟨default, default⟩⟩
instance {ρ : Type} [Fl ρ] : Rp (Rg ρ) where
  sh _ _ v x := v = Fl.enc x.s
  mono := fun _ h => h
def Ow.rg {ρ : Type} [Fl ρ] (a0 : V) : Ow (Rg ρ) where
  rep K HF H v x fp := v = Fl.enc x.s ∧ Ow.dsk.rep K HF H a0 x.d fp
  mono := fun e k ⟨h0, h⟩ => ⟨h0, Ow.dsk.mono e k h⟩
  dom := fun ⟨_, h⟩ => Ow.dsk.dom h
  frz := fun _ _ ⟨h0, _⟩ => h0
section
variable {X : Cx} {Γ : Ctx} {S L ρ : Type} [Fl ρ] {Γo : S → Ctx} {ΓL : L → Ctx} {e : Expr} {pos : Pos} {te : TE}
end
section
variable {P : Program} {w : World} {K : PySem.W.Frag} {mg : Str → Option Value} {base : Heap}
/-- what the callee did to the desk, told in the caller -/
theorem Good.called {Γ : Ctx} {HF0 G HF1 H1 : Hp} {σ : L2.St} {i : Nat} {xv : Dsk} {v : V} (g1 : Good K HF0 G Γ HF1 H1 σ) (hl : look Γ i = .mk Ow.dsk xv) (hlt : i < Γ.length) (hσ : σ[i]? = some (some v)) :
    ∃ fo, Ow.dsk.rep K HF1 H1 v xv fo ∧ fo.Nodup ∧ (∀ p ∈ fo, HF1 p = none) ∧ ∀ (d' : Dsk) HF' H' fp', Same HF1 HF' → Same HF' H' → (∀ p u, H1 p = some u → p ∉ fo → H' p = some u) → (∀ p u, HF' p = some u → HF1 p = none → H1 p = none ∨ p ∈ fo) → Ow.dsk.rep K HF' H' v d' fp' → fp'.Nodup → (∀ p ∈ fp', HF' p = none ∧ (H1 p = none ∨ p ∈ fo)) →
      Good K HF0 G (put Γ i (.mk Ow.dsk d')) HF' H' σ := by
  obtain ⟨fs, h1, h2, h3⟩ := g1.held
  obtain ⟨fo, fr, q1, q2, q3, q4⟩ := h1.put hlt
  obtain ⟨n1, n2, n3⟩ := q3 h2
  rw [hl] at q1
  obtain ⟨v', e3, rr⟩ := q1
  have hv' : v' = v := by
    rw [List.getD_eq_getElem?_getD, hσ] at e3
    injection e3 with e3
    exact e3.symm
  subst hv'
  have hfo : ∀ p ∈ fo, HF1 p = none ∧ G p = none := fun p hp => h3 p ((q2 p).mpr (.inl hp))
  have hfr : ∀ p ∈ fr, HF1 p = none ∧ G p = none := fun p hp => h3 p ((q2 p).mpr (.inr hp))
  have dfr : ∀ p ∈ fr, ∃ o, H1 p = some o := fun p hp => h1.dom p ((q2 p).mpr (.inr hp))
  refine ⟨fo, rr, n2, fun p hp => (hfo p hp).1, fun d' HF' H' fp' k1 k2 k3 k4 k5 k6 k7 => ?_⟩
  have nfr : ∀ p ∈ fr, p ∉ fo := fun p hp hq => n3 p hq hp
  have keep : ∀ p ∈ fr, ∀ o, H1 p = some o → H' p = some o := fun p hp o e => k3 p o e (nfr p hp)
  obtain ⟨fs', w1, w2, w3⟩ := q4 (HF' := HF') (H' := H') (s := .mk Ow.dsk d') (x := some v') (f := fp') (fun hp h => h.mono k1 fun p z => keep p (hp p z)) (fun hp h => h.mono k1 fun p z => keep p (hp p z)) ⟨v', rfl, k5⟩
  have eσ : σ.set i (some v') = σ := by
    apply List.ext_getElem?
    intro j
    by_cases hj : i = j
    · subst hj
      rw [List.getElem?_set_self (by have := h1.len; omega), hσ]
    · rw [List.getElem?_set_ne hj]
  rw [eσ] at w1
  have gG : ∀ p, (H1 p = none ∨ p ∈ fo) → G p = none := fun p h => by
    rcases h with h | h
    · exact g1.g0.free h
    · exact (hfo p h).2
  refine ⟨k2, g1.f0.trans k1, fun p o e => k3 p o (g1.g0 p o e) (fun z => by rw [(hfo p z).2] at e; cases e), fun p o e en => ?_, fs', w1, w3 n1 k6 fun p hp hq => ?_, fun p hp => ?_⟩
  · cases q : HF1 p with
    | some u' => exact g1.nf p u' q en
    | none => exact gG p (k4 p o e q)
  · rcases (k7 p hp).2 with z | z
    · obtain ⟨o, e⟩ := dfr p hq
      rw [z] at e; cases e
    · exact n3 p z hq
  · rcases (w2 p).mp hp with z | z
    · exact ⟨(k7 p z).1, gG p (k7 p z).2⟩
    · refine ⟨?_, (hfr p z).2⟩
      cases q : HF' p with
      | none => rfl
      | some u' =>
        rcases k4 p u' q (hfr p z).1 with y | y
        · obtain ⟨o, e⟩ := dfr p z
          rw [y] at e; cases e
        · exact absurd z (fun z => nfr p z y)
end
/-! ### expressions, tests that may change the desks told by s -/
structure EZ {S α : Type} [Fl α] (X : Cx) (Γs : S → Ctx) (s : S) (e : Expr) (m : M (S × α)) (t : TE) : Prop where
  pe : PE X e t
  sem : ∀ HF0 G HF H σ, Good X.K HF0 G (Γs s) HF H σ → ∀ c, m = .ok c → ∀ Q : VK, (∀ HF' H', Good X.K HF0 G (Γs c.1) HF' H' σ → Same HF HF' → Q (Fl.enc c.2) H') → t σ H Q
structure TZ {S : Type} (X : Cx) (Γs : S → Ctx) (s : S) (e : Expr) (m : M (S × Bool)) (t : TT) : Prop where
  pt : PT X e t
  sem : ∀ HF0 G HF H σ, Good X.K HF0 G (Γs s) HF H σ → ∀ c, m = .ok c → ∀ Q : Bool → Hp → Prop, (∀ HF' H', Good X.K HF0 G (Γs c.1) HF' H' σ → Same HF HF' → Q c.2 H') → t σ H Q
structure WZ {S : Type} (X : Cx) (Γs : S → Ctx) (s : S) (e : Expr) (m : M (S × Bool)) (t : TT) : Prop where
  pw : PW X e t
  sem : ∀ HF0 G HF H σ, Good X.K HF0 G (Γs s) HF H σ → ∀ c, m = .ok c → ∀ Q : Bool → Hp → Prop, (∀ HF' H', Good X.K HF0 G (Γs c.1) HF' H' σ → Same HF HF' → Q c.2 H') → t σ H Q
section
variable {X : Cx} {S α A : Type} [Fl α] {Γs : S → Ctx} {s : S} {a b e : Expr} {es rest : List Expr} {pos p p1 : Pos} {t ta tb te : TE} {tt tu : TT} {tas : TA}
end
section
variable {X : Cx} {S S1 L ρ α : Type} [Fl α] [Rp ρ] {o : Ow ρ} {Γs : S → Ctx} {Γo : S1 → Ctx} {ΓL : L → Ctx} {s : S} {c e : Expr} {pos py : Pos} {te : TE} {tc : TT} {t1 tr : TS} {sa sts : List Stmt}
end
/-! ### try: d.told(e) / except C as e: kept = e -/
structure BXd (X : Cx) (W : WX) (Γ : Ctx) (sts : List Stmt) (i : Nat) (u : Ow Dsk) (m : M Rx) (t : TS) : Prop where
  pss : PSs X sts t
  sem : ∀ HF0 G HF H σ, Good X.K HF0 G Γ HF H σ → ∀ c, m = .ok c → ∀ D : Ends, (match c with
    | .told l => ∀ HF' H' σ', Same HF HF' → Good X.K HF0 G (put Γ i (.mk u l.d)) HF' H' σ' → D.nx σ' H'
    | .bad d x => ∀ HF' H' dd, Same HF HF' → Good X.K HF0 G (put Γ i (.mk u d)) HF' H' σ → XD HF' dd x → W (clv X.K x.c) dd σ H') → t D σ H
section
variable {X : Cx} {Γ : Ctx} {S L ρ : Type} [Rp ρ] {o : Ow ρ} {Γo : S → Ctx} {ΓL : L → Ctx} {e : Expr} {pos p1 p2 : Pos} {te : TE} {sts : List Stmt}
end
end Ty

/-! ## Ty79: zip of two things, each a list, a tuple or a text -/
namespace RZ
open PySem
open PySem.Sem (wp)
set_option maxHeartbeats 1000000
inductive Zc where
  | l (a : Addr) (its : Array Value)
  | t (a : Addr) (its : Array Value)
  | s (x : Str) (tk : Tok)
def Zc.it : Zc → Heap → Addr → Nat → Prop
  | .l a _, h, it, i => h.IsListIter it a i
  | .t a _, h, it, i => h.IsTupleIter it a i
  | .s x tk, h, it, i => h.IsStrIter it (strIterType x) x tk i
def Zc.on : Zc → Heap → Prop
  | .l a its, h => h.IsList a its
  | .t a its, h => h.IsTuple a its
  | .s _ _, _ => True
def Zc.ad : Zc → List Addr
  | .l a _ => [a]
  | .t a _ => [a]
  | .s _ _ => []
def Zc.at (c : Zc) (i : Nat) (v : Value) : Prop := match c with
  | .l _ its => its[i]? = some v
  | .t _ its => its[i]? = some v
  | .s x _ => ∃ d tk, x.cps[i]? = some d ∧ v = .str ⟨#[d]⟩ tk
def Zc.len : Zc → Nat
  | .l _ its => its.size
  | .t _ its => its.size
  | .s x _ => x.cps.size
def Zc.val : Zc → Value
  | .l a _ => .ref a
  | .t a _ => .ref a
  | .s x tk => .str x tk
def Zc.obj : Zc → Obj
  | .l a _ => { cls := .type "list_iterator", data := .fields #[.ref a, .int 0 0] }
  | .t a _ => { cls := .type "tuple_iterator", data := .fields #[.ref a, .int 0 0] }
  | .s x tk => { cls := .type (strIterType x), data := .fields #[.str x tk, .int 0 0] }
theorem strT (x : Str) : TyS (strIterType x) := by
  unfold strIterType TyS
  split
  · first | exact .inl rfl | exact .inr rfl
  · first | exact .inr rfl | exact .inl rfl
section
variable {prog : Program} {w : World} {A : Around} {E : Value → Shared → Prop} {s : Shared}
theorem Zc.next (c : Zc) {it : Addr} {i : Nat} {Q : Value → Shared → Prop} (hi : i < c.len) (hit : c.it s.heap it i) (on : c.on s.heap)
    (hQ : ∀ v h' tk, c.at i v → c.it h' it (i + 1) → Heap.SameBut it s.heap h' → Q v { s with heap := h', toks := tk }) : wpAny (model prog w) A (Builtin.SmallTypes.nextOf (.ref it)) Q E s := by
  cases c with
  | l a its => exact wpAny_nextOf_list_item hit on (x := its[i]) (Array.getElem?_eq_getElem hi) fun h' h1 h2 => hQ _ h' s.toks (Array.getElem?_eq_getElem hi) h1 h2
  | t a its => exact nextOf_tuple_item hit on (x := its[i]) (Array.getElem?_eq_getElem hi) fun h' h1 h2 => hQ _ h' s.toks (Array.getElem?_eq_getElem hi) h1 h2
  | s x tk => exact nextOf_str_item (strT x) hit (c := x.cps[i]) (Array.getElem?_eq_getElem hi) fun h' h1 h2 => hQ _ h' _ ⟨_, _, Array.getElem?_eq_getElem hi, rfl⟩ h1 h2
theorem Zc.fin (c : Zc) {it : Addr} {i : Nat} {Q : Value → Shared → Prop} (hh : A.handled = none) (hi : c.len ≤ i) (hit : c.it s.heap it i) (on : c.on s.heap)
    (hE : ∀ h' e, Heap.ExtBut it s.heap h' → (∃ o, h'.get? e = some o ∧ o.cls = .type "StopIteration") → E (.ref e) { s with heap := h' }) : wpAny (model prog w) A (Builtin.SmallTypes.nextOf (.ref it)) Q E s := by
  cases c with
  | l a its => exact wpAny_nextOf_list_end hh hit on (Array.getElem?_eq_none hi) hE
  | t a its => exact nextOf_tuple_end hh hit on (Array.getElem?_eq_none hi) hE
  | s x tk => exact nextOf_str_end hh (strT x) hit (Array.getElem?_eq_none hi) hE
/-- the source stands apart from what zip makes -/
def Zc.off (c : Zc) (z TI TO i1 i2 : Addr) : Prop := ∀ b ∈ c.ad, b ≠ z ∧ b ≠ TO ∧ b ≠ i1 ∧ b ≠ i2
end
end RZ
namespace RZ
open PySem PySem.Spec PyProof.Rows L2
/-- a source: a list, a tuple, a text -/
inductive Zk where
  | l (a : Addr)
  | t (a : Addr)
  | s (x : Str)
def Zk.v : Zk → V
  | .l a => .ref a
  | .t a => .ref a
  | .s x => .str x
def Zk.has (K : PySem.W.Frag) (H : Hp) (k : Zk) (xs : List V) : Prop := match k with
  | .l a => SqL K H a xs
  | .t a => SqT K H a xs
  | .s x => xs = x.cps.toList.map fun c => V.str ⟨#[c]⟩
def Zk.it : Zk → Heap → Addr → Nat → Prop
  | .l a, h, it, i => h.IsListIter it a i
  | .t a, h, it, i => h.IsTupleIter it a i
  | .s x, h, it, i => ∃ tk, h.IsStrIter it (strIterType x) x tk i
def Zk.ad : Zk → List Addr
  | .l a => [a]
  | .t a => [a]
  | .s _ => []
def Zk.off (c : Zk) (z TI TO i1 i2 : Addr) : Prop := ∀ b ∈ c.ad, b ≠ z ∧ b ≠ TO ∧ b ≠ i1 ∧ b ≠ i2
theorem Zk.inj {X : Cx} {pins : List (Addr × Obj)} {σ : L2.St} {H : Hp} {s : Shared} (I : Inv X pins σ H s) {k : Zk} {xs ys : List V} (h : k.has X.K H xs) (h' : k.has X.K H ys) : xs = ys := by
  cases k with
  | l a => exact I.list_inj h h'
  | t a => exact I.tuple_inj h h'
  | s x => exact Eq.trans h (Eq.symm h')
/-- the source as it stands now -/
theorem Zk.now {X : Cx} {pins : List (Addr × Obj)} {σ : L2.St} {H : Hp} {s : Shared} (I : Inv X pins σ H s) {k : Zk} {xs : List V} (hs : k.has X.K H xs) {it : Addr} {i : Nat} (hi : k.it s.heap it i) :
    ∃ c : Zc, c.it s.heap it i ∧ c.on s.heap ∧ c.len = xs.length ∧ c.ad = k.ad ∧ (∀ j v, c.at j v → ∃ x, xs[j]? = some x ∧ RelV x v) ∧ ∀ h a j, c.it h a j → k.it h a j := by
  cases k with
  | l a =>
    obtain ⟨its, rv, p, _⟩ := I.list hs
    refine ⟨.l a its.toArray, hi, p.isList, by show its.toArray.size = _; rw [List.size_toArray, rv.length], rfl, fun j v h => ?_, fun h a j x => x⟩
    have h' : its[j]? = some v := by simpa [Zc.at] using h
    have hlen := rv.length
    have hj : j < its.length := (List.getElem?_eq_some_iff.mp h').1
    have hx : xs[j]? = some (xs[j]'(by omega)) := List.getElem?_eq_getElem (by omega)
    obtain ⟨u, hu, ru⟩ := rv.get hx
    rw [h'] at hu
    cases hu
    exact ⟨_, hx, ru⟩
  | t a =>
    obtain ⟨its, rv, p, _⟩ := I.tuple hs
    refine ⟨.t a its.toArray, hi, p, by show its.toArray.size = _; rw [List.size_toArray, rv.length], rfl, fun j v h => ?_, fun h a j x => x⟩
    have h' : its[j]? = some v := by simpa [Zc.at] using h
    have hlen := rv.length
    have hj : j < its.length := (List.getElem?_eq_some_iff.mp h').1
    have hx : xs[j]? = some (xs[j]'(by omega)) := List.getElem?_eq_getElem (by omega)
    obtain ⟨u, hu, ru⟩ := rv.get hx
    rw [h'] at hu
    cases hu
    exact ⟨_, hx, ru⟩
  | s x =>
    obtain ⟨tk, hi⟩ := hi
    have hs : xs = x.cps.toList.map fun c => V.str ⟨#[c]⟩ := hs
    refine ⟨.s x tk, hi, True.intro, by show x.cps.size = _; rw [hs, List.length_map, Array.length_toList], rfl, fun j v h => ?_, fun h a j y => ⟨tk, y⟩⟩
    obtain ⟨d, tk', h1, h2⟩ := h
    subst h2
    refine ⟨.str ⟨#[d]⟩, ?_, tk', rfl⟩
    rw [hs, List.getElem?_map]
    have : x.cps.toList[j]? = some d := by simpa using h1
    rw [this]
    rfl
theorem Zk.start {X : Cx} {pins : List (Addr × Obj)} {σ : L2.St} {H : Hp} {s : Shared} (I : Inv X pins σ H s) {k : Zk} {xs : List V} (hs : k.has X.K H xs) {u : Value} (ru : RelV k.v u) :
    ∃ c : Zc, c.val = u ∧ c.on s.heap ∧ c.ad = k.ad ∧ (∀ b ∈ k.ad, b < s.heap.objs.size) ∧ ∀ h a, c.it h a 0 → k.it h a 0 := by
  cases k with
  | l a =>
    obtain ⟨its, rv, p, _⟩ := I.list hs
    obtain rfl : u = Value.ref a := ru
    exact ⟨.l a its.toArray, rfl, p.isList, rfl, fun b hb => by
      have : b = a := by simpa [Zk.ad] using hb
      rw [this]; exact p.lt, fun h a x => x⟩
  | t a =>
    obtain ⟨its, rv, p, _⟩ := I.tuple hs
    obtain rfl : u = Value.ref a := ru
    obtain ⟨o1, ho1, _⟩ := id p
    exact ⟨.t a its.toArray, rfl, p, rfl, fun b hb => by
      have : b = a := by simpa [Zk.ad] using hb
      rw [this]; exact Heap.lt_size ho1, fun h a x => x⟩
  | s x =>
    obtain ⟨tk, rfl⟩ := ru
    exact ⟨.s x tk, rfl, True.intro, rfl, (fun b hb => by cases hb), fun h a y => ⟨tk, y⟩⟩
end RZ
namespace Ty
open PySem PySem.Spec PyProof.Rows L2
/-- what zip goes through -/
class Zs (α : Type) (β : outParam Type) [Rp α] [Rp β] where
  its : α → List β
  ok : ∀ {K : PySem.W.Frag} {HF H : Hp} {v : V} {a : α}, Same HF H → Rp.sh K HF v a → ∃ (k : RZ.Zk) (vs : List V), k.v = v ∧ (∀ H', Same HF H' → k.has K H' vs) ∧ Fa (Rp.sh K HF) vs (its a)
instance zsL {α : Type} [Rp α] : Zs (List α) α where
  its a := a
  ok := fun s ⟨q, us, e, h1, h2⟩ => ⟨.l q, us, e.symm, fun H' s' => SqL.of (s' _ _ h1), h2⟩
instance zsT {α : Type} [Rp α] : Zs (Tu α) α where
  its a := a.l
  ok := fun s ⟨q, us, e, h1, h2⟩ => ⟨.t q, us, e.symm, fun H' s' => sqT_mono s' h1, h2⟩
theorem fa_signs {K : PySem.W.Frag} {H : Hp} : ∀ l : List Nat, Fa (Rp.sh K H) (l.map fun c => V.str ⟨#[c]⟩) (l.map sgS)
  | [] => True.intro
  | _ :: l => ⟨rfl, fa_signs l⟩
instance zsS : Zs Str Str where
  its x := x.cps.toList.map sgS
  ok := fun {K HF H v a} s h => ⟨.s a, _, (Fl.sh_iff.mp h).symm, fun _ _ => rfl, fa_signs _⟩
section
variable {X : Cx} {Γ : Ctx} {α β γ δ : Type} {a b : Expr} {pos p : Pos} {ta tb : TE}
end
end Ty

/-! ## Ty80: a module's table (texts -> tuples of texts), its hook; str of whole numbers -/
namespace Ty
open PySem PySem.Spec PyProof.Rows L2
/-- the module's name x is a table of tuples of texts, by texts -/
structure KdT (K : PySem.W.Frag) (w : World) (x : Str) (kvs : List (Str × List Str)) : Prop where
  D : ∃ es n, KDict K w (He.ga K x) es n
  at_ : ∀ z, ∃ r, PySem.W.nsIn K (He.ga K x) z = some r ∧ r.isSome = (kvs.lookup z).isSome ∧ ∀ l, kvs.lookup z = some l → ∃ b, r = some (.ref b) ∧ ∀ H, SqT K H b (l.map V.str)
/-! ### a hook that holds tables, too -/
structure SaysW (fa : List He.Fa) (fn : List He.DefD) (ts : List (Str × List Str)) (ex : PySem.W.Frag → Bool) (w : World) (K : PySem.W.Frag) : Prop where
  d : He.SaysD fa fn K
  more : ex K = true
  tab : (ts.map fun t => He.dicW K (He.ga K t.1)) = ts.map fun t => some (He.keysIn w.params t.2)
theorem SaysW.at {fa : List He.Fa} {fn : List He.DefD} {ts : List (Str × List Str)} {ex : PySem.W.Frag → Bool} {w : World} {K : PySem.W.Frag} (c : SaysW fa fn ts ex w K) (i : Nat) {x : Str} {ks : List Str} (h : ts[i]? = some (x, ks) := by rfl) : He.dicW K (He.ga K x) = some (He.keysIn w.params ks) := by
  have e : (ts.map fun t => He.dicW K (He.ga K t.1))[i]? = (ts.map fun t => some (He.keysIn w.params t.2))[i]? := by rw [c.tab]
  rw [List.getElem?_map, List.getElem?_map, h] at e
  exact Option.some.inj e
section
variable {X : Cx} {Γ : Ctx} {a b e : Expr} {pos p pb : Pos} {ta tb te : TE}
/-! ### str of a whole number -/
end
end Ty
namespace Ty
open PySem PySem.Spec PyProof.Rows L2
end Ty
namespace Ty
open PySem PySem.Spec PyProof.Rows L2
instance : Ob Ins := ⟨fun ⟨p, _, e, _⟩ => ⟨p, e⟩⟩
section
variable {X : Cx} {Γ : Ctx} {S L ρ : Type} [Rp ρ] {o : Ow ρ} {Γo : S → Ctx} {ΓL : L → Ctx} {e : Expr} {pos p apos cpos p2 : Pos} {te : TE} {sts : List Stmt} {tr : TS}
end
end Ty

/-! ## a dict with tuple keys walked (locked until its def tells) -/
namespace L2
open PySem PySem.Spec PyProof.Rows
/-- the address of the i-th key -/
def keyA (od : Obj) (i : Nat) : Option Addr := match od.data with
  | .dict es _ => (es[i]?).bind fun en => match en.key with
    | .ref q => some q
    | _ => none
  | _ => none
section
variable {P : Program} {w : World} {K : PySem.W.Frag} {tg : Expr} {d : Addr} {o : Obj} {es : Array DictEntry} {ep : Nat}
end
end L2
namespace Ty
open PySem PySem.Spec PyProof.Rows L2
/-- a locked dict with tuple keys -/
structure Ld (κ β : Type) where
  l : List (κ × β)
instance {κ β : Type} : Inhabited (Ld κ β) := ⟨⟨[]⟩⟩
instance rpLd {κ β : Type} [Kt κ] [Rp β] : Rp (Ld κ β) where
  sh K H v x := ∃ p od kvs, v = .ref p ∧ H p = some (.frz od (.dT kvs)) ∧ Ft (Rp.sh K H) kvs x.l ∧ ∀ i k w, kvs[i]? = some (k, w) → ∃ q, keyA od i = some q ∧ H q = some (.tup (k.map kV))
  mono := fun e ⟨p, od, kvs, h1, h2, h3, h4⟩ => ⟨p, od, kvs, h1, e _ _ h2, Ft.mono (fun _ _ h => Rp.mono e h) h3, fun i k w hk => by
    obtain ⟨q, a, b⟩ := h4 i k w hk
    exact ⟨q, a, e _ _ b⟩⟩
theorem Ft.at {κ β : Type} [Kt κ] {R : V → β → Prop} : ∀ {ps : List (List Key × V)} {qs : List (κ × β)} {i : Nat} {q : κ × β}, Ft R ps qs → qs[i]? = some q → ∃ v, ps[i]? = some (Kt.keys q.1, v)
  | p :: ps, q :: qs, 0, r, ⟨⟨x, _⟩, _⟩, e => by
    cases Option.some.inj e
    exact ⟨p.2, by rw [← x]; rfl⟩
  | p :: ps, q :: qs, i + 1, r, ⟨_, z⟩, e => by
    obtain ⟨v, hv⟩ := Ft.at (i := i) z e
    exact ⟨v, hv⟩
  | [], [], i, r, _, e => by cases i <;> cases e
  | [], _ :: _, _, _, x, _ => x.elim
  | _ :: _, [], _, _, x, _ => x.elim
/-- own things that are no tuples -/
class NoTup {α : Type} [Rp α] (o : Ow α) : Prop where
  nt : ∀ {K : PySem.W.Frag} {HF H : Hp} {v : V} {a : α} {fp : List Addr}, o.rep K HF H v a fp → ∀ p ∈ fp, ∀ xs, H p ≠ some (.tup xs)
instance {α : Type} [Rp α] : NoTup (Ow.v : Ow α) := ⟨fun ⟨_, e⟩ p hp => by subst e; cases hp⟩
instance {κ β : Type} [Kt κ] [Rp β] : NoTup (Ow.dt (κ := κ) (Ow.v : Ow β)) := ⟨fun ⟨p, kvs, fq, h1, h2, h3, h4⟩ q hq xs e => by
  obtain ⟨_, e2⟩ := Rt.toFt h4
  subst h2 e2
  rw [List.mem_singleton.mp hq, h3] at e
  cases e⟩
instance {κ β : Type} [Ky κ] [Rp β] : NoTup (Ow.d (κ := κ) (β := β)) := ⟨fun ⟨p, kvs, h1, h2, h3, h4⟩ q hq xs e => by
  subst h2
  rw [List.mem_singleton.mp hq, h3] at e
  cases e⟩
instance {α : Type} [Rp α] : NoTup (Ow.l (Ow.v : Ow α)) := ⟨fun ⟨p, vs, fq, h1, h2, h3, h4⟩ q hq xs e => by
  obtain ⟨_, e2⟩ := Rl.toFa h4
  subst h2 e2
  rw [List.mem_singleton.mp hq, h3] at e
  cases e⟩
inductive NTs : Ctx → Prop where
  | n : NTs []
  | u {Γ : Ctx} : NTs Γ → NTs (.un :: Γ)
  | o {Γ : Ctx} {α : Type} [Rp α] {o : Ow α} [NoTup o] {a : α} : NTs Γ → NTs (.mk o a :: Γ)
theorem NTs.no {Γ : Ctx} (h : NTs Γ) {K : PySem.W.Frag} {HF H : Hp} : ∀ {σ : L2.St} {fs : List Addr}, Holds K HF H Γ σ fs → ∀ p ∈ fs, ∀ xs, H p ≠ some (.tup xs) := by
  induction h with
  | n =>
    intro σ fs hh p hp
    cases σ with
    | nil => rw [show fs = [] from hh] at hp; cases hp
    | cons _ _ => exact hh.elim
  | u _ ih =>
    intro σ fs hh p hp
    cases σ with
    | nil => exact hh.elim
    | cons x σ =>
      obtain ⟨f1, f2, h1, h2, h3⟩ := hh
      rw [h1] at hp
      rcases List.mem_append.mp hp with hp | hp
      · rw [show f1 = [] from h2] at hp; cases hp
      · exact ih h3 p hp
  | o _ ih =>
    intro σ fs hh p hp
    cases σ with
    | nil => exact hh.elim
    | cons x σ =>
      obtain ⟨f1, f2, h1, ⟨v, _, h2⟩, h3⟩ := hh
      rw [h1] at hp
      rcases List.mem_append.mp hp with hp | hp
      · exact NoTup.nt h2 p hp
      · exact ih h3 p hp
section
variable {X : Cx} {Γ : Ctx} {S L ρ α β κ : Type} {Γo : S → Ctx} {ΓL : L → Ctx} {e a b tg : Expr} {sts : List Stmt} {pos : Pos} {te ta tb : TE} {t : TS}
end
end Ty

/-! ## for a, b in lists of two -/
namespace Ty
open PySem PySem.Spec PyProof.Rows L2
/-- a list of two things -/
structure Lw (α : Type) where
  a : α
  b : α
instance {α : Type} [Inhabited α] : Inhabited (Lw α) := ⟨⟨default, default⟩⟩
instance rpLw {α : Type} [Rp α] : Rp (Lw α) where
  sh K H v x := Rp.sh K H v [x.a, x.b]
  mono := fun e h => Rp.mono e h
section
variable {X : Cx} {Γ : Ctx} {α : Type} {e x y : Expr} {wi : TI} {tg : Expr} {pos2 : Pos}
end
end Ty

/-! ## Ty83: a pair as a tuple of whatever (its length) -/
namespace Ty
open PySem PySem.Spec PyProof.Rows L2
instance kdPair {α β : Type} [Rp α] [Rp β] : Kd (α × β) := ⟨"tuple", fun ⟨p, va, vb, e, h, _⟩ => by
  subst e
  rcases h with (h | ⟨o, h⟩) | ⟨o, its, n, e, c, _⟩
  · exact .base (.tup h)
  · exact .fTuple h
  · exact .kTuple e c⟩
section
variable {X : Cx} {Γ : Ctx} {α β : Type} {e : Expr} {te : TE}
end
end Ty

/-! ## Ty84: ranges as values; ("word", w) or ("none", turns, order); x.remove(e); [a, x.pop(b)]; x[2].reverse() -/
namespace L2
open PySem PySem.Spec PyProof.Rows
section
variable {X : Cx}
/-- i not in r -/
theorem op_notIn_rng : OpR X (compareOp .NotIn) (fun x y H Q => ∃ i a lo hi, x = V.int i ∧ y = V.ref a ∧ H a = some (.rng lo hi) ∧ Q (.bl (!decide (lo ≤ i ∧ i < hi))) H) := by
  intro pins s σ H x y v u Q I rx ry h
  obtain ⟨i, a, lo, hi, rfl, rfl, ha, q⟩ := h
  obtain ⟨k, rfl⟩ := rx
  obtain rfl : u = Value.ref a := ry
  obtain ⟨t1, t2, t3, ho⟩ := I.hok a _ ha
  show wpAny _ _ (do return Value.bool (!(← contains (Value.ref a) (Value.int i k)))) _ _ s
  refine wpAny_bind (wpAny_contains_slot (T := "range") ⟨_, ho, rfl⟩ F.slot_range_contains (call_meets F.slot_range_contains ⟨_, ho, rfl⟩ F.entry_range_contains (F.args_range_contains_2 _ _) (q_contains a lo hi i t1 t2 t3 k)
    ⟨ho, wpAny_truthy_bool (wpAny_pure ⟨.bl _, H, I, rfl, ?_⟩)⟩))
  rw [place1]
  exact q
def rRg1 : List V → Hp → VK → Prop := fun xs H Q => ∃ n : Int, xs = [.int n] ∧ ∀ p, H p = none → Q (.ref p) (upd H p (.rng 0 n))
theorem cr_rg1 : CallR X (.type "range") rRg1 := by
  intro pins s σ H xs us Q I r h
  obtain ⟨n, rfl, q⟩ := h
  obtain ⟨u, rfl, ru⟩ := r.one
  obtain ⟨t, rfl⟩ := ru
  refine call_range_1 ⟨.ref s.heap.objs.size, upd H s.heap.objs.size (.rng 0 n), I.laid (t' := s.toks + 1 + 1) (fun b o e => Heap.get?_push_of_some _ e) (Nat.le_refl _) ?_, rfl, q _ (I.hok.fresh (Nat.le_refl _))⟩
  exact ⟨_, t, _, Heap.get?_push_size _ rfl⟩
end
end L2
namespace Ty
open PySem PySem.Spec PyProof.Rows L2
structure Rgv where
  lo : Int
  hi : Int
instance : Inhabited Rgv := ⟨⟨0, 0⟩⟩
instance : Rp Rgv where
  sh _ H v x := ∃ p, v = .ref p ∧ H p = some (.rng x.lo x.hi)
  mono e h := by
    obtain ⟨p, h1, h2⟩ := h
    exact ⟨p, h1, e _ _ h2⟩
/-- what told_web tells -/
inductive Tw where
  | w (s : Str)
  | n (t o : List Int)
instance : Inhabited Tw := ⟨.w default⟩
instance : Rp Tw where
  sh K H v x := match x with
    | .w s => Rp.sh K H v (("word" : Str), s)
    | .n t o => Rp.sh K H v (⟨("none" : Str), t, o⟩ : T3 Str (List Int) (List Int))
  mono {K H H' v a} e h := by
    cases a with
    | w s => exact Rp.mono (α := Str × Str) e h
    | n t o => exact Rp.mono (α := T3 Str (List Int) (List Int)) e h
instance : Kd Tw := ⟨"tuple", fun {K H v a} h => by
  cases a with
  | w s => exact (kdPair (α := Str) (β := Str)).ok h
  | n t o => exact (kdT3 (α := Str) (β := List Int) (γ := List Int)).ok h⟩
def twOq (x : Tw) : Tu Opq := match x with
  | .w _ => ⟨[.o, .o]⟩
  | .n _ _ => ⟨[.o, .o, .o]⟩
def tw0 (x : Tw) : Str := match x with
  | .w _ => "word"
  | .n _ _ => "none"
def tw1S (x : Tw) : M Str := match x with
  | .w s => pure s
  | .n _ _ => no
def tw1L (x : Tw) : M (List Int) := match x with
  | .w _ => no
  | .n t _ => pure t
def tw2L (x : Tw) : M (List Int) := match x with
  | .w _ => no
  | .n _ o => pure o
def twCut (x : Tw) (l u : Option Int) : M (Tu (List Int)) := match x, l, u with
  | .n t o, some 1, none => pure ⟨[t, o]⟩
  | _, _, _ => no
def remM (as : List Int) (a : Int) : M (List Int) := do let j ← ofO (as.idxOf? a); pure (as.eraseIdx j)
section
variable {X : Cx} {Γ : Ctx} {S L ρ α β γ : Type} {a b e : Expr} {p p1 p2 pos apos cpos : Pos} {ta tb te : TE} {sts : List Stmt} {tr : TS}
theorem ex_rg1 {m : M Int} (hm : X.mg "range" = none) (h : EX X Γ e Ow.v m te) (hg : Gl X "range" := by rfl) (h1 : starEach [e] X.env = (false, eval e X.env) :: starEach [] X.env := by rfl) (hpl : (backTo pos (starEach [] X.env)).any (·.1) = false := by rfl) : EX X Γ (.Call (.Name "range" p) [e] [] pos) Ow.v (do let n ← m; pure (⟨0, n⟩ : Rgv)) (tCB rRg1 (tCons te tNil)) :=
  ex_t1 cr_rg1 (show SemC1 X.K rRg1 Ow.v (fun (n : Int) => pure (⟨0, n⟩ : Rgv)) from fun HF H v n c s ra hc Q k => by
    cases pure_ok hc
    rw [Fl.sh_iff.mp ra]
    refine ⟨n, rfl, fun r hr => ?_⟩
    exact k (.ref r) _ _ [] (Step.shr (o := .rng 0 n) s hr) ⟨⟨r, rfl, upd_same⟩, rfl⟩ List.nodup_nil fun p hp => by cases hp) (by decide +kernel) hm h hg (h1 := h1) (hpl := hpl)
theorem ec_ninRg {ma : M Int} {mb : M Rgv} (ha : EX X Γ a Ow.v ma ta) (hb : EX X Γ b Ow.v mb tb) (hm : behindInMarks .NotIn b = false := by rfl) : EC X Γ .NotIn a b (do let x ← ma; let r ← mb; pure (!decide (r.lo ≤ x ∧ x < r.hi))) (fun x y H Q => ∃ i a lo hi, x = V.int i ∧ y = V.ref a ∧ H a = some (.rng lo hi) ∧ Q (.bl (!decide (lo ≤ i ∧ i < hi))) H) ta tb :=
  ec_of op_notIn_rng (fun HF H v w x y c s ra rb hc Q k => by
    cases pure_ok hc
    obtain ⟨q, e1, e2⟩ := rb
    rw [Fl.sh_iff.mp ra]
    exact ⟨x, q, _, _, rfl, e1, s _ _ e2, k.flat s⟩) ha hb hm
theorem ex_twP {m : M (Str × Str)} (h : EX X Γ e Ow.v m te) : EX X Γ e Ow.v (do let a ← m; gd (decide (a.1 = "word")); pure (Tw.w a.2)) te :=
  ⟨h.pe, fun HF0 G HF H σ g c hc Q k => by
    obtain ⟨x, e1, hc⟩ := bind_ok hc
    obtain ⟨u, e2, hc⟩ := bind_ok hc
    cases pure_ok hc
    have e3 := of_decide_eq_true (gd_ok e2)
    obtain ⟨x1, x2⟩ := x
    subst e3
    exact h.sem HF0 G HF H σ g _ e1 _ fun v HF1 H1 fp st r n f => k v HF1 H1 fp st ⟨r.1, r.2⟩ n f⟩
theorem ex_twT {m : M (T3 Str (List Int) (List Int))} (h : EX X Γ e Ow.v m te) : EX X Γ e Ow.v (do let a ← m; gd (decide (a.a = "none")); pure (Tw.n a.b a.c)) te :=
  ⟨h.pe, fun HF0 G HF H σ g c hc Q k => by
    obtain ⟨x, e1, hc⟩ := bind_ok hc
    obtain ⟨u, e2, hc⟩ := bind_ok hc
    cases pure_ok hc
    have e3 := of_decide_eq_true (gd_ok e2)
    obtain ⟨x1, x2, x3⟩ := x
    have e3 : x1 = "none" := e3
    subst e3
    exact h.sem HF0 G HF H σ g _ e1 _ fun v HF1 H1 fp st r n f => k v HF1 H1 fp st ⟨r.1, r.2⟩ n f⟩
theorem ex_twOq {m : M Tw} (h : EX X Γ e Ow.v m te) : EX X Γ e Ow.v (do let a ← m; pure (twOq a)) te :=
  ⟨h.pe, fun HF0 G HF H σ g c hc Q k => by
    obtain ⟨x, e1, hc⟩ := bind_ok hc
    cases pure_ok hc
    refine h.sem HF0 G HF H σ g x e1 _ fun v HF1 H1 fp st r n f => ?_
    cases x with
    | w s =>
      obtain ⟨⟨p, va, vb, h1, h2, h3, h4⟩, r2⟩ := r
      exact k v HF1 H1 fp st ⟨⟨p, [va, vb], h1, h2, True.intro, True.intro, True.intro⟩, r2⟩ n f
    | n t o =>
      obtain ⟨⟨p, va, vb, vc, h1, h2, h3, h4, h5⟩, r2⟩ := r
      exact k v HF1 H1 fp st ⟨⟨p, [va, vb, vc], h1, h2, True.intro, True.intro, True.intro, True.intro⟩, r2⟩ n f⟩
theorem ex_tw0 {K : PySem.W.Frag} {m : M Tw} {j p2} (ha : EX X Γ a Ow.v m ta) (hs : PlainIx (.Constant (.int 0) j p2) := by intro _ _; rfl) (hK : X.K = K := by rfl) : EX X Γ (.Subscript a (.Constant (.int 0) j p2) pos) Ow.v (do let a ← m; pure (tw0 a)) (tOp (rIxT K) ta (tC (.int 0))) := by
  subst hK
  exact ⟨pe_ix ix_tup ha.pe pe_int hs, fun HF0 G HF H σ g c hc Q k => by
    obtain ⟨x, e1, hc⟩ := bind_ok hc
    cases pure_ok hc
    refine ha.sem HF0 G HF H σ g x e1 _ fun v HF1 H1 fp s1 r1 _ _ => ?_
    cases x with
    | w s =>
      obtain ⟨⟨q, va, vb, h1, h2, h3, h4⟩, _⟩ := r1
      exact ⟨q, _, 0, va, h1, rfl, sqT_mono s1.sub h2, rfl, (k.back s1).shv s1.sub h3⟩
    | n t o =>
      obtain ⟨⟨q, va, vb, vc, h1, h2, h3, h4, h5⟩, _⟩ := r1
      exact ⟨q, _, 0, va, h1, rfl, sqT_mono s1.sub h2, rfl, (k.back s1).shv s1.sub h3⟩⟩
theorem ex_tw1S {K : PySem.W.Frag} {m : M Tw} {j p2} (ha : EX X Γ a Ow.v m ta) (hs : PlainIx (.Constant (.int 1) j p2) := by intro _ _; rfl) (hK : X.K = K := by rfl) : EX X Γ (.Subscript a (.Constant (.int 1) j p2) pos) Ow.v (do let a ← m; tw1S a) (tOp (rIxT K) ta (tC (.int 1))) := by
  subst hK
  exact ⟨pe_ix ix_tup ha.pe pe_int hs, fun HF0 G HF H σ g c hc Q k => by
    obtain ⟨x, e1, hc⟩ := bind_ok hc
    cases x with
    | n t o => cases hc
    | w s =>
      cases pure_ok (show (pure s : M Str) = .ok c from hc)
      refine ha.sem HF0 G HF H σ g _ e1 _ fun v HF1 H1 fp s1 r1 _ _ => ?_
      obtain ⟨⟨q, va, vb, h1, h2, h3, h4⟩, _⟩ := r1
      exact ⟨q, _, 1, vb, h1, rfl, sqT_mono s1.sub h2, rfl, (k.back s1).shv s1.sub h4⟩⟩
theorem ex_tw1L {K : PySem.W.Frag} {m : M Tw} {j p2} (ha : EX X Γ a Ow.v m ta) (hs : PlainIx (.Constant (.int 1) j p2) := by intro _ _; rfl) (hK : X.K = K := by rfl) : EX X Γ (.Subscript a (.Constant (.int 1) j p2) pos) Ow.v (do let a ← m; tw1L a) (tOp (rIxT K) ta (tC (.int 1))) := by
  subst hK
  exact ⟨pe_ix ix_tup ha.pe pe_int hs, fun HF0 G HF H σ g c hc Q k => by
    obtain ⟨x, e1, hc⟩ := bind_ok hc
    cases x with
    | w s => cases hc
    | n t o =>
      cases pure_ok (show (pure t : M (List Int)) = .ok c from hc)
      refine ha.sem HF0 G HF H σ g _ e1 _ fun v HF1 H1 fp s1 r1 _ _ => ?_
      obtain ⟨⟨q, va, vb, vc, h1, h2, h3, h4, h5⟩, _⟩ := r1
      exact ⟨q, _, 1, vb, h1, rfl, sqT_mono s1.sub h2, rfl, (k.back s1).shv s1.sub h4⟩⟩
theorem ex_tw2L {K : PySem.W.Frag} {m : M Tw} {j p2} (ha : EX X Γ a Ow.v m ta) (hs : PlainIx (.Constant (.int 2) j p2) := by intro _ _; rfl) (hK : X.K = K := by rfl) : EX X Γ (.Subscript a (.Constant (.int 2) j p2) pos) Ow.v (do let a ← m; tw2L a) (tOp (rIxT K) ta (tC (.int 2))) := by
  subst hK
  exact ⟨pe_ix ix_tup ha.pe pe_int hs, fun HF0 G HF H σ g c hc Q k => by
    obtain ⟨x, e1, hc⟩ := bind_ok hc
    cases x with
    | w s => cases hc
    | n t o =>
      cases pure_ok (show (pure o : M (List Int)) = .ok c from hc)
      refine ha.sem HF0 G HF H σ g _ e1 _ fun v HF1 H1 fp s1 r1 _ _ => ?_
      obtain ⟨⟨q, va, vb, vc, h1, h2, h3, h4, h5⟩, _⟩ := r1
      exact ⟨q, _, 2, vc, h1, rfl, sqT_mono s1.sub h2, rfl, (k.back s1).shv s1.sub h5⟩⟩
theorem ex_twCut {K : PySem.W.Frag} {m : M Tw} {ml mu : M (Option Int)} {lo hi : Option Expr} {tl th : TO} {p2 : Pos} (h : EX X Γ e Ow.v m te) (hl : EO X Γ lo ml tl) (hu : EO X Γ hi mu th) (hK : X.K = K := by rfl) :
    EX X Γ (.Subscript e (.Slice lo hi none p2) pos) Ow.v (do let a ← m; let l ← ml; let u ← mu; twCut a l u) (tSl (rSlT K) te tl th) := by
  subst hK
  exact ex_slice sl_tup (show SemSl X.K (rSlT X.K) Ow.v twCut from fun HF H v x l u c s ra hc Q k => by
    unfold twCut at hc
    split at hc
    · cases pure_ok hc
      obtain ⟨q, va, vb, vc, h1, h2, h3, h4, h5⟩ := ra
      refine ⟨q, [va, vb, vc], h1, sqT_mono s h2, (by show ¬ (HT.sIx 3 0 (some 1) = 0 ∧ HT.sIx 3 3 none = 3); decide), fun r hr => ?_⟩
      have st := Step.shr (o := .tup [vb, vc]) s hr
      exact k (.ref r) _ _ [] st ⟨⟨r, [vb, vc], rfl, SqT.of upd_same, Rp.mono (α := List Int) st.exF h4, Rp.mono (α := List Int) st.exF h5, True.intro⟩, rfl⟩ List.nodup_nil fun p hp => by cases hp
    · cases hc) h hl hu
/-- x.remove(e), own ints -/
theorem ep_rem (i : Nat) {as : List Int} {x : Str} {m : M Int} (he : EX X Γ e Ow.v m te) (hl : look Γ i = .mk (Ow.l (Ow.v : Ow Int)) as := by rfl) (hN : X.N[i]? = some x := by rfl) (hv : Vis X.env.scope x := by first | exact Or.inl rfl | exact Or.inr (Or.inl rfl) | exact Or.inr (Or.inr rfl)) (hd : (x == ("__debug__" : Str)) = false := by decide)
    (hcd : (x == ("__classdict__" : Str)) = false := by decide)
    (hpe : ∀ {to : TE} {tt : TA}, PE X (.Name x p) to → PA X [e] tt → PE X (.Call (.Attribute (.Name x p) "remove" apos) [e] [] cpos) (tBM X.K "list" rRemI to tt) := by exact fun h h' => pe_bm PySem.F.plainAttrs_list PySem.F.slot_list_remove PySem.F.type_list_remove mt_remove h h')
    (h1 : starEach [e] X.env = (false, eval e X.env) :: starEach [] X.env := by rfl) :
    EP X Γ i (.Call (.Attribute (.Name x p) "remove" apos) [e] [] cpos) (do let j ← m; let l ← remM as j; pure ((), l)) (tBM X.K "list" rRemI (tVar i) (tCons te tNil)) :=
  ⟨hpe (pe_var hN hv hd hcd) (pa_cons he.pe pa_nil h1), fun HF0 G HF H σ g c l hc Q k => by
    obtain ⟨j, e0, hc⟩ := bind_ok hc
    obtain ⟨l2, e8, hc⟩ := bind_ok hc
    obtain ⟨n, e9, e8⟩ := bind_ok e8
    cases pure_ok e8
    cases pure_ok hc
    have e9 := ofO_ok e9
    obtain ⟨v, fo, hσ, ⟨q, vs, fq, h1, h2, h3, h4⟩, nd, hfo, back⟩ := g.take hl
    subst h1 h2
    obtain ⟨fa, e5⟩ := h4.toFa
    subst e5
    have hvs : vs = as.map V.int := Fa.flat.mp fa
    subst hvs
    refine ⟨.ref q, hσ, .inl ⟨rfl, _, SqL.of h3⟩, ?_⟩
    refine he.sem HF0 G HF H σ g j e0 _ fun v' HF1 H1 fp st r n' f => ?_
    rw [List.idxOf?_eq_some_iff] at e9
    obtain ⟨hlt, hn1, hn2⟩ := e9
    refine ⟨q, as, j, n, rfl, by rw [Fl.sh_iff.mp r.1]; rfl, st.exH _ _ h3, by rw [List.getElem?_eq_getElem hlt, hn1], fun m' hm' z => ?_, ?_⟩
    · have hm2 : m' < as.length := by omega
      rw [List.getElem?_eq_getElem hm2] at z
      exact absurd (Option.some.inj z) (by simpa using hn2 m' hm')
    have gg := back st (H' := upd H1 q (.lst ((as.eraseIdx n).map V.int))) (u' := Ow.l (Ow.v : Ow Int)) (b := as.eraseIdx n) (v' := .ref q) (f' := [q]) (fun p w hp e => by rw [upd_ne (fun z => hp (by rw [z]; exact List.mem_cons_self ..))]; exact e)
      ⟨q, _, [], rfl, rfl, upd_same, Rl.ofFa (Fa.flat.mpr rfl)⟩ (by simp) (fun p hp => .inl hp)
    rw [set_self hσ] at gg
    exact k .non HF1 _ st.exF rfl gg⟩
def lstPM (m : M Int) (n : M (Int × List Int)) : M (List Int × List Int) := do let u ← m; let z ← n; pure ([u, z.1], z.2)
/-- x = [a, y.pop(b)]: an own list -/
theorem ss_asgLP [Rp ρ] {o : Ow ρ} {Γo : S → Ctx} {ΓL : L → Ctx} (i j : Nat) {x : Str} {m : M Int} {n : M (Int × List Int)} {k : List Int × List Int → M (Ctl S L ρ)} {pos' lp : Pos} (hN : X.N.Nodup) (ha : EX X Γ a Ow.v m ta) (hb : EP X Γ i b n tb)
    (hr : ∀ q : List Int × List Int, SS X (put (put Γ i (.mk (Ow.l (Ow.v : Ow Int)) q.2)) j (.mk (Ow.l (Ow.v : Ow Int)) q.1)) sts Γo ΓL o (k q) tr) (hlt : Nat.blt j Γ.length = true := by rfl) (hi : X.N[j]? = some x := by rfl) (hx : Loc X.env.scope x := by first | exact .inl rfl | exact .inr rfl)
    (h1 : starEach [a, b] X.env = (false, eval a X.env) :: starEach [b] X.env := by rfl) (h2 : starEach [b] X.env = (false, eval b X.env) :: starEach [] X.env := by rfl)
    (hs : swapsWith (.List [a, b] lp) (some (.Name x pos')) pos.line X.env = pure false := by rfl) (hf : X.fn x = true ∨ X.env.scope.names.lookup x = some .local := by first | exact .inl rfl | exact .inr rfl) : SS X Γ (.Assign [.Name x pos'] (.List [a, b] lp) pos :: sts) Γo ΓL o (do let q ← lstPM m n; k q) (tSeq (tAsg (tLst (tCons ta (tCons tb tNil))) (gName j)) tr) :=
  ⟨pss_cons (ps_set hN hi hx (pe_lst (pa_cons ha.pe (pa_cons hb.pe pa_nil h2) h1)) hs hf) (hr default).pss, fun HF0 G HF H σ g c hc D kk => by
    obtain ⟨q, e0, hc⟩ := bind_ok hc
    obtain ⟨u, e1, e0⟩ := bind_ok e0
    obtain ⟨⟨y, l⟩, e2, e0⟩ := bind_ok e0
    cases pure_ok e0
    refine ha.sem HF0 G HF H σ g u e1 _ fun va HF1 H1 fp st r n' f => ?_
    refine hb.sem HF0 G HF1 H1 σ (g.step st) y l e2 _ fun vb HF2 H2 st2 r2 gg => ⟨by show 2 ≤ sizeLine; decide, fun q hq => ?_⟩
    have g3 := gg.set (i := j) (u := Ow.l (Ow.v : Ow Int)) (a := [u, y]) (v := .ref q) (fp := [q]) (by rw [put_len]; exact of_blt hlt) (Step.own (o := .lst [va, vb]) gg.sub hq) ⟨q, [va, vb], [], rfl, rfl, upd_same, Rl.ofFa ⟨Rp.mono st2 r.1, r2, True.intro⟩⟩ (by simp) fun p hp => by
      rw [List.mem_singleton.mp hp]
      exact ⟨hq, gg.sub.free hq⟩
    exact (hr ([u, y], l)).sem HF0 G HF2 _ _ g3 c hc D (kk.mono (st.exF.trans st2))⟩
def revT2M {α β γ : Type} (d : T3 β γ (List α)) : M (T3 β γ (List α)) := pure ⟨d.a, d.b, d.c.reverse⟩
/-- x[2].reverse(), a part of an own tuple, its items flat -/
theorem ss_revT2 {K : PySem.W.Frag} [Rp β] [Rp γ] [Rp ρ] {o : Ow ρ} {Γo : S → Ctx} {ΓL : L → Ctx} (i : Nat) {u1 : Ow β} {u2 : Ow γ} {d : T3 β γ (List Int)} {x : Str} {k : T3 β γ (List Int) → M (Ctl S L ρ)} {kk : Nat} (hr : ∀ l, SS X (put Γ i (.mk (Ow.t3 u1 u2 (Ow.l (Ow.v : Ow Int))) l)) sts Γo ΓL o (k l) tr) (dd : T3 β γ (List Int)) (hl : look Γ i = .mk (Ow.t3 u1 u2 (Ow.l (Ow.v : Ow Int))) d := by rfl) (hN : X.N[i]? = some x := by rfl) (hv : Vis X.env.scope x := by first | exact Or.inl rfl | exact Or.inr (Or.inl rfl) | exact Or.inr (Or.inr rfl)) (hd : (x == ("__debug__" : Str)) = false := by decide)
    (hcd : (x == ("__classdict__" : Str)) = false := by decide) (hK : X.K = K := by rfl)
    (hpe : PE X (.Name x p) (tVar i) → PE X (.Call (.Attribute (.Subscript (.Name x p) (.Constant (.int 2) kk p1) p2) "reverse" apos) [] [] cpos) (tBM0 K "list" rReverse (tOp (rIxT K) (tVar i) (tC (.int 2)))) := by exact fun h => pe_bm0 PySem.F.plainAttrs_list PySem.F.slot_list_reverse PySem.F.type_list_reverse mt_reverse (pe_ix ix_tup h pe_int (fun _ _ => rfl)))
    (hs : swapsWith (.Call (.Attribute (.Subscript (.Name x p) (.Constant (.int 2) kk p1) p2) "reverse" apos) [] [] cpos) none pos.line X.env = pure false := by rfl) :
    SS X Γ (.Expr (.Call (.Attribute (.Subscript (.Name x p) (.Constant (.int 2) kk p1) p2) "reverse" apos) [] [] cpos) pos :: sts) Γo ΓL o (do let l ← revT2M d; k l) (tSeq (tDrop (tBM0 K "list" rReverse (tOp (rIxT K) (tVar i) (tC (.int 2))))) tr) := by
  subst hK
  exact ⟨pss_cons (ps_expr (hpe (pe_var hN hv hd hcd)) hs) (hr dd).pss, fun HF0 G HF H σ g c hc D kk => by
    obtain ⟨l0, e0, hc⟩ := bind_ok hc
    cases pure_ok e0
    obtain ⟨v, fo, hσ, ⟨p, va, vb, vc, f1, f2, f3, t1, t2, t3, ra, rb, rc⟩, nd, hfo, back⟩ := g.take hl
    subst t1 t2
    obtain ⟨q, vs, fq, q1, q2, q3, q4⟩ := rc
    subst q1 q2
    obtain ⟨fa, e5⟩ := q4.toFa
    subst e5
    refine ⟨.ref p, hσ, p, _, 2, .ref q, rfl, rfl, SqT.of t3, rfl, .inl ⟨rfl, vs, SqL.of q3⟩, ?_⟩
    refine ⟨q, vs, rfl, rfl, q3, ?_⟩
    have hpq : p ≠ q := fun z => (List.nodup_cons.mp nd).1 (by rw [z]; simp)
    have hother : ∀ {z : Addr}, z ∈ f1 ++ f2 → z ≠ q := fun {z} hz e => by
      subst e
      have := List.nodup_iff_count.mp nd z
      have h2 := List.one_le_count_iff.mpr hz
      simp [List.count_append, List.count_cons] at this h2
      omega
    have gg := back (Step.refl g.sub) (u' := Ow.t3 u1 u2 (Ow.l (Ow.v : Ow Int))) (b := ⟨d.a, d.b, d.c.reverse⟩) (v' := .ref p) (f' := (p :: (f1 ++ (f2 ++ [q])))) (H' := upd H q (.lst vs.reverse)) (fun p' w hp e => by rw [upd_ne (fun z => hp (by rw [z]; simp))]; exact e)
      ⟨p, _, _, _, f1, f2, [q], rfl, rfl, by rw [upd_ne hpq]; exact t3, u1.mono (Same.refl _) (fun z hz _ e => by rw [upd_ne (hother (by simp [hz]))]; exact e) ra, u2.mono (Same.refl _) (fun z hz _ e => by rw [upd_ne (hother (by simp [hz]))]; exact e) rb, ⟨q, vs.reverse, [], rfl, rfl, upd_same, Rl.ofFa (by
        have e1 : vs = d.c.map V.int := by
          have := Fa.flat (α := Int) (K := X.K) (H := HF) (vs := vs) (as := d.c)
          exact this.mp fa
        subst e1
        rw [← List.map_reverse]
        exact (Fa.flat (α := Int) (K := X.K) (H := HF)).mpr rfl)⟩⟩ nd (fun z hz => .inl hz)
    rw [set_self hσ] at gg
    exact (hr ⟨d.a, d.b, d.c.reverse⟩).sem HF0 G HF _ σ gg c hc D kk⟩
end
end Ty

/-! ## Ty85: own things given away: return (x, ..), (x[e], y); unpacked own tuples -/
namespace Ty
open PySem PySem.Spec PyProof.Rows L2
/-- Good, and what is held stands apart from A -/
structure GA (K : PySem.W.Frag) (HF0 G : Hp) (Γ : Ctx) (HF H : Hp) (σ : L2.St) (A : Addr → Prop) : Prop where
  sub : Same HF H
  f0 : Same HF0 HF
  g0 : Same G H
  nf : ∀ p o, HF p = some o → HF0 p = none → G p = none
  held : ∃ fs, Holds K HF H Γ σ fs ∧ fs.Nodup ∧ (∀ p ∈ fs, HF p = none ∧ G p = none) ∧ ∀ p ∈ fs, ¬ A p
section
variable {K : PySem.W.Frag} {HF0 G HF H HF' H' : Hp} {Γ : Ctx} {σ : L2.St} {A B : Addr → Prop}
theorem GA.good (g : GA K HF0 G Γ HF H σ A) : Good K HF0 G Γ HF H σ := ⟨g.sub, g.f0, g.g0, g.nf, let ⟨fs, a, b, c, _⟩ := g.held; ⟨fs, a, b, c⟩⟩
theorem GA.of (g : Good K HF0 G Γ HF H σ) : GA K HF0 G Γ HF H σ fun _ => False := ⟨g.sub, g.f0, g.g0, g.nf, let ⟨fs, a, b, c⟩ := g.held; ⟨fs, a, b, c, fun _ _ h => h⟩⟩
theorem GA.step (g : GA K HF0 G Γ HF H σ A) (s : Step HF H HF' H') : GA K HF0 G Γ HF' H' σ A := by
  obtain ⟨fs, h1, h2, h3, h4⟩ := g.held
  have gg := g.good.step s
  refine ⟨gg.sub, gg.f0, gg.g0, gg.nf, fs, h1.mono s.exF fun p _ o e => s.exH p o e, h2, fun p hp => ⟨?_, (h3 p hp).2⟩, h4⟩
  cases q : HF' p with
  | none => rfl
  | some u =>
    have := s.new p u q (h3 p hp).1
    obtain ⟨o, ho⟩ := h1.dom p hp
    rw [ho] at this; cases this
/-- what wasn't there ahead stands apart -/
theorem GA.fresh {fp : List Addr} (g : GA K HF0 G Γ HF H σ A) (s : Step HF H HF' H') (f : ∀ p ∈ fp, H p = none) : GA K HF0 G Γ HF' H' σ fun p => A p ∨ p ∈ fp := by
  obtain ⟨fs, h1, h2, h3, h4⟩ := g.held
  have gg := g.step s
  refine ⟨gg.sub, gg.f0, gg.g0, gg.nf, ?_⟩
  refine ⟨fs, h1.mono s.exF fun p _ o e => s.exH p o e, h2, fun p hp => ⟨?_, (h3 p hp).2⟩, fun p hp z => ?_⟩
  · cases q : HF' p with
    | none => rfl
    | some u =>
      have := s.new p u q (h3 p hp).1
      obtain ⟨o, ho⟩ := h1.dom p hp
      rw [ho] at this; cases this
  · rcases z with z | z
    · exact h4 p hp z
    · obtain ⟨o, ho⟩ := h1.dom p hp
      rw [f p z] at ho; cases ho
/-- an own thing is taken out -/
theorem GA.take {i : Nat} {α : Type} [Rp α] {u : Ow α} {x : α} (g : GA K HF0 G Γ HF H σ A) (hl : look Γ i = .mk u x) :
    ∃ v fo, σ[i]? = some (some v) ∧ u.rep K HF H v x fo ∧ fo.Nodup ∧ (∀ p ∈ fo, HF p = none ∧ G p = none) ∧ (∀ p ∈ fo, ¬ A p) ∧ GA K HF0 G (put Γ i .un) HF H σ fun p => A p ∨ p ∈ fo := by
  obtain ⟨fs, h1, h2, h3, h4⟩ := g.held
  obtain ⟨v, fo, fr, q1, q2, q3, q4, q5, q6, q7, q8⟩ := h1.pull h2 hl
  exact ⟨v, fo, q1, q2, q3, fun p hp => h3 p (q6 p hp), fun p hp => h4 p (q6 p hp), g.sub, g.f0, g.g0, g.nf, fr, q4, q5, fun p hp => h3 p (q7 p hp), fun p hp z => z.elim (h4 p (q7 p hp)) fun z => q8 p z hp⟩
/-- a part of what stands apart is held -/
theorem GA.put {i : Nat} {v : V} {α : Type} [Rp α] {u : Ow α} {a : α} {fp : List Addr} (g : GA K HF0 G Γ HF H σ A) (hi : i < Γ.length) (r : u.rep K HF H v a fp) (nd : fp.Nodup) (fr : ∀ p ∈ fp, HF p = none ∧ G p = none) (hA : ∀ p ∈ fp, A p) (hB : ∀ p, B p → A p ∧ p ∉ fp) :
    GA K HF0 G (put Γ i (.mk u a)) HF H (σ.set i (some v)) B := by
  obtain ⟨fs, h1, h2, h3, h4⟩ := g.held
  obtain ⟨fo, fr', q1, q2, q3, q4⟩ := h1.put hi
  obtain ⟨n1, n2, n3⟩ := q3 h2
  obtain ⟨fs', w1, w2, w3⟩ := q4 (HF' := HF) (H' := H) (s := .mk u a) (x := some v) (f := fp) (fun _ h => h) (fun _ h => h) ⟨v, rfl, r⟩
  refine ⟨g.sub, g.f0, g.g0, g.nf, fs', w1, w3 n1 nd fun p hp hq => h4 p ((q2 p).mpr (.inr hq)) (hA p hp), fun p hp => ?_, fun p hp z => ?_⟩
  · rcases (w2 p).mp hp with z | z
    · exact fr p z
    · exact h3 p ((q2 p).mpr (.inr z))
  · have hb := hB p z
    rcases (w2 p).mp hp with y | y
    · exact hb.2 y
    · exact h4 p ((q2 p).mpr (.inr y)) hb.1
end
theorem Step.apart {HF H HF' H' G : Hp} {fs : List Addr} (s : Step HF H HF' H') (hd : ∀ p ∈ fs, ∃ o, H p = some o) (hf : ∀ p ∈ fs, HF p = none ∧ G p = none) : ∀ p ∈ fs, HF' p = none ∧ G p = none := fun p hp => by
  refine ⟨?_, (hf p hp).2⟩
  cases z : HF' p with
  | none => rfl
  | some o =>
    have := s.new p o z (hf p hp).1
    obtain ⟨w', hw⟩ := hd p hp
    rw [this] at hw
    cases hw
/-- an expression that gives an own thing away: behind it Γ' -/
structure EV {α : Type} [Rp α] (X : Cx) (Γ : Ctx) (e : Expr) (u : Ow α) (m : M α) (t : TE) (Γ' : Ctx) : Prop where
  pe : PE X e t
  sem : ∀ HF0 G HF H σ A, GA X.K HF0 G Γ HF H σ A → (∀ p, A p → ∃ w, H p = some w) → ∀ c, m = .ok c → ∀ Q : VK, (∀ v HF1 H1 fp, Step HF H HF1 H1 → u.rep X.K HF1 H1 v c fp → fp.Nodup → (∀ p ∈ fp, HF1 p = none ∧ G p = none) → (∀ p ∈ fp, ¬ A p) → GA X.K HF0 G Γ' HF1 H1 σ (fun p => A p ∨ p ∈ fp) → Q v H1) → t σ H Q
section
variable {X : Cx} {Γ Γ1 Γ2 Γ3 : Ctx} {S L ρ α β γ : Type} {Γo : S → Ctx} {ΓL : L → Ctx} {a b c e : Expr} {p p1 p2 pos apos cpos : Pos} {ta tb tc te : TE} {sts : List Stmt} {tr : TS}
theorem ev_ex [Rp α] {u : Ow α} {m : M α} (h : EX X Γ e u m te) : EV X Γ e u m te Γ :=
  ⟨h.pe, fun HF0 G HF H σ A g hA x hx Q k => h.sem HF0 G HF H σ g.good x hx Q fun v HF1 H1 fp st r n f => k v HF1 H1 fp st r n (fun p hp => ⟨(f p hp).2, g.g0.free (f p hp).1⟩) (fun p hp z => by
    obtain ⟨w, hw⟩ := hA p z
    rw [(f p hp).1] at hw; cases hw) (g.fresh st fun p hp => (f p hp).1)⟩
theorem ev_var [Rp α] {u : Ow α} (i : Nat) {x : α} {n : Str} (hl : look Γ i = .mk u x := by rfl) (hN : X.N[i]? = some n := by rfl) (hv : Vis X.env.scope n := by first | exact Or.inl rfl | exact Or.inr (Or.inl rfl) | exact Or.inr (Or.inr rfl)) (hd : (n == ("__debug__" : Str)) = false := by decide) (hcd : (n == ("__classdict__" : Str)) = false := by decide) :
    EV X Γ (.Name n p) u (pure x) (tVar i) (put Γ i .un) :=
  ⟨pe_var hN hv hd hcd, fun HF0 G HF H σ A g hA y hy Q k => by
    cases pure_ok hy
    obtain ⟨v, fo, q1, q2, q3, q4, q5, q6⟩ := g.take hl
    exact ⟨v, q1, k v HF H fo (Step.refl g.sub) q2 q3 q4 q5 q6⟩⟩
theorem ev_opt [Rp α] {u : Ow α} (i : Nat) {x : Op α} {n : Str} (hl : look Γ i = .mk (Ow.op u) x := by rfl) (hN : X.N[i]? = some n := by rfl) (hv : Vis X.env.scope n := by first | exact Or.inl rfl | exact Or.inr (Or.inl rfl) | exact Or.inr (Or.inr rfl)) (hd : (n == ("__debug__" : Str)) = false := by decide) (hcd : (n == ("__classdict__" : Str)) = false := by decide) :
    EV X Γ (.Name n p) u (ofO x.o) (tVar i) (put Γ i .un) :=
  ⟨pe_var hN hv hd hcd, fun HF0 G HF H σ A g hA y hy Q k => by
    have hy := ofO_ok hy
    obtain ⟨v, fo, q1, q2, q3, q4, q5, q6⟩ := g.take hl
    obtain ⟨x⟩ := x
    have hy : x = some y := hy
    subst hy
    exact ⟨v, q1, k v HF H fo (Step.refl g.sub) q2 q3 q4 q5 q6⟩⟩
theorem ev_op [Rp α] {u : Ow α} {m : M α} (h : EV X Γ e u m te Γ1) : EV X Γ e (Ow.op u) (do let x ← m; pure (⟨some x⟩ : Op α)) te Γ1 :=
  ⟨h.pe, fun HF0 G HF H σ A g hA y hy Q k => by
    obtain ⟨x, e1, hy⟩ := bind_ok hy
    cases pure_ok hy
    exact h.sem HF0 G HF H σ A g hA x e1 Q fun v HF1 H1 fp st r n f z g' => k v HF1 H1 fp st r n f z g'⟩
/-- x[e], an own row; x is forgotten -/
theorem ev_ix {K : PySem.W.Frag} [Rp α] {u : Ow α} (i : Nat) {as : List α} {n : Str} {m : M Int} (hb : EX X Γ b Ow.v m tb) (hl : look Γ i = .mk (Ow.l u) as := by rfl) (hN : X.N[i]? = some n := by rfl) (hv : Vis X.env.scope n := by first | exact Or.inl rfl | exact Or.inr (Or.inl rfl) | exact Or.inr (Or.inr rfl)) (hd : (n == ("__debug__" : Str)) = false := by decide) (hcd : (n == ("__classdict__" : Str)) = false := by decide) (hs : PlainIx b := by intro _ _; rfl) (hK : X.K = K := by rfl) :
    EV X Γ (.Subscript (.Name n p) b pos) u (do let j ← m; atM as j) (tOp (rIxL K) (tVar i) tb) (put Γ i .un) := by
  subst hK
  exact ⟨pe_ix ix_list (pe_var hN hv hd hcd) hb.pe hs, fun HF0 G HF H σ A g hA y hy Q k => by
    obtain ⟨j, e1, hy⟩ := bind_ok hy
    obtain ⟨v0, fo0, q01, _⟩ := g.take hl
    refine ⟨v0, q01, ?_⟩
    refine hb.sem HF0 G HF H σ g.good j e1 _ fun w HF1 H1 fp s1 r1 n1 f1 => ?_
    have e5 := Fl.sh_iff.mp r1.1
    obtain ⟨v, fo, q1, ⟨q, vs, fq, h1, h2, h3, h4⟩, q3, q4, q5, q6⟩ := (g.step s1).take hl
    rw [q01] at q1
    cases q1
    subst h1 h2
    unfold atM at hy
    have hy := ofO_ok hy
    unfold L2.atI at hy
    cases hix : L2.ixN as.length j with
    | none => rw [hix] at hy; cases hy
    | some nn =>
      rw [hix] at hy
      have hy : as[nn]? = some y := hy
      have nd := List.nodup_cons.mp q3
      obtain ⟨vv, f, w1, w2, wn, w3, _⟩ := Rl.mut h4 nd.2 hy
      refine ⟨q, vs, j, vv, rfl, e5, SqL.of h3, ?_, ?_⟩
      · unfold L2.atI
        rw [h4.len, hix]
        exact w1
      · exact k vv HF1 H1 f s1 w2 wn (fun p hp => q4 p (List.mem_cons_of_mem _ (w3 p hp))) (fun p hp => q5 p (List.mem_cons_of_mem _ (w3 p hp))) ⟨q6.sub, q6.f0, q6.g0, q6.nf, let ⟨fs, a1, a2, a3, a4⟩ := q6.held; ⟨fs, a1, a2, a3, fun p hp z => a4 p hp (z.imp id fun z => List.mem_cons_of_mem _ (w3 p z))⟩⟩⟩
theorem ss_ret1V [Rp α] {u : Ow α} {m : M α} (h : EV X Γ e u m te Γ1) (ho : ∀ r R v H, u.out r R v H → R v H := by exact fun _ _ _ _ h => h) : SS X Γ [.Return (some e) pos] Γo ΓL u (do let x ← m; pure (.rt x)) (tRet te) :=
  ⟨pss_one (ps_ret h.pe), fun HF0 G HF H σ g cc hc D k => by
    obtain ⟨x, e1, hc⟩ := bind_ok hc
    cases pure_ok hc
    refine h.sem HF0 G HF H σ _ (GA.of g) (fun p z => z.elim) x e1 _ fun v HF1 H1 fp st r n f _ g' => ?_
    exact ho _ _ _ _ <| k v HF1 H1 fp g'.sub g'.f0 g'.g0 g'.nf r n f⟩
theorem ss_ret2V [Rp α] [Rp β] {u : Ow α} {w : Ow β} {m : M α} {n : M β} {k} (ha : EV X Γ a u m ta Γ1) (hb : EV X Γ1 b w n tb Γ2) (h1 : starEach [a, b] X.env = (false, eval a X.env) :: starEach [b] X.env := by rfl) (h2 : starEach [b] X.env = (false, eval b X.env) :: starEach [] X.env := by rfl) :
    SS X Γ [.Return (some (.Tuple [a, b] k p)) pos] Γo ΓL (Ow.p u w) (do let x ← m; let y ← n; pure (.rt (x, y))) (tRet (tTup (tCons ta (tCons tb tNil)))) :=
  ⟨pss_one (ps_ret (pe_tup (pa_cons ha.pe (pa_cons hb.pe pa_nil h2) h1))), fun HF0 G HF H σ g cc hc D kk => by
    obtain ⟨x, e1, hc⟩ := bind_ok hc
    obtain ⟨y, e2, hc⟩ := bind_ok hc
    cases pure_ok hc
    refine ha.sem HF0 G HF H σ _ (GA.of g) (fun p z => z.elim) x e1 _ fun v1 HF1 H1 f1 s1 r1 n1 fr1 a1 g1 => ?_
    refine hb.sem HF0 G HF1 H1 σ _ g1 (fun p z => z.elim (fun z => z.elim) (u.dom r1 p)) y e2 _ fun v2 HF2 H2 f2 s2 r2 n2 fr2 a2 g2 => ⟨by show 2 ≤ sizeLine; decide, fun q hq => ?_⟩
    have st : Step HF2 H2 HF2 (upd H2 q (.tup [v1, v2])) := Step.own g2.sub hq
    have r1' := u.mono s2.exF (fun p _ o e => s2.exH p o e) r1
    have hqn : q ∉ f1 ++ f2 := fun z => by
      rcases List.mem_append.mp z with z | z
      · obtain ⟨w', hw⟩ := u.dom r1' q z
        rw [hq] at hw; cases hw
      · obtain ⟨w', hw⟩ := w.dom r2 q z
        rw [hq] at hw; cases hw
    have nd : (f1 ++ f2).Nodup := List.nodup_append.mpr ⟨n1, n2, fun p hp p' hp' e => a2 p' hp' (.inr (e ▸ hp))⟩
    have fr1' := s2.apart (u.dom r1) fr1
    exact kk (.ref q) HF2 (upd H2 q (.tup [v1, v2])) (q :: (f1 ++ f2)) st.sub g2.f0 (g2.g0.trans st.exH) g2.nf ⟨q, v1, v2, f1, f2, rfl, rfl, upd_same, u.mono (Same.refl _) (fun p _ u e => upd_keep hq p u e) r1', w.mono (Same.refl _) (fun p _ u e => upd_keep hq p u e) r2⟩ (List.nodup_cons.mpr ⟨hqn, nd⟩) fun p hp => by
      rcases List.mem_cons.mp hp with e | hp
      · rw [e]; exact ⟨g2.sub.free hq, g2.g0.free hq⟩
      · rcases List.mem_append.mp hp with hp | hp
        · exact fr1' p hp
        · exact fr2 p hp⟩
theorem ss_ret3V [Rp α] [Rp β] [Rp γ] {u : Ow α} {w : Ow β} {y : Ow γ} {m : M α} {n : M β} {l : M γ} {k} (ha : EV X Γ a u m ta Γ1) (hb : EV X Γ1 b w n tb Γ2) (hc : EV X Γ2 c y l tc Γ3) (h1 : starEach [a, b, c] X.env = (false, eval a X.env) :: starEach [b, c] X.env := by rfl) (h2 : starEach [b, c] X.env = (false, eval b X.env) :: starEach [c] X.env := by rfl) (h3 : starEach [c] X.env = (false, eval c X.env) :: starEach [] X.env := by rfl) :
    SS X Γ [.Return (some (.Tuple [a, b, c] k p)) pos] Γo ΓL (Ow.t3 u w y) (do let x ← m; let y ← n; let z ← l; pure (.rt (T3.mk x y z))) (tRet (tTup (tCons ta (tCons tb (tCons tc tNil))))) :=
  ⟨pss_one (ps_ret (pe_tup (pa_cons ha.pe (pa_cons hb.pe (pa_cons hc.pe pa_nil h3) h2) h1))), fun HF0 G HF H σ g cc hcc D kk => by
    obtain ⟨x1, e1, hcc⟩ := bind_ok hcc
    obtain ⟨x2, e2, hcc⟩ := bind_ok hcc
    obtain ⟨x3, e3, hcc⟩ := bind_ok hcc
    cases pure_ok hcc
    refine ha.sem HF0 G HF H σ _ (GA.of g) (fun p z => z.elim) x1 e1 _ fun v1 HF1 H1 f1 s1 r1 n1 fr1 a1 g1 => ?_
    refine hb.sem HF0 G HF1 H1 σ _ g1 (fun p z => z.elim (fun z => z.elim) (u.dom r1 p)) x2 e2 _ fun v2 HF2 H2 f2 s2 r2 n2 fr2 a2 g2 => ?_
    refine hc.sem HF0 G HF2 H2 σ _ g2 (fun p z => z.elim (fun z => z.elim (fun z => z.elim) fun z => let ⟨o, ho⟩ := u.dom r1 p z; ⟨o, s2.exH _ _ ho⟩) (w.dom r2 p)) x3 e3 _ fun v3 HF3 H3 f3 s3 r3 n3 fr3 a3 g3 => ⟨by show 3 ≤ sizeLine; decide, fun q hq => ?_⟩
    have st : Step HF3 H3 HF3 (upd H3 q (.tup [v1, v2, v3])) := Step.own g3.sub hq
    have r1' := u.mono (s2.trans s3).exF (fun p _ o e => (s2.trans s3).exH p o e) r1
    have r2' := w.mono s3.exF (fun p _ o e => s3.exH p o e) r2
    have hqn : q ∉ f1 ++ (f2 ++ f3) := fun z => by
      rcases List.mem_append.mp z with z | z
      · obtain ⟨w', hw⟩ := u.dom r1' q z
        rw [hq] at hw; cases hw
      · rcases List.mem_append.mp z with z | z
        · obtain ⟨w', hw⟩ := w.dom r2' q z
          rw [hq] at hw; cases hw
        · obtain ⟨w', hw⟩ := y.dom r3 q z
          rw [hq] at hw; cases hw
    have nd : (f1 ++ (f2 ++ f3)).Nodup := List.nodup_append.mpr ⟨n1, List.nodup_append.mpr ⟨n2, n3, fun p hp p' hp' e => a3 p' hp' (.inr (e ▸ hp))⟩, fun p hp p' hp' e => by
      rcases List.mem_append.mp hp' with hp' | hp'
      · exact a2 p' hp' (.inr (e ▸ hp))
      · exact a3 p' hp' (.inl (.inr (e ▸ hp)))⟩
    have fr1' := (s2.trans s3).apart (u.dom r1) fr1
    have fr2' := s3.apart (w.dom r2) fr2
    exact kk (.ref q) HF3 (upd H3 q (.tup [v1, v2, v3])) (q :: (f1 ++ (f2 ++ f3))) st.sub g3.f0 (g3.g0.trans st.exH) g3.nf ⟨q, v1, v2, v3, f1, f2, f3, rfl, rfl, upd_same, u.mono (Same.refl _) (fun p _ u e => upd_keep hq p u e) r1', w.mono (Same.refl _) (fun p _ u e => upd_keep hq p u e) r2', y.mono (Same.refl _) (fun p _ u e => upd_keep hq p u e) r3⟩ (List.nodup_cons.mpr ⟨hqn, nd⟩) fun p hp => by
      rcases List.mem_cons.mp hp with e | hp
      · rw [e]; exact ⟨g3.sub.free hq, g3.g0.free hq⟩
      · rcases List.mem_append.mp hp with hp | hp
        · exact fr1' p hp
        · rcases List.mem_append.mp hp with hp | hp
          · exact fr2' p hp
          · exact fr3 p hp⟩
/-- x, y = an own pair -/
theorem ss_asgO2 {K : PySem.W.Frag} [Rp α] [Rp β] [Rp ρ] [Inhabited α] [Inhabited β] {o : Ow ρ} (i j : Nat) {x y : Str} {kk : Nat} {u : Ow α} {w : Ow β} {m : M (α × β)} {k : α × β → M (Ctl S L ρ)} {px py tp : Pos} (hcm : X.calm = true) (hN : X.N.Nodup) (he : EX X Γ e (Ow.p u w) m te)
    (hr : ∀ q : α × β, SS X (put (put Γ i (.mk u q.1)) j (.mk w q.2)) sts Γo ΓL o (k q) tr) (hli : Nat.blt i Γ.length = true := by rfl) (hlj : Nat.blt j Γ.length = true := by rfl)
    (hi : X.N[i]? = some x := by rfl) (hx : Loc X.env.scope x := by first | exact .inl rfl | exact .inr rfl) (hfx : X.fn x = true ∨ X.env.scope.names.lookup x = some .local := by first | exact .inl rfl | exact .inr rfl)
    (hj : X.N[j]? = some y := by rfl) (hy : Loc X.env.scope y := by first | exact .inl rfl | exact .inr rfl) (hfy : X.fn y = true ∨ X.env.scope.names.lookup y = some .local := by first | exact .inl rfl | exact .inr rfl)
    (hs1 : (assignEach [.Name y py] X.env).map (fun x => x.2) = assign (.Name y py) X.env :: (assignEach [] X.env).map (fun x => x.2) := by rfl) (hs2 : (assignEach [.Name x px, .Name y py] X.env).map (fun x => x.2) = assign (.Name x px) X.env :: (assignEach [.Name y py] X.env).map (fun x => x.2) := by rfl)
    (hpg : PGs X [.Name x px, .Name y py] (gCons (gName i) (gCons (gName j) gNil)) → PG X (.Tuple [.Name x px, .Name y py] kk tp) (gTup X.K 2 (gCons (gName i) (gCons (gName j) gNil))) := by exact fun h => pg_tup (by first | rfl | assumption) h)
    (hs : swapsWithSole [.Tuple [.Name x px, .Name y py] kk tp] e pos.line X.env = pure false := by rfl) (hw : swappedStores [.Tuple [.Name x px, .Name y py] kk tp] e X.env = pure none := by rfl)
    (h1 : (assignEach [.Tuple [.Name x px, .Name y py] kk tp] X.env).map (·.2) = [assign (.Tuple [.Name x px, .Name y py] kk tp) X.env] := by rfl) (hK : X.K = K := by rfl) :
    SS X Γ (.Assign [.Tuple [.Name x px, .Name y py] kk tp] e pos :: sts) Γo ΓL o (do let a ← m; k a) (tSeq (tAsg te (gTup K 2 (gCons (gName i) (gCons (gName j) gNil)))) tr) := by
  subst hK
  exact ⟨pss_cons (ps_asg he.pe (hpg (pgs_cons (pg_name hN hi hx hfx) (pgs_cons (pg_name hN hj hy hfy) pgs_nil hs1) hs2)) hs hw h1) (hr default).pss, fun HF0 G HF H σ gd c hc D kk => by
    obtain ⟨q, e1, hc⟩ := bind_ok hc
    refine he.sem HF0 G HF H σ gd q e1 _ fun v HF1 H1 fp st r n f => ?_
    obtain ⟨p, va, vb, f1, f2, t1, t2, t3, ra, rb⟩ := r
    subst t1 t2
    have nd := List.nodup_cons.mp n
    have nd2 := List.nodup_append.mp nd.2
    have g0 := (GA.of gd).fresh st fun p hp => (f p hp).1
    have fr : ∀ z ∈ (p :: (f1 ++ f2)), HF1 z = none ∧ G z = none := fun z hz => ⟨(f z hz).2, gd.g0.free (f z hz).1⟩
    refine ⟨p, [va, vb], rfl, SqT.of t3, rfl, va, [vb], rfl, ?_⟩
    have g1 := g0.put (B := fun z => z ∈ f2) (of_blt hli) ra nd2.1 (fun z hz => fr z (by simp [hz])) (fun z hz => .inr (by simp [hz])) fun z hz => ⟨.inr (by simp [hz]), fun y => nd2.2.2 z y z hz rfl⟩
    refine ⟨vb, [], rfl, ?_⟩
    have g2 := g1.put (B := fun _ => False) (by rw [put_len]; exact of_blt hlj) rb nd2.2.1 (fun z hz => fr z (by simp [hz])) (fun z hz => hz) fun z hz => hz.elim
    refine ⟨rfl, ?_⟩
    exact (hr q).sem HF0 G HF1 H1 _ g2.good c hc D (kk.mono st.exF)⟩
/-- x, y, z = an own tuple of three -/
theorem ss_asgO3 {K : PySem.W.Frag} [Rp α] [Rp β] [Rp γ] [Rp ρ] [Inhabited α] [Inhabited β] [Inhabited γ] {o : Ow ρ} (i j l : Nat) {x y z : Str} {kk : Nat} {u : Ow α} {w : Ow β} {uw : Ow γ} {m : M (T3 α β γ)} {k : T3 α β γ → M (Ctl S L ρ)} {px py pz tp : Pos} (hcm : X.calm = true) (hN : X.N.Nodup) (he : EX X Γ e (Ow.t3 u w uw) m te)
    (hr : ∀ q : T3 α β γ, SS X (put (put (put Γ i (.mk u q.a)) j (.mk w q.b)) l (.mk uw q.c)) sts Γo ΓL o (k q) tr) (hli : Nat.blt i Γ.length = true := by rfl) (hlj : Nat.blt j Γ.length = true := by rfl) (hll : Nat.blt l Γ.length = true := by rfl)
    (hi : X.N[i]? = some x := by rfl) (hx : Loc X.env.scope x := by first | exact .inl rfl | exact .inr rfl) (hfx : X.fn x = true ∨ X.env.scope.names.lookup x = some .local := by first | exact .inl rfl | exact .inr rfl)
    (hj : X.N[j]? = some y := by rfl) (hy : Loc X.env.scope y := by first | exact .inl rfl | exact .inr rfl) (hfy : X.fn y = true ∨ X.env.scope.names.lookup y = some .local := by first | exact .inl rfl | exact .inr rfl)
    (hl : X.N[l]? = some z := by rfl) (hz : Loc X.env.scope z := by first | exact .inl rfl | exact .inr rfl) (hfz : X.fn z = true ∨ X.env.scope.names.lookup z = some .local := by first | exact .inl rfl | exact .inr rfl)
    (hs0 : (assignEach [.Name z pz] X.env).map (fun x => x.2) = assign (.Name z pz) X.env :: (assignEach [] X.env).map (fun x => x.2) := by rfl) (hs1 : (assignEach [.Name y py, .Name z pz] X.env).map (fun x => x.2) = assign (.Name y py) X.env :: (assignEach [.Name z pz] X.env).map (fun x => x.2) := by rfl) (hs2 : (assignEach [.Name x px, .Name y py, .Name z pz] X.env).map (fun x => x.2) = assign (.Name x px) X.env :: (assignEach [.Name y py, .Name z pz] X.env).map (fun x => x.2) := by rfl)
    (hpg : PGs X [.Name x px, .Name y py, .Name z pz] (gCons (gName i) (gCons (gName j) (gCons (gName l) gNil))) → PG X (.Tuple [.Name x px, .Name y py, .Name z pz] kk tp) (gTup X.K 3 (gCons (gName i) (gCons (gName j) (gCons (gName l) gNil)))) := by exact fun h => pg_tup (by first | rfl | assumption) h)
    (hs : swapsWithSole [.Tuple [.Name x px, .Name y py, .Name z pz] kk tp] e pos.line X.env = pure false := by rfl) (hw : swappedStores [.Tuple [.Name x px, .Name y py, .Name z pz] kk tp] e X.env = pure none := by rfl)
    (h1 : (assignEach [.Tuple [.Name x px, .Name y py, .Name z pz] kk tp] X.env).map (·.2) = [assign (.Tuple [.Name x px, .Name y py, .Name z pz] kk tp) X.env] := by rfl) (dd : T3 α β γ) (hK : X.K = K := by rfl) :
    SS X Γ (.Assign [.Tuple [.Name x px, .Name y py, .Name z pz] kk tp] e pos :: sts) Γo ΓL o (do let a ← m; k a) (tSeq (tAsg te (gTup K 3 (gCons (gName i) (gCons (gName j) (gCons (gName l) gNil))))) tr) := by
  subst hK
  exact ⟨pss_cons (ps_asg he.pe (hpg (pgs_cons (pg_name hN hi hx hfx) (pgs_cons (pg_name hN hj hy hfy) (pgs_cons (pg_name hN hl hz hfz) pgs_nil hs0) hs1) hs2)) hs hw h1) (hr dd).pss, fun HF0 G HF H σ gd c hc D kk => by
    obtain ⟨q, e1, hc⟩ := bind_ok hc
    refine he.sem HF0 G HF H σ gd q e1 _ fun v HF1 H1 fp st r n f => ?_
    obtain ⟨p, va, vb, vc, f1, f2, f3, t1, t2, t3, ra, rb, rc⟩ := r
    subst t1 t2
    have nd := List.nodup_cons.mp n
    have nd2 := List.nodup_append.mp nd.2
    have nd3 := List.nodup_append.mp nd2.2.1
    have g0 := (GA.of gd).fresh st fun p hp => (f p hp).1
    have fr : ∀ z ∈ (p :: (f1 ++ (f2 ++ f3))), HF1 z = none ∧ G z = none := fun z hz => ⟨(f z hz).2, gd.g0.free (f z hz).1⟩
    refine ⟨p, [va, vb, vc], rfl, SqT.of t3, rfl, va, [vb, vc], rfl, ?_⟩
    have g1 := g0.put (B := fun z => z ∈ f2 ++ f3) (of_blt hli) ra nd2.1 (fun z hz => fr z (by simp [hz])) (fun z hz => .inr (by simp [hz])) fun z hz => ⟨.inr (List.mem_cons_of_mem _ (List.mem_append_right _ hz)), fun y => nd2.2.2 z y z hz rfl⟩
    refine ⟨vb, [vc], rfl, ?_⟩
    have g2 := g1.put (B := fun z => z ∈ f3) (by rw [put_len]; exact of_blt hlj) rb nd3.1 (fun z hz => fr z (by simp [hz])) (fun z hz => List.mem_append_left _ hz) fun z hz => ⟨List.mem_append_right _ hz, fun y => nd3.2.2 z y z hz rfl⟩
    refine ⟨vc, [], rfl, ?_⟩
    have g3 := g2.put (B := fun _ => False) (by rw [put_len, put_len]; exact of_blt hll) rc nd3.2.1 (fun z hz => fr z (by simp [hz])) (fun z hz => hz) fun z hz => hz.elim
    refine ⟨rfl, ?_⟩
    exact (hr q).sem HF0 G HF1 H1 _ g3.good c hc D (kk.mono st.exF)⟩
end
end Ty

/-! ## Ty86: text * number; None, a number or a text; a def that is handed a desk and hands back shared things -/
namespace L2
open PySem PySem.Spec PyProof.Rows
section
variable {X : Cx}
end
end L2
namespace Ty
open PySem PySem.Spec PyProof.Rows L2
/-- None, a number or a text -/
inductive Nv where
  | n
  | i (x : Int)
  | s (x : Str)
  deriving DecidableEq
def Nv.enc : Nv → V
  | .n => .non
  | .i k => .int k
  | .s x => .str x
instance : Inhabited Nv := ⟨.n⟩
instance : Fl Nv := flOf Nv.enc
def Nv.py : Nv → PyData
  | .n => .none
  | .i k => .int k
  | .s x => .str x
instance : Eqv Nv := ⟨Nv.py, fun u => match u with
    | .n => true
    | .i _ => true
    | .s x => PySem.PyData.strOk x, 0, fun {K H v a} h => by
    cases a with
    | n => cases h; exact .non
    | i n => cases h; exact .int _
    | s x => cases h; exact .str _, fun a h => by
    cases a with
    | n => rfl
    | i n => rfl
    | s x => simpa [Nv.py, PyData.canLay0] using h, fun a => by cases a <;> simp [Nv.py, PyData.depth], fun a b => by
    cases a <;> cases b <;> simp only [Nv.py, PyData.eqv]
    · simp
    · simp
    · simp
    · simp
    · rename_i x y; by_cases h : x = y <;> simp [h]
    · simp
    · simp
    · simp
    · rename_i x y; by_cases h : x = y <;> simp [h]⟩
instance : Ob ExY := ⟨fun ⟨e, _⟩ => ⟨_, e⟩⟩
section
variable {X : Cx} {Γ : Ctx} {a b e : Expr} {p p1 pos : Pos} {ta tb te : TE}
end
/-! ### a def that is handed a desk and hands back shared things -/
structure Rgp (ρ : Type) where
  d : Dsk
  s : ρ
instance {ρ : Type} [Inhabited ρ] : Inhabited (Rgp ρ) := ⟨⟨default, default⟩⟩
instance {ρ : Type} [Rp ρ] : Rp (Rgp ρ) where
  sh K H v x := Rp.sh K H v x.s
  mono := fun e h => Rp.mono e h
section
variable {X : Cx} {Γ : Ctx} {S L ρ : Type} [Rp ρ] {Γo : S → Ctx} {ΓL : L → Ctx} {e : Expr} {pos : Pos} {te : TE}
end
section
variable {P : Program} {w : World} {K : PySem.W.Frag} {mg : Str → Option Value} {base : Heap}
end
/-- an expression that may change the desks told by s and is a shared thing -/
structure EZp {S α : Type} [Rp α] (X : Cx) (Γs : S → Ctx) (s : S) (e : Expr) (m : M (S × α)) (t : TE) : Prop where
  pe : PE X e t
  sem : ∀ HF0 G HF H σ, Good X.K HF0 G (Γs s) HF H σ → ∀ c, m = .ok c → ∀ Q : VK, (∀ v HF' H', Good X.K HF0 G (Γs c.1) HF' H' σ → Same HF HF' → Rp.sh X.K HF' v c.2 → Q v H') → t σ H Q
section
variable {X : Cx} {S α A : Type} [Rp α] {Γs : S → Ctx} {s : S} {a b e : Expr} {es rest : List Expr} {pos p p1 : Pos} {t ta tb te : TE} {tt tu : TT} {tas : TA}
end
section
variable {X : Cx} {S S1 L ρ α : Type} [Rp α] [Rp ρ] {o : Ow ρ} {Γs : S → Ctx} {Γo : S1 → Ctx} {ΓL : L → Ctx} {s : S} {c e : Expr} {pos py : Pos} {te : TE} {tc : TT} {t1 tr : TS} {sa sts : List Stmt}
end
end Ty

/-! ## Ty87: expressions that always raise -/
namespace Ty
open PySem PySem.Spec PyProof.Rows L2
/-- an expression that raises -/
structure EQ (X : Cx) (W : WX) (Γ : Ctx) (e : Expr) (m : M Exn) (t : TE) : Prop where
  pe : PE X e t
  sem : ∀ HF0 G HF H σ, Good X.K HF0 G Γ HF H σ → ∀ x, m = .ok x → ∀ Q : VK, (∀ HF' H' d, Step HF H HF' H' → XD HF' d x → W (clv X.K x.c) d σ H') → t σ H Q
/-- arguments of which one raises -/
structure EAQ (X : Cx) (W : WX) (Γ : Ctx) (es : List Expr) (m : M Exn) (t : TA) : Prop where
  pa : PA X es t
  sem : ∀ HF0 G HF H σ, Good X.K HF0 G Γ HF H σ → ∀ x, m = .ok x → ∀ Q : List V → Hp → Prop, (∀ HF' H' d, Step HF H HF' H' → XD HF' d x → W (clv X.K x.c) d σ H') → t σ H Q
structure TQ (X : Cx) (W : WX) (Γ : Ctx) (e : Expr) (m : M Exn) (t : TT) : Prop where
  pt : PT X e t
  sem : ∀ HF0 G HF H σ, Good X.K HF0 G Γ HF H σ → ∀ x, m = .ok x → ∀ Q : Bool → Hp → Prop, (∀ HF' H' d, Step HF H HF' H' → XD HF' d x → W (clv X.K x.c) d σ H') → t σ H Q
structure IQ (X : Cx) (W : WX) (Γ : Ctx) (tg e : Expr) (m : M Exn) (t : TI) : Prop where
  pi : PI X tg e t
  sem : ∀ HF0 G HF H σ, Good X.K HF0 G Γ HF H σ → ∀ x, m = .ok x → ∀ R, (∀ HF' H' d, Step HF H HF' H' → XD HF' d x → W (clv X.K x.c) d σ H') → t σ H R
section
variable {X : Cx} {W : WX} {Γ : Ctx} {S L α β ρ A : Type} {a b e o : Expr} {es : List Expr} {p p1 p2 pos cpos apos : Pos} {ta tb te to : TE} {t tas : TA} {sts sa sb : List Stmt} {tr : TS} {tg : Expr}
end
section
variable {X : Cx} {Γ : Ctx} {S L : Type} {Γo : S → Ctx} {ΓL : L → Ctx} {c e : Expr} {pos : Pos} {te : TE} {tc : TT} {sts sa sb : List Stmt} {E : XK}
end
end Ty

/-! ## Ty88: a def that is handed a kept exception, called where none is handled -/
namespace Ty
open PySem PySem.Spec PyProof.Rows L2
structure FnZc (P : Program) (w : World) (K : PySem.W.Frag) (mg : Str → Option Value) (base : Heap) (k : Nat) (f : Addr) (fd : FuncData) (y : Str) {ρ : Type} [Rp ρ] (o : Ow ρ) (fm : Exn → M ρ) : Prop where
  run : ∀ (A : Around) (outer : List Env) (s : Shared) (H : Hp) (args : Args) (Q : VK) (E : XK) (p : Addr × Obj) (d : Option Addr) (x : Exn), Room k A → PinZ K x.c d p → L2H.PinOk outer H s p → Env0 P w K mg base A outer s H → BindsTo s fd args [(y, .ref p.1)] → spZ K o fm d x H Q →
    codeAny (model P w) A (.call (.ref f) args) (CR CX0 outer P w H s Q E) s
section
variable {P : Program} {w : World} {K : PySem.W.Frag} {mg : Str → Option Value} {base : Heap}
end
section
variable {X : Cx} {Γ : Ctx} {ρ α : Type} [Rp ρ] {o : Ow ρ} {a b e f : Expr} {es : List Expr} {pos p p1 p2 pos2 : Pos} {ta tb te tf : TE} {t : TA}
end
end Ty


namespace Law
open PySem PySem.Spec PyProof.Rows L2 Ty
/-! ### the mirror -/
def mir_turned_web (p0 : (List (List Int))) (p1 : Int) : M (List (List Int)) := runC ((fun (ar : (List (List Int)) × Int × Unit) => ((((((pure ar.1) >>= fun a => pure (a.length : Int)) >>= fun a => range1 a) >>= fun xs => compM xs (fun (other1 : Int) => ((((pure ar.1) >>= fun a => (pure ar.2.1) >>= fun b => atM a b) >>= fun a => (pure other1) >>= fun b => atM a b) >>= fun a => (pure (1 : Int)) >>= fun b => pure (decide (a = b)))) (fun (other1 : Int) => (pure other1))) >>= fun (near2 : (List Int)) => (((pure ar.1) >>= fun xs => compM xs (fun (row3 : (List Int)) => (pure true)) (fun (row3 : (List Int)) => ((pure row3) >>= fun a => pure a))) >>= fun (made4 : (List (List Int))) => ((pure near2) >>= fun xs => loopM (S := ((List (List Int)))) (ρ := (List (List Int))) (fun (one5 : Int) (s6 : ((List (List Int)))) => ((pure near2) >>= fun xs => loopM (S := ((List (List Int)))) (ρ := (List (List Int))) (fun (other7 : Int) (s8 : ((List (List Int)))) => (((pure one5) >>= fun a => (pure other7) >>= fun b => pure (!decide (a = b))) >>= fun x => if x then (((pure (1 : Int)) >>= fun a => (((pure s8) >>= fun a => (pure one5) >>= fun b => atM a b) >>= fun a => (pure other7) >>= fun b => atM a b) >>= fun b => pure (a - b)) >>= fun a => (pure one5) >>= fun b => (pure other7) >>= fun c => set2M s8 b c a >>= fun (made9 : (List (List Int))) => (pure (.nx (made9)))) else (pure (.nx (s8))))) xs (s6) >>= fun c => thenL c (fun (s8 : ((List (List Int)))) => (pure (.nx (s8)))))) xs (made4) >>= fun c => thenL c (fun (s6 : ((List (List Int)))) => (pure (.rt s6)))))) : M (Ctl Unit Empty (List (List Int))))) (p0, p1, ()))
def mir_is_wheel (p0 : (List (List Int))) (p1 : (List Int)) : M Bool := runC ((fun (ar : (List (List Int)) × (List Int) × Unit) => (((((pure ar.2.1) >>= fun a => pure (isort a)) >>= fun a => ((pure (6 : Int)) >>= fun a => lrange 0 a) >>= fun b => neM a b) >>= fun x => if x then ((((pure false) >>= fun r => pure (.rt r)) : M (Ctl Empty Empty Bool)) >>= fun y => thenC y nofun) else (((pure ar.2.1) >>= fun a => pure (enumL a)) >>= fun xs => loopM (S := Unit) (ρ := Bool) (fun (k1 : (Int × Int)) (s2 : Unit) => (((pure ar.2.1) >>= fun a => pure (enumL a)) >>= fun xs => loopM (S := Unit) (ρ := Bool) (fun (j3 : (Int × Int)) (s4 : Unit) => ((bAnd ((pure k1.1) >>= fun a => (pure j3.1) >>= fun b => pure (!decide (a = b))) (bOr ((pure k1.1) >>= fun a => (pure (0 : Int)) >>= fun b => pure (decide (a = b))) (bOr ((pure j3.1) >>= fun a => (pure (0 : Int)) >>= fun b => pure (decide (a = b))) ((((pure k1.1) >>= fun a => (pure j3.1) >>= fun b => pure (a - b)) >>= fun a => pure (a % (5 : Int))) >>= fun a => (((pure (1 : Int)) >>= fun a => ((pure (4 : Int)) >>= fun a => (pure ([] : List Int)) >>= fun b => pure (a :: b)) >>= fun b => pure (a :: b)) >>= fun a => lstM a >>= fun b => pure (Tu.mk b)) >>= fun b => pure (decide (a ∈ b.l)))))) >>= fun (near5 : Bool) => (((((pure ar.1) >>= fun a => (pure k1.2) >>= fun b => atM a b) >>= fun a => (pure j3.2) >>= fun b => atM a b) >>= fun a => ((pure near5) >>= fun a => pure (if a then (1 : Int) else 0)) >>= fun b => pure (!decide (a = b))) >>= fun x => if x then ((((pure false) >>= fun r => pure (.rt r)) : M (Ctl Empty Unit Bool)) >>= fun y => thenC y nofun) else (pure (.nx ()))))) xs () >>= fun c => thenL c (fun (s4 : Unit) => (pure (.nx ()))))) xs () >>= fun c => thenL c (fun (s2 : Unit) => ((pure true) >>= fun r => pure (.rt r))))) : M (Ctl Unit Empty Bool))) (p0, p1, ()))
def mir_crossed_between (p0 : Str) (p1 : Str) (p2 : Int) (p3 : Int) : M Bool := runC ((fun (ar : Str × Str × Int × Int × Unit) => ((((((pure ar.1) >>= fun a => ((pure ar.2.2.1) >>= fun i => pure (some i)) >>= fun l => ((pure ar.2.2.2.1) >>= fun i => pure (some i)) >>= fun u => cutSM a l u) >>= fun x => ((pure ar.2.1) >>= fun a => (pure ()) >>= fun b => pure (a, b)) >>= fun y => pure (Txt.count x y.1)) >>= fun a => (pure (1 : Int)) >>= fun b => pure (decide (a = b))) >>= fun r => pure (.rt r)) : M (Ctl Unit Empty Bool))) (p0, p1, p2, p3, ()))
def mir_next_point (p0 : (List (List Int))) (p1 : (List Int)) : M Int := runC ((fun (ar : (List (List Int)) × (List Int) × Unit) => (((pure (⟨none⟩ : Op (Int × Int))) >>= fun (best1 : (Op (Int × Int))) => ((((pure ar.1) >>= fun a => pure (a.length : Int)) >>= fun a => range1 a) >>= fun xs => loopM (S := ((Op (Int × Int)))) (ρ := Int) (fun (point2 : Int) (s3 : ((Op (Int × Int)))) => ((((pure ar.2.1) >>= fun xs => compM xs (fun (other4 : Int) => ((((pure ar.1) >>= fun a => (pure point2) >>= fun b => atM a b) >>= fun a => (pure other4) >>= fun b => atM a b) >>= fun a => (pure (1 : Int)) >>= fun b => pure (decide (a = b)))) (fun (other4 : Int) => (pure other4))) >>= fun a => pure (a.length : Int)) >>= fun (near5 : Int) => ((bAnd ((pure point2) >>= fun a => (pure ar.2.1) >>= fun b => pure (!decide (a ∈ b))) (bOr ((pure s3) >>= fun a => pure a.o.isNone) ((pure near5) >>= fun a => (((pure s3) >>= fun a => ofO a.o) >>= fun a => pure a.1) >>= fun b => pure (decide (b < a))))) >>= fun x => if x then ((((pure near5) >>= fun a => (pure point2) >>= fun b => pure (a, b)) >>= fun a => pure (⟨some a⟩ : Op (Int × Int))) >>= fun (best6 : (Op (Int × Int))) => (pure (.nx (best6)))) else (pure (.nx (s3)))))) xs (best1) >>= fun c => thenL c (fun (s3 : ((Op (Int × Int)))) => ((((pure s3) >>= fun a => ofO a.o) >>= fun a => pure a.2) >>= fun r => pure (.rt r))))) : M (Ctl Unit Empty Int))) (p0, p1, ()))
def mir_grown_words (p0 : Str) (p1 : Int) (p2 : (List Int)) (p3 : (List (List Int))) : M (List Str) := runC ((fun (ar : Str × Int × (List Int) × (List (List Int)) × Unit) => ((((pure ar.2.2.1) >>= fun xs => compM xs (fun (other1 : Int) => (pure true)) (fun (other1 : Int) => ((((pure ar.2.2.2.1) >>= fun a => (pure ar.2.1) >>= fun b => atM a b) >>= fun a => (pure other1) >>= fun b => atM a b) >>= fun a => (pure (1 : Int)) >>= fun b => pure (decide (a = b))))) >>= fun (due2 : (List Bool)) => (((pure ([] : List Str)) >>= fun a => lstM a) >>= fun (found3 : (List Str)) => ((((pure (1 : Int)) >>= fun a => ((pure ar.2.2.1) >>= fun a => pure (a.length : Int)) >>= fun b => pure (if b < a then b else a)) >>= fun a => (((pure ar.1) >>= fun a => lenS a) >>= fun a => (pure (1 : Int)) >>= fun b => pure (a + b)) >>= fun b => range2 a b) >>= fun xs => loopM (S := ((List Str))) (ρ := (List Str)) (fun (first4 : Int) (s5 : ((List Str))) => (((pure first4) >>= fun a => (((pure ar.1) >>= fun a => lenS a) >>= fun a => (pure (1 : Int)) >>= fun b => pure (a + b)) >>= fun b => range2 a b) >>= fun xs => loopM (S := ((List Str))) (ρ := (List Str)) (fun (second6 : Int) (s7 : ((List Str))) => (((pure ar.2.2.1) >>= fun xs => compM xs (fun (other8 : Int) => (pure true)) (fun (other8 : Int) => (((pure ar.1) >>= fun a => (((pure ("abcdefghijklmnopqrstuvwxyz" : Str)) >>= fun a => (pure other8) >>= fun b => atS a b) >>= fun a => ((pure first4) >>= fun a => ((pure second6) >>= fun a => (pure ()) >>= fun b => pure (a, b)) >>= fun b => pure (a, b)) >>= fun b => pure (a, b)) >>= fun b => pure (a, b)) >>= fun a => mir_crossed_between a.1 a.2.1 a.2.2.1 a.2.2.2.1))) >>= fun (told9 : (List Bool)) => (((pure told9) >>= fun a => (pure due2) >>= fun b => eqM a b) >>= fun x => if x then (((((((pure ar.1) >>= fun a => (pure none) >>= fun l => ((pure first4) >>= fun i => pure (some i)) >>= fun u => cutSM a l u) >>= fun a => ((pure ("abcdefghijklmnopqrstuvwxyz" : Str)) >>= fun a => (pure ar.2.1) >>= fun b => atS a b) >>= fun b => addSM a b) >>= fun a => ((pure ar.1) >>= fun a => ((pure first4) >>= fun i => pure (some i)) >>= fun l => ((pure second6) >>= fun i => pure (some i)) >>= fun u => cutSM a l u) >>= fun b => addSM a b) >>= fun a => ((pure ("abcdefghijklmnopqrstuvwxyz" : Str)) >>= fun a => (pure ar.2.1) >>= fun b => atS a b) >>= fun b => addSM a b) >>= fun a => ((pure ar.1) >>= fun a => ((pure second6) >>= fun i => pure (some i)) >>= fun l => (pure none) >>= fun u => cutSM a l u) >>= fun b => addSM a b) >>= fun a => appM s7 a >>= fun (found10 : (List Str)) => (pure (.nx (found10)))) else (pure (.nx (s7)))))) xs (s5) >>= fun c => thenL c (fun (s7 : ((List Str))) => (pure (.nx (s7)))))) xs (found3) >>= fun c => thenL c (fun (s5 : ((List Str))) => (pure (.rt s5)))))) : M (Ctl Unit Empty (List Str)))) (p0, p1, p2, p3, ()))
def mirf_word_from : Nat → Str → (List Int) → (List (List Int)) → M (Option Str)
  | 0, _, _, _ => no
  | kf + 1, p0, p1, p2 => runC ((fun (ar : Str × (List Int) × (List (List Int)) × Unit) => (((((pure ar.2.1) >>= fun a => pure (a.length : Int)) >>= fun a => ((pure ar.2.2.1) >>= fun a => pure (a.length : Int)) >>= fun b => pure (decide (a = b))) >>= fun x => if x then (((((pure ar.1) >>= fun a => pure (some a)) >>= fun r => pure (.rt r)) : M (Ctl Empty Empty (Option Str))) >>= fun y => thenC y nofun) else ((((pure ar.2.2.1) >>= fun a => ((pure ar.2.1) >>= fun a => (pure ()) >>= fun b => pure (a, b)) >>= fun b => pure (a, b)) >>= fun a => mir_next_point a.1 a.2.1) >>= fun (point1 : Int) => ((((pure ar.1) >>= fun a => ((pure point1) >>= fun a => ((pure ar.2.1) >>= fun a => ((pure ar.2.2.1) >>= fun a => (pure ()) >>= fun b => pure (a, b)) >>= fun b => pure (a, b)) >>= fun b => pure (a, b)) >>= fun b => pure (a, b)) >>= fun a => mir_grown_words a.1 a.2.1 a.2.2.1 a.2.2.2.1) >>= fun xs => loopM (S := Unit) (ρ := (Option Str)) (fun (longer2 : Str) (s3 : Unit) => ((((pure longer2) >>= fun a => (((pure ar.2.1) >>= fun a => (((pure point1) >>= fun a => (pure ([] : List Int)) >>= fun b => pure (a :: b)) >>= fun a => lstM a) >>= fun b => catM a b) >>= fun a => ((pure ar.2.2.1) >>= fun a => (pure ()) >>= fun b => pure (a, b)) >>= fun b => pure (a, b)) >>= fun b => pure (a, b)) >>= fun a => mirf_word_from kf a.1 a.2.1 a.2.2.1) >>= fun (found4 : (Option Str)) => (((pure found4) >>= fun a => pure a.isSome) >>= fun x => if x then ((((pure found4) >>= fun r => pure (.rt r)) : M (Ctl Empty Unit (Option Str))) >>= fun y => thenC y nofun) else (pure (.nx ()))))) xs () >>= fun c => thenL c (fun (s3 : Unit) => ((pure (none : Option Str)) >>= fun r => pure (.rt r)))))) : M (Ctl Unit Empty (Option Str)))) (p0, p1, p2, ()))
def mir_word_from (p0 : Str) (p1 : (List Int)) (p2 : (List (List Int))) : M (Option Str) := mirf_word_from 7 p0 p1 p2
def mir_wheel_order (p0 : (List (List Int))) : M (Op (List Int)) := runC ((fun (ar : (List (List Int)) × Unit) => ((((pure (6 : Int)) >>= fun a => range1 a) >>= fun xs => loopM (S := Unit) (ρ := (Op (List Int))) (fun (hub1 : Int) (s2 : Unit) => ((((pure (6 : Int)) >>= fun a => range1 a) >>= fun xs => compM xs (fun (point3 : Int) => ((pure point3) >>= fun a => (pure hub1) >>= fun b => pure (!decide (a = b)))) (fun (point3 : Int) => (pure point3))) >>= fun (rim4 : (List Int)) => (lstPM (pure hub1) ((pure (0 : Int)) >>= fun j => popAtM rim4 j) >>= fun (q5 : (List Int) × (List Int)) => (whileM (S := ((List Int) × (List Int))) (ρ := (Op (List Int))) (fun (s6 : ((List Int) × (List Int))) => (((pure s6.2) >>= fun a => pure (a.length : Int)) >>= fun a => (pure (0 : Int)) >>= fun b => pure (decide (b < a)))) (fun (s6 : ((List Int) × (List Int))) => (((pure s6.2) >>= fun xs => compM xs (fun (point7 : Int) => ((((pure ar.1) >>= fun a => ((pure s6.1) >>= fun a => ((pure (1 : Int)) >>= fun a => pure (-a)) >>= fun b => atM a b) >>= fun b => atM a b) >>= fun a => (pure point7) >>= fun b => atM a b) >>= fun a => (pure (1 : Int)) >>= fun b => pure (decide (a = b)))) (fun (point7 : Int) => (pure point7))) >>= fun (near8 : (List Int)) => (((pure near8) >>= fun a => ((pure ([] : List Int)) >>= fun a => lstM a) >>= fun b => eqM a b) >>= fun x => if x then (((pure (.bk (s6.1, s6.2))) : M (Ctl Empty ((List Int) × (List Int)) (Op (List Int)))) >>= fun y => thenC y nofun) else (((pure near8) >>= fun a => (pure (0 : Int)) >>= fun b => atM a b) >>= fun a => appM s6.1 a >>= fun (order9 : (List Int)) => ((((pure near8) >>= fun a => (pure (0 : Int)) >>= fun b => atM a b) >>= fun j => remM s6.2 j >>= fun l => pure ((), l)) >>= fun (q10 : Unit × (List Int)) => (pure (.nx (order9, q10.2)))))))) 1000 (q5.1, q5.2) >>= fun c => thenL c (fun (s6 : ((List Int) × (List Int))) => ((((pure ar.1) >>= fun a => ((pure s6.1) >>= fun a => (pure ()) >>= fun b => pure (a, b)) >>= fun b => pure (a, b)) >>= fun a => mir_is_wheel a.1 a.2.1) >>= fun x => if x then ((((pure s6.1 >>= fun x => pure (⟨some x⟩ : Op (List Int))) >>= fun x => pure (.rt x)) : M (Ctl Empty Unit (Op (List Int)))) >>= fun y => thenC y nofun) else (pure (.nx ())))))))) xs () >>= fun c => thenL c (fun (s2 : Unit) => ((pure (⟨none⟩ : Op (List Int))) >>= fun r => pure (.rt r)))) : M (Ctl Unit Empty (Op (List Int))))) (p0, ()))
def mir_turns_to_wheel (p0 : (List (List Int))) : M ((List Int) × (List Int)) := runC ((fun (ar : (List (List Int)) × Unit) => (((((pure ar.1) >>= fun a => (pure ([] : List (List (List Int)))) >>= fun b => pure (a :: b)) >>= fun a => lstM a) >>= fun (webs1 : (List (List (List Int)))) => (((((pure ([] : List Int)) >>= fun a => lstM a) >>= fun a => (pure ([] : List (List Int))) >>= fun b => pure (a :: b)) >>= fun a => lstM a) >>= fun (ways2 : (List (List Int))) => ((pure (0 : Int)) >>= fun (at3 : Int) => ((((pure ar.1) >>= fun a => (pure ()) >>= fun b => pure (a, b)) >>= fun a => mir_wheel_order a.1) >>= fun (order4 : (Op (List Int))) => (whileM (S := ((List (List (List Int))) × (List (List Int)) × Int × (Op (List Int)))) (ρ := ((List Int) × (List Int))) (fun (s5 : ((List (List (List Int))) × (List (List Int)) × Int × (Op (List Int)))) => ((pure s5.2.2.2) >>= fun a => pure a.o.isNone)) (fun (s5 : ((List (List (List Int))) × (List (List Int)) × Int × (Op (List Int)))) => (((pure (6 : Int)) >>= fun a => range1 a) >>= fun xs => loopM (S := ((List (List (List Int))) × (List (List Int)))) (ρ := ((List Int) × (List Int))) (fun (point6 : Int) (s7 : ((List (List (List Int))) × (List (List Int)))) => (((((pure s5.2.2.1) >>= fun b => atM s7.1 b) >>= fun a => ((pure point6) >>= fun a => (pure ()) >>= fun b => pure (a, b)) >>= fun b => pure (a, b)) >>= fun a => mir_turned_web a.1 a.2.1) >>= fun (other8 : (List (List Int))) => (((pure other8) >>= fun a => (pure s7.1) >>= fun b => inDM a b >>= fun c => pure (!c)) >>= fun x => if x then ((pure other8) >>= fun a => appM s7.1 a >>= fun (webs9 : (List (List (List Int)))) => ((((pure s7.2) >>= fun a => (pure s5.2.2.1) >>= fun b => atM a b) >>= fun a => (((pure point6) >>= fun a => (pure ([] : List Int)) >>= fun b => pure (a :: b)) >>= fun a => lstM a) >>= fun b => catM a b) >>= fun a => appM s7.2 a >>= fun (ways10 : (List (List Int))) => (pure (.nx (webs9, ways10))))) else (pure (.nx (s7.1, s7.2)))))) xs (s5.1, s5.2.1) >>= fun c => thenL c (fun (s7 : ((List (List (List Int))) × (List (List Int)))) => (((pure s5.2.2.1) >>= fun a => (pure (1 : Int)) >>= fun b => pure (a + b)) >>= fun (at11 : Int) => (((((pure at11) >>= fun b => atM s7.1 b) >>= fun a => (pure ()) >>= fun b => pure (a, b)) >>= fun a => mir_wheel_order a.1) >>= fun (order12 : (Op (List Int))) => (pure (.nx (s7.1, s7.2, at11, order12)))))))) 1000 (webs1, ways2, at3, order4) >>= fun c => thenL c (fun (s5 : ((List (List (List Int))) × (List (List Int)) × Int × (Op (List Int)))) => (((pure s5.2.2.1) >>= fun j => atM s5.2.1 j) >>= fun x => (ofO s5.2.2.2.o) >>= fun y => pure (.rt (x, y))))))))) : M (Ctl Unit Empty ((List Int) × (List Int))))) (p0, ()))
def mir_told_web (p0 : (List (List Int))) : M Tw := runC ((fun (ar : (List (List Int)) × Unit) => (((((pure ar.1) >>= fun a => pure (a.length : Int)) >>= fun a => (pure (6 : Int)) >>= fun b => pure (decide (b < a))) >>= fun x => if x then (((no) : M (Ctl Empty Empty Tw)) >>= fun y => thenC y nofun) else ((((pure ("" : Str)) >>= fun a => (((pure ([] : List Int)) >>= fun a => lstM a) >>= fun a => ((pure ar.1) >>= fun a => (pure ()) >>= fun b => pure (a, b)) >>= fun b => pure (a, b)) >>= fun b => pure (a, b)) >>= fun a => mir_word_from a.1 a.2.1 a.2.2.1) >>= fun (word1 : (Option Str)) => (((pure word1) >>= fun a => pure a.isSome) >>= fun x => if x then ((((((pure ("word" : Str)) >>= fun a => ((pure word1) >>= fun a => ofO a) >>= fun b => pure (a, b)) >>= fun a => gd (decide (a.1 = ("word" : Str))) >>= fun _ => pure (Tw.w a.2)) >>= fun r => pure (.rt r)) : M (Ctl Empty Empty Tw)) >>= fun y => thenC y nofun) else ((((pure ar.1) >>= fun a => (pure ()) >>= fun b => pure (a, b)) >>= fun a => mir_turns_to_wheel a.1) >>= fun (u2 : ((List Int) × (List Int))) => ((((pure ("none" : Str)) >>= fun a => (pure u2.1) >>= fun b => (pure u2.2) >>= fun c => pure (T3.mk a b c)) >>= fun a => gd (decide (a.a = ("none" : Str))) >>= fun _ => pure (Tw.n a.b a.c)) >>= fun r => pure (.rt r)))))) : M (Ctl Unit Empty Tw))) (p0, ()))
def mir__law_cell (p0 : Scr) (p1 : Int) : M Int := runC ((fun (ar : Scr × Int × Unit) => (((pure (0 : Int)) >>= fun (cell_here1 : Int) => (((pure ar.2.1) >>= fun a => ((pure ar.1) >>= fun a => pure (a.l.length : Int)) >>= fun b => pure (decide (a < b))) >>= fun x => ((if x then (((pure ar.1) >>= fun a => (pure ar.2.1) >>= fun b => atM a.l b) >>= fun (cell_here3 : Int) => (pure (.nx (cell_here3)))) else (pure (.nx (cell_here1)))) : M (Ctl (Int) Empty Int)) >>= fun y => thenC y (fun (s2 : (Int)) => (((((((pure s2) >>= fun a => pure (a % (2147483647 : Int))) >>= fun a => ((pure ar.2.1) >>= fun b => pure ((7919 : Int) * b)) >>= fun b => pure (a + b)) >>= fun a => (pure (1 : Int)) >>= fun b => pure (a + b)) >>= fun a => pure (a * (48271 : Int))) >>= fun a => pure (a % (2147483647 : Int))) >>= fun (mixed4 : Int) => (((((pure mixed4) >>= fun a => pure (a * (69621 : Int))) >>= fun a => (pure ar.2.1) >>= fun b => pure (a + b)) >>= fun a => pure (a % (2147483647 : Int))) >>= fun r => pure (.rt r)))))) : M (Ctl Unit Empty Int))) (p0, p1, ()))
def mir__law_shuffled (p0 : (List Int)) (p1 : Int) : M (List Int) := runC ((fun (ar : (List Int) × Int × Unit) => ((((pure ar.1) >>= fun a => pure a) >>= fun (left1 : (List Int)) => (((pure ([] : List Int)) >>= fun a => lstM a) >>= fun (found2 : (List Int)) => (whileM (S := (Int × (List Int) × (List Int))) (ρ := (List Int)) (fun (s3 : (Int × (List Int) × (List Int))) => ((pure s3.2.2) >>= fun a => ((pure ([] : List Int)) >>= fun a => lstM a) >>= fun b => neM a b)) (fun (s3 : (Int × (List Int) × (List Int))) => (((((pure s3.1) >>= fun a => pure (a * (48271 : Int))) >>= fun a => (pure (7919 : Int)) >>= fun b => pure (a + b)) >>= fun a => pure (a % (2147483647 : Int))) >>= fun (number4 : Int) => (((((pure number4) >>= fun a => pure (a / (64 : Int))) >>= fun a => ((pure s3.2.2) >>= fun a => pure (a.length : Int)) >>= fun b => modM a b) >>= fun j => popAtM s3.2.2 j) >>= fun (q6 : Int × (List Int)) => appM s3.2.1 q6.1 >>= fun (found5 : (List Int)) => (pure (.nx (number4, found5, q6.2)))))) 1000 (ar.2.1, found2, left1) >>= fun c => thenL c (fun (s3 : (Int × (List Int) × (List Int))) => (pure (.rt s3.2.1)))))) : M (Ctl Unit Empty (List Int)))) (p0, p1, ()))
def mir__law_web (p0 : Str) : M (List (List Int)) := runC ((fun (ar : Str × Unit) => ((((pure ar.1) >>= fun a => sortTxtM a) >>= fun (letters1 : (List Str)) => (((pure letters1) >>= fun xs => compM xs (fun (letter2 : Str) => (pure true)) (fun (letter2 : Str) => (((pure ar.1) >>= fun a => pure (enumL (a.cps.toList.map sgS))) >>= fun xs => compM xs (fun (at3 : (Int × Str)) => ((pure at3.2) >>= fun a => (pure letter2) >>= fun b => pure (decide (a = b)))) (fun (at3 : (Int × Str)) => (pure at3.1))))) >>= fun (places4 : (List (List Int))) => (((pure ([] : List (List Int))) >>= fun a => lstM a) >>= fun (web_here5 : (List (List Int))) => ((pure places4) >>= fun xs => loopM (S := ((List (List Int)))) (ρ := (List (List Int))) (fun (one6 : (List Int)) (s7 : ((List (List Int)))) => (((pure ([] : List Int)) >>= fun a => lstM a) >>= fun (row8 : (List Int)) => ((pure places4) >>= fun xs => loopM (S := ((List Int))) (ρ := (List (List Int))) (fun (other9 : (List Int)) (s10 : ((List Int))) => (((pure other9) >>= fun xs => compM xs (fun (at11 : Int) => (chainM (fun a b => decide (a < b)) (fun a b => decide (a < b)) ((pure one6) >>= fun a => (pure (0 : Int)) >>= fun b => atM a b) (pure at11) ((pure one6) >>= fun a => (pure (1 : Int)) >>= fun b => atM a b))) (fun (at11 : Int) => (pure at11))) >>= fun (inner12 : (List Int)) => (((((pure inner12) >>= fun a => pure (a.length : Int)) >>= fun a => (pure (1 : Int)) >>= fun b => pure (decide (a = b))) >>= fun a => pure (if a then (1 : Int) else 0)) >>= fun a => appM s10 a >>= fun (row13 : (List Int)) => (pure (.nx (row13)))))) xs (row8) >>= fun c => thenL c (fun (s10 : ((List Int))) => ((pure s10) >>= fun a => appM s7 a >>= fun (web_here15 : (List (List Int))) => (pure (.nx (web_here15)))))))) xs (web_here5) >>= fun c => thenL c (fun (s7 : ((List (List Int)))) => ((pure s7) >>= fun r => pure (.rt r))))))) : M (Ctl Unit Empty (List (List Int))))) (p0, ()))
def mir__law_turned (p0 : (List (List Int))) (p1 : Int) : M (List (List Int)) := runC ((fun (ar : (List (List Int)) × Int × Unit) => ((((pure ([] : List (List Int))) >>= fun a => lstM a) >>= fun (made_here1 : (List (List Int))) => ((((pure ar.1) >>= fun a => pure (a.length : Int)) >>= fun a => range1 a) >>= fun xs => loopM (S := ((List (List Int)))) (ρ := (List (List Int))) (fun (k2 : Int) (s3 : ((List (List Int)))) => (((pure ([] : List Int)) >>= fun a => lstM a) >>= fun (row4 : (List Int)) => ((((pure ar.1) >>= fun a => pure (a.length : Int)) >>= fun a => range1 a) >>= fun xs => loopM (S := ((List Int))) (ρ := (List (List Int))) (fun (j5 : Int) (s6 : ((List Int))) => ((bAnd ((((pure ar.1) >>= fun a => (pure ar.2.1) >>= fun b => atM a b) >>= fun a => (pure k2) >>= fun b => atM a b) >>= fun a => (pure (1 : Int)) >>= fun b => pure (decide (a = b))) (bAnd ((((pure ar.1) >>= fun a => (pure ar.2.1) >>= fun b => atM a b) >>= fun a => (pure j5) >>= fun b => atM a b) >>= fun a => (pure (1 : Int)) >>= fun b => pure (decide (a = b))) ((pure k2) >>= fun a => (pure j5) >>= fun b => pure (!decide (a = b))))) >>= fun (near7 : Bool) => ((((((pure ar.1) >>= fun a => (pure k2) >>= fun b => atM a b) >>= fun a => (pure j5) >>= fun b => atM a b) >>= fun a => ((pure near7) >>= fun a => pure (if a then (1 : Int) else 0)) >>= fun b => pure (a + b)) >>= fun a => pure (a % (2 : Int))) >>= fun a => appM s6 a >>= fun (row8 : (List Int)) => (pure (.nx (row8)))))) xs (row4) >>= fun c => thenL c (fun (s6 : ((List Int))) => (appM s3 s6 >>= fun (made_here9 : (List (List Int))) => (pure (.nx (made_here9)))))))) xs (made_here1) >>= fun c => thenL c (fun (s3 : ((List (List Int)))) => (pure (.rt s3))))) : M (Ctl Unit Empty (List (List Int))))) (p0, p1, ()))
def mir__law_wheel_by (p0 : (List (List Int))) (p1 : (List Int)) : M Bool := runC ((fun (ar : (List (List Int)) × (List Int) × Unit) => (((((pure ar.2.1) >>= fun a => pure (isort a)) >>= fun a => (((pure (0 : Int)) >>= fun a => ((pure (1 : Int)) >>= fun a => ((pure (2 : Int)) >>= fun a => ((pure (3 : Int)) >>= fun a => ((pure (4 : Int)) >>= fun a => ((pure (5 : Int)) >>= fun a => (pure ([] : List Int)) >>= fun b => pure (a :: b)) >>= fun b => pure (a :: b)) >>= fun b => pure (a :: b)) >>= fun b => pure (a :: b)) >>= fun b => pure (a :: b)) >>= fun b => pure (a :: b)) >>= fun a => lstM a) >>= fun b => neM a b) >>= fun x => if x then ((((pure false) >>= fun r => pure (.rt r)) : M (Ctl Empty Empty Bool)) >>= fun y => thenC y nofun) else (((pure (6 : Int)) >>= fun a => range1 a) >>= fun xs => loopM (S := Unit) (ρ := Bool) (fun (k1 : Int) (s2 : Unit) => (((pure (6 : Int)) >>= fun a => range1 a) >>= fun xs => loopM (S := Unit) (ρ := Bool) (fun (j3 : Int) (s4 : Unit) => ((bOr (bAnd (((pure k1) >>= fun a => (pure j3) >>= fun b => mulM a b) >>= fun a => (pure (0 : Int)) >>= fun b => pure (decide (a = b))) ((pure k1) >>= fun a => (pure j3) >>= fun b => pure (!decide (a = b)))) (bAnd (((pure k1) >>= fun a => (pure j3) >>= fun b => mulM a b) >>= fun a => (pure (0 : Int)) >>= fun b => pure (decide (b < a))) ((((pure j3) >>= fun a => (pure k1) >>= fun b => pure (a - b)) >>= fun a => pure (a % (5 : Int))) >>= fun a => (((pure (1 : Int)) >>= fun a => ((pure (4 : Int)) >>= fun a => (pure ([] : List Int)) >>= fun b => pure (a :: b)) >>= fun b => pure (a :: b)) >>= fun a => lstM a >>= fun b => pure (Tu.mk b)) >>= fun b => pure (decide (a ∈ b.l))))) >>= fun (near5 : Bool) => (((((pure ar.1) >>= fun a => ((pure ar.2.1) >>= fun a => (pure k1) >>= fun b => atM a b) >>= fun b => atM a b) >>= fun a => ((pure ar.2.1) >>= fun a => (pure j3) >>= fun b => atM a b) >>= fun b => atM a b) >>= fun a => ((pure near5) >>= fun a => pure (if a then (1 : Int) else 0)) >>= fun b => pure (!decide (a = b))) >>= fun x => if x then ((((pure false) >>= fun r => pure (.rt r)) : M (Ctl Empty Unit Bool)) >>= fun y => thenC y nofun) else (pure (.nx ()))))) xs () >>= fun c => thenL c (fun (s4 : Unit) => (pure (.nx ()))))) xs () >>= fun c => thenL c (fun (s2 : Unit) => ((pure true) >>= fun r => pure (.rt r))))) : M (Ctl Unit Empty Bool))) (p0, p1, ()))
def mir__law_told_right (p0 : (List (List Int))) (p1 : Tw) : M (Option Str) := runC ((fun (ar : (List (List Int)) × Tw × Unit) => (((bOr (bNot ((pure ar.2.1) >>= fun _ => pure true)) ((((pure ar.2.1) >>= fun a => pure (twOq a)) >>= fun a => pure (a.l.length : Int)) >>= fun a => (pure (0 : Int)) >>= fun b => pure (decide (a = b)))) >>= fun x => if x then ((((pure (none : Option Str)) >>= fun r => pure (.rt r)) : M (Ctl Empty Empty (Option Str))) >>= fun y => thenC y nofun) else ((((pure ar.2.1) >>= fun a => pure (tw0 a)) >>= fun a => (pure ("word" : Str)) >>= fun b => pure (decide (a = b))) >>= fun x => if x then ((((bOr ((((pure ar.2.1) >>= fun a => pure (twOq a)) >>= fun a => pure (a.l.length : Int)) >>= fun a => (pure (2 : Int)) >>= fun b => pure (!decide (a = b))) (bOr (bNot (((pure ar.2.1) >>= fun a => tw1S a) >>= fun _ => pure true)) ((((pure ar.2.1) >>= fun a => tw1S a) >>= fun a => lenS a) >>= fun a => (((pure ar.1) >>= fun a => pure (a.length : Int)) >>= fun b => pure ((2 : Int) * b)) >>= fun b => pure (!decide (a = b))))) >>= fun x => if x then ((((pure (none : Option Str)) >>= fun r => pure (.rt r)) : M (Ctl Empty Empty (Option Str))) >>= fun y => thenC y nofun) else (((pure ("abcdef" : Str)) >>= fun a => (pure none) >>= fun l => (((pure ar.1) >>= fun a => pure (a.length : Int)) >>= fun i => pure (some i)) >>= fun u => cutSM a l u) >>= fun (letters1 : Str) => ((bOr ((((pure letters1) >>= fun a => pure (a.cps.toList.map sgS)) >>= fun xs => compM xs (fun (letter2 : Str) => (pure true)) (fun (letter2 : Str) => ((((pure ar.2.1) >>= fun a => tw1S a) >>= fun x => ((pure letter2) >>= fun a => (pure ()) >>= fun b => pure (a, b)) >>= fun y => pure (Txt.count x y.1)) >>= fun a => (pure (2 : Int)) >>= fun b => pure (!decide (a = b))))) >>= fun a => pure (a.any id)) (((((pure ar.2.1) >>= fun a => tw1S a) >>= fun a => (pure ()) >>= fun b => pure (a, b)) >>= fun a => mir__law_web a.1) >>= fun a => (pure ar.1) >>= fun b => neM a b)) >>= fun x => if x then ((((pure (none : Option Str)) >>= fun r => pure (.rt r)) : M (Ctl Empty Empty (Option Str))) >>= fun y => thenC y nofun) else (((pure ("word" : Str)) >>= fun a => pure (some a)) >>= fun r => pure (.rt r))))) : M (Ctl Empty Empty (Option Str))) >>= fun y => thenC y nofun) else ((bOr (((pure ar.2.1) >>= fun a => pure (tw0 a)) >>= fun a => (pure ("none" : Str)) >>= fun b => pure (!decide (a = b))) (bOr ((((pure ar.2.1) >>= fun a => pure (twOq a)) >>= fun a => pure (a.l.length : Int)) >>= fun a => (pure (3 : Int)) >>= fun b => pure (!decide (a = b))) (((pure ar.1) >>= fun a => pure (a.length : Int)) >>= fun a => (pure (6 : Int)) >>= fun b => pure (!decide (a = b))))) >>= fun x => if x then ((((pure (none : Option Str)) >>= fun r => pure (.rt r)) : M (Ctl Empty Empty (Option Str))) >>= fun y => thenC y nofun) else ((((pure ar.2.1) >>= fun a => ((pure (1 : Int)) >>= fun i => pure (some i)) >>= fun l => (pure none) >>= fun u => twCut a l u) >>= fun a => pure a.l) >>= fun xs => loopM (S := Unit) (ρ := (Option Str)) (fun (row3 : (List Int)) (s4 : Unit) => ((bOr (bNot ((pure row3) >>= fun _ => pure true)) (((pure row3) >>= fun xs => compM xs (fun (k5 : Int) => (pure true)) (fun (k5 : Int) => (bOr ((pure k5) >>= fun _ => pure false) (bNot ((pure k5) >>= fun _ => pure true))))) >>= fun a => pure (a.any id))) >>= fun x => if x then ((((pure (none : Option Str)) >>= fun r => pure (.rt r)) : M (Ctl Empty Unit (Option Str))) >>= fun y => thenC y nofun) else (pure (.nx ())))) xs () >>= fun c => thenL c (fun (s4 : Unit) => ((bOr ((((pure ar.2.1) >>= fun a => tw1L a) >>= fun a => pure (a.length : Int)) >>= fun a => (pure (200 : Int)) >>= fun b => pure (decide (b < a))) ((((pure ar.2.1) >>= fun a => tw1L a) >>= fun xs => compM xs (fun (k6 : Int) => (pure true)) (fun (k6 : Int) => ((pure k6) >>= fun x => ((pure (6 : Int)) >>= fun n => pure (⟨0, n⟩ : Rgv)) >>= fun r => pure (!decide (r.lo ≤ x ∧ x < r.hi))))) >>= fun a => pure (a.any id))) >>= fun x => if x then ((((pure (none : Option Str)) >>= fun r => pure (.rt r)) : M (Ctl Empty Empty (Option Str))) >>= fun y => thenC y nofun) else (((pure ar.2.1) >>= fun a => tw1L a) >>= fun xs => loopM (S := ((List (List Int)))) (ρ := (Option Str)) (fun (point7 : Int) (s8 : ((List (List Int)))) => ((((pure s8) >>= fun a => ((pure point7) >>= fun a => (pure ()) >>= fun b => pure (a, b)) >>= fun b => pure (a, b)) >>= fun a => mir__law_turned a.1 a.2.1) >>= fun (web_here9 : (List (List Int))) => (pure (.nx (web_here9))))) xs (ar.1) >>= fun c => thenL c (fun (s8 : ((List (List Int)))) => ((bNot (((pure s8) >>= fun a => (((pure ar.2.1) >>= fun a => tw2L a) >>= fun a => (pure ()) >>= fun b => pure (a, b)) >>= fun b => pure (a, b)) >>= fun a => mir__law_wheel_by a.1 a.2.1)) >>= fun x => if x then ((((pure (none : Option Str)) >>= fun r => pure (.rt r)) : M (Ctl Empty Empty (Option Str))) >>= fun y => thenC y nofun) else (((pure ("none" : Str)) >>= fun a => pure (some a)) >>= fun r => pure (.rt r))))))))))) : M (Ctl Unit Empty (Option Str)))) (p0, p1, ()))
def mir__law_wheel (p0 : (List Int)) : M (List (List Int)) := runC ((fun (ar : (List Int) × Unit) => (((((pure (6 : Int)) >>= fun a => range1 a) >>= fun xs => compM xs (fun (j1 : Int) => (pure true)) (fun (j1 : Int) => (((pure (6 : Int)) >>= fun a => range1 a) >>= fun xs => compM xs (fun (k2 : Int) => (pure true)) (fun (k2 : Int) => (pure (0 : Int)))))) >>= fun (web_here3 : (List (List Int))) => (((pure (1 : Int)) >>= fun a => (pure (6 : Int)) >>= fun b => range2 a b) >>= fun xs => loopM (S := ((List (List Int)))) (ρ := (List (List Int))) (fun (k4 : Int) (s5 : ((List (List Int)))) => ((pure (1 : Int)) >>= fun a => ((pure ar.1) >>= fun a => (pure (0 : Int)) >>= fun b => atM a b) >>= fun b => ((pure ar.1) >>= fun a => (pure k4) >>= fun b => atM a b) >>= fun c => set2M s5 b c a >>= fun (web_here6 : (List (List Int))) => ((pure (1 : Int)) >>= fun a => ((pure ar.1) >>= fun a => (pure k4) >>= fun b => atM a b) >>= fun b => ((pure ar.1) >>= fun a => (pure (0 : Int)) >>= fun b => atM a b) >>= fun c => set2M web_here6 b c a >>= fun (web_here7 : (List (List Int))) => (((pure ar.1) >>= fun a => ((pure (1 : Int)) >>= fun a => ((pure k4) >>= fun a => pure (a % (5 : Int))) >>= fun b => pure (a + b)) >>= fun b => atM a b) >>= fun (after8 : Int) => ((pure (1 : Int)) >>= fun a => ((pure ar.1) >>= fun a => (pure k4) >>= fun b => atM a b) >>= fun b => (pure after8) >>= fun c => set2M web_here7 b c a >>= fun (web_here9 : (List (List Int))) => ((pure (1 : Int)) >>= fun a => (pure after8) >>= fun b => ((pure ar.1) >>= fun a => (pure k4) >>= fun b => atM a b) >>= fun c => set2M web_here9 b c a >>= fun (web_here10 : (List (List Int))) => (pure (.nx (web_here10))))))))) xs (web_here3) >>= fun c => thenL c (fun (s5 : ((List (List Int)))) => (pure (.rt s5))))) : M (Ctl Unit Empty (List (List Int))))) (p0, ()))
def mir__law_raw (p0 : Scr) (p1 : Int) : M Int := runC ((fun (ar : Scr × Int × Unit) => (((pure (0 : Int)) >>= fun (cell_here1 : Int) => ((((pure ar.1) >>= fun a => pure (a.l.length : Int)) >>= fun a => (pure (0 : Int)) >>= fun b => pure (decide (b < a))) >>= fun x => ((if x then (((pure ar.1) >>= fun a => ((pure ar.2.1) >>= fun a => ((pure ar.1) >>= fun a => pure (a.l.length : Int)) >>= fun b => modM a b) >>= fun b => atM a.l b) >>= fun (cell_here3 : Int) => (pure (.nx (cell_here3)))) else (pure (.nx (cell_here1)))) : M (Ctl (Int) Empty Int)) >>= fun y => thenC y (fun (s2 : (Int)) => (((pure s2) >>= fun a => ((pure (10 : Int)) >>= fun a => (pure (60 : Int)) >>= fun b => powM a b) >>= fun b => modM a b) >>= fun r => pure (.rt r))))) : M (Ctl Unit Empty Int))) (p0, p1, ()))
def mir__law_ordered (p0 : (List Int)) (p1 : Int) : M (List Int) := runC ((fun (ar : (List Int) × Int × Unit) => ((((pure ar.1) >>= fun a => pure a) >>= fun (left1 : (List Int)) => (((pure ([] : List Int)) >>= fun a => lstM a) >>= fun (found2 : (List Int)) => (whileM (S := ((List Int) × (List Int) × Int)) (ρ := (List Int)) (fun (s3 : ((List Int) × (List Int) × Int)) => ((pure s3.2.1) >>= fun a => ((pure ([] : List Int)) >>= fun a => lstM a) >>= fun b => neM a b)) (fun (s3 : ((List Int) × (List Int) × Int)) => ((((pure s3.2.2) >>= fun a => ((pure s3.2.1) >>= fun a => pure (a.length : Int)) >>= fun b => modM a b) >>= fun j => popAtM s3.2.1 j) >>= fun (q5 : Int × (List Int)) => appM s3.1 q5.1 >>= fun (found4 : (List Int)) => (((pure s3.2.2) >>= fun a => (((pure q5.2) >>= fun a => pure (a.length : Int)) >>= fun a => (pure (1 : Int)) >>= fun b => pure (a + b)) >>= fun b => divM a b) >>= fun (digits6 : Int) => (pure (.nx (found4, q5.2, digits6)))))) 1000 (found2, left1, ar.2.1) >>= fun c => thenL c (fun (s3 : ((List Int) × (List Int) × Int)) => (pure (.rt s3.1)))))) : M (Ctl Unit Empty (List Int)))) (p0, p1, ()))
def mir__law_made (p0 : Scr) : M (T3 (List (List Int)) (List Int) Int) := runC ((fun (ar : Scr × Unit) => (((((((pure ar.1) >>= fun a => ((pure (0 : Int)) >>= fun a => (pure ()) >>= fun b => pure (a, b)) >>= fun b => pure (a, b)) >>= fun a => mir__law_raw a.1 a.2.1) >>= fun a => pure (a % (2 : Int))) >>= fun a => (pure (0 : Int)) >>= fun b => pure (decide (a = b))) >>= fun x => if x then (((((((((pure (6 : Int)) >>= fun a => lrange 0 a) >>= fun a => ((((pure ar.1) >>= fun a => ((pure (0 : Int)) >>= fun a => (pure ()) >>= fun b => pure (a, b)) >>= fun b => pure (a, b)) >>= fun a => mir__law_cell a.1 a.2.1) >>= fun a => (pure ()) >>= fun b => pure (a, b)) >>= fun b => pure (a, b)) >>= fun a => mir__law_shuffled a.1 a.2.1) >>= fun a => (pure ()) >>= fun b => pure (a, b)) >>= fun a => mir__law_wheel a.1) >>= fun (web_here1 : (List (List Int))) => ((((((pure ar.1) >>= fun a => ((pure (1 : Int)) >>= fun a => (pure ()) >>= fun b => pure (a, b)) >>= fun b => pure (a, b)) >>= fun a => mir__law_cell a.1 a.2.1) >>= fun a => pure (a % (9 : Int))) >>= fun a => range1 a) >>= fun xs => loopM (S := ((List (List Int)))) (ρ := (T3 (List (List Int)) (List Int) Int)) (fun (k2 : Int) (s3 : ((List (List Int)))) => ((((pure s3) >>= fun a => (((((pure ar.1) >>= fun a => (((pure (2 : Int)) >>= fun a => (pure k2) >>= fun b => pure (a + b)) >>= fun a => (pure ()) >>= fun b => pure (a, b)) >>= fun b => pure (a, b)) >>= fun a => mir__law_cell a.1 a.2.1) >>= fun a => pure (a % (6 : Int))) >>= fun a => (pure ()) >>= fun b => pure (a, b)) >>= fun b => pure (a, b)) >>= fun a => mir__law_turned a.1 a.2.1) >>= fun (web_here4 : (List (List Int))) => (pure (.nx (web_here4))))) xs (web_here1) >>= fun c => thenL c (fun (s3 : ((List (List Int)))) => ((pure s3) >>= fun x => (((((pure (6 : Int)) >>= fun a => lrange 0 a) >>= fun a => ((((pure ar.1) >>= fun a => ((pure (10 : Int)) >>= fun a => (pure ()) >>= fun b => pure (a, b)) >>= fun b => pure (a, b)) >>= fun a => mir__law_cell a.1 a.2.1) >>= fun a => (pure ()) >>= fun b => pure (a, b)) >>= fun b => pure (a, b)) >>= fun a => mir__law_shuffled a.1 a.2.1) >>= fun a => (pure none) >>= fun l => ((pure (2 : Int)) >>= fun i => pure (some i)) >>= fun u => pure (cutL a l u)) >>= fun y => ((((pure ar.1) >>= fun a => ((pure (11 : Int)) >>= fun a => (pure ()) >>= fun b => pure (a, b)) >>= fun b => pure (a, b)) >>= fun a => mir__law_cell a.1 a.2.1) >>= fun a => pure (a % (6 : Int))) >>= fun z => pure (.rt (T3.mk x y z)))))) : M (Ctl Empty Empty (T3 (List (List Int)) (List Int) Int))) >>= fun y => thenC y nofun) else ((((pure ar.1) >>= fun a => ((pure (1 : Int)) >>= fun a => (pure ()) >>= fun b => pure (a, b)) >>= fun b => pure (a, b)) >>= fun a => mir__law_raw a.1 a.2.1) >>= fun (digits5 : Int) => (((((((pure (6 : Int)) >>= fun a => lrange 0 a) >>= fun a => ((pure digits5) >>= fun a => (pure ()) >>= fun b => pure (a, b)) >>= fun b => pure (a, b)) >>= fun a => mir__law_ordered a.1 a.2.1) >>= fun a => (pure ()) >>= fun b => pure (a, b)) >>= fun a => mir__law_wheel a.1) >>= fun (web_here6 : (List (List Int))) => (((pure digits5) >>= fun a => pure (a / (720 : Int))) >>= fun (digits7 : Int) => (((((((pure ar.1) >>= fun a => ((pure (0 : Int)) >>= fun a => (pure ()) >>= fun b => pure (a, b)) >>= fun b => pure (a, b)) >>= fun a => mir__law_raw a.1 a.2.1) >>= fun a => pure (a / (2 : Int))) >>= fun a => pure (a % (61 : Int))) >>= fun a => range1 a) >>= fun xs => loopM (S := ((List (List Int)) × Int)) (ρ := (T3 (List (List Int)) (List Int) Int)) (fun (k8 : Int) (s9 : ((List (List Int)) × Int)) => ((((pure s9.1) >>= fun a => (((pure s9.2) >>= fun a => pure (a % (6 : Int))) >>= fun a => (pure ()) >>= fun b => pure (a, b)) >>= fun b => pure (a, b)) >>= fun a => mir__law_turned a.1 a.2.1) >>= fun (web_here10 : (List (List Int))) => (((pure s9.2) >>= fun a => pure (a / (6 : Int))) >>= fun (digits11 : Int) => (pure (.nx (web_here10, digits11)))))) xs (web_here6, digits7) >>= fun c => thenL c (fun (s9 : ((List (List Int)) × Int)) => ((pure s9.1) >>= fun x => (((((pure (6 : Int)) >>= fun a => lrange 0 a) >>= fun a => ((((pure ar.1) >>= fun a => ((pure (2 : Int)) >>= fun a => (pure ()) >>= fun b => pure (a, b)) >>= fun b => pure (a, b)) >>= fun a => mir__law_raw a.1 a.2.1) >>= fun a => (pure ()) >>= fun b => pure (a, b)) >>= fun b => pure (a, b)) >>= fun a => mir__law_ordered a.1 a.2.1) >>= fun a => (pure none) >>= fun l => ((pure (2 : Int)) >>= fun i => pure (some i)) >>= fun u => pure (cutL a l u)) >>= fun y => ((((pure ar.1) >>= fun a => ((pure (3 : Int)) >>= fun a => (pure ()) >>= fun b => pure (a, b)) >>= fun b => pure (a, b)) >>= fun a => mir__law_raw a.1 a.2.1) >>= fun a => pure (a % (6 : Int))) >>= fun z => pure (.rt (T3.mk x y z))))))))) : M (Ctl Unit Empty (T3 (List (List Int)) (List Int) Int)))) (p0, ()))
def mir_told_web__cl1 (p0 : (List (List Int))) : M (T3 Str (List Int) (List Int)) := runC ((fun (ar : (List (List Int)) × Unit) => (((((pure ar.1) >>= fun a => pure (a.length : Int)) >>= fun a => (pure (6 : Int)) >>= fun b => pure (decide (b < a))) >>= fun x => if x then (((no) : M (Ctl Empty Empty (T3 Str (List Int) (List Int)))) >>= fun y => thenC y nofun) else ((((pure ("" : Str)) >>= fun a => (((pure ([] : List Int)) >>= fun a => lstM a) >>= fun a => ((pure ar.1) >>= fun a => (pure ()) >>= fun b => pure (a, b)) >>= fun b => pure (a, b)) >>= fun b => pure (a, b)) >>= fun a => mir_word_from a.1 a.2.1 a.2.2.1) >>= fun (word1 : (Option Str)) => (((pure word1) >>= fun a => pure a.isSome) >>= fun x => if x then (((no) : M (Ctl Empty Empty (T3 Str (List Int) (List Int)))) >>= fun y => thenC y nofun) else ((((pure ar.1) >>= fun a => (pure ()) >>= fun b => pure (a, b)) >>= fun a => mir_turns_to_wheel a.1) >>= fun (u2 : ((List Int) × (List Int))) => ((pure ("none" : Str)) >>= fun x => (pure u2.1) >>= fun y => (pure u2.2) >>= fun z => pure (.rt (T3.mk x y z))))))) : M (Ctl Unit Empty (T3 Str (List Int) (List Int))))) (p0, ()))
def mir_law (p0 : Scr) : M Bool := runC ((fun (ar : Scr × Unit) => (((((pure ar.1) >>= fun a => (pure ()) >>= fun b => pure (a, b)) >>= fun a => mir__law_made a.1) >>= fun (u1 : (T3 (List (List Int)) (List Int) Int)) => (((pure u1.a) >>= fun xs => compM xs (fun (row2 : (List Int)) => (pure true)) (fun (row2 : (List Int)) => ((pure row2) >>= fun a => pure a))) >>= fun (handed3 : (List (List Int))) => ((((pure handed3) >>= fun a => (pure ()) >>= fun b => pure (a, b)) >>= fun a => mir_told_web__cl1 a.1) >>= fun (found4 : (T3 Str (List Int) (List Int))) => ((bOr (((((pure u1.a) >>= fun a => (((pure found4) >>= fun a => gd (decide (a.a = ("none" : Str))) >>= fun _ => pure (Tw.n a.b a.c)) >>= fun a => (pure ()) >>= fun b => pure (a, b)) >>= fun b => pure (a, b)) >>= fun a => mir__law_told_right a.1 a.2.1) >>= fun a => ofO a) >>= fun a => (pure ("none" : Str)) >>= fun b => pure (!decide (a = b))) ((pure handed3) >>= fun a => (pure u1.a) >>= fun b => neM a b)) >>= fun x => if x then ((((pure false) >>= fun r => pure (.rt r)) : M (Ctl Empty Empty Bool)) >>= fun y => thenC y nofun) else ((pure (6 : Int)) >>= fun a => appT1M found4 a >>= fun (found5 : (T3 Str (List Int) (List Int))) => (revT2M found5 >>= fun (found6 : (T3 Str (List Int) (List Int))) => ((bOr (((((pure u1.a) >>= fun a => ((((pure handed3) >>= fun a => (pure ()) >>= fun b => pure (a, b)) >>= fun a => mir_told_web a.1) >>= fun a => (pure ()) >>= fun b => pure (a, b)) >>= fun b => pure (a, b)) >>= fun a => mir__law_told_right a.1 a.2.1) >>= fun a => ofO a) >>= fun a => (pure ("none" : Str)) >>= fun b => pure (!decide (a = b))) ((pure handed3) >>= fun a => (pure u1.a) >>= fun b => neM a b)) >>= fun x => if x then ((((pure false) >>= fun r => pure (.rt r)) : M (Ctl Empty Empty Bool)) >>= fun y => thenC y nofun) else ((pure u1.b) >>= fun a => twoM a >>= fun (u7 : Int × Int) => (((pure (1 : Int)) >>= fun a => (((pure u1.a) >>= fun a => (pure u7.1) >>= fun b => atM a b) >>= fun a => (pure u7.2) >>= fun b => atM a b) >>= fun b => pure (a - b)) >>= fun a => (pure u7.1) >>= fun b => (pure u7.2) >>= fun c => set2M u1.a b c a >>= fun (web_here10 : (List (List Int))) => ((((pure web_here10) >>= fun a => (pure u7.1) >>= fun b => atM a b) >>= fun a => (pure u7.2) >>= fun b => atM a b) >>= fun a => (pure u7.2) >>= fun b => (pure u7.1) >>= fun c => set2M web_here10 b c a >>= fun (web_here11 : (List (List Int))) => ((((pure web_here11) >>= fun a => (((((pure web_here11) >>= fun xs => compM xs (fun (row12 : (List Int)) => (pure true)) (fun (row12 : (List Int)) => ((pure row12) >>= fun a => pure a))) >>= fun a => (pure ()) >>= fun b => pure (a, b)) >>= fun a => mir_told_web a.1) >>= fun a => (pure ()) >>= fun b => pure (a, b)) >>= fun b => pure (a, b)) >>= fun a => mir__law_told_right a.1 a.2.1) >>= fun (word13 : (Option Str)) => (((pure word13) >>= fun a => pure a.isNone) >>= fun x => if x then ((((pure false) >>= fun r => pure (.rt r)) : M (Ctl Empty Empty Bool)) >>= fun y => thenC y nofun) else ((((pure web_here11) >>= fun a => ((pure u1.c) >>= fun a => (pure ()) >>= fun b => pure (a, b)) >>= fun b => pure (a, b)) >>= fun a => mir__law_turned a.1 a.2.1) >>= fun (turned_here14 : (List (List Int))) => ((((((pure turned_here14) >>= fun a => (((((pure turned_here14) >>= fun xs => compM xs (fun (row15 : (List Int)) => (pure true)) (fun (row15 : (List Int)) => ((pure row15) >>= fun a => pure a))) >>= fun a => (pure ()) >>= fun b => pure (a, b)) >>= fun a => mir_told_web a.1) >>= fun a => (pure ()) >>= fun b => pure (a, b)) >>= fun b => pure (a, b)) >>= fun a => mir__law_told_right a.1 a.2.1) >>= fun a => ofO a) >>= fun a => ((pure word13) >>= fun a => ofO a) >>= fun b => pure (decide (a = b))) >>= fun r => pure (.rt r))))))))))))))) : M (Ctl Unit Empty Bool))) (p0, ()))
/-! ### the text -/
def top (i : Nat) : Stmt := PySem.Challenge.pw_fourway_k87_whole_no_word_for_the_wheel.main.body.getD i (.Pass ⟨0, 0, 0, 0⟩)
abbrev FnP (K : PySem.W.Frag) (x : Str) (st : Stmt) (f : Addr) (fd : FuncData) : Prop := FunD K x x (defArgs st) (defBody st) (defScope st) [] [] f fd
structure Txt (K : PySem.W.Frag) (mg : Str → Option Value) : Prop where
  n_any : mg "any" = none
  n_bool : mg "bool" = none
  n_enumerate : mg "enumerate" = none
  n_int : mg "int" = none
  n_isinstance : mg "isinstance" = none
  n_len : mg "len" = none
  n_list : mg "list" = none
  n_min : mg "min" = none
  n_range : mg "range" = none
  n_set : mg "set" = none
  n_sorted : mg "sorted" = none
  n_str : mg "str" = none
  n_tuple : mg "tuple" = none
  g_MOST_POINTS : ∃ t, mg "MOST_POINTS" = some (.int (6 : Int) t)
  g_SMALL : ∃ t, mg "SMALL" = some (.str ("abcdefghijklmnopqrstuvwxyz" : Str) t)
section
variable {P : Program} {w : World} {K : PySem.W.Frag} {mg : Str → Option Value} {base : Heap}
set_option maxHeartbeats 4000000
abbrev s_turned_web : Stmt := top 6
theorem sc_turned_web : FnScope ["web", "point", "near", "made", "one", "other", "row"] ["web", "point"] (defScope s_turned_web) := ⟨rfl, rfl, rfl, by decide +kernel, rfl, by decide +kernel, by decide +kernel⟩
abbrev sp_turned_web (K : PySem.W.Frag) : Sp := spF K (As.cons (α := (List (List Int))) (As.cons (α := Int) As.nil)) ((Ow.l (Ow.l Ow.v)) : Ow (List (List Int))) (fun a => mir_turned_web a.1 a.2.1)
theorem ok0_turned_web (T : Txt K mg) {f : Addr} {fd : FuncData} (F : FnP K "turned_web" s_turned_web f fd)  : FnOk P w K mg base CX0 1 f fd ["web", "point"] (sp_turned_web K) := by
  refine fn_okD (r := (As.cons (α := (List (List Int))) (As.cons (α := Int) As.nil))) (o := (Ow.l (Ow.l Ow.v))) (m := fun ar => (((((pure ar.1) >>= fun a => pure (a.length : Int)) >>= fun a => range1 a) >>= fun xs => compM xs (fun (other1 : Int) => ((((pure ar.1) >>= fun a => (pure ar.2.1) >>= fun b => atM a b) >>= fun a => (pure other1) >>= fun b => atM a b) >>= fun a => (pure (1 : Int)) >>= fun b => pure (decide (a = b)))) (fun (other1 : Int) => (pure other1))) >>= fun (near2 : (List Int)) => (((pure ar.1) >>= fun xs => compM xs (fun (row3 : (List Int)) => (pure true)) (fun (row3 : (List Int)) => ((pure row3) >>= fun a => pure a))) >>= fun (made4 : (List (List Int))) => ((pure near2) >>= fun xs => loopM (S := ((List (List Int)))) (ρ := (List (List Int))) (fun (one5 : Int) (s6 : ((List (List Int)))) => ((pure near2) >>= fun xs => loopM (S := ((List (List Int)))) (ρ := (List (List Int))) (fun (other7 : Int) (s8 : ((List (List Int)))) => (((pure one5) >>= fun a => (pure other7) >>= fun b => pure (!decide (a = b))) >>= fun x => if x then (((pure (1 : Int)) >>= fun a => (((pure s8) >>= fun a => (pure one5) >>= fun b => atM a b) >>= fun a => (pure other7) >>= fun b => atM a b) >>= fun b => pure (a - b)) >>= fun a => (pure one5) >>= fun b => (pure other7) >>= fun c => set2M s8 b c a >>= fun (made9 : (List (List Int))) => (pure (.nx (made9)))) else (pure (.nx (s8))))) xs (s6) >>= fun c => thenL c (fun (s8 : ((List (List Int)))) => (pure (.nx (s8)))))) xs (made4) >>= fun c => thenL c (fun (s6 : ((List (List Int)))) => (pure (.rt s6))))))) F sc_turned_web rfl rfl (fun cdv A' outer s H E hr ar => ?_)
  exact ⟨_, (ss_asgLc 2 rfl sc_turned_web.nd (ei_range1 T.n_range (ex_lenL (K := K) T.n_len (ex_var 0))) (own := [("other", 5)]) (by kernel_rfl) rfl rfl (fun _ _ _ _ _ other1 => (eg_name 5 sc_turned_web.nd)) (fun _ _ _ _ _ other1 => (ef_one (et_c (ec_eq (ex_ixL (K := K) (ex_ixL (K := K) (ex_var 0) (ex_var 1)) (ex_var 5)) ex_int)))) (fun _ _ _ _ _ other1 => (ex_var 5)) (fun near2 => (ss_frz 2 rfl (ss_asgLc 3 rfl sc_turned_web.nd (ei_list (K := K) (ex_var 0)) (own := [("row", 6)]) (by kernel_rfl) rfl rfl (fun _ _ _ _ _ row3 => (eg_name 6 sc_turned_web.nd)) (fun _ _ _ _ _ row3 => ef_nil) (fun _ _ _ _ _ row3 => (ex_listL (K := K) T.n_list (ex_var 6))) (fun made4 => (ss_for (Γs := (fun (s6 : ((List (List Int)))) => [.mk Ow.v ar.1, .mk Ow.v ar.2.1, .mk Ow.v near2, .mk (Ow.l (Ow.l Ow.v)) (s6 : (List (List Int))), .un, .un, .un])) (made4) rfl PassesOwn.never (ei_list (K := K) (ex_var 2)) (.k (.k (.k (.k (.w (.w (.w .n))))))) (fun s6 one5 => (eg_name 4 sc_turned_web.nd)) (fun s6 one5 => (ss_for (Γs := (fun (s8 : ((List (List Int)))) => [.mk Ow.v ar.1, .mk Ow.v ar.2.1, .mk Ow.v near2, .mk (Ow.l (Ow.l Ow.v)) (s8 : (List (List Int))), .mk Ow.v one5, .un, .un])) (s6) rfl PassesOwn.never (ei_list (K := K) (ex_var 2)) (.k (.k (.k (.k (.k (.w (.w .n))))))) (fun s8 other7 => (eg_name 5 sc_turned_web.nd)) (fun s8 other7 => (ss_ifE (et_c (ec_ne (ex_var 4) (ex_var 5))) (ss_set2 (K := K) 3 (ex_view (ex_sub ex_int (ex_ixL (K := K) (ex_ixL (K := K) (ex_var 3) (ex_var 4)) (ex_var 5)))) (ex_var 4) (ex_var 5) (fun made9 => (ss_nil (made9) (.k (.k (.k (.k (.k (.w (.w .n)))))))))) (ss_nil (s8) (.k (.k (.k (.k (.k (.w (.w .n)))))))))) (fun s8 => (ss_nil (s8) (.k (.k (.k (.k (.w (.w (.w .n))))))))))) (fun s6 => (ss_retO 3))))))))⟩
theorem ok_turned_web (T : Txt K mg) {f : Addr} {fd : FuncData} (F : FnP K "turned_web" s_turned_web f fd) (hm : mg "turned_web" = some (.ref f))  : Has P w K mg base "turned_web" 1 ["web", "point"] (sp_turned_web K) :=
  ⟨f, fd, ok0_turned_web T F , hm, F.kp, F.bindsN fun _ _ _ _ _ _ us hl => match us, hl with | [_, _], _ => rfl⟩
abbrev s_is_wheel : Stmt := top 7
theorem sc_is_wheel : FnScope ["web", "order", "k", "one", "j", "other", "near"] ["web", "order"] (defScope s_is_wheel) := ⟨rfl, rfl, rfl, by decide +kernel, rfl, by decide +kernel, by decide +kernel⟩
abbrev sp_is_wheel (K : PySem.W.Frag) : Sp := spF K (As.cons (α := (List (List Int))) (As.cons (α := (List Int)) As.nil)) (Ow.v : Ow Bool) (fun a => mir_is_wheel a.1 a.2.1)
theorem ok0_is_wheel (T : Txt K mg) {f : Addr} {fd : FuncData} (F : FnP K "is_wheel" s_is_wheel f fd)  : FnOk P w K mg base CX0 1 f fd ["web", "order"] (sp_is_wheel K) := by
  refine fn_okD (r := (As.cons (α := (List (List Int))) (As.cons (α := (List Int)) As.nil))) (o := Ow.v) (m := fun ar => ((((pure ar.2.1) >>= fun a => pure (isort a)) >>= fun a => ((pure (6 : Int)) >>= fun a => lrange 0 a) >>= fun b => neM a b) >>= fun x => if x then ((((pure false) >>= fun r => pure (.rt r)) : M (Ctl Empty Empty Bool)) >>= fun y => thenC y nofun) else (((pure ar.2.1) >>= fun a => pure (enumL a)) >>= fun xs => loopM (S := Unit) (ρ := Bool) (fun (k1 : (Int × Int)) (s2 : Unit) => (((pure ar.2.1) >>= fun a => pure (enumL a)) >>= fun xs => loopM (S := Unit) (ρ := Bool) (fun (j3 : (Int × Int)) (s4 : Unit) => ((bAnd ((pure k1.1) >>= fun a => (pure j3.1) >>= fun b => pure (!decide (a = b))) (bOr ((pure k1.1) >>= fun a => (pure (0 : Int)) >>= fun b => pure (decide (a = b))) (bOr ((pure j3.1) >>= fun a => (pure (0 : Int)) >>= fun b => pure (decide (a = b))) ((((pure k1.1) >>= fun a => (pure j3.1) >>= fun b => pure (a - b)) >>= fun a => pure (a % (5 : Int))) >>= fun a => (((pure (1 : Int)) >>= fun a => ((pure (4 : Int)) >>= fun a => (pure ([] : List Int)) >>= fun b => pure (a :: b)) >>= fun b => pure (a :: b)) >>= fun a => lstM a >>= fun b => pure (Tu.mk b)) >>= fun b => pure (decide (a ∈ b.l)))))) >>= fun (near5 : Bool) => (((((pure ar.1) >>= fun a => (pure k1.2) >>= fun b => atM a b) >>= fun a => (pure j3.2) >>= fun b => atM a b) >>= fun a => ((pure near5) >>= fun a => pure (if a then (1 : Int) else 0)) >>= fun b => pure (!decide (a = b))) >>= fun x => if x then ((((pure false) >>= fun r => pure (.rt r)) : M (Ctl Empty Unit Bool)) >>= fun y => thenC y nofun) else (pure (.nx ()))))) xs () >>= fun c => thenL c (fun (s4 : Unit) => (pure (.nx ()))))) xs () >>= fun c => thenL c (fun (s2 : Unit) => ((pure true) >>= fun r => pure (.rt r)))))) F sc_is_wheel rfl rfl (fun cdv A' outer s H E hr ar => ?_)
  exact ⟨_, (ss_ifR (et_c (ec_neD (K := K) hr.units (ex_frz (ex_sorted (K := K) T.n_sorted (ex_var 1))) (ex_frz (ex_listRg1 rfl T.n_list T.n_range ex_int)))) (ss_ret ex_bl) (ss_for (Γs := (fun (s2 : Unit) => [.mk Ow.v ar.1, .mk Ow.v ar.2.1, .un, .un, .un, .un, .un])) () rfl PassesOwn.never (ei_enum (K := K) T.n_enumerate (ex_var 1)) (.k (.k (.w (.w (.w (.w (.w .n))))))) (fun s2 k1 => (eg_pair (K := K) rfl (eg_name 2 sc_is_wheel.nd) (eg_name 3 sc_is_wheel.nd))) (fun s2 k1 => (ss_for (Γs := (fun (s4 : Unit) => [.mk Ow.v ar.1, .mk Ow.v ar.2.1, .mk Ow.v k1.1, .mk Ow.v k1.2, .un, .un, .un])) () rfl PassesOwn.never (ei_enum (K := K) T.n_enumerate (ex_var 1)) (.k (.k (.k (.k (.w (.w (.w .n))))))) (fun s4 j3 => (eg_pair (K := K) rfl (eg_name 4 sc_is_wheel.nd) (eg_name 5 sc_is_wheel.nd))) (fun s4 j3 => (ss_asg 6 sc_is_wheel.nd (ex_and (ex_c (ec_ne (ex_var 2) (ex_var 4))) (ex_one (ex_or (ex_c (ec_eq (ex_var 2) ex_int)) (ex_or (ex_c (ec_eq (ex_var 4) ex_int)) (ex_one (ex_c (ec_inT (K := K) (ex_modc (ex_sub (ex_var 2) (ex_var 4))) (ex_tu (el_cons ex_int (el_cons ex_int (el_nil (o := Ow.v)))))))))))) (fun near5 => (ss_ifR (et_c (ec_ne (ex_ixL (K := K) (ex_ixL (K := K) (ex_var 0) (ex_var 3)) (ex_var 5)) (ex_intB T.n_int (ex_var 6)))) (ss_ret ex_bl) (ss_nil () (.k (.k (.k (.k (.w (.w (.w .n)))))))))))) (fun s4 => (ss_nil () (.k (.k (.w (.w (.w (.w (.w .n))))))))))) (fun s2 => (ss_ret ex_bl))))⟩
theorem ok_is_wheel (T : Txt K mg) {f : Addr} {fd : FuncData} (F : FnP K "is_wheel" s_is_wheel f fd) (hm : mg "is_wheel" = some (.ref f))  : Has P w K mg base "is_wheel" 1 ["web", "order"] (sp_is_wheel K) :=
  ⟨f, fd, ok0_is_wheel T F , hm, F.kp, F.bindsN fun _ _ _ _ _ _ us hl => match us, hl with | [_, _], _ => rfl⟩
abbrev s_crossed_between : Stmt := top 8
theorem sc_crossed_between : FnScope ["word", "letter", "first", "second"] ["word", "letter", "first", "second"] (defScope s_crossed_between) := ⟨rfl, rfl, rfl, by decide +kernel, rfl, by decide +kernel, by decide +kernel⟩
abbrev sp_crossed_between (K : PySem.W.Frag) : Sp := spF K (As.cons (α := Str) (As.cons (α := Str) (As.cons (α := Int) (As.cons (α := Int) As.nil)))) (Ow.v : Ow Bool) (fun a => mir_crossed_between a.1 a.2.1 a.2.2.1 a.2.2.2.1)
theorem ok0_crossed_between (T : Txt K mg) {f : Addr} {fd : FuncData} (F : FnP K "crossed_between" s_crossed_between f fd)  : FnOk P w K mg base CX0 1 f fd ["word", "letter", "first", "second"] (sp_crossed_between K) := by
  refine fn_okD (r := (As.cons (α := Str) (As.cons (α := Str) (As.cons (α := Int) (As.cons (α := Int) As.nil))))) (o := Ow.v) (m := fun ar => (((((pure ar.1) >>= fun a => ((pure ar.2.2.1) >>= fun i => pure (some i)) >>= fun l => ((pure ar.2.2.2.1) >>= fun i => pure (some i)) >>= fun u => cutSM a l u) >>= fun x => ((pure ar.2.1) >>= fun a => (pure ()) >>= fun b => pure (a, b)) >>= fun y => pure (Txt.count x y.1)) >>= fun a => (pure (1 : Int)) >>= fun b => pure (decide (a = b))) >>= fun r => pure (.rt r))) F sc_crossed_between rfl rfl (fun cdv A' outer s H E hr ar => ?_)
  exact ⟨_, (ss_ret (ex_c (ec_eq (ex_count (K := K) (ex_cutS (ex_var 0) (eo_some (ex_var 2)) (eo_some (ex_var 3))) (ea_cons (ex_var 1) ea_nil)) ex_int)))⟩
theorem ok_crossed_between (T : Txt K mg) {f : Addr} {fd : FuncData} (F : FnP K "crossed_between" s_crossed_between f fd) (hm : mg "crossed_between" = some (.ref f))  : Has P w K mg base "crossed_between" 1 ["word", "letter", "first", "second"] (sp_crossed_between K) :=
  ⟨f, fd, ok0_crossed_between T F , hm, F.kp, F.bindsN fun _ _ _ _ _ _ us hl => match us, hl with | [_, _, _, _], _ => rfl⟩
abbrev s_next_point : Stmt := top 9
theorem sc_next_point : FnScope ["web", "placed", "best", "point", "near", "other"] ["web", "placed"] (defScope s_next_point) := ⟨rfl, rfl, rfl, by decide +kernel, rfl, by decide +kernel, by decide +kernel⟩
abbrev sp_next_point (K : PySem.W.Frag) : Sp := spF K (As.cons (α := (List (List Int))) (As.cons (α := (List Int)) As.nil)) (Ow.v : Ow Int) (fun a => mir_next_point a.1 a.2.1)
theorem ok0_next_point (T : Txt K mg) {f : Addr} {fd : FuncData} (F : FnP K "next_point" s_next_point f fd)  : FnOk P w K mg base CX0 1 f fd ["web", "placed"] (sp_next_point K) := by
  refine fn_okD (r := (As.cons (α := (List (List Int))) (As.cons (α := (List Int)) As.nil))) (o := Ow.v) (m := fun ar => ((pure (⟨none⟩ : Op (Int × Int))) >>= fun (best1 : (Op (Int × Int))) => ((((pure ar.1) >>= fun a => pure (a.length : Int)) >>= fun a => range1 a) >>= fun xs => loopM (S := ((Op (Int × Int)))) (ρ := Int) (fun (point2 : Int) (s3 : ((Op (Int × Int)))) => ((((pure ar.2.1) >>= fun xs => compM xs (fun (other4 : Int) => ((((pure ar.1) >>= fun a => (pure point2) >>= fun b => atM a b) >>= fun a => (pure other4) >>= fun b => atM a b) >>= fun a => (pure (1 : Int)) >>= fun b => pure (decide (a = b)))) (fun (other4 : Int) => (pure other4))) >>= fun a => pure (a.length : Int)) >>= fun (near5 : Int) => ((bAnd ((pure point2) >>= fun a => (pure ar.2.1) >>= fun b => pure (!decide (a ∈ b))) (bOr ((pure s3) >>= fun a => pure a.o.isNone) ((pure near5) >>= fun a => (((pure s3) >>= fun a => ofO a.o) >>= fun a => pure a.1) >>= fun b => pure (decide (b < a))))) >>= fun x => if x then ((((pure near5) >>= fun a => (pure point2) >>= fun b => pure (a, b)) >>= fun a => pure (⟨some a⟩ : Op (Int × Int))) >>= fun (best6 : (Op (Int × Int))) => (pure (.nx (best6)))) else (pure (.nx (s3)))))) xs (best1) >>= fun c => thenL c (fun (s3 : ((Op (Int × Int)))) => ((((pure s3) >>= fun a => ofO a.o) >>= fun a => pure a.2) >>= fun r => pure (.rt r)))))) F sc_next_point rfl rfl (fun cdv A' outer s H E hr ar => ?_)
  exact ⟨_, (ss_asg 2 sc_next_point.nd (ex_frz (ex_opN (w := Ow.v))) (fun best1 => (ss_for (Γs := (fun (s3 : ((Op (Int × Int)))) => [.mk Ow.v ar.1, .mk Ow.v ar.2.1, .mk Ow.v (s3 : (Op (Int × Int))), .un, .un, .un])) (best1) rfl PassesOwn.never (ei_range1 T.n_range (ex_lenL (K := K) T.n_len (ex_var 0))) (.k (.k (.k (.w (.w (.w .n)))))) (fun s3 point2 => (eg_name 3 sc_next_point.nd)) (fun s3 point2 => (ss_asg 4 sc_next_point.nd (ex_lenL (K := K) T.n_len (ex_frz (ex_lc rfl sc_next_point.nd (ei_list (K := K) (ex_var 1)) (own := [("other", 5)]) (by kernel_rfl) rfl rfl (fun _ _ _ _ _ other4 => (eg_name 5 sc_next_point.nd)) (fun _ _ _ _ _ other4 => (ef_one (et_c (ec_eq (ex_ixL (K := K) (ex_ixL (K := K) (ex_var 0) (ex_var 3)) (ex_var 5)) ex_int)))) (fun _ _ _ _ _ other4 => (ex_var 5))))) (fun near5 => (ss_ifE (ew_pt (ew_and (et_c (ec_ninL (K := K) (ex_var 3) (ex_var 1))) (ew_and1 (ew_pt (ew_or (et_c (ec_isOp (ex_var 2))) (ew_or1 (et_c (ec_gt (ex_var 4) (ex_ixP0 (K := K) (ex_unOv (ex_var 2))))))))))) (ss_asg 2 sc_next_point.nd (ex_frz (ex_opS (w := Ow.v) (ex_frz (ex_pair (ex_var 4) (ex_var 3))))) (fun best6 => (ss_nil (best6) (.k (.k (.k (.w (.w (.w .n))))))))) (ss_nil (s3) (.k (.k (.k (.w (.w (.w .n))))))))))) (fun s3 => (ss_ret (ex_ixP1 (K := K) (ex_unOv (ex_var 2))))))))⟩
theorem ok_next_point (T : Txt K mg) {f : Addr} {fd : FuncData} (F : FnP K "next_point" s_next_point f fd) (hm : mg "next_point" = some (.ref f))  : Has P w K mg base "next_point" 1 ["web", "placed"] (sp_next_point K) :=
  ⟨f, fd, ok0_next_point T F , hm, F.kp, F.bindsN fun _ _ _ _ _ _ us hl => match us, hl with | [_, _], _ => rfl⟩
abbrev s_grown_words : Stmt := top 10
theorem sc_grown_words : FnScope ["word", "point", "placed", "web", "due", "found", "first", "second", "told", "other"] ["word", "point", "placed", "web"] (defScope s_grown_words) := ⟨rfl, rfl, rfl, by decide +kernel, rfl, by decide +kernel, by decide +kernel⟩
abbrev sp_grown_words (K : PySem.W.Frag) : Sp := spF K (As.cons (α := Str) (As.cons (α := Int) (As.cons (α := (List Int)) (As.cons (α := (List (List Int))) As.nil)))) ((Ow.l Ow.v) : Ow (List Str)) (fun a => mir_grown_words a.1 a.2.1 a.2.2.1 a.2.2.2.1)
theorem ok0_grown_words (T : Txt K mg) {f : Addr} {fd : FuncData} (F : FnP K "grown_words" s_grown_words f fd) (H_crossed_between : Has P w K mg base "crossed_between" 1 ["word", "letter", "first", "second"] (sp_crossed_between K)) : FnOk P w K mg base CX0 2 f fd ["word", "point", "placed", "web"] (sp_grown_words K) := by
  obtain ⟨f_crossed_between, fd_crossed_between, F_crossed_between, m_crossed_between, k_crossed_between, b_crossed_between⟩ := H_crossed_between
  refine fn_okD (r := (As.cons (α := Str) (As.cons (α := Int) (As.cons (α := (List Int)) (As.cons (α := (List (List Int))) As.nil))))) (o := (Ow.l Ow.v)) (m := fun ar => (((pure ar.2.2.1) >>= fun xs => compM xs (fun (other1 : Int) => (pure true)) (fun (other1 : Int) => ((((pure ar.2.2.2.1) >>= fun a => (pure ar.2.1) >>= fun b => atM a b) >>= fun a => (pure other1) >>= fun b => atM a b) >>= fun a => (pure (1 : Int)) >>= fun b => pure (decide (a = b))))) >>= fun (due2 : (List Bool)) => (((pure ([] : List Str)) >>= fun a => lstM a) >>= fun (found3 : (List Str)) => ((((pure (1 : Int)) >>= fun a => ((pure ar.2.2.1) >>= fun a => pure (a.length : Int)) >>= fun b => pure (if b < a then b else a)) >>= fun a => (((pure ar.1) >>= fun a => lenS a) >>= fun a => (pure (1 : Int)) >>= fun b => pure (a + b)) >>= fun b => range2 a b) >>= fun xs => loopM (S := ((List Str))) (ρ := (List Str)) (fun (first4 : Int) (s5 : ((List Str))) => (((pure first4) >>= fun a => (((pure ar.1) >>= fun a => lenS a) >>= fun a => (pure (1 : Int)) >>= fun b => pure (a + b)) >>= fun b => range2 a b) >>= fun xs => loopM (S := ((List Str))) (ρ := (List Str)) (fun (second6 : Int) (s7 : ((List Str))) => (((pure ar.2.2.1) >>= fun xs => compM xs (fun (other8 : Int) => (pure true)) (fun (other8 : Int) => (((pure ar.1) >>= fun a => (((pure ("abcdefghijklmnopqrstuvwxyz" : Str)) >>= fun a => (pure other8) >>= fun b => atS a b) >>= fun a => ((pure first4) >>= fun a => ((pure second6) >>= fun a => (pure ()) >>= fun b => pure (a, b)) >>= fun b => pure (a, b)) >>= fun b => pure (a, b)) >>= fun b => pure (a, b)) >>= fun a => mir_crossed_between a.1 a.2.1 a.2.2.1 a.2.2.2.1))) >>= fun (told9 : (List Bool)) => (((pure told9) >>= fun a => (pure due2) >>= fun b => eqM a b) >>= fun x => if x then (((((((pure ar.1) >>= fun a => (pure none) >>= fun l => ((pure first4) >>= fun i => pure (some i)) >>= fun u => cutSM a l u) >>= fun a => ((pure ("abcdefghijklmnopqrstuvwxyz" : Str)) >>= fun a => (pure ar.2.1) >>= fun b => atS a b) >>= fun b => addSM a b) >>= fun a => ((pure ar.1) >>= fun a => ((pure first4) >>= fun i => pure (some i)) >>= fun l => ((pure second6) >>= fun i => pure (some i)) >>= fun u => cutSM a l u) >>= fun b => addSM a b) >>= fun a => ((pure ("abcdefghijklmnopqrstuvwxyz" : Str)) >>= fun a => (pure ar.2.1) >>= fun b => atS a b) >>= fun b => addSM a b) >>= fun a => ((pure ar.1) >>= fun a => ((pure second6) >>= fun i => pure (some i)) >>= fun l => (pure none) >>= fun u => cutSM a l u) >>= fun b => addSM a b) >>= fun a => appM s7 a >>= fun (found10 : (List Str)) => (pure (.nx (found10)))) else (pure (.nx (s7)))))) xs (s5) >>= fun c => thenL c (fun (s7 : ((List Str))) => (pure (.nx (s7)))))) xs (found3) >>= fun c => thenL c (fun (s5 : ((List Str))) => (pure (.rt s5))))))) F sc_grown_words rfl rfl (fun cdv A' outer s H E hr ar => ?_)
  have hr_crossed_between := hr.mono (show 1 ≤ 1 by decide)
  exact ⟨_, (ss_asgLc 4 rfl sc_grown_words.nd (ei_list (K := K) (ex_var 2)) (own := [("other", 9)]) (by kernel_rfl) rfl rfl (fun _ _ _ _ _ other1 => (eg_name 9 sc_grown_words.nd)) (fun _ _ _ _ _ other1 => ef_nil) (fun _ _ _ _ _ other1 => (ex_c (ec_eq (ex_ixL (K := K) (ex_ixL (K := K) (ex_var 3) (ex_var 1)) (ex_var 9)) ex_int))) (fun due2 => (ss_asg 5 sc_grown_words.nd (ex_lst (el_nil (o := Ow.v))) (fun found3 => (ss_for (Γs := (fun (s5 : ((List Str))) => [.mk Ow.v ar.1, .mk Ow.v ar.2.1, .mk Ow.v ar.2.2.1, .mk Ow.v ar.2.2.2.1, .mk (Ow.l Ow.v) due2, .mk (Ow.l Ow.v) (s5 : (List Str)), .un, .un, .un, .un])) (found3) rfl PassesOwn.never (ei_range2 T.n_range (ex_min2 rfl T.n_min ex_int (ex_lenL (K := K) T.n_len (ex_var 2))) (ex_add (ex_lenS T.n_len (ex_var 0)) ex_int)) (.k (.k (.k (.k (.k (.k (.w (.w (.w (.w .n)))))))))) (fun s5 first4 => (eg_name 6 sc_grown_words.nd)) (fun s5 first4 => (ss_for (Γs := (fun (s7 : ((List Str))) => [.mk Ow.v ar.1, .mk Ow.v ar.2.1, .mk Ow.v ar.2.2.1, .mk Ow.v ar.2.2.2.1, .mk (Ow.l Ow.v) due2, .mk (Ow.l Ow.v) (s7 : (List Str)), .mk Ow.v first4, .un, .un, .un])) (s5) rfl PassesOwn.never (ei_range2 T.n_range (ex_var 6) (ex_add (ex_lenS T.n_len (ex_var 0)) ex_int)) (.k (.k (.k (.k (.k (.k (.k (.w (.w (.w .n)))))))))) (fun s7 second6 => (eg_name 7 sc_grown_words.nd)) (fun s7 second6 => (ss_asgLc 8 rfl sc_grown_words.nd (ei_list (K := K) (ex_var 2)) (own := [("other", 9)]) (by kernel_rfl) rfl rfl (fun _ _ _ _ _ other8 => (eg_name 9 sc_grown_words.nd)) (fun _ _ _ _ _ other8 => ef_nil) (fun _ _ _ _ _ other8 => (ex_call F_crossed_between hr_crossed_between m_crossed_between k_crossed_between b_crossed_between (ea_cons (ex_var 0) (ea_cons (ex_ixS (ex_gstr T.g_SMALL) (ex_var 9)) (ea_cons (ex_var 6) (ea_cons (ex_var 7) ea_nil)))))) (fun told9 => (ss_ifE (et_view (et_c (ec_eqD (K := K) hr.units (ex_var 8) (ex_var 4)))) (ss_app 5 (ex_addS (ex_addS (ex_addS (ex_addS (ex_cutS (ex_var 0) eo_none (eo_some (ex_var 6))) (ex_ixS (ex_gstr T.g_SMALL) (ex_var 1))) (ex_cutS (ex_var 0) (eo_some (ex_var 6)) (eo_some (ex_var 7)))) (ex_ixS (ex_gstr T.g_SMALL) (ex_var 1))) (ex_cutS (ex_var 0) (eo_some (ex_var 7)) eo_none)) (fun found10 => (ss_nil (found10) (.k (.k (.k (.k (.k (.k (.k (.w (.w (.w .n))))))))))))) (ss_nil (s7) (.k (.k (.k (.k (.k (.k (.k (.w (.w (.w .n))))))))))))))) (fun s7 => (ss_nil (s7) (.k (.k (.k (.k (.k (.k (.w (.w (.w (.w .n)))))))))))))) (fun s5 => (ss_retO 5)))))))⟩
theorem ok_grown_words (T : Txt K mg) {f : Addr} {fd : FuncData} (F : FnP K "grown_words" s_grown_words f fd) (hm : mg "grown_words" = some (.ref f)) (H_crossed_between : Has P w K mg base "crossed_between" 1 ["word", "letter", "first", "second"] (sp_crossed_between K)) : Has P w K mg base "grown_words" 2 ["word", "point", "placed", "web"] (sp_grown_words K) :=
  ⟨f, fd, ok0_grown_words T F H_crossed_between, hm, F.kp, F.bindsN fun _ _ _ _ _ _ us hl => match us, hl with | [_, _, _, _], _ => rfl⟩
abbrev s_word_from : Stmt := top 11
theorem sc_word_from : FnScope ["word", "placed", "web", "point", "longer", "found"] ["word", "placed", "web"] (defScope s_word_from) := ⟨rfl, rfl, rfl, by decide +kernel, rfl, by decide +kernel, by decide +kernel⟩
abbrev sp_word_from (K : PySem.W.Frag) : Sp := spF K (As.cons (α := Str) (As.cons (α := (List Int)) (As.cons (α := (List (List Int))) As.nil))) (Ow.v : Ow (Option Str)) (fun a => mir_word_from a.1 a.2.1 a.2.2.1)
abbrev spf_word_from (K : PySem.W.Frag) (kf : Nat) : Sp := spF K (As.cons (α := Str) (As.cons (α := (List Int)) (As.cons (α := (List (List Int))) As.nil))) (Ow.v : Ow (Option Str)) (fun a => mirf_word_from kf a.1 a.2.1 a.2.2.1)
theorem okf_word_from (T : Txt K mg) {f : Addr} {fd : FuncData} (F : FnP K "word_from" s_word_from f fd) (hm : mg "word_from" = some (.ref f)) (H_next_point : Has P w K mg base "next_point" 1 ["web", "placed"] (sp_next_point K)) (H_grown_words : Has P w K mg base "grown_words" 2 ["word", "point", "placed", "web"] (sp_grown_words K)) (kf : Nat) : FnOk P w K mg base CX0 (3 + kf) f fd ["word", "placed", "web"] (spf_word_from K kf) := by
  obtain ⟨f_next_point, fd_next_point, F_next_point, m_next_point, k_next_point, b_next_point⟩ := H_next_point
  obtain ⟨f_grown_words, fd_grown_words, F_grown_words, m_grown_words, k_grown_words, b_grown_words⟩ := H_grown_words
  have m_word_from := hm
  have k_word_from := F.kp
  have b_word_from : Binds K fd ["word", "placed", "web"] [] := F.bindsN fun _ _ _ _ _ _ us hl => match us, hl with | [_, _, _], _ => rfl
  induction kf with
  | zero => exact fn_none fun a => rfl
  | succ kf F_word_from =>
    refine fn_okD (k := 3 + kf) (r := (As.cons (α := Str) (As.cons (α := (List Int)) (As.cons (α := (List (List Int))) As.nil)))) (o := Ow.v) (m := fun ar => ((((pure ar.2.1) >>= fun a => pure (a.length : Int)) >>= fun a => ((pure ar.2.2.1) >>= fun a => pure (a.length : Int)) >>= fun b => pure (decide (a = b))) >>= fun x => if x then (((((pure ar.1) >>= fun a => pure (some a)) >>= fun r => pure (.rt r)) : M (Ctl Empty Empty (Option Str))) >>= fun y => thenC y nofun) else ((((pure ar.2.2.1) >>= fun a => ((pure ar.2.1) >>= fun a => (pure ()) >>= fun b => pure (a, b)) >>= fun b => pure (a, b)) >>= fun a => mir_next_point a.1 a.2.1) >>= fun (point1 : Int) => ((((pure ar.1) >>= fun a => ((pure point1) >>= fun a => ((pure ar.2.1) >>= fun a => ((pure ar.2.2.1) >>= fun a => (pure ()) >>= fun b => pure (a, b)) >>= fun b => pure (a, b)) >>= fun b => pure (a, b)) >>= fun b => pure (a, b)) >>= fun a => mir_grown_words a.1 a.2.1 a.2.2.1 a.2.2.2.1) >>= fun xs => loopM (S := Unit) (ρ := (Option Str)) (fun (longer2 : Str) (s3 : Unit) => ((((pure longer2) >>= fun a => (((pure ar.2.1) >>= fun a => (((pure point1) >>= fun a => (pure ([] : List Int)) >>= fun b => pure (a :: b)) >>= fun a => lstM a) >>= fun b => catM a b) >>= fun a => ((pure ar.2.2.1) >>= fun a => (pure ()) >>= fun b => pure (a, b)) >>= fun b => pure (a, b)) >>= fun b => pure (a, b)) >>= fun a => mirf_word_from kf a.1 a.2.1 a.2.2.1) >>= fun (found4 : (Option Str)) => (((pure found4) >>= fun a => pure a.isSome) >>= fun x => if x then ((((pure found4) >>= fun r => pure (.rt r)) : M (Ctl Empty Unit (Option Str))) >>= fun y => thenC y nofun) else (pure (.nx ()))))) xs () >>= fun c => thenL c (fun (s3 : Unit) => ((pure (none : Option Str)) >>= fun r => pure (.rt r))))))) F sc_word_from rfl rfl (fun cdv A' outer s H E hr ar => ?_)
    have hr_word_from := hr.mono (Nat.le_refl (3 + kf))
    have hr_next_point := hr.mono (show 1 ≤ 3 + kf by omega)
    have hr_grown_words := hr.mono (show 2 ≤ 3 + kf by omega)
    exact ⟨_, (ss_ifR (et_c (ec_eq (ex_lenL (K := K) T.n_len (ex_var 1)) (ex_lenL (K := K) T.n_len (ex_var 2)))) (ss_ret (ex_someS (ex_var 0))) (ss_asg 3 sc_word_from.nd (ex_call F_next_point hr_next_point m_next_point k_next_point b_next_point (ea_cons (ex_var 2) (ea_cons (ex_var 1) ea_nil))) (fun point1 => (ss_for (Γs := (fun (s3 : Unit) => [.mk Ow.v ar.1, .mk Ow.v ar.2.1, .mk Ow.v ar.2.2.1, .mk Ow.v point1, .un, .un])) () rfl PassesOwn.never (ei_list (K := K) (ex_frz (ex_call F_grown_words hr_grown_words m_grown_words k_grown_words b_grown_words (ea_cons (ex_var 0) (ea_cons (ex_var 3) (ea_cons (ex_var 1) (ea_cons (ex_var 2) ea_nil))))))) (.k (.k (.k (.k (.w (.w .n)))))) (fun s3 longer2 => (eg_name 4 sc_word_from.nd)) (fun s3 longer2 => (ss_asg 5 sc_word_from.nd (ex_call F_word_from hr_word_from m_word_from k_word_from b_word_from (ea_cons (ex_var 4) (ea_cons (ex_frz (ex_cat (ex_var 1) (ex_frz (ex_lst (el_cons (ex_var 3) (el_nil (o := Ow.v))))))) (ea_cons (ex_var 2) ea_nil)))) (fun found4 => (ss_ifR (et_c (ec_notN (ex_var 5))) (ss_ret (ex_var 5)) (ss_nil () (.k (.k (.k (.k (.w (.w .n))))))))))) (fun s3 => (ss_ret ex_nonS))))))⟩
theorem ok_word_from (T : Txt K mg) {f : Addr} {fd : FuncData} (F : FnP K "word_from" s_word_from f fd) (hm : mg "word_from" = some (.ref f)) (H_next_point : Has P w K mg base "next_point" 1 ["web", "placed"] (sp_next_point K)) (H_grown_words : Has P w K mg base "grown_words" 2 ["word", "point", "placed", "web"] (sp_grown_words K)) : Has P w K mg base "word_from" 10 ["word", "placed", "web"] (sp_word_from K) :=
  ⟨f, fd, okf_word_from T F hm H_next_point H_grown_words 7, hm, F.kp, F.bindsN fun _ _ _ _ _ _ us hl => match us, hl with | [_, _, _], _ => rfl⟩
abbrev s_wheel_order : Stmt := top 12
theorem sc_wheel_order : FnScope ["web", "hub", "rim", "order", "near", "point"] ["web"] (defScope s_wheel_order) := ⟨rfl, rfl, rfl, by decide +kernel, rfl, by decide +kernel, by decide +kernel⟩
abbrev sp_wheel_order (K : PySem.W.Frag) : Sp := spF K (As.cons (α := (List (List Int))) As.nil) ((Ow.op (Ow.l Ow.v)) : Ow (Op (List Int))) (fun a => mir_wheel_order a.1)
theorem ok0_wheel_order (T : Txt K mg) {f : Addr} {fd : FuncData} (F : FnP K "wheel_order" s_wheel_order f fd) (H_is_wheel : Has P w K mg base "is_wheel" 1 ["web", "order"] (sp_is_wheel K)) : FnOk P w K mg base CX0 2 f fd ["web"] (sp_wheel_order K) := by
  obtain ⟨f_is_wheel, fd_is_wheel, F_is_wheel, m_is_wheel, k_is_wheel, b_is_wheel⟩ := H_is_wheel
  refine fn_okD (r := (As.cons (α := (List (List Int))) As.nil)) (o := (Ow.op (Ow.l Ow.v))) (m := fun ar => (((pure (6 : Int)) >>= fun a => range1 a) >>= fun xs => loopM (S := Unit) (ρ := (Op (List Int))) (fun (hub1 : Int) (s2 : Unit) => ((((pure (6 : Int)) >>= fun a => range1 a) >>= fun xs => compM xs (fun (point3 : Int) => ((pure point3) >>= fun a => (pure hub1) >>= fun b => pure (!decide (a = b)))) (fun (point3 : Int) => (pure point3))) >>= fun (rim4 : (List Int)) => (lstPM (pure hub1) ((pure (0 : Int)) >>= fun j => popAtM rim4 j) >>= fun (q5 : (List Int) × (List Int)) => (whileM (S := ((List Int) × (List Int))) (ρ := (Op (List Int))) (fun (s6 : ((List Int) × (List Int))) => (((pure s6.2) >>= fun a => pure (a.length : Int)) >>= fun a => (pure (0 : Int)) >>= fun b => pure (decide (b < a)))) (fun (s6 : ((List Int) × (List Int))) => (((pure s6.2) >>= fun xs => compM xs (fun (point7 : Int) => ((((pure ar.1) >>= fun a => ((pure s6.1) >>= fun a => ((pure (1 : Int)) >>= fun a => pure (-a)) >>= fun b => atM a b) >>= fun b => atM a b) >>= fun a => (pure point7) >>= fun b => atM a b) >>= fun a => (pure (1 : Int)) >>= fun b => pure (decide (a = b)))) (fun (point7 : Int) => (pure point7))) >>= fun (near8 : (List Int)) => (((pure near8) >>= fun a => ((pure ([] : List Int)) >>= fun a => lstM a) >>= fun b => eqM a b) >>= fun x => if x then (((pure (.bk (s6.1, s6.2))) : M (Ctl Empty ((List Int) × (List Int)) (Op (List Int)))) >>= fun y => thenC y nofun) else (((pure near8) >>= fun a => (pure (0 : Int)) >>= fun b => atM a b) >>= fun a => appM s6.1 a >>= fun (order9 : (List Int)) => ((((pure near8) >>= fun a => (pure (0 : Int)) >>= fun b => atM a b) >>= fun j => remM s6.2 j >>= fun l => pure ((), l)) >>= fun (q10 : Unit × (List Int)) => (pure (.nx (order9, q10.2)))))))) 1000 (q5.1, q5.2) >>= fun c => thenL c (fun (s6 : ((List Int) × (List Int))) => ((((pure ar.1) >>= fun a => ((pure s6.1) >>= fun a => (pure ()) >>= fun b => pure (a, b)) >>= fun b => pure (a, b)) >>= fun a => mir_is_wheel a.1 a.2.1) >>= fun x => if x then ((((pure s6.1 >>= fun x => pure (⟨some x⟩ : Op (List Int))) >>= fun x => pure (.rt x)) : M (Ctl Empty Unit (Op (List Int)))) >>= fun y => thenC y nofun) else (pure (.nx ())))))))) xs () >>= fun c => thenL c (fun (s2 : Unit) => ((pure (⟨none⟩ : Op (List Int))) >>= fun r => pure (.rt r))))) F sc_wheel_order rfl rfl (fun cdv A' outer s H E hr ar => ?_)
  have hr_is_wheel := hr.mono (show 1 ≤ 1 by decide)
  exact ⟨_, (ss_for (Γs := (fun (s2 : Unit) => [.mk Ow.v ar.1, .un, .un, .un, .un, .un])) () rfl PassesOwn.never (ei_range1 T.n_range ex_int) (.k (.w (.w (.w (.w (.w .n)))))) (fun s2 hub1 => (eg_name 1 sc_wheel_order.nd)) (fun s2 hub1 => (ss_asgLc 2 rfl sc_wheel_order.nd (ei_range1 T.n_range ex_int) (own := [("point", 5)]) (by kernel_rfl) rfl rfl (fun _ _ _ _ _ point3 => (eg_name 5 sc_wheel_order.nd)) (fun _ _ _ _ _ point3 => (ef_one (et_c (ec_ne (ex_var 5) (ex_var 1))))) (fun _ _ _ _ _ point3 => (ex_var 5)) (fun rim4 => (ss_asgLP 2 3 sc_wheel_order.nd (ex_var 1) (ep_popAt 2 ex_int) (fun q5 => (ss_while (Γs := (fun (s6 : ((List Int) × (List Int))) => [.mk Ow.v ar.1, .mk Ow.v hub1, .mk (Ow.l Ow.v) (s6.2 : (List Int)), .mk (Ow.l Ow.v) (s6.1 : (List Int)), .un, .un])) 1000 (q5.1, q5.2) PassesOwn.never (.k (.k (.k (.k (.w (.w .n)))))) (fun s6 => (et_view (et_c (ec_gt (ex_lenL (K := K) T.n_len (ex_var 2)) ex_int)))) (fun s6 => (ss_asgLcV 4 rfl sc_wheel_order.nd (ei_list (K := K) (ex_var 2)) (own := [("point", 5)]) (by kernel_rfl) rfl rfl (fun _ _ _ _ _ point7 => (eg_name 5 sc_wheel_order.nd)) (fun _ _ _ _ _ point7 => (ef_one (et_c (ec_eq (ex_ixL (K := K) (ex_ixL (K := K) (ex_var 0) (ex_ixL (K := K) (ex_var 3) (ex_neg ex_int))) (ex_var 5)) ex_int)))) (fun _ _ _ _ _ point7 => (ex_var 5)) (fun near8 => (ss_frz 4 rfl (ss_ifR (et_c (ec_eqD (K := K) hr.units (ex_var 4) (ex_frz (ex_lst (el_nil (o := Ow.v)))))) (ss_break (s6.1, s6.2) (.k (.k (.k (.k (.w (.w .n))))))) (ss_app 3 (ex_ixL (K := K) (ex_var 4) ex_int) (fun order9 => (ss_dropP (α := Int) (β := Unit) 2 (ep_rem 2 (ex_ixL (K := K) (ex_var 4) ex_int)) (fun q10 => (ss_nil (order9, q10.2) (.k (.k (.k (.k (.w (.w .n)))))))))))))))) (fun s6 => (ss_ifR (et_view (et_val (ex_call F_is_wheel hr_is_wheel m_is_wheel k_is_wheel b_is_wheel (ea_cons (ex_var 0) (ea_cons (ex_var 3) ea_nil))))) (ss_ret1V (ev_op (ev_var 3))) (ss_nil () (.k (.w (.w (.w (.w (.w .n))))))))))))))) (fun s2 => (ss_ret (ex_opN (w := (Ow.l Ow.v))))))⟩
theorem ok_wheel_order (T : Txt K mg) {f : Addr} {fd : FuncData} (F : FnP K "wheel_order" s_wheel_order f fd) (hm : mg "wheel_order" = some (.ref f)) (H_is_wheel : Has P w K mg base "is_wheel" 1 ["web", "order"] (sp_is_wheel K)) : Has P w K mg base "wheel_order" 2 ["web"] (sp_wheel_order K) :=
  ⟨f, fd, ok0_wheel_order T F H_is_wheel, hm, F.kp, F.bindsN fun _ _ _ _ _ _ us hl => match us, hl with | [_], _ => rfl⟩
abbrev s_turns_to_wheel : Stmt := top 13
theorem sc_turns_to_wheel : FnScope ["web", "webs", "ways", "at", "order", "point", "other"] ["web"] (defScope s_turns_to_wheel) := ⟨rfl, rfl, rfl, by decide +kernel, rfl, by decide +kernel, by decide +kernel⟩
abbrev sp_turns_to_wheel (K : PySem.W.Frag) : Sp := spF K (As.cons (α := (List (List Int))) As.nil) ((Ow.p (Ow.l Ow.v) (Ow.l Ow.v)) : Ow ((List Int) × (List Int))) (fun a => mir_turns_to_wheel a.1)
theorem ok0_turns_to_wheel (T : Txt K mg) {f : Addr} {fd : FuncData} (F : FnP K "turns_to_wheel" s_turns_to_wheel f fd) (H_wheel_order : Has P w K mg base "wheel_order" 2 ["web"] (sp_wheel_order K)) (H_turned_web : Has P w K mg base "turned_web" 1 ["web", "point"] (sp_turned_web K)) : FnOk P w K mg base CX0 3 f fd ["web"] (sp_turns_to_wheel K) := by
  obtain ⟨f_wheel_order, fd_wheel_order, F_wheel_order, m_wheel_order, k_wheel_order, b_wheel_order⟩ := H_wheel_order
  obtain ⟨f_turned_web, fd_turned_web, F_turned_web, m_turned_web, k_turned_web, b_turned_web⟩ := H_turned_web
  refine fn_okD (r := (As.cons (α := (List (List Int))) As.nil)) (o := (Ow.p (Ow.l Ow.v) (Ow.l Ow.v))) (m := fun ar => ((((pure ar.1) >>= fun a => (pure ([] : List (List (List Int)))) >>= fun b => pure (a :: b)) >>= fun a => lstM a) >>= fun (webs1 : (List (List (List Int)))) => (((((pure ([] : List Int)) >>= fun a => lstM a) >>= fun a => (pure ([] : List (List Int))) >>= fun b => pure (a :: b)) >>= fun a => lstM a) >>= fun (ways2 : (List (List Int))) => ((pure (0 : Int)) >>= fun (at3 : Int) => ((((pure ar.1) >>= fun a => (pure ()) >>= fun b => pure (a, b)) >>= fun a => mir_wheel_order a.1) >>= fun (order4 : (Op (List Int))) => (whileM (S := ((List (List (List Int))) × (List (List Int)) × Int × (Op (List Int)))) (ρ := ((List Int) × (List Int))) (fun (s5 : ((List (List (List Int))) × (List (List Int)) × Int × (Op (List Int)))) => ((pure s5.2.2.2) >>= fun a => pure a.o.isNone)) (fun (s5 : ((List (List (List Int))) × (List (List Int)) × Int × (Op (List Int)))) => (((pure (6 : Int)) >>= fun a => range1 a) >>= fun xs => loopM (S := ((List (List (List Int))) × (List (List Int)))) (ρ := ((List Int) × (List Int))) (fun (point6 : Int) (s7 : ((List (List (List Int))) × (List (List Int)))) => (((((pure s5.2.2.1) >>= fun b => atM s7.1 b) >>= fun a => ((pure point6) >>= fun a => (pure ()) >>= fun b => pure (a, b)) >>= fun b => pure (a, b)) >>= fun a => mir_turned_web a.1 a.2.1) >>= fun (other8 : (List (List Int))) => (((pure other8) >>= fun a => (pure s7.1) >>= fun b => inDM a b >>= fun c => pure (!c)) >>= fun x => if x then ((pure other8) >>= fun a => appM s7.1 a >>= fun (webs9 : (List (List (List Int)))) => ((((pure s7.2) >>= fun a => (pure s5.2.2.1) >>= fun b => atM a b) >>= fun a => (((pure point6) >>= fun a => (pure ([] : List Int)) >>= fun b => pure (a :: b)) >>= fun a => lstM a) >>= fun b => catM a b) >>= fun a => appM s7.2 a >>= fun (ways10 : (List (List Int))) => (pure (.nx (webs9, ways10))))) else (pure (.nx (s7.1, s7.2)))))) xs (s5.1, s5.2.1) >>= fun c => thenL c (fun (s7 : ((List (List (List Int))) × (List (List Int)))) => (((pure s5.2.2.1) >>= fun a => (pure (1 : Int)) >>= fun b => pure (a + b)) >>= fun (at11 : Int) => (((((pure at11) >>= fun b => atM s7.1 b) >>= fun a => (pure ()) >>= fun b => pure (a, b)) >>= fun a => mir_wheel_order a.1) >>= fun (order12 : (Op (List Int))) => (pure (.nx (s7.1, s7.2, at11, order12)))))))) 1000 (webs1, ways2, at3, order4) >>= fun c => thenL c (fun (s5 : ((List (List (List Int))) × (List (List Int)) × Int × (Op (List Int)))) => (((pure s5.2.2.1) >>= fun j => atM s5.2.1 j) >>= fun x => (ofO s5.2.2.2.o) >>= fun y => pure (.rt (x, y)))))))))) F sc_turns_to_wheel rfl rfl (fun cdv A' outer s H E hr ar => ?_)
  have hr_wheel_order := hr.mono (show 2 ≤ 2 by decide)
  have hr_turned_web := hr.mono (show 1 ≤ 2 by decide)
  exact ⟨_, (ss_asg 1 sc_turns_to_wheel.nd (ex_lst (el_cons (ex_var 0) (el_nil (o := Ow.v)))) (fun webs1 => (ss_asg 2 sc_turns_to_wheel.nd (ex_lst (el_cons (ex_lst (el_nil (o := Ow.v))) (el_nil (o := (Ow.l Ow.v))))) (fun ways2 => (ss_asg 3 sc_turns_to_wheel.nd ex_int (fun at3 => (ss_asg 4 sc_turns_to_wheel.nd (ex_call F_wheel_order hr_wheel_order m_wheel_order k_wheel_order b_wheel_order (ea_cons (ex_var 0) ea_nil)) (fun order4 => (ss_while (Γs := (fun (s5 : ((List (List (List Int))) × (List (List Int)) × Int × (Op (List Int)))) => [.mk Ow.v ar.1, .mk (Ow.l Ow.v) (s5.1 : (List (List (List Int)))), .mk (Ow.l (Ow.l Ow.v)) (s5.2.1 : (List (List Int))), .mk Ow.v (s5.2.2.1 : Int), .mk (Ow.op (Ow.l Ow.v)) (s5.2.2.2 : (Op (List Int))), .un, .un])) 1000 (webs1, ways2, at3, order4) PassesOwn.never (.k (.k (.k (.k (.k (.w (.w .n))))))) (fun s5 => (et_view (et_c (ec_isOp (ex_var 4))))) (fun s5 => (ss_for (Γs := (fun (s7 : ((List (List (List Int))) × (List (List Int)))) => [.mk Ow.v ar.1, .mk (Ow.l Ow.v) (s7.1 : (List (List (List Int)))), .mk (Ow.l (Ow.l Ow.v)) (s7.2 : (List (List Int))), .mk Ow.v s5.2.2.1, .mk (Ow.op (Ow.l Ow.v)) s5.2.2.2, .un, .un])) (s5.1, s5.2.1) rfl PassesOwn.never (ei_range1 T.n_range ex_int) (.k (.k (.k (.k (.k (.w (.w .n))))))) (fun s7 point6 => (eg_name 5 sc_turns_to_wheel.nd)) (fun s7 point6 => (ss_asg 6 sc_turns_to_wheel.nd (ex_frz (ex_call F_turned_web hr_turned_web m_turned_web k_turned_web b_turned_web (ea_cons (ex_ixOv (K := K) 1 (ex_var 3)) (ea_cons (ex_var 5) ea_nil)))) (fun other8 => (ss_ifE (et_view (et_c (ec_ninD (K := K) (un65 hr) (ex_var 6) (ex_var 1)))) (ss_app 1 (ex_var 6) (fun webs9 => (ss_app 2 (ex_view (ex_cat (ex_ixL (K := K) (ex_var 2) (ex_var 3)) (ex_frz (ex_lst (el_cons (ex_var 5) (el_nil (o := Ow.v))))))) (fun ways10 => (ss_nil (webs9, ways10) (.k (.k (.k (.k (.k (.w (.w .n)))))))))))) (ss_nil (s7.1, s7.2) (.k (.k (.k (.k (.k (.w (.w .n)))))))))))) (fun s7 => (ss_asg 3 sc_turns_to_wheel.nd (ex_add (ex_var 3) ex_int) (fun at11 => (ss_asg 4 sc_turns_to_wheel.nd (ex_call F_wheel_order hr_wheel_order m_wheel_order k_wheel_order b_wheel_order (ea_cons (ex_ixOv (K := K) 1 (ex_var 3)) ea_nil)) (fun order12 => (ss_nil (s7.1, s7.2, at11, order12) (.k (.k (.k (.k (.k (.w (.w .n))))))))))))))) (fun s5 => (ss_ret2V (ev_ix (K := K) 2 (ex_var 3)) (ev_opt 4))))))))))))⟩
theorem ok_turns_to_wheel (T : Txt K mg) {f : Addr} {fd : FuncData} (F : FnP K "turns_to_wheel" s_turns_to_wheel f fd) (hm : mg "turns_to_wheel" = some (.ref f)) (H_wheel_order : Has P w K mg base "wheel_order" 2 ["web"] (sp_wheel_order K)) (H_turned_web : Has P w K mg base "turned_web" 1 ["web", "point"] (sp_turned_web K)) : Has P w K mg base "turns_to_wheel" 3 ["web"] (sp_turns_to_wheel K) :=
  ⟨f, fd, ok0_turns_to_wheel T F H_wheel_order H_turned_web, hm, F.kp, F.bindsN fun _ _ _ _ _ _ us hl => match us, hl with | [_], _ => rfl⟩
abbrev s_told_web : Stmt := top 14
theorem sc_told_web : FnScope ["web", "word", "turns", "order"] ["web"] (defScope s_told_web) := ⟨rfl, rfl, rfl, by decide +kernel, rfl, by decide +kernel, by decide +kernel⟩
abbrev sp_told_web (K : PySem.W.Frag) : Sp := spF K (As.cons (α := (List (List Int))) As.nil) (Ow.v : Ow Tw) (fun a => mir_told_web a.1)
theorem ok0_told_web (T : Txt K mg) {f : Addr} {fd : FuncData} (F : FnP K "told_web" s_told_web f fd) (H_word_from : Has P w K mg base "word_from" 10 ["word", "placed", "web"] (sp_word_from K)) (H_turns_to_wheel : Has P w K mg base "turns_to_wheel" 3 ["web"] (sp_turns_to_wheel K)) : FnOk P w K mg base CX0 11 f fd ["web"] (sp_told_web K) := by
  obtain ⟨f_word_from, fd_word_from, F_word_from, m_word_from, k_word_from, b_word_from⟩ := H_word_from
  obtain ⟨f_turns_to_wheel, fd_turns_to_wheel, F_turns_to_wheel, m_turns_to_wheel, k_turns_to_wheel, b_turns_to_wheel⟩ := H_turns_to_wheel
  refine fn_okD (r := (As.cons (α := (List (List Int))) As.nil)) (o := Ow.v) (m := fun ar => ((((pure ar.1) >>= fun a => pure (a.length : Int)) >>= fun a => (pure (6 : Int)) >>= fun b => pure (decide (b < a))) >>= fun x => if x then (((no) : M (Ctl Empty Empty Tw)) >>= fun y => thenC y nofun) else ((((pure ("" : Str)) >>= fun a => (((pure ([] : List Int)) >>= fun a => lstM a) >>= fun a => ((pure ar.1) >>= fun a => (pure ()) >>= fun b => pure (a, b)) >>= fun b => pure (a, b)) >>= fun b => pure (a, b)) >>= fun a => mir_word_from a.1 a.2.1 a.2.2.1) >>= fun (word1 : (Option Str)) => (((pure word1) >>= fun a => pure a.isSome) >>= fun x => if x then ((((((pure ("word" : Str)) >>= fun a => ((pure word1) >>= fun a => ofO a) >>= fun b => pure (a, b)) >>= fun a => gd (decide (a.1 = ("word" : Str))) >>= fun _ => pure (Tw.w a.2)) >>= fun r => pure (.rt r)) : M (Ctl Empty Empty Tw)) >>= fun y => thenC y nofun) else ((((pure ar.1) >>= fun a => (pure ()) >>= fun b => pure (a, b)) >>= fun a => mir_turns_to_wheel a.1) >>= fun (u2 : ((List Int) × (List Int))) => ((((pure ("none" : Str)) >>= fun a => (pure u2.1) >>= fun b => (pure u2.2) >>= fun c => pure (T3.mk a b c)) >>= fun a => gd (decide (a.a = ("none" : Str))) >>= fun _ => pure (Tw.n a.b a.c)) >>= fun r => pure (.rt r))))))) F sc_told_web rfl rfl (fun cdv A' outer s H E hr ar => ?_)
  have hr_word_from := hr.mono (show 10 ≤ 10 by decide)
  have hr_turns_to_wheel := hr.mono (show 3 ≤ 10 by decide)
  exact ⟨_, (ss_ifR (et_c (ec_gt (ex_lenL (K := K) T.n_len (ex_var 0)) (ex_gint T.g_MOST_POINTS))) (ss_no) (ss_asg 1 sc_told_web.nd (ex_call F_word_from hr_word_from m_word_from k_word_from b_word_from (ea_cons ex_str (ea_cons (ex_frz (ex_lst (el_nil (o := Ow.v)))) (ea_cons (ex_var 0) ea_nil)))) (fun word1 => (ss_ifR (et_c (ec_notN (ex_var 1))) (ss_ret (ex_twP (ex_frz (ex_pair ex_str (ex_unOS (ex_var 1)))))) (ss_asgT (ex_frz (ex_call F_turns_to_wheel hr_turns_to_wheel m_turns_to_wheel k_turns_to_wheel b_turns_to_wheel (ea_cons (ex_var 0) ea_nil))) (fun u2 => (eg_pair (K := K) rfl (eg_name 2 sc_told_web.nd) (eg_name 3 sc_told_web.nd))) (fun u2 => (ss_ret (ex_twT (ex_frz (ex_triple ex_str (ex_var 2) (ex_var 3)))))))))))⟩
theorem ok_told_web (T : Txt K mg) {f : Addr} {fd : FuncData} (F : FnP K "told_web" s_told_web f fd) (hm : mg "told_web" = some (.ref f)) (H_word_from : Has P w K mg base "word_from" 10 ["word", "placed", "web"] (sp_word_from K)) (H_turns_to_wheel : Has P w K mg base "turns_to_wheel" 3 ["web"] (sp_turns_to_wheel K)) : Has P w K mg base "told_web" 11 ["web"] (sp_told_web K) :=
  ⟨f, fd, ok0_told_web T F H_word_from H_turns_to_wheel, hm, F.kp, F.bindsN fun _ _ _ _ _ _ us hl => match us, hl with | [_], _ => rfl⟩
abbrev s__law_cell : Stmt := top 16
theorem sc__law_cell : FnScope ["_law_script", "_law_k", "_law_cell_here", "_law_mixed"] ["_law_script", "_law_k"] (defScope s__law_cell) := ⟨rfl, rfl, rfl, by decide +kernel, rfl, by decide +kernel, by decide +kernel⟩
abbrev sp__law_cell (K : PySem.W.Frag) : Sp := spF K (As.cons (α := Scr) (As.cons (α := Int) As.nil)) (Ow.v : Ow Int) (fun a => mir__law_cell a.1 a.2.1)
theorem ok0__law_cell (T : Txt K mg) {f : Addr} {fd : FuncData} (F : FnP K "_law_cell" s__law_cell f fd)  : FnOk P w K mg base CX0 1 f fd ["_law_script", "_law_k"] (sp__law_cell K) := by
  refine fn_okD (r := (As.cons (α := Scr) (As.cons (α := Int) As.nil))) (o := Ow.v) (m := fun ar => ((pure (0 : Int)) >>= fun (cell_here1 : Int) => (((pure ar.2.1) >>= fun a => ((pure ar.1) >>= fun a => pure (a.l.length : Int)) >>= fun b => pure (decide (a < b))) >>= fun x => ((if x then (((pure ar.1) >>= fun a => (pure ar.2.1) >>= fun b => atM a.l b) >>= fun (cell_here3 : Int) => (pure (.nx (cell_here3)))) else (pure (.nx (cell_here1)))) : M (Ctl (Int) Empty Int)) >>= fun y => thenC y (fun (s2 : (Int)) => (((((((pure s2) >>= fun a => pure (a % (2147483647 : Int))) >>= fun a => ((pure ar.2.1) >>= fun b => pure ((7919 : Int) * b)) >>= fun b => pure (a + b)) >>= fun a => (pure (1 : Int)) >>= fun b => pure (a + b)) >>= fun a => pure (a * (48271 : Int))) >>= fun a => pure (a % (2147483647 : Int))) >>= fun (mixed4 : Int) => (((((pure mixed4) >>= fun a => pure (a * (69621 : Int))) >>= fun a => (pure ar.2.1) >>= fun b => pure (a + b)) >>= fun a => pure (a % (2147483647 : Int))) >>= fun r => pure (.rt r))))))) F sc__law_cell rfl rfl (fun cdv A' outer s H E hr ar => ?_)
  exact ⟨_, (ss_asg 2 sc__law_cell.nd ex_int (fun cell_here1 => (ss_if (Γ1 := (fun (s2 : (Int)) => [.mk Ow.v ar.1, .mk Ow.v ar.2.1, .mk Ow.v (s2 : Int), .un])) (et_c (ec_lt (ex_var 1) (ex_lenScr (K := K) T.n_len (ex_var 0)))) (ss_asg 2 sc__law_cell.nd (ex_ixScr (K := K) (ex_var 0) (ex_var 1)) (fun cell_here3 => (ss_nil (cell_here3) (.k (.k (.k (.w .n))))))) (ss_nil (cell_here1) (.k (.k (.k (.w .n))))) (fun s2 => (ss_asg 3 sc__law_cell.nd (ex_modc (ex_mulc (ex_add (ex_add (ex_modc (ex_var 2)) (ex_cmul (ex_var 1))) ex_int))) (fun mixed4 => (ss_ret (ex_modc (ex_add (ex_mulc (ex_var 3)) (ex_var 1))))))))))⟩
theorem ok__law_cell (T : Txt K mg) {f : Addr} {fd : FuncData} (F : FnP K "_law_cell" s__law_cell f fd) (hm : mg "_law_cell" = some (.ref f))  : Has P w K mg base "_law_cell" 1 ["_law_script", "_law_k"] (sp__law_cell K) :=
  ⟨f, fd, ok0__law_cell T F , hm, F.kp, F.bindsN fun _ _ _ _ _ _ us hl => match us, hl with | [_, _], _ => rfl⟩
abbrev s__law_shuffled : Stmt := top 17
theorem sc__law_shuffled : FnScope ["_law_things", "_law_number", "_law_left", "_law_found"] ["_law_things", "_law_number"] (defScope s__law_shuffled) := ⟨rfl, rfl, rfl, by decide +kernel, rfl, by decide +kernel, by decide +kernel⟩
abbrev sp__law_shuffled (K : PySem.W.Frag) : Sp := spF K (As.cons (α := (List Int)) (As.cons (α := Int) As.nil)) ((Ow.l Ow.v) : Ow (List Int)) (fun a => mir__law_shuffled a.1 a.2.1)
theorem ok0__law_shuffled (T : Txt K mg) {f : Addr} {fd : FuncData} (F : FnP K "_law_shuffled" s__law_shuffled f fd)  : FnOk P w K mg base CX0 1 f fd ["_law_things", "_law_number"] (sp__law_shuffled K) := by
  refine fn_okD (r := (As.cons (α := (List Int)) (As.cons (α := Int) As.nil))) (o := (Ow.l Ow.v)) (m := fun ar => (((pure ar.1) >>= fun a => pure a) >>= fun (left1 : (List Int)) => (((pure ([] : List Int)) >>= fun a => lstM a) >>= fun (found2 : (List Int)) => (whileM (S := (Int × (List Int) × (List Int))) (ρ := (List Int)) (fun (s3 : (Int × (List Int) × (List Int))) => ((pure s3.2.2) >>= fun a => ((pure ([] : List Int)) >>= fun a => lstM a) >>= fun b => neM a b)) (fun (s3 : (Int × (List Int) × (List Int))) => (((((pure s3.1) >>= fun a => pure (a * (48271 : Int))) >>= fun a => (pure (7919 : Int)) >>= fun b => pure (a + b)) >>= fun a => pure (a % (2147483647 : Int))) >>= fun (number4 : Int) => (((((pure number4) >>= fun a => pure (a / (64 : Int))) >>= fun a => ((pure s3.2.2) >>= fun a => pure (a.length : Int)) >>= fun b => modM a b) >>= fun j => popAtM s3.2.2 j) >>= fun (q6 : Int × (List Int)) => appM s3.2.1 q6.1 >>= fun (found5 : (List Int)) => (pure (.nx (number4, found5, q6.2)))))) 1000 (ar.2.1, found2, left1) >>= fun c => thenL c (fun (s3 : (Int × (List Int) × (List Int))) => (pure (.rt s3.2.1))))))) F sc__law_shuffled rfl rfl (fun cdv A' outer s H E hr ar => ?_)
  exact ⟨_, (ss_asg 2 sc__law_shuffled.nd (ex_listL (K := K) T.n_list (ex_var 0)) (fun left1 => (ss_asg 3 sc__law_shuffled.nd (ex_lst (el_nil (o := Ow.v))) (fun found2 => (ss_while (Γs := (fun (s3 : (Int × (List Int) × (List Int))) => [.mk Ow.v ar.1, .mk Ow.v (s3.1 : Int), .mk (Ow.l Ow.v) (s3.2.2 : (List Int)), .mk (Ow.l Ow.v) (s3.2.1 : (List Int))])) 1000 (ar.2.1, found2, left1) PassesOwn.never (.k (.k (.k (.k .n)))) (fun s3 => (et_view (et_c (ec_neD (K := K) hr.units (ex_var 2) (ex_frz (ex_lst (el_nil (o := Ow.v)))))))) (fun s3 => (ss_asg 1 sc__law_shuffled.nd (ex_modc (ex_add (ex_mulc (ex_var 1)) ex_int)) (fun number4 => (ss_appP (α := Int) (β := Int) 2 3 (ep_popAt 2 (ex_view (ex_mod (ex_fdivc (ex_var 1)) (ex_lenL (K := K) T.n_len (ex_var 2))))) (fun q6 found5 => (ss_nil (number4, found5, q6.2) (.k (.k (.k (.k .n)))))))))) (fun s3 => (ss_retO 3)))))))⟩
theorem ok__law_shuffled (T : Txt K mg) {f : Addr} {fd : FuncData} (F : FnP K "_law_shuffled" s__law_shuffled f fd) (hm : mg "_law_shuffled" = some (.ref f))  : Has P w K mg base "_law_shuffled" 1 ["_law_things", "_law_number"] (sp__law_shuffled K) :=
  ⟨f, fd, ok0__law_shuffled T F , hm, F.kp, F.bindsN fun _ _ _ _ _ _ us hl => match us, hl with | [_, _], _ => rfl⟩
abbrev s__law_web : Stmt := top 18
theorem sc__law_web : FnScope ["_law_word", "_law_letters", "_law_places", "_law_web_here", "_law_one", "_law_row", "_law_other", "_law_inner", "_law_letter", "_law_at", "_law_sign"] ["_law_word"] (defScope s__law_web) := ⟨rfl, rfl, rfl, by decide +kernel, rfl, by decide +kernel, by decide +kernel⟩
abbrev sp__law_web (K : PySem.W.Frag) : Sp := spF K (As.cons (α := Str) As.nil) (Ow.v : Ow (List (List Int))) (fun a => mir__law_web a.1)
theorem ok0__law_web (T : Txt K mg) {f : Addr} {fd : FuncData} (F : FnP K "_law_web" s__law_web f fd)  : FnOk P w K mg base CX0 1 f fd ["_law_word"] (sp__law_web K) := by
  refine fn_okD (r := (As.cons (α := Str) As.nil)) (o := Ow.v) (m := fun ar => (((pure ar.1) >>= fun a => sortTxtM a) >>= fun (letters1 : (List Str)) => (((pure letters1) >>= fun xs => compM xs (fun (letter2 : Str) => (pure true)) (fun (letter2 : Str) => (((pure ar.1) >>= fun a => pure (enumL (a.cps.toList.map sgS))) >>= fun xs => compM xs (fun (at3 : (Int × Str)) => ((pure at3.2) >>= fun a => (pure letter2) >>= fun b => pure (decide (a = b)))) (fun (at3 : (Int × Str)) => (pure at3.1))))) >>= fun (places4 : (List (List Int))) => (((pure ([] : List (List Int))) >>= fun a => lstM a) >>= fun (web_here5 : (List (List Int))) => ((pure places4) >>= fun xs => loopM (S := ((List (List Int)))) (ρ := (List (List Int))) (fun (one6 : (List Int)) (s7 : ((List (List Int)))) => (((pure ([] : List Int)) >>= fun a => lstM a) >>= fun (row8 : (List Int)) => ((pure places4) >>= fun xs => loopM (S := ((List Int))) (ρ := (List (List Int))) (fun (other9 : (List Int)) (s10 : ((List Int))) => (((pure other9) >>= fun xs => compM xs (fun (at11 : Int) => (chainM (fun a b => decide (a < b)) (fun a b => decide (a < b)) ((pure one6) >>= fun a => (pure (0 : Int)) >>= fun b => atM a b) (pure at11) ((pure one6) >>= fun a => (pure (1 : Int)) >>= fun b => atM a b))) (fun (at11 : Int) => (pure at11))) >>= fun (inner12 : (List Int)) => (((((pure inner12) >>= fun a => pure (a.length : Int)) >>= fun a => (pure (1 : Int)) >>= fun b => pure (decide (a = b))) >>= fun a => pure (if a then (1 : Int) else 0)) >>= fun a => appM s10 a >>= fun (row13 : (List Int)) => (pure (.nx (row13)))))) xs (row8) >>= fun c => thenL c (fun (s10 : ((List Int))) => ((pure s10) >>= fun a => appM s7 a >>= fun (web_here15 : (List (List Int))) => (pure (.nx (web_here15)))))))) xs (web_here5) >>= fun c => thenL c (fun (s7 : ((List (List Int)))) => ((pure s7) >>= fun r => pure (.rt r)))))))) F sc__law_web rfl rfl (fun cdv A' outer s H E hr ar => ?_)
  exact ⟨_, (ss_asg 1 sc__law_web.nd (ex_sortSetX (K := K) rfl T.n_sorted T.n_set (ex_var 0)) (fun letters1 => (ss_asgLcV 2 rfl sc__law_web.nd (ei_list (K := K) (ex_var 1)) (own := [("_law_letter", 8)]) (by kernel_rfl) rfl rfl (fun _ _ _ _ _ letter2 => (eg_name 8 sc__law_web.nd)) (fun _ _ _ _ _ letter2 => ef_nil) (fun _ _ _ _ _ letter2 => (ex_lc rfl sc__law_web.nd (ei_enumS T.n_enumerate (ex_var 0)) (own := [("_law_at", 9), ("_law_sign", 10)]) (by kernel_rfl) rfl rfl (fun _ _ _ _ _ at3 => (eg_pair (K := K) rfl (eg_name 9 sc__law_web.nd) (eg_name 10 sc__law_web.nd))) (fun _ _ _ _ _ at3 => (ef_one (et_c (ec_eq (ex_var 10) (ex_var 8))))) (fun _ _ _ _ _ at3 => (ex_var 9)))) (fun places4 => (ss_asg 3 sc__law_web.nd (ex_lst (el_nil (o := Ow.v))) (fun web_here5 => (ss_frz 2 rfl (ss_for (Γs := (fun (s7 : ((List (List Int)))) => [.mk Ow.v ar.1, .mk (Ow.l Ow.v) letters1, .mk Ow.v places4, .mk (Ow.l Ow.v) (s7 : (List (List Int))), .un, .un, .un, .un, .un, .un, .un])) (web_here5) rfl PassesOwn.never (ei_list (K := K) (ex_var 2)) (.k (.k (.k (.k (.w (.w (.w (.w (.w (.w (.w .n))))))))))) (fun s7 one6 => (eg_name 4 sc__law_web.nd)) (fun s7 one6 => (ss_asg 5 sc__law_web.nd (ex_lst (el_nil (o := Ow.v))) (fun row8 => (ss_for (Γs := (fun (s10 : ((List Int))) => [.mk Ow.v ar.1, .mk (Ow.l Ow.v) letters1, .mk Ow.v places4, .mk (Ow.l Ow.v) s7, .mk Ow.v one6, .mk (Ow.l Ow.v) (s10 : (List Int)), .un, .un, .un, .un, .un])) (row8) rfl PassesOwn.never (ei_list (K := K) (ex_var 2)) (.k (.k (.k (.k (.k (.k (.w (.w (.w (.w (.w .n))))))))))) (fun s10 other9 => (eg_name 6 sc__law_web.nd)) (fun s10 other9 => (ss_asgLc 7 rfl sc__law_web.nd (ei_list (K := K) (ex_var 6)) (own := [("_law_at", 9)]) (by kernel_rfl) rfl rfl (fun _ _ _ _ _ at11 => (eg_name 9 sc__law_web.nd)) (fun _ _ _ _ _ at11 => (ef_one (et_chain (p := fun a b => decide (a < b)) (q := fun a b => decide (a < b)) op_lt op_lt (ex_ixL (K := K) (ex_var 4) ex_int) (ex_var 9) (ex_ixL (K := K) (ex_var 4) ex_int)))) (fun _ _ _ _ _ at11 => (ex_var 9)) (fun inner12 => (ss_app 5 (ex_view (ex_intB T.n_int (ex_c (ec_eq (ex_lenL (K := K) T.n_len (ex_var 7)) ex_int)))) (fun row13 => (ss_nil (row13) (.k (.k (.k (.k (.k (.k (.w (.w (.w (.w (.w .n))))))))))))))))) (fun s10 => (ss_frz 5 rfl (ss_app 3 (ex_var 5) (fun web_here15 => (ss_nil (web_here15) (.k (.k (.k (.k (.w (.w (.w (.w (.w (.w (.w .n)))))))))))))))))))) (fun s7 => (ss_frz 3 rfl (ss_ret (ex_var 3))))))))))))⟩
theorem ok__law_web (T : Txt K mg) {f : Addr} {fd : FuncData} (F : FnP K "_law_web" s__law_web f fd) (hm : mg "_law_web" = some (.ref f))  : Has P w K mg base "_law_web" 1 ["_law_word"] (sp__law_web K) :=
  ⟨f, fd, ok0__law_web T F , hm, F.kp, F.bindsN fun _ _ _ _ _ _ us hl => match us, hl with | [_], _ => rfl⟩
abbrev s__law_turned : Stmt := top 19
theorem sc__law_turned : FnScope ["_law_web_here", "_law_point", "_law_made_here", "_law_k", "_law_row", "_law_j", "_law_near"] ["_law_web_here", "_law_point"] (defScope s__law_turned) := ⟨rfl, rfl, rfl, by decide +kernel, rfl, by decide +kernel, by decide +kernel⟩
abbrev sp__law_turned (K : PySem.W.Frag) : Sp := spF K (As.cons (α := (List (List Int))) (As.cons (α := Int) As.nil)) ((Ow.l (Ow.l Ow.v)) : Ow (List (List Int))) (fun a => mir__law_turned a.1 a.2.1)
theorem ok0__law_turned (T : Txt K mg) {f : Addr} {fd : FuncData} (F : FnP K "_law_turned" s__law_turned f fd)  : FnOk P w K mg base CX0 1 f fd ["_law_web_here", "_law_point"] (sp__law_turned K) := by
  refine fn_okD (r := (As.cons (α := (List (List Int))) (As.cons (α := Int) As.nil))) (o := (Ow.l (Ow.l Ow.v))) (m := fun ar => (((pure ([] : List (List Int))) >>= fun a => lstM a) >>= fun (made_here1 : (List (List Int))) => ((((pure ar.1) >>= fun a => pure (a.length : Int)) >>= fun a => range1 a) >>= fun xs => loopM (S := ((List (List Int)))) (ρ := (List (List Int))) (fun (k2 : Int) (s3 : ((List (List Int)))) => (((pure ([] : List Int)) >>= fun a => lstM a) >>= fun (row4 : (List Int)) => ((((pure ar.1) >>= fun a => pure (a.length : Int)) >>= fun a => range1 a) >>= fun xs => loopM (S := ((List Int))) (ρ := (List (List Int))) (fun (j5 : Int) (s6 : ((List Int))) => ((bAnd ((((pure ar.1) >>= fun a => (pure ar.2.1) >>= fun b => atM a b) >>= fun a => (pure k2) >>= fun b => atM a b) >>= fun a => (pure (1 : Int)) >>= fun b => pure (decide (a = b))) (bAnd ((((pure ar.1) >>= fun a => (pure ar.2.1) >>= fun b => atM a b) >>= fun a => (pure j5) >>= fun b => atM a b) >>= fun a => (pure (1 : Int)) >>= fun b => pure (decide (a = b))) ((pure k2) >>= fun a => (pure j5) >>= fun b => pure (!decide (a = b))))) >>= fun (near7 : Bool) => ((((((pure ar.1) >>= fun a => (pure k2) >>= fun b => atM a b) >>= fun a => (pure j5) >>= fun b => atM a b) >>= fun a => ((pure near7) >>= fun a => pure (if a then (1 : Int) else 0)) >>= fun b => pure (a + b)) >>= fun a => pure (a % (2 : Int))) >>= fun a => appM s6 a >>= fun (row8 : (List Int)) => (pure (.nx (row8)))))) xs (row4) >>= fun c => thenL c (fun (s6 : ((List Int))) => (appM s3 s6 >>= fun (made_here9 : (List (List Int))) => (pure (.nx (made_here9)))))))) xs (made_here1) >>= fun c => thenL c (fun (s3 : ((List (List Int)))) => (pure (.rt s3)))))) F sc__law_turned rfl rfl (fun cdv A' outer s H E hr ar => ?_)
  exact ⟨_, (ss_asg 2 sc__law_turned.nd (ex_lst (el_nil (o := (Ow.l Ow.v)))) (fun made_here1 => (ss_for (Γs := (fun (s3 : ((List (List Int)))) => [.mk Ow.v ar.1, .mk Ow.v ar.2.1, .mk (Ow.l (Ow.l Ow.v)) (s3 : (List (List Int))), .un, .un, .un, .un])) (made_here1) rfl PassesOwn.never (ei_range1 T.n_range (ex_lenL (K := K) T.n_len (ex_var 0))) (.k (.k (.k (.w (.w (.w (.w .n))))))) (fun s3 k2 => (eg_name 3 sc__law_turned.nd)) (fun s3 k2 => (ss_asg 4 sc__law_turned.nd (ex_lst (el_nil (o := Ow.v))) (fun row4 => (ss_for (Γs := (fun (s6 : ((List Int))) => [.mk Ow.v ar.1, .mk Ow.v ar.2.1, .mk (Ow.l (Ow.l Ow.v)) s3, .mk Ow.v k2, .mk (Ow.l Ow.v) (s6 : (List Int)), .un, .un])) (row4) rfl PassesOwn.never (ei_range1 T.n_range (ex_lenL (K := K) T.n_len (ex_var 0))) (.k (.k (.k (.k (.k (.w (.w .n))))))) (fun s6 j5 => (eg_name 5 sc__law_turned.nd)) (fun s6 j5 => (ss_asg 6 sc__law_turned.nd (ex_and (ex_c (ec_eq (ex_ixL (K := K) (ex_ixL (K := K) (ex_var 0) (ex_var 1)) (ex_var 3)) ex_int)) (ex_and (ex_c (ec_eq (ex_ixL (K := K) (ex_ixL (K := K) (ex_var 0) (ex_var 1)) (ex_var 5)) ex_int)) (ex_one (ex_c (ec_ne (ex_var 3) (ex_var 5)))))) (fun near7 => (ss_app 4 (ex_modc (ex_add (ex_ixL (K := K) (ex_ixL (K := K) (ex_var 0) (ex_var 3)) (ex_var 5)) (ex_intB T.n_int (ex_var 6)))) (fun row8 => (ss_nil (row8) (.k (.k (.k (.k (.k (.w (.w .n))))))))))))) (fun s6 => (ss_appO 2 4 (fun made_here9 => (ss_nil (made_here9) (.k (.k (.k (.w (.w (.w (.w .n))))))))))))))) (fun s3 => (ss_retO 2)))))⟩
theorem ok__law_turned (T : Txt K mg) {f : Addr} {fd : FuncData} (F : FnP K "_law_turned" s__law_turned f fd) (hm : mg "_law_turned" = some (.ref f))  : Has P w K mg base "_law_turned" 1 ["_law_web_here", "_law_point"] (sp__law_turned K) :=
  ⟨f, fd, ok0__law_turned T F , hm, F.kp, F.bindsN fun _ _ _ _ _ _ us hl => match us, hl with | [_, _], _ => rfl⟩
abbrev s__law_wheel_by : Stmt := top 20
theorem sc__law_wheel_by : FnScope ["_law_web_here", "_law_order", "_law_k", "_law_j", "_law_near"] ["_law_web_here", "_law_order"] (defScope s__law_wheel_by) := ⟨rfl, rfl, rfl, by decide +kernel, rfl, by decide +kernel, by decide +kernel⟩
abbrev sp__law_wheel_by (K : PySem.W.Frag) : Sp := spF K (As.cons (α := (List (List Int))) (As.cons (α := (List Int)) As.nil)) (Ow.v : Ow Bool) (fun a => mir__law_wheel_by a.1 a.2.1)
theorem ok0__law_wheel_by (T : Txt K mg) {f : Addr} {fd : FuncData} (F : FnP K "_law_wheel_by" s__law_wheel_by f fd)  : FnOk P w K mg base CX0 1 f fd ["_law_web_here", "_law_order"] (sp__law_wheel_by K) := by
  refine fn_okD (r := (As.cons (α := (List (List Int))) (As.cons (α := (List Int)) As.nil))) (o := Ow.v) (m := fun ar => ((((pure ar.2.1) >>= fun a => pure (isort a)) >>= fun a => (((pure (0 : Int)) >>= fun a => ((pure (1 : Int)) >>= fun a => ((pure (2 : Int)) >>= fun a => ((pure (3 : Int)) >>= fun a => ((pure (4 : Int)) >>= fun a => ((pure (5 : Int)) >>= fun a => (pure ([] : List Int)) >>= fun b => pure (a :: b)) >>= fun b => pure (a :: b)) >>= fun b => pure (a :: b)) >>= fun b => pure (a :: b)) >>= fun b => pure (a :: b)) >>= fun b => pure (a :: b)) >>= fun a => lstM a) >>= fun b => neM a b) >>= fun x => if x then ((((pure false) >>= fun r => pure (.rt r)) : M (Ctl Empty Empty Bool)) >>= fun y => thenC y nofun) else (((pure (6 : Int)) >>= fun a => range1 a) >>= fun xs => loopM (S := Unit) (ρ := Bool) (fun (k1 : Int) (s2 : Unit) => (((pure (6 : Int)) >>= fun a => range1 a) >>= fun xs => loopM (S := Unit) (ρ := Bool) (fun (j3 : Int) (s4 : Unit) => ((bOr (bAnd (((pure k1) >>= fun a => (pure j3) >>= fun b => mulM a b) >>= fun a => (pure (0 : Int)) >>= fun b => pure (decide (a = b))) ((pure k1) >>= fun a => (pure j3) >>= fun b => pure (!decide (a = b)))) (bAnd (((pure k1) >>= fun a => (pure j3) >>= fun b => mulM a b) >>= fun a => (pure (0 : Int)) >>= fun b => pure (decide (b < a))) ((((pure j3) >>= fun a => (pure k1) >>= fun b => pure (a - b)) >>= fun a => pure (a % (5 : Int))) >>= fun a => (((pure (1 : Int)) >>= fun a => ((pure (4 : Int)) >>= fun a => (pure ([] : List Int)) >>= fun b => pure (a :: b)) >>= fun b => pure (a :: b)) >>= fun a => lstM a >>= fun b => pure (Tu.mk b)) >>= fun b => pure (decide (a ∈ b.l))))) >>= fun (near5 : Bool) => (((((pure ar.1) >>= fun a => ((pure ar.2.1) >>= fun a => (pure k1) >>= fun b => atM a b) >>= fun b => atM a b) >>= fun a => ((pure ar.2.1) >>= fun a => (pure j3) >>= fun b => atM a b) >>= fun b => atM a b) >>= fun a => ((pure near5) >>= fun a => pure (if a then (1 : Int) else 0)) >>= fun b => pure (!decide (a = b))) >>= fun x => if x then ((((pure false) >>= fun r => pure (.rt r)) : M (Ctl Empty Unit Bool)) >>= fun y => thenC y nofun) else (pure (.nx ()))))) xs () >>= fun c => thenL c (fun (s4 : Unit) => (pure (.nx ()))))) xs () >>= fun c => thenL c (fun (s2 : Unit) => ((pure true) >>= fun r => pure (.rt r)))))) F sc__law_wheel_by rfl rfl (fun cdv A' outer s H E hr ar => ?_)
  exact ⟨_, (ss_ifR (et_c (ec_neD (K := K) hr.units (ex_frz (ex_sorted (K := K) T.n_sorted (ex_var 1))) (ex_frz (ex_lst (el_cons ex_int (el_cons ex_int (el_cons ex_int (el_cons ex_int (el_cons ex_int (el_cons ex_int (el_nil (o := Ow.v)))))))))))) (ss_ret ex_bl) (ss_for (Γs := (fun (s2 : Unit) => [.mk Ow.v ar.1, .mk Ow.v ar.2.1, .un, .un, .un])) () rfl PassesOwn.never (ei_range1 T.n_range ex_int) (.k (.k (.w (.w (.w .n))))) (fun s2 k1 => (eg_name 2 sc__law_wheel_by.nd)) (fun s2 k1 => (ss_for (Γs := (fun (s4 : Unit) => [.mk Ow.v ar.1, .mk Ow.v ar.2.1, .mk Ow.v k1, .un, .un])) () rfl PassesOwn.never (ei_range1 T.n_range ex_int) (.k (.k (.k (.w (.w .n))))) (fun s4 j3 => (eg_name 3 sc__law_wheel_by.nd)) (fun s4 j3 => (ss_asg 4 sc__law_wheel_by.nd (ex_or (ex_and (ex_c (ec_eq (ex_mul (ex_var 2) (ex_var 3)) ex_int)) (ex_one (ex_c (ec_ne (ex_var 2) (ex_var 3))))) (ex_one (ex_and (ex_c (ec_gt (ex_mul (ex_var 2) (ex_var 3)) ex_int)) (ex_one (ex_c (ec_inT (K := K) (ex_modc (ex_sub (ex_var 3) (ex_var 2))) (ex_tu (el_cons ex_int (el_cons ex_int (el_nil (o := Ow.v))))))))))) (fun near5 => (ss_ifR (et_c (ec_ne (ex_ixL (K := K) (ex_ixL (K := K) (ex_var 0) (ex_ixL (K := K) (ex_var 1) (ex_var 2))) (ex_ixL (K := K) (ex_var 1) (ex_var 3))) (ex_intB T.n_int (ex_var 4)))) (ss_ret ex_bl) (ss_nil () (.k (.k (.k (.w (.w .n)))))))))) (fun s4 => (ss_nil () (.k (.k (.w (.w (.w .n))))))))) (fun s2 => (ss_ret ex_bl))))⟩
theorem ok__law_wheel_by (T : Txt K mg) {f : Addr} {fd : FuncData} (F : FnP K "_law_wheel_by" s__law_wheel_by f fd) (hm : mg "_law_wheel_by" = some (.ref f))  : Has P w K mg base "_law_wheel_by" 1 ["_law_web_here", "_law_order"] (sp__law_wheel_by K) :=
  ⟨f, fd, ok0__law_wheel_by T F , hm, F.kp, F.bindsN fun _ _ _ _ _ _ us hl => match us, hl with | [_, _], _ => rfl⟩
abbrev s__law_told_right : Stmt := top 21
theorem sc__law_told_right : FnScope ["_law_web_here", "_law_found", "_law_letters", "_law_row", "_law_point", "_law_k", "_law_letter"] ["_law_web_here", "_law_found"] (defScope s__law_told_right) := ⟨rfl, rfl, rfl, by decide +kernel, rfl, by decide +kernel, by decide +kernel⟩
abbrev sp__law_told_right (K : PySem.W.Frag) : Sp := spF K (As.cons (α := (List (List Int))) (As.cons (α := Tw) As.nil)) (Ow.v : Ow (Option Str)) (fun a => mir__law_told_right a.1 a.2.1)
theorem ok0__law_told_right (T : Txt K mg) {f : Addr} {fd : FuncData} (F : FnP K "_law_told_right" s__law_told_right f fd) (H__law_web : Has P w K mg base "_law_web" 1 ["_law_word"] (sp__law_web K)) (H__law_turned : Has P w K mg base "_law_turned" 1 ["_law_web_here", "_law_point"] (sp__law_turned K)) (H__law_wheel_by : Has P w K mg base "_law_wheel_by" 1 ["_law_web_here", "_law_order"] (sp__law_wheel_by K)) : FnOk P w K mg base CX0 2 f fd ["_law_web_here", "_law_found"] (sp__law_told_right K) := by
  obtain ⟨f__law_web, fd__law_web, F__law_web, m__law_web, k__law_web, b__law_web⟩ := H__law_web
  obtain ⟨f__law_turned, fd__law_turned, F__law_turned, m__law_turned, k__law_turned, b__law_turned⟩ := H__law_turned
  obtain ⟨f__law_wheel_by, fd__law_wheel_by, F__law_wheel_by, m__law_wheel_by, k__law_wheel_by, b__law_wheel_by⟩ := H__law_wheel_by
  refine fn_okD (r := (As.cons (α := (List (List Int))) (As.cons (α := Tw) As.nil))) (o := Ow.v) (m := fun ar => ((bOr (bNot ((pure ar.2.1) >>= fun _ => pure true)) ((((pure ar.2.1) >>= fun a => pure (twOq a)) >>= fun a => pure (a.l.length : Int)) >>= fun a => (pure (0 : Int)) >>= fun b => pure (decide (a = b)))) >>= fun x => if x then ((((pure (none : Option Str)) >>= fun r => pure (.rt r)) : M (Ctl Empty Empty (Option Str))) >>= fun y => thenC y nofun) else ((((pure ar.2.1) >>= fun a => pure (tw0 a)) >>= fun a => (pure ("word" : Str)) >>= fun b => pure (decide (a = b))) >>= fun x => if x then ((((bOr ((((pure ar.2.1) >>= fun a => pure (twOq a)) >>= fun a => pure (a.l.length : Int)) >>= fun a => (pure (2 : Int)) >>= fun b => pure (!decide (a = b))) (bOr (bNot (((pure ar.2.1) >>= fun a => tw1S a) >>= fun _ => pure true)) ((((pure ar.2.1) >>= fun a => tw1S a) >>= fun a => lenS a) >>= fun a => (((pure ar.1) >>= fun a => pure (a.length : Int)) >>= fun b => pure ((2 : Int) * b)) >>= fun b => pure (!decide (a = b))))) >>= fun x => if x then ((((pure (none : Option Str)) >>= fun r => pure (.rt r)) : M (Ctl Empty Empty (Option Str))) >>= fun y => thenC y nofun) else (((pure ("abcdef" : Str)) >>= fun a => (pure none) >>= fun l => (((pure ar.1) >>= fun a => pure (a.length : Int)) >>= fun i => pure (some i)) >>= fun u => cutSM a l u) >>= fun (letters1 : Str) => ((bOr ((((pure letters1) >>= fun a => pure (a.cps.toList.map sgS)) >>= fun xs => compM xs (fun (letter2 : Str) => (pure true)) (fun (letter2 : Str) => ((((pure ar.2.1) >>= fun a => tw1S a) >>= fun x => ((pure letter2) >>= fun a => (pure ()) >>= fun b => pure (a, b)) >>= fun y => pure (Txt.count x y.1)) >>= fun a => (pure (2 : Int)) >>= fun b => pure (!decide (a = b))))) >>= fun a => pure (a.any id)) (((((pure ar.2.1) >>= fun a => tw1S a) >>= fun a => (pure ()) >>= fun b => pure (a, b)) >>= fun a => mir__law_web a.1) >>= fun a => (pure ar.1) >>= fun b => neM a b)) >>= fun x => if x then ((((pure (none : Option Str)) >>= fun r => pure (.rt r)) : M (Ctl Empty Empty (Option Str))) >>= fun y => thenC y nofun) else (((pure ("word" : Str)) >>= fun a => pure (some a)) >>= fun r => pure (.rt r))))) : M (Ctl Empty Empty (Option Str))) >>= fun y => thenC y nofun) else ((bOr (((pure ar.2.1) >>= fun a => pure (tw0 a)) >>= fun a => (pure ("none" : Str)) >>= fun b => pure (!decide (a = b))) (bOr ((((pure ar.2.1) >>= fun a => pure (twOq a)) >>= fun a => pure (a.l.length : Int)) >>= fun a => (pure (3 : Int)) >>= fun b => pure (!decide (a = b))) (((pure ar.1) >>= fun a => pure (a.length : Int)) >>= fun a => (pure (6 : Int)) >>= fun b => pure (!decide (a = b))))) >>= fun x => if x then ((((pure (none : Option Str)) >>= fun r => pure (.rt r)) : M (Ctl Empty Empty (Option Str))) >>= fun y => thenC y nofun) else ((((pure ar.2.1) >>= fun a => ((pure (1 : Int)) >>= fun i => pure (some i)) >>= fun l => (pure none) >>= fun u => twCut a l u) >>= fun a => pure a.l) >>= fun xs => loopM (S := Unit) (ρ := (Option Str)) (fun (row3 : (List Int)) (s4 : Unit) => ((bOr (bNot ((pure row3) >>= fun _ => pure true)) (((pure row3) >>= fun xs => compM xs (fun (k5 : Int) => (pure true)) (fun (k5 : Int) => (bOr ((pure k5) >>= fun _ => pure false) (bNot ((pure k5) >>= fun _ => pure true))))) >>= fun a => pure (a.any id))) >>= fun x => if x then ((((pure (none : Option Str)) >>= fun r => pure (.rt r)) : M (Ctl Empty Unit (Option Str))) >>= fun y => thenC y nofun) else (pure (.nx ())))) xs () >>= fun c => thenL c (fun (s4 : Unit) => ((bOr ((((pure ar.2.1) >>= fun a => tw1L a) >>= fun a => pure (a.length : Int)) >>= fun a => (pure (200 : Int)) >>= fun b => pure (decide (b < a))) ((((pure ar.2.1) >>= fun a => tw1L a) >>= fun xs => compM xs (fun (k6 : Int) => (pure true)) (fun (k6 : Int) => ((pure k6) >>= fun x => ((pure (6 : Int)) >>= fun n => pure (⟨0, n⟩ : Rgv)) >>= fun r => pure (!decide (r.lo ≤ x ∧ x < r.hi))))) >>= fun a => pure (a.any id))) >>= fun x => if x then ((((pure (none : Option Str)) >>= fun r => pure (.rt r)) : M (Ctl Empty Empty (Option Str))) >>= fun y => thenC y nofun) else (((pure ar.2.1) >>= fun a => tw1L a) >>= fun xs => loopM (S := ((List (List Int)))) (ρ := (Option Str)) (fun (point7 : Int) (s8 : ((List (List Int)))) => ((((pure s8) >>= fun a => ((pure point7) >>= fun a => (pure ()) >>= fun b => pure (a, b)) >>= fun b => pure (a, b)) >>= fun a => mir__law_turned a.1 a.2.1) >>= fun (web_here9 : (List (List Int))) => (pure (.nx (web_here9))))) xs (ar.1) >>= fun c => thenL c (fun (s8 : ((List (List Int)))) => ((bNot (((pure s8) >>= fun a => (((pure ar.2.1) >>= fun a => tw2L a) >>= fun a => (pure ()) >>= fun b => pure (a, b)) >>= fun b => pure (a, b)) >>= fun a => mir__law_wheel_by a.1 a.2.1)) >>= fun x => if x then ((((pure (none : Option Str)) >>= fun r => pure (.rt r)) : M (Ctl Empty Empty (Option Str))) >>= fun y => thenC y nofun) else (((pure ("none" : Str)) >>= fun a => pure (some a)) >>= fun r => pure (.rt r)))))))))))) F sc__law_told_right rfl rfl (fun cdv A' outer s H E hr ar => ?_)
  have hr__law_web := hr.mono (show 1 ≤ 1 by decide)
  have hr__law_turned := hr.mono (show 1 ≤ 1 by decide)
  have hr__law_wheel_by := hr.mono (show 1 ≤ 1 by decide)
  exact ⟨_, (ss_ifR (ew_pt (ew_or (et_not (et_val (ex_isi (K := K) T.n_isinstance T.n_tuple boot_tuple (ex_var 1) (by decide +kernel)))) (ew_or1 (et_c (ec_eq (ex_lenTu (K := K) T.n_len (ex_twOq (ex_var 1))) ex_int))))) (ss_ret ex_nonS) (ss_ifR (et_c (ec_eq (ex_tw0 (K := K) (ex_var 1)) ex_str)) (ss_ifR (ew_pt (ew_or (et_c (ec_ne (ex_lenTu (K := K) T.n_len (ex_twOq (ex_var 1))) ex_int)) (ew_or (et_not (et_val (ex_isi (K := K) T.n_isinstance T.n_str boot_str (ex_tw1S (K := K) (ex_var 1)) (by decide +kernel)))) (ew_or1 (et_c (ec_ne (ex_lenS T.n_len (ex_tw1S (K := K) (ex_var 1))) (ex_cmul (ex_lenL (K := K) T.n_len (ex_var 0))))))))) (ss_ret ex_nonS) (ss_asg 2 sc__law_told_right.nd (ex_cutS ex_str eo_none (eo_some (ex_lenL (K := K) T.n_len (ex_var 0)))) (fun letters1 => (ss_ifR (ew_pt (ew_or (et_val (ex_any (K := K) rfl T.n_any (ex_frz (ex_lc rfl sc__law_told_right.nd (ei_str (ex_var 2)) (own := [("_law_letter", 6)]) (by kernel_rfl) rfl rfl (fun _ _ _ _ _ letter2 => (eg_name 6 sc__law_told_right.nd)) (fun _ _ _ _ _ letter2 => ef_nil) (fun _ _ _ _ _ letter2 => (ex_c (ec_ne (ex_count (K := K) (ex_tw1S (K := K) (ex_var 1)) (ea_cons (ex_var 6) ea_nil)) ex_int))))))) (ew_or1 (et_c (ec_neD (K := K) hr.units (ex_call F__law_web hr__law_web m__law_web k__law_web b__law_web (ea_cons (ex_tw1S (K := K) (ex_var 1)) ea_nil)) (ex_var 0)))))) (ss_ret ex_nonS) (ss_ret (ex_someS ex_str)))))) (ss_ifR (ew_pt (ew_or (et_c (ec_ne (ex_tw0 (K := K) (ex_var 1)) ex_str)) (ew_or (et_c (ec_ne (ex_lenTu (K := K) T.n_len (ex_twOq (ex_var 1))) ex_int)) (ew_or1 (et_c (ec_ne (ex_lenL (K := K) T.n_len (ex_var 0)) ex_int)))))) (ss_ret ex_nonS) (ss_for (Γs := (fun (s4 : Unit) => [.mk Ow.v ar.1, .mk Ow.v ar.2.1, .un, .un, .un, .un, .un])) () rfl PassesOwn.never (ei_tu (K := K) (ex_twCut (K := K) (ex_var 1) (eo_some ex_int) eo_none)) (.k (.k (.w (.w (.w (.w (.w .n))))))) (fun s4 row3 => (eg_name 3 sc__law_told_right.nd)) (fun s4 row3 => (ss_ifR (ew_pt (ew_or (et_not (et_val (ex_isi (K := K) T.n_isinstance T.n_list boot_list (ex_var 3) (by decide +kernel)))) (ew_or1 (et_val (ex_any (K := K) rfl T.n_any (ex_frz (ex_lc rfl sc__law_told_right.nd (ei_list (K := K) (ex_var 3)) (own := [("_law_k", 5)]) (by kernel_rfl) rfl rfl (fun _ _ _ _ _ k5 => (eg_name 5 sc__law_told_right.nd)) (fun _ _ _ _ _ k5 => ef_nil) (fun _ _ _ _ _ k5 => (ex_or (ex_isi (K := K) T.n_isinstance T.n_bool boot_bool (ex_var 5) (by decide +kernel)) (ex_one (ex_not (ex_isi (K := K) T.n_isinstance T.n_int boot_int (ex_var 5) (by decide +kernel))))))))))))) (ss_ret ex_nonS) (ss_nil () (.k (.k (.w (.w (.w (.w (.w .n)))))))))) (fun s4 => (ss_ifR (ew_pt (ew_or (et_c (ec_gt (ex_lenL (K := K) T.n_len (ex_tw1L (K := K) (ex_var 1))) ex_int)) (ew_or1 (et_val (ex_any (K := K) rfl T.n_any (ex_frz (ex_lc rfl sc__law_told_right.nd (ei_list (K := K) (ex_tw1L (K := K) (ex_var 1))) (own := [("_law_k", 5)]) (by kernel_rfl) rfl rfl (fun _ _ _ _ _ k6 => (eg_name 5 sc__law_told_right.nd)) (fun _ _ _ _ _ k6 => ef_nil) (fun _ _ _ _ _ k6 => (ex_c (ec_ninRg (ex_var 5) (ex_rg1 T.n_range ex_int))))))))))) (ss_ret ex_nonS) (ss_for (Γs := (fun (s8 : ((List (List Int)))) => [.mk Ow.v (s8 : (List (List Int))), .mk Ow.v ar.2.1, .un, .un, .un, .un, .un])) (ar.1) rfl PassesOwn.never (ei_list (K := K) (ex_tw1L (K := K) (ex_var 1))) (.k (.k (.w (.w (.w (.w (.w .n))))))) (fun s8 point7 => (eg_name 4 sc__law_told_right.nd)) (fun s8 point7 => (ss_asg 0 sc__law_told_right.nd (ex_frz (ex_call F__law_turned hr__law_turned m__law_turned k__law_turned b__law_turned (ea_cons (ex_var 0) (ea_cons (ex_var 4) ea_nil)))) (fun web_here9 => (ss_nil (web_here9) (.k (.k (.w (.w (.w (.w (.w .n))))))))))) (fun s8 => (ss_ifR (et_not (et_val (ex_call F__law_wheel_by hr__law_wheel_by m__law_wheel_by k__law_wheel_by b__law_wheel_by (ea_cons (ex_var 0) (ea_cons (ex_tw2L (K := K) (ex_var 1)) ea_nil))))) (ss_ret ex_nonS) (ss_ret (ex_someS ex_str)))))))))))⟩
theorem ok__law_told_right (T : Txt K mg) {f : Addr} {fd : FuncData} (F : FnP K "_law_told_right" s__law_told_right f fd) (hm : mg "_law_told_right" = some (.ref f)) (H__law_web : Has P w K mg base "_law_web" 1 ["_law_word"] (sp__law_web K)) (H__law_turned : Has P w K mg base "_law_turned" 1 ["_law_web_here", "_law_point"] (sp__law_turned K)) (H__law_wheel_by : Has P w K mg base "_law_wheel_by" 1 ["_law_web_here", "_law_order"] (sp__law_wheel_by K)) : Has P w K mg base "_law_told_right" 2 ["_law_web_here", "_law_found"] (sp__law_told_right K) :=
  ⟨f, fd, ok0__law_told_right T F H__law_web H__law_turned H__law_wheel_by, hm, F.kp, F.bindsN fun _ _ _ _ _ _ us hl => match us, hl with | [_, _], _ => rfl⟩
abbrev s__law_wheel : Stmt := top 22
theorem sc__law_wheel : FnScope ["_law_order", "_law_web_here", "_law_k", "_law_after", "_law_j"] ["_law_order"] (defScope s__law_wheel) := ⟨rfl, rfl, rfl, by decide +kernel, rfl, by decide +kernel, by decide +kernel⟩
abbrev sp__law_wheel (K : PySem.W.Frag) : Sp := spF K (As.cons (α := (List Int)) As.nil) ((Ow.l (Ow.l Ow.v)) : Ow (List (List Int))) (fun a => mir__law_wheel a.1)
theorem ok0__law_wheel (T : Txt K mg) {f : Addr} {fd : FuncData} (F : FnP K "_law_wheel" s__law_wheel f fd)  : FnOk P w K mg base CX0 1 f fd ["_law_order"] (sp__law_wheel K) := by
  refine fn_okD (r := (As.cons (α := (List Int)) As.nil)) (o := (Ow.l (Ow.l Ow.v))) (m := fun ar => ((((pure (6 : Int)) >>= fun a => range1 a) >>= fun xs => compM xs (fun (j1 : Int) => (pure true)) (fun (j1 : Int) => (((pure (6 : Int)) >>= fun a => range1 a) >>= fun xs => compM xs (fun (k2 : Int) => (pure true)) (fun (k2 : Int) => (pure (0 : Int)))))) >>= fun (web_here3 : (List (List Int))) => (((pure (1 : Int)) >>= fun a => (pure (6 : Int)) >>= fun b => range2 a b) >>= fun xs => loopM (S := ((List (List Int)))) (ρ := (List (List Int))) (fun (k4 : Int) (s5 : ((List (List Int)))) => ((pure (1 : Int)) >>= fun a => ((pure ar.1) >>= fun a => (pure (0 : Int)) >>= fun b => atM a b) >>= fun b => ((pure ar.1) >>= fun a => (pure k4) >>= fun b => atM a b) >>= fun c => set2M s5 b c a >>= fun (web_here6 : (List (List Int))) => ((pure (1 : Int)) >>= fun a => ((pure ar.1) >>= fun a => (pure k4) >>= fun b => atM a b) >>= fun b => ((pure ar.1) >>= fun a => (pure (0 : Int)) >>= fun b => atM a b) >>= fun c => set2M web_here6 b c a >>= fun (web_here7 : (List (List Int))) => (((pure ar.1) >>= fun a => ((pure (1 : Int)) >>= fun a => ((pure k4) >>= fun a => pure (a % (5 : Int))) >>= fun b => pure (a + b)) >>= fun b => atM a b) >>= fun (after8 : Int) => ((pure (1 : Int)) >>= fun a => ((pure ar.1) >>= fun a => (pure k4) >>= fun b => atM a b) >>= fun b => (pure after8) >>= fun c => set2M web_here7 b c a >>= fun (web_here9 : (List (List Int))) => ((pure (1 : Int)) >>= fun a => (pure after8) >>= fun b => ((pure ar.1) >>= fun a => (pure k4) >>= fun b => atM a b) >>= fun c => set2M web_here9 b c a >>= fun (web_here10 : (List (List Int))) => (pure (.nx (web_here10))))))))) xs (web_here3) >>= fun c => thenL c (fun (s5 : ((List (List Int)))) => (pure (.rt s5)))))) F sc__law_wheel rfl rfl (fun cdv A' outer s H E hr ar => ?_)
  exact ⟨_, (ss_asgLc 1 rfl sc__law_wheel.nd (ei_range1 T.n_range ex_int) (own := [("_law_j", 4)]) (by kernel_rfl) rfl rfl (fun _ _ _ _ _ j1 => (eg_name 4 sc__law_wheel.nd)) (fun _ _ _ _ _ j1 => ef_nil) (fun _ _ _ _ _ j1 => (ex_lc rfl sc__law_wheel.nd (ei_range1 T.n_range ex_int) (own := [("_law_k", 2)]) (by kernel_rfl) rfl rfl (fun _ _ _ _ _ k2 => (eg_name 2 sc__law_wheel.nd)) (fun _ _ _ _ _ k2 => ef_nil) (fun _ _ _ _ _ k2 => ex_int))) (fun web_here3 => (ss_for (Γs := (fun (s5 : ((List (List Int)))) => [.mk Ow.v ar.1, .mk (Ow.l (Ow.l Ow.v)) (s5 : (List (List Int))), .un, .un, .un])) (web_here3) rfl PassesOwn.never (ei_range2 T.n_range ex_int ex_int) (.k (.k (.w (.w (.w .n))))) (fun s5 k4 => (eg_name 2 sc__law_wheel.nd)) (fun s5 k4 => (ss_set2 (K := K) 1 ex_int (ex_ixL (K := K) (ex_var 0) ex_int) (ex_ixL (K := K) (ex_var 0) (ex_var 2)) (fun web_here6 => (ss_set2 (K := K) 1 ex_int (ex_ixL (K := K) (ex_var 0) (ex_var 2)) (ex_ixL (K := K) (ex_var 0) ex_int) (fun web_here7 => (ss_asg 3 sc__law_wheel.nd (ex_ixL (K := K) (ex_var 0) (ex_add ex_int (ex_modc (ex_var 2)))) (fun after8 => (ss_set2 (K := K) 1 ex_int (ex_ixL (K := K) (ex_var 0) (ex_var 2)) (ex_var 3) (fun web_here9 => (ss_set2 (K := K) 1 ex_int (ex_var 3) (ex_ixL (K := K) (ex_var 0) (ex_var 2)) (fun web_here10 => (ss_nil (web_here10) (.k (.k (.w (.w (.w .n))))))))))))))))) (fun s5 => (ss_retO 1)))))⟩
theorem ok__law_wheel (T : Txt K mg) {f : Addr} {fd : FuncData} (F : FnP K "_law_wheel" s__law_wheel f fd) (hm : mg "_law_wheel" = some (.ref f))  : Has P w K mg base "_law_wheel" 1 ["_law_order"] (sp__law_wheel K) :=
  ⟨f, fd, ok0__law_wheel T F , hm, F.kp, F.bindsN fun _ _ _ _ _ _ us hl => match us, hl with | [_], _ => rfl⟩
abbrev s__law_raw : Stmt := top 23
theorem sc__law_raw : FnScope ["_law_script", "_law_k", "_law_cell_here"] ["_law_script", "_law_k"] (defScope s__law_raw) := ⟨rfl, rfl, rfl, by decide +kernel, rfl, by decide +kernel, by decide +kernel⟩
abbrev sp__law_raw (K : PySem.W.Frag) : Sp := spF K (As.cons (α := Scr) (As.cons (α := Int) As.nil)) (Ow.v : Ow Int) (fun a => mir__law_raw a.1 a.2.1)
theorem ok0__law_raw (T : Txt K mg) {f : Addr} {fd : FuncData} (F : FnP K "_law_raw" s__law_raw f fd)  : FnOk P w K mg base CX0 1 f fd ["_law_script", "_law_k"] (sp__law_raw K) := by
  refine fn_okD (r := (As.cons (α := Scr) (As.cons (α := Int) As.nil))) (o := Ow.v) (m := fun ar => ((pure (0 : Int)) >>= fun (cell_here1 : Int) => ((((pure ar.1) >>= fun a => pure (a.l.length : Int)) >>= fun a => (pure (0 : Int)) >>= fun b => pure (decide (b < a))) >>= fun x => ((if x then (((pure ar.1) >>= fun a => ((pure ar.2.1) >>= fun a => ((pure ar.1) >>= fun a => pure (a.l.length : Int)) >>= fun b => modM a b) >>= fun b => atM a.l b) >>= fun (cell_here3 : Int) => (pure (.nx (cell_here3)))) else (pure (.nx (cell_here1)))) : M (Ctl (Int) Empty Int)) >>= fun y => thenC y (fun (s2 : (Int)) => (((pure s2) >>= fun a => ((pure (10 : Int)) >>= fun a => (pure (60 : Int)) >>= fun b => powM a b) >>= fun b => modM a b) >>= fun r => pure (.rt r)))))) F sc__law_raw rfl rfl (fun cdv A' outer s H E hr ar => ?_)
  exact ⟨_, (ss_asg 2 sc__law_raw.nd ex_int (fun cell_here1 => (ss_if (Γ1 := (fun (s2 : (Int)) => [.mk Ow.v ar.1, .mk Ow.v ar.2.1, .mk Ow.v (s2 : Int)])) (et_c (ec_gt (ex_lenScr (K := K) T.n_len (ex_var 0)) ex_int)) (ss_asg 2 sc__law_raw.nd (ex_ixScr (K := K) (ex_var 0) (ex_mod (ex_var 1) (ex_lenScr (K := K) T.n_len (ex_var 0)))) (fun cell_here3 => (ss_nil (cell_here3) (.k (.k (.k .n)))))) (ss_nil (cell_here1) (.k (.k (.k .n)))) (fun s2 => (ss_ret (ex_mod (ex_var 2) (ex_pow ex_int ex_int)))))))⟩
theorem ok__law_raw (T : Txt K mg) {f : Addr} {fd : FuncData} (F : FnP K "_law_raw" s__law_raw f fd) (hm : mg "_law_raw" = some (.ref f))  : Has P w K mg base "_law_raw" 1 ["_law_script", "_law_k"] (sp__law_raw K) :=
  ⟨f, fd, ok0__law_raw T F , hm, F.kp, F.bindsN fun _ _ _ _ _ _ us hl => match us, hl with | [_, _], _ => rfl⟩
abbrev s__law_ordered : Stmt := top 24
theorem sc__law_ordered : FnScope ["_law_things", "_law_digits", "_law_left", "_law_found"] ["_law_things", "_law_digits"] (defScope s__law_ordered) := ⟨rfl, rfl, rfl, by decide +kernel, rfl, by decide +kernel, by decide +kernel⟩
abbrev sp__law_ordered (K : PySem.W.Frag) : Sp := spF K (As.cons (α := (List Int)) (As.cons (α := Int) As.nil)) ((Ow.l Ow.v) : Ow (List Int)) (fun a => mir__law_ordered a.1 a.2.1)
theorem ok0__law_ordered (T : Txt K mg) {f : Addr} {fd : FuncData} (F : FnP K "_law_ordered" s__law_ordered f fd)  : FnOk P w K mg base CX0 1 f fd ["_law_things", "_law_digits"] (sp__law_ordered K) := by
  refine fn_okD (r := (As.cons (α := (List Int)) (As.cons (α := Int) As.nil))) (o := (Ow.l Ow.v)) (m := fun ar => (((pure ar.1) >>= fun a => pure a) >>= fun (left1 : (List Int)) => (((pure ([] : List Int)) >>= fun a => lstM a) >>= fun (found2 : (List Int)) => (whileM (S := ((List Int) × (List Int) × Int)) (ρ := (List Int)) (fun (s3 : ((List Int) × (List Int) × Int)) => ((pure s3.2.1) >>= fun a => ((pure ([] : List Int)) >>= fun a => lstM a) >>= fun b => neM a b)) (fun (s3 : ((List Int) × (List Int) × Int)) => ((((pure s3.2.2) >>= fun a => ((pure s3.2.1) >>= fun a => pure (a.length : Int)) >>= fun b => modM a b) >>= fun j => popAtM s3.2.1 j) >>= fun (q5 : Int × (List Int)) => appM s3.1 q5.1 >>= fun (found4 : (List Int)) => (((pure s3.2.2) >>= fun a => (((pure q5.2) >>= fun a => pure (a.length : Int)) >>= fun a => (pure (1 : Int)) >>= fun b => pure (a + b)) >>= fun b => divM a b) >>= fun (digits6 : Int) => (pure (.nx (found4, q5.2, digits6)))))) 1000 (found2, left1, ar.2.1) >>= fun c => thenL c (fun (s3 : ((List Int) × (List Int) × Int)) => (pure (.rt s3.1))))))) F sc__law_ordered rfl rfl (fun cdv A' outer s H E hr ar => ?_)
  exact ⟨_, (ss_asg 2 sc__law_ordered.nd (ex_listL (K := K) T.n_list (ex_var 0)) (fun left1 => (ss_asg 3 sc__law_ordered.nd (ex_lst (el_nil (o := Ow.v))) (fun found2 => (ss_while (Γs := (fun (s3 : ((List Int) × (List Int) × Int)) => [.mk Ow.v ar.1, .mk Ow.v (s3.2.2 : Int), .mk (Ow.l Ow.v) (s3.2.1 : (List Int)), .mk (Ow.l Ow.v) (s3.1 : (List Int))])) 1000 (found2, left1, ar.2.1) PassesOwn.never (.k (.k (.k (.k .n)))) (fun s3 => (et_view (et_c (ec_neD (K := K) hr.units (ex_var 2) (ex_frz (ex_lst (el_nil (o := Ow.v)))))))) (fun s3 => (ss_appP (α := Int) (β := Int) 2 3 (ep_popAt 2 (ex_view (ex_mod (ex_var 1) (ex_lenL (K := K) T.n_len (ex_var 2))))) (fun q5 found4 => (ss_asg 1 sc__law_ordered.nd (ex_view (ex_fdiv (ex_var 1) (ex_add (ex_lenL (K := K) T.n_len (ex_var 2)) ex_int))) (fun digits6 => (ss_nil (found4, q5.2, digits6) (.k (.k (.k (.k .n)))))))))) (fun s3 => (ss_retO 3)))))))⟩
theorem ok__law_ordered (T : Txt K mg) {f : Addr} {fd : FuncData} (F : FnP K "_law_ordered" s__law_ordered f fd) (hm : mg "_law_ordered" = some (.ref f))  : Has P w K mg base "_law_ordered" 1 ["_law_things", "_law_digits"] (sp__law_ordered K) :=
  ⟨f, fd, ok0__law_ordered T F , hm, F.kp, F.bindsN fun _ _ _ _ _ _ us hl => match us, hl with | [_, _], _ => rfl⟩
abbrev s__law_made : Stmt := top 25
theorem sc__law_made : FnScope ["_law_script", "_law_web_here", "_law_k", "_law_digits"] ["_law_script"] (defScope s__law_made) := ⟨rfl, rfl, rfl, by decide +kernel, rfl, by decide +kernel, by decide +kernel⟩
abbrev sp__law_made (K : PySem.W.Frag) : Sp := spF K (As.cons (α := Scr) As.nil) ((Ow.t3 (Ow.l (Ow.l Ow.v)) Ow.v Ow.v) : Ow (T3 (List (List Int)) (List Int) Int)) (fun a => mir__law_made a.1)
theorem ok0__law_made (T : Txt K mg) {f : Addr} {fd : FuncData} (F : FnP K "_law_made" s__law_made f fd) (H__law_raw : Has P w K mg base "_law_raw" 1 ["_law_script", "_law_k"] (sp__law_raw K)) (H__law_cell : Has P w K mg base "_law_cell" 1 ["_law_script", "_law_k"] (sp__law_cell K)) (H__law_shuffled : Has P w K mg base "_law_shuffled" 1 ["_law_things", "_law_number"] (sp__law_shuffled K)) (H__law_wheel : Has P w K mg base "_law_wheel" 1 ["_law_order"] (sp__law_wheel K)) (H__law_turned : Has P w K mg base "_law_turned" 1 ["_law_web_here", "_law_point"] (sp__law_turned K)) (H__law_ordered : Has P w K mg base "_law_ordered" 1 ["_law_things", "_law_digits"] (sp__law_ordered K)) : FnOk P w K mg base CX0 2 f fd ["_law_script"] (sp__law_made K) := by
  obtain ⟨f__law_raw, fd__law_raw, F__law_raw, m__law_raw, k__law_raw, b__law_raw⟩ := H__law_raw
  obtain ⟨f__law_cell, fd__law_cell, F__law_cell, m__law_cell, k__law_cell, b__law_cell⟩ := H__law_cell
  obtain ⟨f__law_shuffled, fd__law_shuffled, F__law_shuffled, m__law_shuffled, k__law_shuffled, b__law_shuffled⟩ := H__law_shuffled
  obtain ⟨f__law_wheel, fd__law_wheel, F__law_wheel, m__law_wheel, k__law_wheel, b__law_wheel⟩ := H__law_wheel
  obtain ⟨f__law_turned, fd__law_turned, F__law_turned, m__law_turned, k__law_turned, b__law_turned⟩ := H__law_turned
  obtain ⟨f__law_ordered, fd__law_ordered, F__law_ordered, m__law_ordered, k__law_ordered, b__law_ordered⟩ := H__law_ordered
  refine fn_okD (r := (As.cons (α := Scr) As.nil)) (o := (Ow.t3 (Ow.l (Ow.l Ow.v)) Ow.v Ow.v)) (m := fun ar => ((((((pure ar.1) >>= fun a => ((pure (0 : Int)) >>= fun a => (pure ()) >>= fun b => pure (a, b)) >>= fun b => pure (a, b)) >>= fun a => mir__law_raw a.1 a.2.1) >>= fun a => pure (a % (2 : Int))) >>= fun a => (pure (0 : Int)) >>= fun b => pure (decide (a = b))) >>= fun x => if x then (((((((((pure (6 : Int)) >>= fun a => lrange 0 a) >>= fun a => ((((pure ar.1) >>= fun a => ((pure (0 : Int)) >>= fun a => (pure ()) >>= fun b => pure (a, b)) >>= fun b => pure (a, b)) >>= fun a => mir__law_cell a.1 a.2.1) >>= fun a => (pure ()) >>= fun b => pure (a, b)) >>= fun b => pure (a, b)) >>= fun a => mir__law_shuffled a.1 a.2.1) >>= fun a => (pure ()) >>= fun b => pure (a, b)) >>= fun a => mir__law_wheel a.1) >>= fun (web_here1 : (List (List Int))) => ((((((pure ar.1) >>= fun a => ((pure (1 : Int)) >>= fun a => (pure ()) >>= fun b => pure (a, b)) >>= fun b => pure (a, b)) >>= fun a => mir__law_cell a.1 a.2.1) >>= fun a => pure (a % (9 : Int))) >>= fun a => range1 a) >>= fun xs => loopM (S := ((List (List Int)))) (ρ := (T3 (List (List Int)) (List Int) Int)) (fun (k2 : Int) (s3 : ((List (List Int)))) => ((((pure s3) >>= fun a => (((((pure ar.1) >>= fun a => (((pure (2 : Int)) >>= fun a => (pure k2) >>= fun b => pure (a + b)) >>= fun a => (pure ()) >>= fun b => pure (a, b)) >>= fun b => pure (a, b)) >>= fun a => mir__law_cell a.1 a.2.1) >>= fun a => pure (a % (6 : Int))) >>= fun a => (pure ()) >>= fun b => pure (a, b)) >>= fun b => pure (a, b)) >>= fun a => mir__law_turned a.1 a.2.1) >>= fun (web_here4 : (List (List Int))) => (pure (.nx (web_here4))))) xs (web_here1) >>= fun c => thenL c (fun (s3 : ((List (List Int)))) => ((pure s3) >>= fun x => (((((pure (6 : Int)) >>= fun a => lrange 0 a) >>= fun a => ((((pure ar.1) >>= fun a => ((pure (10 : Int)) >>= fun a => (pure ()) >>= fun b => pure (a, b)) >>= fun b => pure (a, b)) >>= fun a => mir__law_cell a.1 a.2.1) >>= fun a => (pure ()) >>= fun b => pure (a, b)) >>= fun b => pure (a, b)) >>= fun a => mir__law_shuffled a.1 a.2.1) >>= fun a => (pure none) >>= fun l => ((pure (2 : Int)) >>= fun i => pure (some i)) >>= fun u => pure (cutL a l u)) >>= fun y => ((((pure ar.1) >>= fun a => ((pure (11 : Int)) >>= fun a => (pure ()) >>= fun b => pure (a, b)) >>= fun b => pure (a, b)) >>= fun a => mir__law_cell a.1 a.2.1) >>= fun a => pure (a % (6 : Int))) >>= fun z => pure (.rt (T3.mk x y z)))))) : M (Ctl Empty Empty (T3 (List (List Int)) (List Int) Int))) >>= fun y => thenC y nofun) else ((((pure ar.1) >>= fun a => ((pure (1 : Int)) >>= fun a => (pure ()) >>= fun b => pure (a, b)) >>= fun b => pure (a, b)) >>= fun a => mir__law_raw a.1 a.2.1) >>= fun (digits5 : Int) => (((((((pure (6 : Int)) >>= fun a => lrange 0 a) >>= fun a => ((pure digits5) >>= fun a => (pure ()) >>= fun b => pure (a, b)) >>= fun b => pure (a, b)) >>= fun a => mir__law_ordered a.1 a.2.1) >>= fun a => (pure ()) >>= fun b => pure (a, b)) >>= fun a => mir__law_wheel a.1) >>= fun (web_here6 : (List (List Int))) => (((pure digits5) >>= fun a => pure (a / (720 : Int))) >>= fun (digits7 : Int) => (((((((pure ar.1) >>= fun a => ((pure (0 : Int)) >>= fun a => (pure ()) >>= fun b => pure (a, b)) >>= fun b => pure (a, b)) >>= fun a => mir__law_raw a.1 a.2.1) >>= fun a => pure (a / (2 : Int))) >>= fun a => pure (a % (61 : Int))) >>= fun a => range1 a) >>= fun xs => loopM (S := ((List (List Int)) × Int)) (ρ := (T3 (List (List Int)) (List Int) Int)) (fun (k8 : Int) (s9 : ((List (List Int)) × Int)) => ((((pure s9.1) >>= fun a => (((pure s9.2) >>= fun a => pure (a % (6 : Int))) >>= fun a => (pure ()) >>= fun b => pure (a, b)) >>= fun b => pure (a, b)) >>= fun a => mir__law_turned a.1 a.2.1) >>= fun (web_here10 : (List (List Int))) => (((pure s9.2) >>= fun a => pure (a / (6 : Int))) >>= fun (digits11 : Int) => (pure (.nx (web_here10, digits11)))))) xs (web_here6, digits7) >>= fun c => thenL c (fun (s9 : ((List (List Int)) × Int)) => ((pure s9.1) >>= fun x => (((((pure (6 : Int)) >>= fun a => lrange 0 a) >>= fun a => ((((pure ar.1) >>= fun a => ((pure (2 : Int)) >>= fun a => (pure ()) >>= fun b => pure (a, b)) >>= fun b => pure (a, b)) >>= fun a => mir__law_raw a.1 a.2.1) >>= fun a => (pure ()) >>= fun b => pure (a, b)) >>= fun b => pure (a, b)) >>= fun a => mir__law_ordered a.1 a.2.1) >>= fun a => (pure none) >>= fun l => ((pure (2 : Int)) >>= fun i => pure (some i)) >>= fun u => pure (cutL a l u)) >>= fun y => ((((pure ar.1) >>= fun a => ((pure (3 : Int)) >>= fun a => (pure ()) >>= fun b => pure (a, b)) >>= fun b => pure (a, b)) >>= fun a => mir__law_raw a.1 a.2.1) >>= fun a => pure (a % (6 : Int))) >>= fun z => pure (.rt (T3.mk x y z)))))))))) F sc__law_made rfl rfl (fun cdv A' outer s H E hr ar => ?_)
  have hr__law_raw := hr.mono (show 1 ≤ 1 by decide)
  have hr__law_cell := hr.mono (show 1 ≤ 1 by decide)
  have hr__law_shuffled := hr.mono (show 1 ≤ 1 by decide)
  have hr__law_wheel := hr.mono (show 1 ≤ 1 by decide)
  have hr__law_turned := hr.mono (show 1 ≤ 1 by decide)
  have hr__law_ordered := hr.mono (show 1 ≤ 1 by decide)
  exact ⟨_, (ss_ifR (et_c (ec_eq (ex_modc (ex_call F__law_raw hr__law_raw m__law_raw k__law_raw b__law_raw (ea_cons (ex_var 0) (ea_cons ex_int ea_nil)))) ex_int)) (ss_asg 1 sc__law_made.nd (ex_call F__law_wheel hr__law_wheel m__law_wheel k__law_wheel b__law_wheel (ea_cons (ex_frz (ex_call F__law_shuffled hr__law_shuffled m__law_shuffled k__law_shuffled b__law_shuffled (ea_cons (ex_frz (ex_listRg1 rfl T.n_list T.n_range ex_int)) (ea_cons (ex_call F__law_cell hr__law_cell m__law_cell k__law_cell b__law_cell (ea_cons (ex_var 0) (ea_cons ex_int ea_nil))) ea_nil)))) ea_nil)) (fun web_here1 => (ss_for (Γs := (fun (s3 : ((List (List Int)))) => [.mk Ow.v ar.1, .mk (Ow.l (Ow.l Ow.v)) (s3 : (List (List Int))), .un, .un])) (web_here1) rfl PassesOwn.never (ei_range1 T.n_range (ex_modc (ex_call F__law_cell hr__law_cell m__law_cell k__law_cell b__law_cell (ea_cons (ex_var 0) (ea_cons ex_int ea_nil))))) (.k (.k (.w (.w .n)))) (fun s3 k2 => (eg_name 2 sc__law_made.nd)) (fun s3 k2 => (ss_asg 1 sc__law_made.nd (ex_view (ex_call F__law_turned hr__law_turned m__law_turned k__law_turned b__law_turned (ea_cons (ex_var 1) (ea_cons (ex_modc (ex_call F__law_cell hr__law_cell m__law_cell k__law_cell b__law_cell (ea_cons (ex_var 0) (ea_cons (ex_add ex_int (ex_var 2)) ea_nil)))) ea_nil)))) (fun web_here4 => (ss_nil (web_here4) (.k (.k (.w (.w .n)))))))) (fun s3 => (ss_ret3V (ev_var 1) (ev_ex (ex_frz (ex_cutL (K := K) (ex_frz (ex_call F__law_shuffled hr__law_shuffled m__law_shuffled k__law_shuffled b__law_shuffled (ea_cons (ex_frz (ex_listRg1 rfl T.n_list T.n_range ex_int)) (ea_cons (ex_call F__law_cell hr__law_cell m__law_cell k__law_cell b__law_cell (ea_cons (ex_var 0) (ea_cons ex_int ea_nil))) ea_nil)))) eo_none (eo_some ex_int)))) (ev_ex (ex_modc (ex_call F__law_cell hr__law_cell m__law_cell k__law_cell b__law_cell (ea_cons (ex_var 0) (ea_cons ex_int ea_nil)))))))))) (ss_asg 3 sc__law_made.nd (ex_call F__law_raw hr__law_raw m__law_raw k__law_raw b__law_raw (ea_cons (ex_var 0) (ea_cons ex_int ea_nil))) (fun digits5 => (ss_asg 1 sc__law_made.nd (ex_call F__law_wheel hr__law_wheel m__law_wheel k__law_wheel b__law_wheel (ea_cons (ex_frz (ex_call F__law_ordered hr__law_ordered m__law_ordered k__law_ordered b__law_ordered (ea_cons (ex_frz (ex_listRg1 rfl T.n_list T.n_range ex_int)) (ea_cons (ex_var 3) ea_nil)))) ea_nil)) (fun web_here6 => (ss_asg 3 sc__law_made.nd (ex_fdivc (ex_var 3)) (fun digits7 => (ss_for (Γs := (fun (s9 : ((List (List Int)) × Int)) => [.mk Ow.v ar.1, .mk (Ow.l (Ow.l Ow.v)) (s9.1 : (List (List Int))), .un, .mk Ow.v (s9.2 : Int)])) (web_here6, digits7) rfl PassesOwn.never (ei_range1 T.n_range (ex_modc (ex_fdivc (ex_call F__law_raw hr__law_raw m__law_raw k__law_raw b__law_raw (ea_cons (ex_var 0) (ea_cons ex_int ea_nil)))))) (.k (.k (.w (.k .n)))) (fun s9 k8 => (eg_name 2 sc__law_made.nd)) (fun s9 k8 => (ss_asg 1 sc__law_made.nd (ex_view (ex_call F__law_turned hr__law_turned m__law_turned k__law_turned b__law_turned (ea_cons (ex_var 1) (ea_cons (ex_modc (ex_var 3)) ea_nil)))) (fun web_here10 => (ss_asg 3 sc__law_made.nd (ex_fdivc (ex_var 3)) (fun digits11 => (ss_nil (web_here10, digits11) (.k (.k (.w (.k .n)))))))))) (fun s9 => (ss_ret3V (ev_var 1) (ev_ex (ex_frz (ex_cutL (K := K) (ex_frz (ex_call F__law_ordered hr__law_ordered m__law_ordered k__law_ordered b__law_ordered (ea_cons (ex_frz (ex_listRg1 rfl T.n_list T.n_range ex_int)) (ea_cons (ex_call F__law_raw hr__law_raw m__law_raw k__law_raw b__law_raw (ea_cons (ex_var 0) (ea_cons ex_int ea_nil))) ea_nil)))) eo_none (eo_some ex_int)))) (ev_ex (ex_modc (ex_call F__law_raw hr__law_raw m__law_raw k__law_raw b__law_raw (ea_cons (ex_var 0) (ea_cons ex_int ea_nil)))))))))))))))⟩
theorem ok__law_made (T : Txt K mg) {f : Addr} {fd : FuncData} (F : FnP K "_law_made" s__law_made f fd) (hm : mg "_law_made" = some (.ref f)) (H__law_raw : Has P w K mg base "_law_raw" 1 ["_law_script", "_law_k"] (sp__law_raw K)) (H__law_cell : Has P w K mg base "_law_cell" 1 ["_law_script", "_law_k"] (sp__law_cell K)) (H__law_shuffled : Has P w K mg base "_law_shuffled" 1 ["_law_things", "_law_number"] (sp__law_shuffled K)) (H__law_wheel : Has P w K mg base "_law_wheel" 1 ["_law_order"] (sp__law_wheel K)) (H__law_turned : Has P w K mg base "_law_turned" 1 ["_law_web_here", "_law_point"] (sp__law_turned K)) (H__law_ordered : Has P w K mg base "_law_ordered" 1 ["_law_things", "_law_digits"] (sp__law_ordered K)) : Has P w K mg base "_law_made" 2 ["_law_script"] (sp__law_made K) :=
  ⟨f, fd, ok0__law_made T F H__law_raw H__law_cell H__law_shuffled H__law_wheel H__law_turned H__law_ordered, hm, F.kp, F.bindsN fun _ _ _ _ _ _ us hl => match us, hl with | [_], _ => rfl⟩
abbrev s_told_web__cl1 : Stmt := top 14
theorem sc_told_web__cl1 : FnScope ["web", "word", "turns", "order"] ["web"] (defScope s_told_web__cl1) := ⟨rfl, rfl, rfl, by decide +kernel, rfl, by decide +kernel, by decide +kernel⟩
abbrev sp_told_web__cl1 (K : PySem.W.Frag) : Sp := spF K (As.cons (α := (List (List Int))) As.nil) ((Ow.t3 Ow.v (Ow.l Ow.v) (Ow.l Ow.v)) : Ow (T3 Str (List Int) (List Int))) (fun a => mir_told_web__cl1 a.1)
theorem ok0_told_web__cl1 (T : Txt K mg) {f : Addr} {fd : FuncData} (F : FnP K "told_web" s_told_web__cl1 f fd) (H_word_from : Has P w K mg base "word_from" 10 ["word", "placed", "web"] (sp_word_from K)) (H_turns_to_wheel : Has P w K mg base "turns_to_wheel" 3 ["web"] (sp_turns_to_wheel K)) : FnOk P w K mg base CX0 11 f fd ["web"] (sp_told_web__cl1 K) := by
  obtain ⟨f_word_from, fd_word_from, F_word_from, m_word_from, k_word_from, b_word_from⟩ := H_word_from
  obtain ⟨f_turns_to_wheel, fd_turns_to_wheel, F_turns_to_wheel, m_turns_to_wheel, k_turns_to_wheel, b_turns_to_wheel⟩ := H_turns_to_wheel
  refine fn_okD (r := (As.cons (α := (List (List Int))) As.nil)) (o := (Ow.t3 Ow.v (Ow.l Ow.v) (Ow.l Ow.v))) (m := fun ar => ((((pure ar.1) >>= fun a => pure (a.length : Int)) >>= fun a => (pure (6 : Int)) >>= fun b => pure (decide (b < a))) >>= fun x => if x then (((no) : M (Ctl Empty Empty (T3 Str (List Int) (List Int)))) >>= fun y => thenC y nofun) else ((((pure ("" : Str)) >>= fun a => (((pure ([] : List Int)) >>= fun a => lstM a) >>= fun a => ((pure ar.1) >>= fun a => (pure ()) >>= fun b => pure (a, b)) >>= fun b => pure (a, b)) >>= fun b => pure (a, b)) >>= fun a => mir_word_from a.1 a.2.1 a.2.2.1) >>= fun (word1 : (Option Str)) => (((pure word1) >>= fun a => pure a.isSome) >>= fun x => if x then (((no) : M (Ctl Empty Empty (T3 Str (List Int) (List Int)))) >>= fun y => thenC y nofun) else ((((pure ar.1) >>= fun a => (pure ()) >>= fun b => pure (a, b)) >>= fun a => mir_turns_to_wheel a.1) >>= fun (u2 : ((List Int) × (List Int))) => ((pure ("none" : Str)) >>= fun x => (pure u2.1) >>= fun y => (pure u2.2) >>= fun z => pure (.rt (T3.mk x y z)))))))) F sc_told_web__cl1 rfl rfl (fun cdv A' outer s H E hr ar => ?_)
  have hr_word_from := hr.mono (show 10 ≤ 10 by decide)
  have hr_turns_to_wheel := hr.mono (show 3 ≤ 10 by decide)
  exact ⟨_, (ss_ifR (et_c (ec_gt (ex_lenL (K := K) T.n_len (ex_var 0)) (ex_gint T.g_MOST_POINTS))) (ss_no) (ss_asg 1 sc_told_web__cl1.nd (ex_call F_word_from hr_word_from m_word_from k_word_from b_word_from (ea_cons ex_str (ea_cons (ex_frz (ex_lst (el_nil (o := Ow.v)))) (ea_cons (ex_var 0) ea_nil)))) (fun word1 => (ss_ifR (et_c (ec_notN (ex_var 1))) (ss_no) (ss_asgO2 (K := K) 2 3 rfl sc_told_web__cl1.nd (ex_call F_turns_to_wheel hr_turns_to_wheel m_turns_to_wheel k_turns_to_wheel b_turns_to_wheel (ea_cons (ex_var 0) ea_nil)) (fun u2 => (ss_ret3V (ev_ex ex_str) (ev_var 2) (ev_var 3))))))))⟩
theorem ok_told_web__cl1 (T : Txt K mg) {f : Addr} {fd : FuncData} (F : FnP K "told_web" s_told_web__cl1 f fd) (hm : mg "told_web" = some (.ref f)) (H_word_from : Has P w K mg base "word_from" 10 ["word", "placed", "web"] (sp_word_from K)) (H_turns_to_wheel : Has P w K mg base "turns_to_wheel" 3 ["web"] (sp_turns_to_wheel K)) : Has P w K mg base "told_web" 11 ["web"] (sp_told_web__cl1 K) :=
  ⟨f, fd, ok0_told_web__cl1 T F H_word_from H_turns_to_wheel, hm, F.kp, F.bindsN fun _ _ _ _ _ _ us hl => match us, hl with | [_], _ => rfl⟩
abbrev s_law : Stmt := top 26
theorem sc_law : FnScope ["_law_script", "_law_web_here", "_law_pair", "_law_point", "_law_handed", "_law_found", "_law_one", "_law_other", "_law_word", "_law_turned_here", "_law_row"] ["_law_script"] (defScope s_law) := ⟨rfl, rfl, rfl, by decide +kernel, rfl, by decide +kernel, by decide +kernel⟩
abbrev sp_law (K : PySem.W.Frag) : Sp := spF K (As.cons (α := Scr) As.nil) (Ow.v : Ow Bool) (fun a => mir_law a.1)
theorem ok0_law (T : Txt K mg) {f : Addr} {fd : FuncData} (F : FnP K "law" s_law f fd) (H__law_made : Has P w K mg base "_law_made" 2 ["_law_script"] (sp__law_made K)) (H_told_web__cl1 : Has P w K mg base "told_web" 11 ["web"] (sp_told_web__cl1 K)) (H__law_told_right : Has P w K mg base "_law_told_right" 2 ["_law_web_here", "_law_found"] (sp__law_told_right K)) (H_told_web : Has P w K mg base "told_web" 11 ["web"] (sp_told_web K)) (H__law_turned : Has P w K mg base "_law_turned" 1 ["_law_web_here", "_law_point"] (sp__law_turned K)) : FnOk P w K mg base CX0 12 f fd ["_law_script"] (sp_law K) := by
  obtain ⟨f__law_made, fd__law_made, F__law_made, m__law_made, k__law_made, b__law_made⟩ := H__law_made
  obtain ⟨f_told_web__cl1, fd_told_web__cl1, F_told_web__cl1, m_told_web__cl1, k_told_web__cl1, b_told_web__cl1⟩ := H_told_web__cl1
  obtain ⟨f__law_told_right, fd__law_told_right, F__law_told_right, m__law_told_right, k__law_told_right, b__law_told_right⟩ := H__law_told_right
  obtain ⟨f_told_web, fd_told_web, F_told_web, m_told_web, k_told_web, b_told_web⟩ := H_told_web
  obtain ⟨f__law_turned, fd__law_turned, F__law_turned, m__law_turned, k__law_turned, b__law_turned⟩ := H__law_turned
  refine fn_okD (r := (As.cons (α := Scr) As.nil)) (o := Ow.v) (m := fun ar => ((((pure ar.1) >>= fun a => (pure ()) >>= fun b => pure (a, b)) >>= fun a => mir__law_made a.1) >>= fun (u1 : (T3 (List (List Int)) (List Int) Int)) => (((pure u1.a) >>= fun xs => compM xs (fun (row2 : (List Int)) => (pure true)) (fun (row2 : (List Int)) => ((pure row2) >>= fun a => pure a))) >>= fun (handed3 : (List (List Int))) => ((((pure handed3) >>= fun a => (pure ()) >>= fun b => pure (a, b)) >>= fun a => mir_told_web__cl1 a.1) >>= fun (found4 : (T3 Str (List Int) (List Int))) => ((bOr (((((pure u1.a) >>= fun a => (((pure found4) >>= fun a => gd (decide (a.a = ("none" : Str))) >>= fun _ => pure (Tw.n a.b a.c)) >>= fun a => (pure ()) >>= fun b => pure (a, b)) >>= fun b => pure (a, b)) >>= fun a => mir__law_told_right a.1 a.2.1) >>= fun a => ofO a) >>= fun a => (pure ("none" : Str)) >>= fun b => pure (!decide (a = b))) ((pure handed3) >>= fun a => (pure u1.a) >>= fun b => neM a b)) >>= fun x => if x then ((((pure false) >>= fun r => pure (.rt r)) : M (Ctl Empty Empty Bool)) >>= fun y => thenC y nofun) else ((pure (6 : Int)) >>= fun a => appT1M found4 a >>= fun (found5 : (T3 Str (List Int) (List Int))) => (revT2M found5 >>= fun (found6 : (T3 Str (List Int) (List Int))) => ((bOr (((((pure u1.a) >>= fun a => ((((pure handed3) >>= fun a => (pure ()) >>= fun b => pure (a, b)) >>= fun a => mir_told_web a.1) >>= fun a => (pure ()) >>= fun b => pure (a, b)) >>= fun b => pure (a, b)) >>= fun a => mir__law_told_right a.1 a.2.1) >>= fun a => ofO a) >>= fun a => (pure ("none" : Str)) >>= fun b => pure (!decide (a = b))) ((pure handed3) >>= fun a => (pure u1.a) >>= fun b => neM a b)) >>= fun x => if x then ((((pure false) >>= fun r => pure (.rt r)) : M (Ctl Empty Empty Bool)) >>= fun y => thenC y nofun) else ((pure u1.b) >>= fun a => twoM a >>= fun (u7 : Int × Int) => (((pure (1 : Int)) >>= fun a => (((pure u1.a) >>= fun a => (pure u7.1) >>= fun b => atM a b) >>= fun a => (pure u7.2) >>= fun b => atM a b) >>= fun b => pure (a - b)) >>= fun a => (pure u7.1) >>= fun b => (pure u7.2) >>= fun c => set2M u1.a b c a >>= fun (web_here10 : (List (List Int))) => ((((pure web_here10) >>= fun a => (pure u7.1) >>= fun b => atM a b) >>= fun a => (pure u7.2) >>= fun b => atM a b) >>= fun a => (pure u7.2) >>= fun b => (pure u7.1) >>= fun c => set2M web_here10 b c a >>= fun (web_here11 : (List (List Int))) => ((((pure web_here11) >>= fun a => (((((pure web_here11) >>= fun xs => compM xs (fun (row12 : (List Int)) => (pure true)) (fun (row12 : (List Int)) => ((pure row12) >>= fun a => pure a))) >>= fun a => (pure ()) >>= fun b => pure (a, b)) >>= fun a => mir_told_web a.1) >>= fun a => (pure ()) >>= fun b => pure (a, b)) >>= fun b => pure (a, b)) >>= fun a => mir__law_told_right a.1 a.2.1) >>= fun (word13 : (Option Str)) => (((pure word13) >>= fun a => pure a.isNone) >>= fun x => if x then ((((pure false) >>= fun r => pure (.rt r)) : M (Ctl Empty Empty Bool)) >>= fun y => thenC y nofun) else ((((pure web_here11) >>= fun a => ((pure u1.c) >>= fun a => (pure ()) >>= fun b => pure (a, b)) >>= fun b => pure (a, b)) >>= fun a => mir__law_turned a.1 a.2.1) >>= fun (turned_here14 : (List (List Int))) => ((((((pure turned_here14) >>= fun a => (((((pure turned_here14) >>= fun xs => compM xs (fun (row15 : (List Int)) => (pure true)) (fun (row15 : (List Int)) => ((pure row15) >>= fun a => pure a))) >>= fun a => (pure ()) >>= fun b => pure (a, b)) >>= fun a => mir_told_web a.1) >>= fun a => (pure ()) >>= fun b => pure (a, b)) >>= fun b => pure (a, b)) >>= fun a => mir__law_told_right a.1 a.2.1) >>= fun a => ofO a) >>= fun a => ((pure word13) >>= fun a => ofO a) >>= fun b => pure (decide (a = b))) >>= fun r => pure (.rt r)))))))))))))))) F sc_law rfl rfl (fun cdv A' outer s H E hr ar => ?_)
  have hr__law_made := hr.mono (show 2 ≤ 11 by decide)
  have hr_told_web__cl1 := hr.mono (show 11 ≤ 11 by decide)
  have hr__law_told_right := hr.mono (show 2 ≤ 11 by decide)
  have hr_told_web := hr.mono (show 11 ≤ 11 by decide)
  have hr__law_turned := hr.mono (show 1 ≤ 11 by decide)
  exact ⟨_, (ss_asgO3 (K := K) 1 2 3 rfl sc_law.nd (ex_call F__law_made hr__law_made m__law_made k__law_made b__law_made (ea_cons (ex_var 0) ea_nil)) (fun u1 => (ss_asgLcV 4 rfl sc_law.nd (ei_list (K := K) (ex_var 1)) (own := [("_law_row", 10)]) (by kernel_rfl) rfl rfl (fun _ _ _ _ _ row2 => (eg_name 10 sc_law.nd)) (fun _ _ _ _ _ row2 => ef_nil) (fun _ _ _ _ _ row2 => (ex_listL (K := K) T.n_list (ex_var 10))) (fun handed3 => (ss_frz 4 rfl (ss_asg 5 sc_law.nd (ex_call F_told_web__cl1 hr_told_web__cl1 m_told_web__cl1 k_told_web__cl1 b_told_web__cl1 (ea_cons (ex_var 4) ea_nil)) (fun found4 => (ss_ifR (et_view (ew_pt (ew_or (et_c (ec_ne (ex_unOS (ex_call F__law_told_right hr__law_told_right m__law_told_right k__law_told_right b__law_told_right (ea_cons (ex_var 1) (ea_cons (ex_twT (ex_var 5)) ea_nil)))) ex_str)) (ew_or1 (et_c (ec_neD (K := K) hr.units (ex_var 4) (ex_var 1))))))) (ss_ret ex_bl) (ss_appT1 (K := K) (u1 := (Ow.v : Ow Str)) (u3 := ((Ow.l Ow.v) : Ow (List Int))) 5 ex_int (fun found5 => (ss_revT2 (K := K) (u1 := (Ow.v : Ow Str)) (u2 := ((Ow.l Ow.v) : Ow (List Int))) 5 (fun found6 => (ss_ifR (et_view (ew_pt (ew_or (et_c (ec_ne (ex_unOS (ex_call F__law_told_right hr__law_told_right m__law_told_right k__law_told_right b__law_told_right (ea_cons (ex_var 1) (ea_cons (ex_call F_told_web hr_told_web m_told_web k_told_web b_told_web (ea_cons (ex_var 4) ea_nil)) ea_nil)))) ex_str)) (ew_or1 (et_c (ec_neD (K := K) hr.units (ex_var 4) (ex_var 1))))))) (ss_ret ex_bl) (ss_asgU (K := K) rfl (ex_var 2) (fun a8 => (eg_name 6 sc_law.nd)) (fun a8 b9 => (eg_name 7 sc_law.nd)) (fun u7 => (ss_set2 (K := K) 1 (ex_view (ex_sub ex_int (ex_ixL (K := K) (ex_ixL (K := K) (ex_var 1) (ex_var 6)) (ex_var 7)))) (ex_var 6) (ex_var 7) (fun web_here10 => (ss_set2 (K := K) 1 (ex_view (ex_ixL (K := K) (ex_ixL (K := K) (ex_var 1) (ex_var 6)) (ex_var 7))) (ex_var 7) (ex_var 6) (fun web_here11 => (ss_asg 8 sc_law.nd (ex_view (ex_call F__law_told_right hr__law_told_right m__law_told_right k__law_told_right b__law_told_right (ea_cons (ex_var 1) (ea_cons (ex_call F_told_web hr_told_web m_told_web k_told_web b_told_web (ea_cons (ex_frz (ex_lc rfl sc_law.nd (ei_list (K := K) (ex_var 1)) (own := [("_law_row", 10)]) (by kernel_rfl) rfl rfl (fun _ _ _ _ _ row12 => (eg_name 10 sc_law.nd)) (fun _ _ _ _ _ row12 => ef_nil) (fun _ _ _ _ _ row12 => (ex_listL (K := K) T.n_list (ex_var 10))))) ea_nil)) ea_nil)))) (fun word13 => (ss_ifR (et_c (ec_isN (ex_var 8))) (ss_ret ex_bl) (ss_asg 9 sc_law.nd (ex_frz (ex_view (ex_call F__law_turned hr__law_turned m__law_turned k__law_turned b__law_turned (ea_cons (ex_var 1) (ea_cons (ex_var 3) ea_nil))))) (fun turned_here14 => (ss_ret (ex_c (ec_eq (ex_unOS (ex_call F__law_told_right hr__law_told_right m__law_told_right k__law_told_right b__law_told_right (ea_cons (ex_var 9) (ea_cons (ex_call F_told_web hr_told_web m_told_web k_told_web b_told_web (ea_cons (ex_frz (ex_lc rfl sc_law.nd (ei_list (K := K) (ex_var 9)) (own := [("_law_row", 10)]) (by kernel_rfl) rfl rfl (fun _ _ _ _ _ row15 => (eg_name 10 sc_law.nd)) (fun _ _ _ _ _ row15 => ef_nil) (fun _ _ _ _ _ row15 => (ex_listL (K := K) T.n_list (ex_var 10))))) ea_nil)) ea_nil)))) (ex_unOS (ex_var 8)))))))))))))))))) default)) found4)))))))) (dd := default))⟩
end
/-! ### the head -/
def d_turned_web : He.DefD := ⟨("turned_web", none), "turned_web", "turned_web", defArgs s_turned_web, defBody s_turned_web, defScope s_turned_web, [], []⟩
def d_is_wheel : He.DefD := ⟨("is_wheel", none), "is_wheel", "is_wheel", defArgs s_is_wheel, defBody s_is_wheel, defScope s_is_wheel, [], []⟩
def d_crossed_between : He.DefD := ⟨("crossed_between", none), "crossed_between", "crossed_between", defArgs s_crossed_between, defBody s_crossed_between, defScope s_crossed_between, [], []⟩
def d_next_point : He.DefD := ⟨("next_point", none), "next_point", "next_point", defArgs s_next_point, defBody s_next_point, defScope s_next_point, [], []⟩
def d_grown_words : He.DefD := ⟨("grown_words", none), "grown_words", "grown_words", defArgs s_grown_words, defBody s_grown_words, defScope s_grown_words, [], []⟩
def d_word_from : He.DefD := ⟨("word_from", none), "word_from", "word_from", defArgs s_word_from, defBody s_word_from, defScope s_word_from, [], []⟩
def d_wheel_order : He.DefD := ⟨("wheel_order", none), "wheel_order", "wheel_order", defArgs s_wheel_order, defBody s_wheel_order, defScope s_wheel_order, [], []⟩
def d_turns_to_wheel : He.DefD := ⟨("turns_to_wheel", none), "turns_to_wheel", "turns_to_wheel", defArgs s_turns_to_wheel, defBody s_turns_to_wheel, defScope s_turns_to_wheel, [], []⟩
def d_told_web : He.DefD := ⟨("told_web", none), "told_web", "told_web", defArgs s_told_web, defBody s_told_web, defScope s_told_web, [], []⟩
def d__law_cell : He.DefD := ⟨("_law_cell", none), "_law_cell", "_law_cell", defArgs s__law_cell, defBody s__law_cell, defScope s__law_cell, [], []⟩
def d__law_shuffled : He.DefD := ⟨("_law_shuffled", none), "_law_shuffled", "_law_shuffled", defArgs s__law_shuffled, defBody s__law_shuffled, defScope s__law_shuffled, [], []⟩
def d__law_web : He.DefD := ⟨("_law_web", none), "_law_web", "_law_web", defArgs s__law_web, defBody s__law_web, defScope s__law_web, [], []⟩
def d__law_turned : He.DefD := ⟨("_law_turned", none), "_law_turned", "_law_turned", defArgs s__law_turned, defBody s__law_turned, defScope s__law_turned, [], []⟩
def d__law_wheel_by : He.DefD := ⟨("_law_wheel_by", none), "_law_wheel_by", "_law_wheel_by", defArgs s__law_wheel_by, defBody s__law_wheel_by, defScope s__law_wheel_by, [], []⟩
def d__law_told_right : He.DefD := ⟨("_law_told_right", none), "_law_told_right", "_law_told_right", defArgs s__law_told_right, defBody s__law_told_right, defScope s__law_told_right, [], []⟩
def d__law_wheel : He.DefD := ⟨("_law_wheel", none), "_law_wheel", "_law_wheel", defArgs s__law_wheel, defBody s__law_wheel, defScope s__law_wheel, [], []⟩
def d__law_raw : He.DefD := ⟨("_law_raw", none), "_law_raw", "_law_raw", defArgs s__law_raw, defBody s__law_raw, defScope s__law_raw, [], []⟩
def d__law_ordered : He.DefD := ⟨("_law_ordered", none), "_law_ordered", "_law_ordered", defArgs s__law_ordered, defBody s__law_ordered, defScope s__law_ordered, [], []⟩
def d__law_made : He.DefD := ⟨("_law_made", none), "_law_made", "_law_made", defArgs s__law_made, defBody s__law_made, defScope s__law_made, [], []⟩
def d_told_web__cl1 : He.DefD := ⟨("told_web", none), "told_web", "told_web", defArgs s_told_web__cl1, defBody s_told_web__cl1, defScope s_told_web__cl1, [], []⟩
def d_law : He.DefD := ⟨("law", none), "law", "law", defArgs s_law, defBody s_law, defScope s_law, [], []⟩
def fn : List He.DefD := [d_turned_web, d_is_wheel, d_crossed_between, d_next_point, d_grown_words, d_word_from, d_wheel_order, d_turns_to_wheel, d_told_web, d__law_cell, d__law_shuffled, d__law_web, d__law_turned, d__law_wheel_by, d__law_told_right, d__law_wheel, d__law_raw, d__law_ordered, d__law_made, d_told_web__cl1, d_law]
def fa : List He.Fa := [.glo "turned_web", .glo "is_wheel", .glo "crossed_between", .glo "next_point", .glo "grown_words", .glo "word_from", .glo "wheel_order", .glo "turns_to_wheel", .glo "told_web", .glo "_law_cell", .glo "_law_shuffled", .glo "_law_web", .glo "_law_turned", .glo "_law_wheel_by", .glo "_law_told_right", .glo "_law_wheel", .glo "_law_raw", .glo "_law_ordered", .glo "_law_made", .glo "told_web", .glo "law", .free "any", .free "bool", .free "enumerate", .free "int", .free "isinstance", .free "len", .free "list", .free "min", .free "range", .free "set", .free "sorted", .free "str", .free "tuple", .int "MOST_POINTS" (6 : Int), .str "SMALL" ("abcdefghijklmnopqrstuvwxyz" : Str)]
abbrev R : PySem.W.OpenRow := PySem.W.OpenLaw.row PySem.Challenge.rw_fourway_k87_whole_no_word_for_the_wheel
abbrev hk : PySem.W.Hook := He.hookD 4 fa fn
def ob (s : PySem.W.SharedT) : He.AlD := He.obsDG 4 fa fn (HandSHeadRun.getT s)
theorem ob_eq (s : PySem.W.SharedT) : ob s = hk.obs s.abs := He.obsDG_eq (HandSHeadRun.getT_eq s)
theorem run (w : World) : HandSHeadRun.RunEq R (PySem.W.view R.prog [26]) hk ob 4000 ((["RoundError", "TooMany", "SMALL", "MOST_POINTS", "turned_web", "is_wheel", "crossed_between", "next_point", "grown_words", "word_from", "wheel_order", "turns_to_wheel", "told_web", "_law_cell", "_law_shuffled", "_law_web", "_law_turned", "_law_wheel_by", "_law_told_right", "_law_wheel", "_law_raw", "_law_ordered", "_law_made"] : List PySem.Str)) w := by
  intro os
  kernel_rfl
theorem facts {P : Program} {w : World} {K : PySem.W.Frag} {h : Heap} {mg : Str → Option Value} {f : Addr} (X : K.In h) (G : h.Ns mainGlobals mg) (hfa : mg ("law" : Str) = some (.ref f)) (c : He.SaysD fa fn K) :
    ∃ fd : FuncData, (∀ (s : Shared) (v : Value), BindsTo s fd ⟨[v], []⟩ [("_law_script", v)]) ∧ ∀ base : Heap, K.In base → base.Ns mainGlobals mg → FnOk P w K mg base CX0 12 f fd ["_law_script"] (sp_law K) := by
  obtain ⟨fd_turned_web, F_turned_web⟩ := c.def_ 0 (d := d_turned_web) rfl
  obtain ⟨fd_is_wheel, F_is_wheel⟩ := c.def_ 1 (d := d_is_wheel) rfl
  obtain ⟨fd_crossed_between, F_crossed_between⟩ := c.def_ 2 (d := d_crossed_between) rfl
  obtain ⟨fd_next_point, F_next_point⟩ := c.def_ 3 (d := d_next_point) rfl
  obtain ⟨fd_grown_words, F_grown_words⟩ := c.def_ 4 (d := d_grown_words) rfl
  obtain ⟨fd_word_from, F_word_from⟩ := c.def_ 5 (d := d_word_from) rfl
  obtain ⟨fd_wheel_order, F_wheel_order⟩ := c.def_ 6 (d := d_wheel_order) rfl
  obtain ⟨fd_turns_to_wheel, F_turns_to_wheel⟩ := c.def_ 7 (d := d_turns_to_wheel) rfl
  obtain ⟨fd_told_web, F_told_web⟩ := c.def_ 8 (d := d_told_web) rfl
  obtain ⟨fd__law_cell, F__law_cell⟩ := c.def_ 9 (d := d__law_cell) rfl
  obtain ⟨fd__law_shuffled, F__law_shuffled⟩ := c.def_ 10 (d := d__law_shuffled) rfl
  obtain ⟨fd__law_web, F__law_web⟩ := c.def_ 11 (d := d__law_web) rfl
  obtain ⟨fd__law_turned, F__law_turned⟩ := c.def_ 12 (d := d__law_turned) rfl
  obtain ⟨fd__law_wheel_by, F__law_wheel_by⟩ := c.def_ 13 (d := d__law_wheel_by) rfl
  obtain ⟨fd__law_told_right, F__law_told_right⟩ := c.def_ 14 (d := d__law_told_right) rfl
  obtain ⟨fd__law_wheel, F__law_wheel⟩ := c.def_ 15 (d := d__law_wheel) rfl
  obtain ⟨fd__law_raw, F__law_raw⟩ := c.def_ 16 (d := d__law_raw) rfl
  obtain ⟨fd__law_ordered, F__law_ordered⟩ := c.def_ 17 (d := d__law_ordered) rfl
  obtain ⟨fd__law_made, F__law_made⟩ := c.def_ 18 (d := d__law_made) rfl
  obtain ⟨fd_told_web__cl1, F_told_web__cl1⟩ := c.def_ 19 (d := d_told_web__cl1) rfl
  obtain ⟨fd_law, F_law⟩ := c.def_ 20 (d := d_law) rfl
  have m_turned_web := He.glo_ok X G (c.fact 0 (f := .glo "turned_web") rfl)
  have m_is_wheel := He.glo_ok X G (c.fact 1 (f := .glo "is_wheel") rfl)
  have m_crossed_between := He.glo_ok X G (c.fact 2 (f := .glo "crossed_between") rfl)
  have m_next_point := He.glo_ok X G (c.fact 3 (f := .glo "next_point") rfl)
  have m_grown_words := He.glo_ok X G (c.fact 4 (f := .glo "grown_words") rfl)
  have m_word_from := He.glo_ok X G (c.fact 5 (f := .glo "word_from") rfl)
  have m_wheel_order := He.glo_ok X G (c.fact 6 (f := .glo "wheel_order") rfl)
  have m_turns_to_wheel := He.glo_ok X G (c.fact 7 (f := .glo "turns_to_wheel") rfl)
  have m_told_web := He.glo_ok X G (c.fact 8 (f := .glo "told_web") rfl)
  have m__law_cell := He.glo_ok X G (c.fact 9 (f := .glo "_law_cell") rfl)
  have m__law_shuffled := He.glo_ok X G (c.fact 10 (f := .glo "_law_shuffled") rfl)
  have m__law_web := He.glo_ok X G (c.fact 11 (f := .glo "_law_web") rfl)
  have m__law_turned := He.glo_ok X G (c.fact 12 (f := .glo "_law_turned") rfl)
  have m__law_wheel_by := He.glo_ok X G (c.fact 13 (f := .glo "_law_wheel_by") rfl)
  have m__law_told_right := He.glo_ok X G (c.fact 14 (f := .glo "_law_told_right") rfl)
  have m__law_wheel := He.glo_ok X G (c.fact 15 (f := .glo "_law_wheel") rfl)
  have m__law_raw := He.glo_ok X G (c.fact 16 (f := .glo "_law_raw") rfl)
  have m__law_ordered := He.glo_ok X G (c.fact 17 (f := .glo "_law_ordered") rfl)
  have m__law_made := He.glo_ok X G (c.fact 18 (f := .glo "_law_made") rfl)
  have m_told_web__cl1 := He.glo_ok X G (c.fact 19 (f := .glo "told_web") rfl)
  have m_law := He.glo_ok X G (c.fact 20 (f := .glo "law") rfl)
  have T : Txt K mg := ⟨He.free_ok X G (c.fact 21 (f := .free "any") rfl), He.free_ok X G (c.fact 22 (f := .free "bool") rfl), He.free_ok X G (c.fact 23 (f := .free "enumerate") rfl), He.free_ok X G (c.fact 24 (f := .free "int") rfl), He.free_ok X G (c.fact 25 (f := .free "isinstance") rfl), He.free_ok X G (c.fact 26 (f := .free "len") rfl), He.free_ok X G (c.fact 27 (f := .free "list") rfl), He.free_ok X G (c.fact 28 (f := .free "min") rfl), He.free_ok X G (c.fact 29 (f := .free "range") rfl), He.free_ok X G (c.fact 30 (f := .free "set") rfl), He.free_ok X G (c.fact 31 (f := .free "sorted") rfl), He.free_ok X G (c.fact 32 (f := .free "str") rfl), He.free_ok X G (c.fact 33 (f := .free "tuple") rfl), He.int_ok X G (c.fact 34 (f := .int "MOST_POINTS" (6 : Int)) rfl), He.str_ok X G (c.fact 35 (f := .str "SMALL" ("abcdefghijklmnopqrstuvwxyz" : Str)) rfl)⟩
  have e := hfa.symm.trans m_law
  cases e
  refine ⟨fd_law, fun s v => FunD.bindsA (ps := ["_law_script"]) F_law (fun _ _ _ _ _ _ us hl => match us, hl with | [_], _ => rfl) s [v] rfl, fun base _ _ => ?_⟩
  have H_turned_web : Has P w K mg base "turned_web" 1 ["web", "point"] (sp_turned_web K) := ok_turned_web T F_turned_web m_turned_web 
  have H_is_wheel : Has P w K mg base "is_wheel" 1 ["web", "order"] (sp_is_wheel K) := ok_is_wheel T F_is_wheel m_is_wheel 
  have H_crossed_between : Has P w K mg base "crossed_between" 1 ["word", "letter", "first", "second"] (sp_crossed_between K) := ok_crossed_between T F_crossed_between m_crossed_between 
  have H_next_point : Has P w K mg base "next_point" 1 ["web", "placed"] (sp_next_point K) := ok_next_point T F_next_point m_next_point 
  have H_grown_words : Has P w K mg base "grown_words" 2 ["word", "point", "placed", "web"] (sp_grown_words K) := ok_grown_words T F_grown_words m_grown_words H_crossed_between
  have H_word_from : Has P w K mg base "word_from" 10 ["word", "placed", "web"] (sp_word_from K) := ok_word_from T F_word_from m_word_from H_next_point H_grown_words
  have H_wheel_order : Has P w K mg base "wheel_order" 2 ["web"] (sp_wheel_order K) := ok_wheel_order T F_wheel_order m_wheel_order H_is_wheel
  have H_turns_to_wheel : Has P w K mg base "turns_to_wheel" 3 ["web"] (sp_turns_to_wheel K) := ok_turns_to_wheel T F_turns_to_wheel m_turns_to_wheel H_wheel_order H_turned_web
  have H_told_web : Has P w K mg base "told_web" 11 ["web"] (sp_told_web K) := ok_told_web T F_told_web m_told_web H_word_from H_turns_to_wheel
  have H__law_cell : Has P w K mg base "_law_cell" 1 ["_law_script", "_law_k"] (sp__law_cell K) := ok__law_cell T F__law_cell m__law_cell 
  have H__law_shuffled : Has P w K mg base "_law_shuffled" 1 ["_law_things", "_law_number"] (sp__law_shuffled K) := ok__law_shuffled T F__law_shuffled m__law_shuffled 
  have H__law_web : Has P w K mg base "_law_web" 1 ["_law_word"] (sp__law_web K) := ok__law_web T F__law_web m__law_web 
  have H__law_turned : Has P w K mg base "_law_turned" 1 ["_law_web_here", "_law_point"] (sp__law_turned K) := ok__law_turned T F__law_turned m__law_turned 
  have H__law_wheel_by : Has P w K mg base "_law_wheel_by" 1 ["_law_web_here", "_law_order"] (sp__law_wheel_by K) := ok__law_wheel_by T F__law_wheel_by m__law_wheel_by 
  have H__law_told_right : Has P w K mg base "_law_told_right" 2 ["_law_web_here", "_law_found"] (sp__law_told_right K) := ok__law_told_right T F__law_told_right m__law_told_right H__law_web H__law_turned H__law_wheel_by
  have H__law_wheel : Has P w K mg base "_law_wheel" 1 ["_law_order"] (sp__law_wheel K) := ok__law_wheel T F__law_wheel m__law_wheel 
  have H__law_raw : Has P w K mg base "_law_raw" 1 ["_law_script", "_law_k"] (sp__law_raw K) := ok__law_raw T F__law_raw m__law_raw 
  have H__law_ordered : Has P w K mg base "_law_ordered" 1 ["_law_things", "_law_digits"] (sp__law_ordered K) := ok__law_ordered T F__law_ordered m__law_ordered 
  have H__law_made : Has P w K mg base "_law_made" 2 ["_law_script"] (sp__law_made K) := ok__law_made T F__law_made m__law_made H__law_raw H__law_cell H__law_shuffled H__law_wheel H__law_turned H__law_ordered
  have H_told_web__cl1 : Has P w K mg base "told_web" 11 ["web"] (sp_told_web__cl1 K) := ok_told_web__cl1 T F_told_web__cl1 m_told_web__cl1 H_word_from H_turns_to_wheel
  exact ok0_law T F_law H__law_made H_told_web__cl1 H__law_told_right H_told_web H__law_turned
end Law

/-! ## Gf1: rows of bits as numbers, what they span, ranks -/
namespace Gf
theorem xs (a b : Nat) : (a ^^^ b) ^^^ b = a := by rw [Nat.xor_assoc, Nat.xor_self, Nat.xor_zero]
theorem xs' (a b : Nat) : b ^^^ (b ^^^ a) = a := by rw [← Nat.xor_assoc, Nat.xor_self, Nat.zero_xor]
/-- all sums of some of the rows, one for each choice of rows -/
def sp : List Nat → List Nat
  | [] => [0]
  | k :: ks => sp ks ++ (sp ks).map (· ^^^ k)
theorem sp_len : ∀ ks : List Nat, (sp ks).length = 2 ^ ks.length
  | [] => rfl
  | k :: ks => by
    show (sp ks ++ (sp ks).map (· ^^^ k)).length = _
    rw [List.length_append, List.length_map, sp_len ks, List.length_cons, Nat.pow_succ]; omega
theorem sp_cons {k : Nat} {ks : List Nat} {v : Nat} : v ∈ sp (k :: ks) ↔ v ∈ sp ks ∨ v ^^^ k ∈ sp ks := by
  show v ∈ sp ks ++ (sp ks).map (· ^^^ k) ↔ _
  rw [List.mem_append, List.mem_map]
  constructor
  · rintro (h | ⟨w, h, rfl⟩)
    · exact .inl h
    · exact .inr (by rw [xs]; exact h)
  · rintro (h | h)
    · exact .inl h
    · exact .inr ⟨_, h, xs _ _⟩
theorem sp_zero : ∀ ks : List Nat, 0 ∈ sp ks
  | [] => by simp [sp]
  | k :: ks => sp_cons.mpr (.inl (sp_zero ks))
theorem sp_xor : ∀ {ks : List Nat} {u v : Nat}, u ∈ sp ks → v ∈ sp ks → u ^^^ v ∈ sp ks
  | [], u, v, h, h' => by
    simp [sp] at h h' ⊢
    rw [h, h']; rfl
  | k :: ks, u, v, h, h' => by
    rw [sp_cons] at h h' ⊢
    rcases h with h | h <;> rcases h' with h' | h'
    · exact .inl (sp_xor h h')
    · exact .inr (by rw [Nat.xor_assoc]; exact sp_xor h h')
    · refine .inr ?_
      have := sp_xor h h'
      rwa [Nat.xor_assoc, Nat.xor_comm k v, ← Nat.xor_assoc] at this
    · refine .inl ?_
      have := sp_xor h h'
      rwa [Nat.xor_comm v k, ← Nat.xor_assoc, xs] at this
theorem sp_mem : ∀ {ks : List Nat} {k : Nat}, k ∈ ks → k ∈ sp ks
  | j :: ks, k, h => by
    rw [sp_cons]
    rcases List.mem_cons.mp h with e | h
    · subst e; exact .inr (by rw [Nat.xor_self]; exact sp_zero ks)
    · exact .inl (sp_mem h)
theorem sp_sub : ∀ {ks ls : List Nat}, (∀ k ∈ ks, k ∈ sp ls) → ∀ v ∈ sp ks, v ∈ sp ls
  | [], ls, _, v, hv => by
    simp [sp] at hv
    subst hv; exact sp_zero ls
  | k :: ks, ls, h, v, hv => by
    have h' := fun x hx => h x (List.mem_cons_of_mem _ hx)
    rcases sp_cons.mp hv with hv | hv
    · exact sp_sub h' v hv
    · have := sp_xor (sp_sub h' _ hv) (h k (List.mem_cons_self ..))
      rwa [xs] at this
def Eqs (ks ls : List Nat) : Prop := ∀ v, v ∈ sp ks ↔ v ∈ sp ls
theorem Eqs.of {ks ls : List Nat} (h : ∀ k ∈ ks, k ∈ sp ls) (h' : ∀ k ∈ ls, k ∈ sp ks) : Eqs ks ls := fun v => ⟨sp_sub h v, sp_sub h' v⟩
theorem Eqs.refl (ks : List Nat) : Eqs ks ks := fun _ => Iff.rfl
theorem Eqs.symm {ks ls : List Nat} (h : Eqs ks ls) : Eqs ls ks := fun v => (h v).symm
theorem Eqs.trans {ks ls ms : List Nat} (h : Eqs ks ls) (h' : Eqs ls ms) : Eqs ks ms := fun v => (h v).trans (h' v)
theorem Eqs.cons {ks ls : List Nat} (h : Eqs ks ls) (k : Nat) : Eqs (k :: ks) (k :: ls) := fun v => by rw [sp_cons, sp_cons, h, h]
theorem Eqs.perm {ks ls : List Nat} (h : ks.Perm ls) : Eqs ks ls := Eqs.of (fun k hk => sp_mem (h.mem_iff.mp hk)) (fun k hk => sp_mem (h.mem_iff.mpr hk))
/-- no row is a sum of others -/
def Ind (ks : List Nat) : Prop := (sp ks).Nodup
theorem Ind.nil : Ind [] := by simp [Ind, sp]
theorem nodup_le {α : Type} [DecidableEq α] : ∀ {l m : List α}, l.Nodup → (∀ x ∈ l, x ∈ m) → l.length ≤ m.length
  | [], m, _, _ => Nat.zero_le _
  | x :: l, m, nd, h => by
    obtain ⟨h1, h2⟩ := List.nodup_cons.mp nd
    have hx := h x (List.mem_cons_self ..)
    have := nodup_le (m := m.erase x) h2 fun y hy => (List.mem_erase_of_ne (fun e => h1 (by rw [← e]; exact hy))).mpr (h y (List.mem_cons_of_mem _ hy))
    rw [List.length_erase_of_mem hx] at this
    have := List.length_pos_of_mem hx
    rw [List.length_cons]; omega
theorem Ind.le {ks ls : List Nat} (h : Ind ks) (hs : ∀ k ∈ ks, k ∈ sp ls) : ks.length ≤ ls.length := by
  have := nodup_le h (sp_sub hs)
  rw [sp_len, sp_len] at this
  exact (Nat.pow_le_pow_iff_right (by decide)).mp this
theorem Ind.cons {k : Nat} {ks : List Nat} : Ind (k :: ks) ↔ Ind ks ∧ k ∉ sp ks := by
  show (sp ks ++ (sp ks).map (· ^^^ k)).Nodup ↔ (sp ks).Nodup ∧ _
  rw [List.nodup_append]
  constructor
  · rintro ⟨h1, h2, h3⟩
    refine ⟨h1, fun hk => ?_⟩
    exact h3 k hk (0 ^^^ k) (List.mem_map.mpr ⟨0, sp_zero ks, rfl⟩) (by simp)
  · rintro ⟨h1, h2⟩
    refine ⟨h1, List.Pairwise.map _ (fun a b hab e => hab (by
      have := congrArg (· ^^^ k) e
      simpa [xs] using this)) h1, fun a ha b hb e => ?_⟩
    obtain ⟨c, hc, rfl⟩ := List.mem_map.mp hb
    subst e
    have := sp_xor hc ha
    rw [xs'] at this
    exact h2 this
/-- the rank of rows -/
def Rk (ks : List Nat) (r : Nat) : Prop := ∃ bs, Ind bs ∧ bs.length = r ∧ Eqs bs ks
theorem Rk.uniq {ks : List Nat} {r r' : Nat} (h : Rk ks r) (h' : Rk ks r') : r = r' := by
  obtain ⟨b, b1, b2, b3⟩ := h
  obtain ⟨c, c1, c2, c3⟩ := h'
  have e1 := b1.le (ls := c) fun k hk => (c3 k).mpr ((b3 k).mp (sp_mem hk))
  have e2 := c1.le (ls := b) fun k hk => (b3 k).mpr ((c3 k).mp (sp_mem hk))
  omega
theorem Rk.eqs {ks ls : List Nat} {r : Nat} (h : Rk ks r) (e : Eqs ks ls) : Rk ls r := by
  obtain ⟨b, b1, b2, b3⟩ := h
  exact ⟨b, b1, b2, b3.trans e⟩
theorem Rk.ind {ks : List Nat} (h : Ind ks) : Rk ks ks.length := ⟨ks, h, rfl, Eqs.refl _⟩
theorem Rk.ex : ∀ ks : List Nat, ∃ r, r ≤ ks.length ∧ Rk ks r
  | [] => ⟨0, Nat.le_refl _, [], Ind.nil, rfl, Eqs.refl _⟩
  | k :: ks => by
    obtain ⟨r, hr, b, b1, b2, b3⟩ := Rk.ex ks
    by_cases h : k ∈ sp ks
    · exact ⟨r, by rw [List.length_cons]; omega, b, b1, b2, b3.trans (Eqs.of (fun x hx => sp_cons.mpr (.inl (sp_mem hx))) fun x hx => by
        rcases List.mem_cons.mp hx with e | hx
        · subst e; exact h
        · exact sp_mem hx)⟩
    · exact ⟨r + 1, by rw [List.length_cons]; omega, k :: b, Ind.cons.mpr ⟨b1, fun hk => h ((b3 k).mp hk)⟩, by rw [List.length_cons, b2], b3.cons k⟩
theorem Rk.full {ks : List Nat} (h : Rk ks ks.length) : Ind ks := by
  induction ks with
  | nil => exact Ind.nil
  | cons k ks ih =>
    rw [Ind.cons]
    obtain ⟨r, hr, hR⟩ := Rk.ex ks
    have hk : k ∉ sp ks := fun hk => by
      have e : Eqs ks (k :: ks) := Eqs.of (fun x hx => sp_cons.mpr (.inl (sp_mem hx))) fun x hx => by
        rcases List.mem_cons.mp hx with e | hx
        · subst e; exact hk
        · exact sp_mem hx
      have := (hR.eqs e).uniq h
      rw [List.length_cons] at this
      omega
    refine ⟨ih ?_, hk⟩
    have h2 : Rk (k :: ks) (r + 1) := by
      obtain ⟨b, b1, b2, b3⟩ := hR
      exact ⟨k :: b, Ind.cons.mpr ⟨b1, fun h => hk ((b3 k).mp h)⟩, by rw [List.length_cons, b2], b3.cons k⟩
    have := h2.uniq h
    rw [List.length_cons] at this
    have e : r = ks.length := by omega
    rw [← e]; exact hR
/-! ### maps that keep sums -/
def Lin (f : Nat → Nat) : Prop := f 0 = 0 ∧ ∀ a b, f (a ^^^ b) = f a ^^^ f b
theorem sp_map {f : Nat → Nat} (hf : Lin f) : ∀ ks : List Nat, sp (ks.map f) = (sp ks).map f
  | [] => by simp [sp, hf.1]
  | k :: ks => by
    show sp (ks.map f) ++ (sp (ks.map f)).map (· ^^^ f k) = (sp ks ++ (sp ks).map (· ^^^ k)).map f
    rw [sp_map hf ks, List.map_append, List.map_map, List.map_map]
    congr 1
    apply List.map_congr_left
    intro x _
    exact (hf.2 x k).symm
theorem Rk.map {f : Nat → Nat} (hf : Lin f) (hi : ∀ a, f a = 0 → a = 0) {ks : List Nat} {r : Nat} (h : Rk ks r) : Rk (ks.map f) r := by
  obtain ⟨b, b1, b2, b3⟩ := h
  have inj : ∀ x y, f x = f y → x = y := fun x y e => by
    have := hi (x ^^^ y) (by rw [hf.2, e, Nat.xor_self])
    have h := congrArg (· ^^^ y) this
    simpa [xs] using h
  refine ⟨b.map f, ?_, by rw [List.length_map, b2], fun v => ?_⟩
  · show (sp (b.map f)).Nodup
    rw [sp_map hf]
    exact List.Pairwise.map _ (fun a c hac e => hac (inj _ _ e)) b1
  · rw [sp_map hf, sp_map hf, List.mem_map, List.mem_map]
    exact ⟨fun ⟨w, h, e⟩ => ⟨w, (b3 w).mp h, e⟩, fun ⟨w, h, e⟩ => ⟨w, (b3 w).mpr h, e⟩⟩
/-! ### rows, each of which has a bit that no later one has -/
def Tri : List Nat → Prop
  | [] => True
  | k :: ks => k.testBit k.log2 = true ∧ (∀ x ∈ ks, x.testBit k.log2 = false) ∧ Tri ks
theorem sp_bit {t : Nat} : ∀ {ks : List Nat}, (∀ k ∈ ks, k.testBit t = false) → ∀ v ∈ sp ks, v.testBit t = false
  | [], _, v, hv => by
    simp [sp] at hv
    subst hv; simp
  | k :: ks, h, v, hv => by
    have h' := fun x hx => h x (List.mem_cons_of_mem _ hx)
    rcases sp_cons.mp hv with hv | hv
    · exact sp_bit h' v hv
    · have := sp_bit h' _ hv
      rw [Nat.testBit_xor, h k (List.mem_cons_self ..)] at this
      simpa using this
theorem Tri.ind : ∀ {ks : List Nat}, Tri ks → Ind ks
  | [], _ => Ind.nil
  | k :: ks, ⟨h1, h2, h3⟩ => Ind.cons.mpr ⟨h3.ind, fun hk => by
    have := sp_bit h2 k hk
    rw [h1] at this; cases this⟩
theorem top_bit {k : Nat} (h : k ≠ 0) : k.testBit k.log2 = true := by
  rw [Nat.testBit, Nat.shiftRight_eq_div_pow]
  have h1 := Nat.log2_self_le h
  have h2 := Nat.lt_log2_self (n := k)
  have : k / 2 ^ k.log2 = 1 := by
    apply Nat.div_eq_of_lt_le
    · omega
    · rw [Nat.pow_succ] at h2; omega
  rw [this]; rfl
/-- a row lowered by rows -/
def low (m : Nat) (ks : List Nat) : Nat := ks.foldl (fun m k => min m (m ^^^ k)) m
theorem Tri.ne : ∀ {ks : List Nat}, Tri ks → ∀ k ∈ ks, k ≠ 0
  | k :: ks, ⟨h1, h2, h3⟩, x, hx => by
    rcases List.mem_cons.mp hx with e | hx
    · subst e
      intro e
      rw [e] at h1
      simp at h1
    · exact h3.ne x hx
theorem Tri.snoc : ∀ {ks : List Nat} {x : Nat}, Tri ks → x ≠ 0 → (∀ k ∈ ks, x.testBit k.log2 = false) → Tri (ks ++ [x])
  | [], x, _, hx, _ => ⟨top_bit hx, by simp, True.intro⟩
  | k :: ks, x, ⟨h1, h2, h3⟩, hx, h => ⟨h1, fun y hy => by
      rcases List.mem_append.mp hy with hy | hy
      · exact h2 y hy
      · rw [List.mem_singleton.mp hy]
        exact h k (List.mem_cons_self ..), h3.snoc hx fun y hy => h y (List.mem_cons_of_mem _ hy)⟩
/-- the leads of rows -/
def leads : List Nat → List Nat → List Nat
  | [], ls => ls
  | r :: rs, ls => leads rs (if low r ls > 0 then ls ++ [low r ls] else ls)
end Gf

/-! ## Gf2: masks of rows -/
namespace Gf
open PySem Ty
def Bits (n : Nat) (f : Nat → Nat → Int) : Prop := ∀ i j, i < n → j < n → f i j = 0 ∨ f i j = 1
theorem Rk.push {ks : List Nat} {r v : Nat} (h : Rk ks r) (hv : v ∉ sp ks) : Rk (v :: ks) (r + 1) := by
  obtain ⟨b, b1, b2, b3⟩ := h
  exact ⟨v :: b, Ind.cons.mpr ⟨b1, fun h => hv ((b3 v).mp h)⟩, by rw [List.length_cons, b2], b3.cons v⟩
theorem Eqs.set0 {ks : List Nat} {p v : Nat} (h : ks[p]? = some 0) : Eqs (v :: ks) (ks.set p v) := by
  have hp : p < ks.length := by
    rcases Nat.lt_or_ge p ks.length with h' | h'
    · exact h'
    · rw [List.getElem?_eq_none h'] at h; cases h
  refine Eqs.of (fun k hk => ?_) fun k hk => ?_
  · rcases List.mem_cons.mp hk with e | hk
    · subst e; exact sp_mem (List.mem_of_getElem? (i := p) (List.getElem?_set_self hp))
    · obtain ⟨m, hm, e⟩ := List.getElem_of_mem hk
      by_cases hmp : m = p
      · subst hmp
        rw [List.getElem?_eq_getElem hm, e] at h
        cases h
        exact sp_zero _
      · exact sp_mem (List.mem_of_getElem? (i := m) (by rw [List.getElem?_set_ne (Ne.symm hmp), List.getElem?_eq_getElem hm, e]))
  · rcases List.mem_or_eq_of_mem_set hk with h | h
    · exact sp_mem (List.mem_cons_of_mem _ h)
    · subst h; exact sp_mem (List.mem_cons_self ..)
end Gf

/-! ## Gf3: the steps of undoing a table -/
namespace Gf
open PySem Ty
theorem Eqs.map {f : Nat → Nat} (hf : Lin f) {ks ls : List Nat} (h : Eqs ks ls) : Eqs (ks.map f) (ls.map f) := fun v => by
  rw [sp_map hf, sp_map hf, List.mem_map, List.mem_map]
  exact ⟨fun ⟨w, h1, e⟩ => ⟨w, (h w).mp h1, e⟩, fun ⟨w, h1, e⟩ => ⟨w, (h w).mpr h1, e⟩⟩
/-- the unit rows -/
theorem units_sp : ∀ (us : List Nat) (v : Nat), (∀ j, v.testBit j = true → j ∈ us) → v ∈ sp (us.map (2 ^ ·))
  | [], v, h => by
    have : v = 0 := by
      apply Nat.eq_of_testBit_eq
      intro j
      rw [Nat.zero_testBit]
      cases q : v.testBit j with
      | false => rfl
      | true => exact absurd (h j q) (by simp)
    subst this; simp [sp]
  | u :: us, v, h => by
    show v ∈ sp (2 ^ u :: us.map (2 ^ ·))
    rw [sp_cons]
    cases q : v.testBit u with
    | false =>
      left
      refine units_sp us v fun j hj => ?_
      rcases List.mem_cons.mp (h j hj) with e | h'
      · subst e; rw [q] at hj; cases hj
      · exact h'
    | true =>
      right
      refine units_sp us _ fun j hj => ?_
      rw [Nat.testBit_xor, Nat.testBit_two_pow] at hj
      by_cases e : u = j
      · subst e; rw [q] at hj; simp at hj
      · have hv : v.testBit j = true := by simpa [e] using hj
        rcases List.mem_cons.mp (h j hv) with e' | h'
        · exact absurd e'.symm e
        · exact h'
/-- the row f moved to the place t -/
def mv (t f : Nat) (g : Nat → Nat) : Nat → Nat := fun j => if j < t then g j else if j = t then g f else if j ≤ f then g (j - 1) else g j
/-- the row t added to all others that have the bit t -/
def cl (t : Nat) (g : Nat → Nat) : Nat → Nat := fun k => if k ≠ t ∧ (g k).testBit t = true then g k ^^^ g t else g k
/-- the first t columns are done -/
def Done (n t : Nat) (g : Nat → Nat) : Prop := ∀ j, j < t → ∀ k, k < n → (g k).testBit j = decide (k = j)
theorem Done.step {n t f : Nat} {g : Nat → Nat} (h : Done n t g) (ht : t ≤ f) (hf : f < n) (hb : (g f).testBit t = true) : Done n (t + 1) (cl t (mv t f g)) := by
  have m1 : ∀ j, j < t → ∀ k, k < n → (mv t f g k).testBit j = decide (k = j) := fun j hj k hk => by
    unfold mv
    split
    · exact h j hj k hk
    · split
      · rw [h j hj f hf]
        exact decide_eq_decide.mpr (by omega)
      · split
        · rw [h j hj (k - 1) (by omega)]
          exact decide_eq_decide.mpr (by omega)
        · exact h j hj k hk
  have m2 : (mv t f g t).testBit t = true := by unfold mv; rw [if_neg (by omega), if_pos rfl]; exact hb
  intro j hj k hk
  by_cases hjt : j < t
  · unfold cl
    split
    · rw [Nat.testBit_xor, m1 j hjt k hk, m1 j hjt t (by omega), decide_eq_false (show ¬ t = j by omega)]; simp
    · exact m1 j hjt k hk
  · have : j = t := by omega
    subst this
    unfold cl
    by_cases hkj : k = j
    · subst hkj
      rw [if_neg (by simp), m2]; simp
    · split
      · rename_i h2
        rw [Nat.testBit_xor, h2.2, m2]; simp [hkj]
      · rename_i h2
        have : ¬ (mv j f g k).testBit j = true := fun z => h2 ⟨hkj, z⟩
        rw [decide_eq_false hkj]
        simpa using this
theorem Done.full {n : Nat} {g : Nat → Nat} (h : Done n n g) : (row n g).map (fun m => m % 2 ^ n) = row n fun i => 2 ^ i := by
  unfold row
  rw [List.map_map]
  apply List.map_congr_left
  intro k hk
  have hk := List.mem_range.mp hk
  apply Nat.eq_of_testBit_eq
  intro j
  show (g k % 2 ^ n).testBit j = _
  rw [Nat.testBit_mod_two_pow, Nat.testBit_two_pow]
  by_cases hj : j < n
  · rw [h j hj k hk, decide_eq_true hj]; simp
  · rw [decide_eq_false hj, decide_eq_false (by omega)]; rfl
/-- no row for the column t: there are too few -/
theorem Done.none {n t : Nat} {g : Nat → Nat} (h : Done n t g) (ht : t < n) (hno : ∀ k, t ≤ k → k < n → (g k).testBit t = false) : ¬ Rk ((row n g).map fun m => m % 2 ^ n) n := by
  intro hr
  have hlen : ((row n g).map fun m => m % 2 ^ n).length = n := by rw [List.length_map, row_len]
  have hi : Ind ((row n g).map fun m => m % 2 ^ n) := Rk.full (by rw [hlen]; exact hr)
  -- the rows from t on
  let tl := (List.range (n - t)).map fun i => g (t + i) % 2 ^ n
  have hsub : ∃ pre, (row n g).map (fun m => m % 2 ^ n) = pre ++ tl := by
    refine ⟨(List.range t).map fun i => g i % 2 ^ n, ?_⟩
    unfold row
    rw [List.map_map]
    have e : List.range n = List.range t ++ (List.range (n - t)).map (t + ·) := by
      rw [← List.range_add, show t + (n - t) = n by omega]
    rw [e, List.map_append, List.map_map]
    rfl
  obtain ⟨pre, hpre⟩ := hsub
  have hind : ∀ (a b : List Nat), Ind (a ++ b) → Ind b := by
    intro a
    induction a with
    | nil => exact fun b h => h
    | cons x a ih => exact fun b h => ih b (Ind.cons.mp h).1
  have h1 : Ind tl := hind pre tl (by rw [← hpre]; exact hi)
  have h2 := h1.le (ls := ((List.range (n - t - 1)).map fun i => t + 1 + i).map (2 ^ ·)) fun k hk => by
    obtain ⟨i, hi, rfl⟩ := List.mem_map.mp hk
    have hi := List.mem_range.mp hi
    refine units_sp _ _ fun j hj => ?_
    rw [Nat.testBit_mod_two_pow] at hj
    by_cases hjn : j < n
    · rw [decide_eq_true hjn] at hj
      have hj : (g (t + i)).testBit j = true := by simpa using hj
      have ht1 : t < j := by
        rcases Nat.lt_or_ge t j with q | q
        · exact q
        · rcases Nat.lt_or_ge j t with q2 | q2
          · rw [h j q2 (t + i) (by omega), decide_eq_false (by omega)] at hj; cases hj
          · have : j = t := by omega
            subst this
            rw [hno (j + i) (by omega) (by omega)] at hj; cases hj
      exact List.mem_map.mpr ⟨j - (t + 1), List.mem_range.mpr (by omega), by omega⟩
    · rw [decide_eq_false hjn] at hj
      simp at hj
  simp only [tl, List.length_map, List.length_range] at h2
  omega
/-- rows with a 1 at the bit p, but one, and the others, with that one added -/
theorem Rk.elim {R R' : List Nat} {pv p r : Nat} (h : Rk R r) (e : Eqs R (pv :: R')) (hp : pv.testBit p = true) (hz : ∀ k ∈ R', k.testBit p = false) : ∃ r', r = r' + 1 ∧ Rk R' r' := by
  obtain ⟨r', _, h'⟩ := Rk.ex R'
  have := h'.push (v := pv) fun hv => by
    have := sp_bit hz _ hv
    rw [hp] at this; cases this
  exact ⟨r', (h.eqs e).uniq this, h'⟩
theorem Rk.zero {R : List Nat} (h : ∀ k ∈ R, k = 0) : Rk R 0 := ⟨[], Ind.nil, rfl, Eqs.of (fun k hk => by cases hk) fun k hk => by rw [h k hk]; exact sp_zero _⟩
end Gf

/-! ## Gf4: the greatest part that can be undone -/
namespace Gf
open PySem Ty
theorem Ind.of_map {φ : Nat → Nat} (hφ : Lin φ) {ks : List Nat} (h : Ind (ks.map φ)) : Ind ks := by
  unfold Ind at h ⊢
  rw [sp_map hφ] at h
  exact (List.pairwise_map.mp h).imp fun hne e => hne (congrArg φ e)
/-- an odd number of the h k, k below n -/
def qx : Nat → (Nat → Bool) → Bool
  | 0, _ => false
  | n + 1, h => qx n h != h n
theorem qx_xor (a b : Nat → Bool) : ∀ n, qx n (fun k => a k != b k) = (qx n a != qx n b)
  | 0 => rfl
  | n + 1 => by
    show (qx n _ != (a n != b n)) = ((qx n a != a n) != (qx n b != b n))
    rw [qx_xor a b n]
    cases qx n a <;> cases qx n b <;> cases a n <;> cases b n <;> rfl
theorem qx_congr {h h' : Nat → Bool} : ∀ {n : Nat}, (∀ k, k < n → h k = h' k) → qx n h = qx n h'
  | 0, _ => rfl
  | n + 1, e => by
    show (qx n h != h n) = (qx n h' != h' n)
    rw [qx_congr fun k hk => e k (by omega), e n (by omega)]
theorem qx_no {h : Nat → Bool} : ∀ {n : Nat}, (∀ k, k < n → h k = false) → qx n h = false
  | 0, _ => rfl
  | n + 1, e => by
    show (qx n h != h n) = false
    rw [qx_no fun k hk => e k (by omega), e n (by omega)]; rfl
end Gf

/-! ## Gf5: parts of a pivoted table -/
namespace Gf
open PySem Ty
/-- the part at S can be undone -/
def NS (n : Nat) (a : Nat → Nat → Bool) (S : Nat → Bool) : Prop := ∀ x : Nat → Bool, (∀ k, k < n → S k = false → x k = false) → (∀ i, i < n → S i = true → qx n (fun j => a i j && x j) = false) → ∀ k, k < n → x k = false
theorem NS.congr {n : Nat} {a : Nat → Nat → Bool} {S T : Nat → Bool} (e : ∀ k, k < n → S k = T k) (h : NS n a S) : NS n a T := fun x h1 h2 => h x (fun k hk hs => h1 k hk (by rw [← e k hk]; exact hs)) fun i hi hs => h2 i hi (by rw [← e i hi]; exact hs)
/-! ### pivots -/
theorem qx_split {n v : Nat} (hv : v < n) (h : Nat → Bool) : qx n h = (h v != qx n fun k => if k = v then false else h k) := by
  induction n with
  | zero => omega
  | succ n ih =>
    show (qx n h != h n) = (h v != (qx n (fun k => if k = v then false else h k) != (if n = v then false else h n)))
    by_cases e : n = v
    · subst e
      rw [if_pos rfl, qx_congr (h := fun k => if k = n then false else h k) (h' := h) fun k hk => if_neg (by omega)]
      generalize qx n h = q
      cases q <;> cases h n <;> rfl
    · rw [if_neg e, ih (by omega)]
      generalize qx n (fun k => if k = v then false else h k) = q
      cases q <;> cases h n <;> cases h v <;> rfl
def Ppt (n : Nat) (a b : Nat → Nat → Bool) (X : Nat → Bool) : Prop := ∀ x : Nat → Bool, ∀ i, i < n → qx n (fun j => b i j && (if X j then qx n (fun k => a j k && x k) else x j)) = if X i then x i else qx n fun k => a i k && x k
theorem Ppt.ns {n : Nat} {a b : Nat → Nat → Bool} {X S : Nat → Bool} (h : Ppt n a b X) (hs : NS n b S) : NS n a fun k => S k != X k := by
  intro x h1 h2
  have h3 := hs (fun j => if X j then qx n (fun k => a j k && x k) else x j) (fun k hk hS => ?_) fun i hi hS => ?_
  · intro k hk
    have h4 := h3 k hk
    cases hX : X k with
    | false => simpa [hX] using h4
    | true =>
      have h5 := h x k hk
      rw [hX, if_pos rfl, qx_no fun j hj => by rw [h3 j hj]; simp] at h5
      exact h5.symm
  · cases hX : X k with
    | true => rw [if_pos rfl]; exact h2 k hk (by show (_ != _) = _; rw [hS, hX]; rfl)
    | false => rw [if_neg (by simp)]; exact h1 k hk (by show (_ != _) = _; rw [hS, hX]; rfl)
  · rw [h x i hi]
    cases hX : X i with
    | true => rw [if_pos rfl]; exact h1 i hi (by show (_ != _) = _; rw [hS, hX]; rfl)
    | false => rw [if_neg (by simp)]; exact h2 i hi (by show (_ != _) = _; rw [hS, hX]; rfl)
theorem qx_split2 {n u v : Nat} (hu : u < n) (hv : v < n) (huv : u ≠ v) (h : Nat → Bool) : qx n h = (h u != (h v != qx n fun k => if k = u ∨ k = v then false else h k)) := by
  rw [qx_split hu, qx_split hv, if_neg (fun e => huv e.symm)]
  rw [qx_congr (h' := fun k => if k = u ∨ k = v then false else h k) fun k hk => by
    by_cases e1 : k = v
    · simp [e1]
    · by_cases e2 : k = u
      · simp [e1, e2]
      · simp [e1, e2]]
/-- rows that differ by sums of few rows have near ranks -/
theorem Rk.near {n r r' : Nat} {g h : Nat → Nat} {ws : List Nat} (hg : Rk (row n g) r) (hh : Rk (row n h) r') (hd : ∀ i, i < n → g i ^^^ h i ∈ sp ws) : r ≤ r' + ws.length := by
  obtain ⟨b, b1, b2, b3⟩ := hg
  obtain ⟨c, c1, c2, c3⟩ := hh
  have := b1.le (ls := ws ++ c) fun k hk => by
    have h1 := (b3 k).mp (sp_mem hk)
    refine sp_sub (fun y hy => ?_) k h1
    obtain ⟨i, hi, rfl⟩ := List.mem_map.mp hy
    have hi := List.mem_range.mp hi
    have h2 : g i ^^^ h i ∈ sp (ws ++ c) := sp_sub (fun z hz => sp_mem (List.mem_append_left _ hz)) _ (hd i hi)
    have h3 : h i ∈ sp (ws ++ c) := sp_sub (fun z hz => sp_mem (List.mem_append_right _ hz)) _ ((c3 (h i)).mpr (sp_mem (List.mem_map.mpr ⟨i, List.mem_range.mpr hi, rfl⟩)))
    have := sp_xor h2 h3
    rwa [xs] at this
  rw [List.length_append] at this
  omega
end Gf

/-! ## Gf6: the rounds part the ends -/
namespace Gf
open PySem Ty
section
variable {s p f : Int → Int} {e : Int} {m : Nat} (hs : ∀ x, s x = f (p x)) (hpi : ∀ x : Int, 0 ≤ x → x < m → 0 ≤ p x ∧ p x < m ∧ p (p x) = x ∧ p x ≠ x) (hfi : ∀ x : Int, 0 ≤ x → x < m → 0 ≤ f x ∧ f x < m ∧ f (f x) = x ∧ f x ≠ x) (h0 : 0 ≤ e) (h1 : e < m)
include hs hpi hfi h0 h1
/-- a round is closed -/
theorem wl_closed {k : Nat} (k1 : 1 ≤ k) (hk : orb s e k = e) {x : Int} (hx : x ∈ wl s p e k) : 0 ≤ x ∧ x < m ∧ p x ∈ wl s p e k ∧ f x ∈ wl s p e k := by
  obtain ⟨i, hi, h⟩ := (mem_wl k).mp hx
  have rg := orb_rng hs hpi hfi h0 h1
  have a := rg i
  have b := hpi _ a.1 a.2
  rcases h with rfl | rfl
  · refine ⟨a.1, a.2, (mem_wl k).mpr ⟨i, hi, .inr rfl⟩, ?_⟩
    have key : ∀ j, f (orb s e (j + 1)) = p (orb s e j) := fun j => by
      show f (s (orb s e j)) = _
      have c := hpi _ (rg j).1 (rg j).2
      rw [hs]
      exact (hfi _ c.1 c.2.1).2.2.1
    cases i with
    | zero =>
      refine (mem_wl k).mpr ⟨k - 1, by omega, .inr ?_⟩
      have := key (k - 1)
      rw [show k - 1 + 1 = k by omega, hk] at this
      exact this
    | succ j => exact (mem_wl k).mpr ⟨j, by omega, .inr (key j)⟩
  · refine ⟨b.1, b.2.1, ?_, ?_⟩
    · rw [b.2.2.1]; exact (mem_wl k).mpr ⟨i, hi, .inl rfl⟩
    · rw [← hs]
      by_cases h : i + 1 = k
      · have : s (orb s e i) = e := by
          show orb s e (i + 1) = e
          rw [h]; exact hk
        rw [this]
        exact (mem_wl k).mpr ⟨0, by omega, .inl rfl⟩
      · exact (mem_wl k).mpr ⟨i + 1, by omega, .inl rfl⟩
/-- what is closed and meets a round has its first end -/
theorem wl_back {k : Nat} {W : Int → Prop} (hW : ∀ x, W x → W (p x) ∧ W (f x)) {x : Int} (hx : x ∈ wl s p e k) (hw : W x) : W e := by
  obtain ⟨i, hi, h⟩ := (mem_wl k).mp hx
  have rg := orb_rng hs hpi hfi h0 h1
  have : ∀ i, W (orb s e i) → W e := by
    intro i
    induction i with
    | zero => exact fun h => h
    | succ i ih =>
      intro h
      refine ih ?_
      have c := hpi _ (rg i).1 (rg i).2
      have d := hfi _ c.1 c.2.1
      have e1 : f (orb s e (i + 1)) = p (orb s e i) := by
        show f (s (orb s e i)) = _
        rw [hs]; exact d.2.2.1
      have := (hW _ (hW _ h).2).1
      rw [e1, c.2.2.1] at this
      exact this
  rcases h with rfl | rfl
  · exact this i hw
  · have c := hpi _ (rg i).1 (rg i).2
    have := (hW _ hw).1
    rw [c.2.2.1] at this
    rename_i q
    exact q i this
end
/-- a round from its first end -/
def Rd (s p : Int → Int) (e : Int) (R : List Int) : Prop := ∃ k, 1 ≤ k ∧ R = wl s p e k ∧ orb s e k = e ∧ ∀ j, 1 ≤ j → j < k → orb s e j ≠ e
/-- the rounds of the ends below i -/
structure Rds (s p : Int → Int) (i : Nat) (W : List (List Int)) : Prop where
  rd : ∀ R ∈ W, ∃ e, 0 ≤ e ∧ e < (i : Int) ∧ Rd s p e R ∧ ∀ y ∈ R, e ≤ y
  nd : W.flatten.Nodup
  all : ∀ x : Int, 0 ≤ x → x < (i : Int) → x ∈ W.flatten
  len : W.length ≤ i
theorem Rd.head {s p : Int → Int} {e : Int} {R : List Int} (h : Rd s p e R) : R[0]? = some e ∧ 2 ≤ R.length := by
  obtain ⟨k, h1, rfl, _, _⟩ := h
  exact ⟨(wl_get (k := k) (i := 0) (by omega)).1, by rw [wl_len]; omega⟩
theorem Rd.uniq {s p : Int → Int} {e : Int} {R R' : List Int} (h : Rd s p e R) (h' : Rd s p e R') : R = R' := by
  obtain ⟨k, h1, rfl, h2, h3⟩ := h
  obtain ⟨k', h1', rfl, h2', h3'⟩ := h'
  have : k = k' := by
    rcases Nat.lt_trichotomy k k' with z | z | z
    · exact absurd h2 (h3' k h1 z)
    · exact z
    · exact absurd h2' (h3 k' h1' z)
  rw [this]
theorem Rds.zero {s p : Int → Int} : Rds s p 0 [] := ⟨by simp, by simp, fun x a b => by omega, by simp⟩
theorem Rds.old {s p : Int → Int} {i : Nat} {W : List (List Int)} (h : Rds s p i W) (hi : (i : Int) ∈ W.flatten) : Rds s p (i + 1) W :=
  ⟨fun R hR => by
    obtain ⟨e, a, b, c⟩ := h.rd R hR
    exact ⟨e, a, by omega, c⟩, h.nd, fun x a b => by
    by_cases z : x = i
    · rw [z]; exact hi
    · exact h.all x a (by omega), Nat.le_succ_of_le h.len⟩
section
variable {s p f : Int → Int} {m : Nat} (hs : ∀ x, s x = f (p x)) (hpi : ∀ x : Int, 0 ≤ x → x < m → 0 ≤ p x ∧ p x < m ∧ p (p x) = x ∧ p x ≠ x) (hfi : ∀ x : Int, 0 ≤ x → x < m → 0 ≤ f x ∧ f x < m ∧ f (f x) = x ∧ f x ≠ x)
include hs hpi hfi
theorem Rd.rng {e : Int} {R : List Int} (h0 : 0 ≤ e) (h1 : e < m) (h : Rd s p e R) : ∀ x ∈ R, 0 ≤ x ∧ x < m := by
  obtain ⟨k, k1, rfl, k2, _⟩ := h
  intro x hx
  have := wl_closed hs hpi hfi h0 h1 k1 k2 hx
  exact ⟨this.1, this.2.1⟩
theorem Rd.nd {e : Int} {R : List Int} (h0 : 0 ≤ e) (h1 : e < m) (h : Rd s p e R) : R.Nodup := by
  obtain ⟨k, k1, rfl, k2, k3⟩ := h
  exact wl_nodup hs hpi hfi h0 h1 k k3
theorem Rd.len {e : Int} {R : List Int} (h0 : 0 ≤ e) (h1 : e < m) (h : Rd s p e R) : R.length ≤ m := by
  have a := Rd.rng hs hpi hfi h0 h1 h
  have b := Rd.nd hs hpi hfi h0 h1 h
  have := len_le_of_lt m (R.map Int.toNat) (by
    rw [List.nodup_iff_pairwise_ne, List.pairwise_map]
    refine List.Pairwise.imp_of_mem ?_ b
    intro x y hx hy hxy e
    have := a x hx
    have := a y hy
    omega) (fun y hy => by
    obtain ⟨x, hx, rfl⟩ := List.mem_map.mp hy
    have := a x hx
    omega)
  rwa [List.length_map] at this
theorem Rds.new {i : Nat} {W : List (List Int)} {R : List Int} (hi : i < m) (h : Rds s p i W) (hn : (i : Int) ∉ W.flatten) (hR : Rd s p i R) : Rds s p (i + 1) (W ++ [R]) := by
  have hd : ∀ x ∈ R, x ∉ W.flatten := by
    intro x hx hw
    obtain ⟨k, k1, rfl, k2, k3⟩ := hR
    obtain ⟨R', hR', hx'⟩ := List.mem_flatten.mp hw
    obtain ⟨e, a, b, ⟨k', k1', rfl, k2', k3'⟩, _⟩ := h.rd _ hR'
    refine hn (List.mem_flatten.mpr ⟨_, hR', ?_⟩)
    exact wl_back hs hpi hfi (e := (i : Int)) (by omega) (by omega) (W := fun x => x ∈ wl s p e k') (fun y hy => (wl_closed hs hpi hfi a (by omega) k1' k2' hy).2.2) hx hx'
  have hr := Rd.rng hs hpi hfi (e := (i : Int)) (by omega) (by omega) hR
  refine ⟨fun R' hR' => ?_, ?_, fun x a b => ?_, ?_⟩
  · rcases List.mem_append.mp hR' with z | z
    · obtain ⟨e, a, b, c⟩ := h.rd R' z
      exact ⟨e, a, by omega, c⟩
    · rw [List.mem_singleton.mp z]
      refine ⟨i, by omega, by omega, hR, fun y hy => ?_⟩
      rcases Int.lt_or_le y i with q | q
      · exact absurd (h.all y (hr y hy).1 q) (hd y hy)
      · exact q
  · rw [List.flatten_append, List.nodup_append]
    refine ⟨h.nd, by simpa using Rd.nd hs hpi hfi (e := (i : Int)) (by omega) (by omega) hR, ?_⟩
    intro x hx y hy e
    subst e
    exact hd x (by simpa using hy) hx
  · rw [List.flatten_append, List.mem_append]
    by_cases z : x = i
    · refine .inr ?_
      rw [z]
      simp only [List.flatten_cons, List.flatten_nil, List.append_nil]
      exact List.mem_of_getElem? hR.head.1
    · exact .inl (h.all x a (by omega))
  · rw [List.length_append]
    have := h.len
    simp; omega
theorem Rds.rng {i : Nat} {W : List (List Int)} (hi : i ≤ m) (h : Rds s p i W) : ∀ x ∈ W.flatten, 0 ≤ x ∧ x < m := by
  intro x hx
  obtain ⟨R, hR, hx⟩ := List.mem_flatten.mp hx
  obtain ⟨e, a, b, c, _⟩ := h.rd R hR
  exact Rd.rng hs hpi hfi a (by omega) c x hx
end
theorem Rds.ne {s p : Int → Int} {m : Nat} {W : List (List Int)} (hm : 1 ≤ m) (h : Rds s p m W) : 1 ≤ W.length := by
  rcases Nat.eq_zero_or_pos W.length with z | z
  · have := h.all 0 (by omega) (by omega)
    rw [List.length_eq_zero_iff.mp z] at this
    simp at this
  · exact z
end Gf

/-! ## Gf7: numbers exchanged between sets that can be undone -/
namespace Gf
open PySem Ty
abbrev Sym (n : Nat) (a : Nat → Nat → Bool) : Prop := ∀ i j, i < n → j < n → a i j = a j i
theorem qx_one {n v : Nat} (hv : v < n) {h : Nat → Bool} (hz : ∀ k, k < n → k ≠ v → h k = false) : qx n h = h v := by
  rw [qx_split hv, qx_no fun k hk => by
    by_cases e : k = v
    · rw [if_pos e]
    · rw [if_neg e]; exact hz k hk e]
  simp
/-- each number of a set that can be undone has 1 with one of the set -/
theorem NS.hit {n u : Nat} {a : Nat → Nat → Bool} {S : Nat → Bool} (hs : Sym n a) (h : NS n a S) (hu : u < n) (hS : S u = true) : ∃ v, v < n ∧ S v = true ∧ a u v = true := by
  refine Classical.byContradiction fun hn => ?_
  have := h (fun k => decide (k = u)) (fun k _ hk => decide_eq_false fun e => by rw [e, hS] at hk; cases hk) (fun i hi hSi => ?_) u hu
  · simp at this
  · rw [qx_one hu fun k _ hk => by simp [hk]]
    simp only [decide_true, Bool.and_true]
    rw [hs i u hi hu]
    cases q : a u i with
    | false => rfl
    | true => exact absurd ⟨i, hi, hSi, q⟩ hn
end Gf

/-! ## Gf8: one round, and the ways at a place that leave one -/
namespace Gf
open PySem Ty
def fJ (f : Nat → Int) (x : Int) : Int := f x.toNat
def sJ (f c : Nat → Int) (x : Int) : Int := f (par c x).toNat
/-- whatever is closed is all or nothing -/
def OneR (m : Nat) (p f : Int → Int) : Prop := ∀ W : Int → Prop, (∀ x, 0 ≤ x → x < (m : Int) → W x → W (p x) ∧ W (f x)) → (∃ x, 0 ≤ x ∧ x < (m : Int) ∧ W x) → ∀ x, 0 ≤ x → x < (m : Int) → W x
section
variable {s p f : Int → Int} {m : Nat} (hs : ∀ x, s x = f (p x)) (hpi : ∀ x : Int, 0 ≤ x → x < m → 0 ≤ p x ∧ p x < m ∧ p (p x) = x ∧ p x ≠ x) (hfi : ∀ x : Int, 0 ≤ x → x < m → 0 ≤ f x ∧ f x < m ∧ f (f x) = x ∧ f x ≠ x)
include hs hpi hfi
theorem wl_fwd {e : Int} (h0 : 0 ≤ e) (h1 : e < m) {Z : Int → Prop} (hZ : ∀ x, 0 ≤ x → x < (m : Int) → Z x → Z (p x) ∧ Z (f x)) (he : Z e) (k : Nat) : ∀ x ∈ wl s p e k, Z x := by
  have rg := orb_rng hs hpi hfi h0 h1
  have ho : ∀ i, Z (orb s e i) := by
    intro i
    induction i with
    | zero => exact he
    | succ i ih =>
      show Z (s (orb s e i))
      rw [hs]
      have a := hpi _ (rg i).1 (rg i).2
      exact (hZ _ a.1 a.2.1 (hZ _ (rg i).1 (rg i).2 ih).1).2
  intro x hx
  obtain ⟨i, _, h⟩ := (mem_wl k).mp hx
  rcases h with rfl | rfl
  · exact ho i
  · exact (hZ _ (rg i).1 (rg i).2 (ho i)).1
theorem wl_back' {e : Int} (h0 : 0 ≤ e) (h1 : e < m) {Z : Int → Prop} (hZ : ∀ x, 0 ≤ x → x < (m : Int) → Z x → Z (p x) ∧ Z (f x)) {k : Nat} {x : Int} (hx : x ∈ wl s p e k) (hw : Z x) : Z e := by
  obtain ⟨i, hi, h⟩ := (mem_wl k).mp hx
  have rg := orb_rng hs hpi hfi h0 h1
  have key : ∀ i, Z (orb s e i) → Z e := by
    intro i
    induction i with
    | zero => exact fun h => h
    | succ i ih =>
      intro h
      refine ih ?_
      have c := hpi _ (rg i).1 (rg i).2
      have d := hfi _ c.1 c.2.1
      have e1 : f (orb s e (i + 1)) = p (orb s e i) := by
        show f (s (orb s e i)) = _
        rw [hs]; exact d.2.2.1
      have h2 := (hZ _ (rg (i + 1)).1 (rg (i + 1)).2 h).2
      rw [e1] at h2
      have := (hZ _ c.1 c.2.1 h2).1
      rwa [c.2.2.1] at this
  rcases h with rfl | rfl
  · exact key i hw
  · have c := hpi _ (rg i).1 (rg i).2
    have := (hZ _ c.1 c.2.1 hw).1
    rw [c.2.2.1] at this
    exact key i this
theorem Rds.one {W : List (List Int)} (hm : 1 ≤ m) (h : Rds s p m W) : W.length = 1 ↔ OneR m p f := by
  constructor
  · intro hl Z hZ hx x h0 h1
    obtain ⟨y, y0, y1, hy⟩ := hx
    obtain ⟨R, hR⟩ := List.length_eq_one_iff.mp hl
    subst hR
    have ally := h.all y y0 y1
    have allx := h.all x h0 h1
    simp only [List.flatten_cons, List.flatten_nil, List.append_nil] at ally allx
    obtain ⟨e, a, b, ⟨k, k1, rfl, k2, k3⟩, _⟩ := h.rd R (List.mem_singleton.mpr rfl)
    exact wl_fwd hs hpi hfi a b hZ (wl_back' hs hpi hfi a b hZ ally hy) k x allx
  · intro ho
    have hne := h.ne hm
    match W, h, hne with
    | [R], _, _ => rfl
    | R :: R' :: W, h, _ =>
      exfalso
      obtain ⟨e, a, b, ⟨k, k1, rfl, k2, k3⟩, _⟩ := h.rd R (List.mem_cons_self ..)
      obtain ⟨e', a', b', hR', _⟩ := h.rd R' (by simp)
      have := ho (fun x => x ∈ wl s p e k) (fun x x0 x1 hx => (wl_closed hs hpi hfi a b k1 k2 hx).2.2) ⟨e, a, b, (mem_wl k).mpr ⟨0, by omega, .inl rfl⟩⟩ e' a' b'
      have nd := h.nd
      rw [List.flatten_cons, List.nodup_append] at nd
      exact nd.2.2 e' this e' (by
        rw [List.flatten_cons, List.mem_append]
        exact .inl (List.mem_of_getElem? hR'.head.1)) rfl
end
section
variable {n : Nat} {f : Nat → Int}
theorem sJ_s {c : Nat → Int} : ∀ x, sJ f c x = fJ f (par c x) := fun _ => rfl
theorem par_hJ {c : Nat → Int} : ∀ x : Int, 0 ≤ x → x < ((4 * n : Nat) : Int) → 0 ≤ par c x ∧ par c x < ((4 * n : Nat) : Int) ∧ par c (par c x) = x ∧ par c x ≠ x := fun x a b => by
  have := par_in (c := c) a b
  exact ⟨this.1, this.2, par_par a, par_ne a⟩
theorem net_hJ (hf : Net (4 * n) f) (hf2 : ∀ i, i < 4 * n → f i ≠ i) : ∀ x : Int, 0 ≤ x → x < ((4 * n : Nat) : Int) → 0 ≤ fJ f x ∧ fJ f x < ((4 * n : Nat) : Int) ∧ fJ f (fJ f x) = x ∧ fJ f x ≠ x := fun x a b => by
  have q := hf x.toNat (by omega)
  exact ⟨q.1, q.2.1, by unfold fJ; rw [q.2.2]; omega, fun z => hf2 x.toNat (by omega) (by unfold fJ at z; omega)⟩
theorem par_at {c : Nat → Int} {x : Int} (h0 : 0 ≤ x) : par c x / 4 = x / 4 := by
  have h := jn_in (w := c (x / 4).toNat) (s := x % 4) (by omega) (by omega)
  unfold par
  omega
theorem par_off {c c' : Nat → Int} {q x : Int} (h0 : 0 ≤ q) (hc : ∀ k : Nat, (k : Int) ≠ q → c k = c' k) (hx : 0 ≤ x) (hq : x / 4 ≠ q) : par c x = par c' x := by
  unfold par
  rw [hc (x / 4).toNat (by omega)]
/-- from x, off the place, to y at the place -/
def Pth (f c : Nat → Int) (q x y : Int) : Prop := ∃ k, 1 ≤ k ∧ orb (sJ f c) (par c x) k = y ∧ y / 4 = q ∧ ∀ j, 1 ≤ j → j < k → orb (sJ f c) (par c x) j / 4 ≠ q
variable (hf : Net (4 * n) f) (hf2 : ∀ i, i < 4 * n → f i ≠ i) {c : Nat → Int} {q : Int} (hq0 : 0 ≤ q) (hq1 : q < (n : Int))
include hf hf2 hq0 hq1
theorem pth_ex {x : Int} (hx : x / 4 = q) : ∃ y, Pth f c q x y := by
  have x0 : 0 ≤ x ∧ x < ((4 * n : Nat) : Int) := by omega
  have pp := par_hJ (c := c) x x0.1 x0.2
  obtain ⟨k, k1, _, k3, _⟩ := orb_back (s := sJ f c) (e := par c x) (m := 4 * n) (fun z a b => by
    have q := par_hJ (c := c) z a b
    have q2 := net_hJ hf hf2 _ q.1 q.2.1
    exact ⟨q2.1, q2.2.1⟩) (fun u v a b a' b' h => s_inj (s := sJ f c) (p := par c) (f := fJ f) sJ_s par_hJ (net_hJ hf hf2) pp.1 pp.2.1 a b a' b' h) pp.1 pp.2.1
  obtain ⟨j, _, j2, j3⟩ := least_of (fun j => orb (sJ f c) (par c x) (j + 1) / 4 = q) (k - 1) (by
    rw [show k - 1 + 1 = k by omega, k3, par_at x0.1, hx])
  exact ⟨_, j + 1, by omega, rfl, j2, fun i i1 i2 => by
    have := j3 (i - 1) (by omega)
    rwa [show i - 1 + 1 = i by omega] at this⟩
/-- the steps of a way between -/
theorem pth_rng {x : Int} (hx : x / 4 = q) (i : Nat) : 0 ≤ orb (sJ f c) (par c x) i ∧ orb (sJ f c) (par c x) i < ((4 * n : Nat) : Int) := by
  have x0 : 0 ≤ x ∧ x < ((4 * n : Nat) : Int) := by omega
  have pp := par_hJ (c := c) x x0.1 x0.2
  exact orb_rng (s := sJ f c) (p := par c) (f := fJ f) sJ_s par_hJ (net_hJ hf hf2) pp.1 pp.2.1 i
theorem pth_ne {x y : Int} (hx : x / 4 = q) (h : Pth f c q x y) : y ≠ x := by
  obtain ⟨k, k1, rfl, k2, k3⟩ := h
  have x0 : 0 ≤ x ∧ x < ((4 * n : Nat) : Int) := by omega
  have pp := par_hJ (c := c) x x0.1 x0.2
  have := orb_par' (s := sJ f c) (p := par c) (f := fJ f) (e := par c x) (m := 4 * n) sJ_s par_hJ (net_hJ hf hf2) pp.1 pp.2.1 0 k
  intro z
  apply this
  rw [z]
  exact pp.2.2.1
/-- what is closed by another way at the place has both ends of a path, or none -/
theorem pth_on {c' : Nat → Int} (hc : ∀ k : Nat, (k : Int) ≠ q → c k = c' k) {x y : Int} (hx : x / 4 = q) (h : Pth f c q x y) {Z : Int → Prop} (hZ : ∀ x, 0 ≤ x → x < ((4 * n : Nat) : Int) → Z x → Z (par c' x) ∧ Z (fJ f x)) (hz : Z x) : Z y := by
  obtain ⟨k, k1, rfl, k2, k3⟩ := h
  have x0 : 0 ≤ x ∧ x < ((4 * n : Nat) : Int) := by omega
  have pp := par_hJ (c := c) x x0.1 x0.2
  have rg := pth_rng (c := c) hf hf2 hq0 hq1 hx
  have key : ∀ j, 1 ≤ j → j ≤ k → Z (orb (sJ f c) (par c x) j) := by
    intro j j1
    induction j with
    | zero => omega
    | succ j ih =>
      intro hj
      by_cases h0 : j = 0
      · subst h0
        show Z (sJ f c (par c x))
        rw [sJ_s, pp.2.2.1]
        exact (hZ x x0.1 x0.2 hz).2
      · have ih := ih (by omega) (by omega)
        show Z (sJ f c (orb (sJ f c) (par c x) j))
        rw [sJ_s]
        have a := par_hJ (c := c) _ (rg j).1 (rg j).2
        refine (hZ _ a.1 a.2.1 ?_).2
        rw [par_off hq0 hc (rg j).1 (k3 j (by omega) (by omega))]
        exact (hZ _ (rg j).1 (rg j).2 ih).1
  exact key k k1 (Nat.le_refl _)
end
end Gf

/-! ## Gf9: as few rounds as parts -/
namespace Gf
open PySem Ty
theorem nodup_sub : ∀ {l m : List Int}, l.Nodup → (∀ x ∈ l, x ∈ m) → l.length ≤ m.length
  | [], m, _, _ => by simp
  | a :: l, m, h, hs => by
    obtain ⟨h1, h2⟩ := List.nodup_cons.mp h
    have ha := hs a (List.mem_cons_self ..)
    have := nodup_sub (m := m.erase a) h2 fun x hx => (List.mem_erase_of_ne (fun e => h1 (by rw [← e]; exact hx))).mpr (hs x (List.mem_cons_of_mem _ hx))
    rw [List.length_erase_of_mem ha] at this
    have : 0 < m.length := List.length_pos_of_mem ha
    simp only [List.length_cons]; omega
/-- a list that is longer than what it has -/
theorem two_alike {α : Type} {k : α → Int} : ∀ {l : List α} {m : List Int}, (∀ x ∈ l, k x ∈ m) → m.length < l.length → ∃ pre x mid y post, l = pre ++ x :: (mid ++ y :: post) ∧ k x = k y := by
  intro l m hs hl
  have : ¬ (l.map k).Nodup := fun h => by
    have := nodup_sub h fun x hx => by
      obtain ⟨y, hy, rfl⟩ := List.mem_map.mp hx
      exact hs y hy
    rw [List.length_map] at this; omega
  clear hs hl
  induction l with
  | nil => exact absurd List.nodup_nil this
  | cons a l ih =>
    by_cases h : k a ∈ l.map k
    · obtain ⟨b, hb, e⟩ := List.mem_map.mp h
      obtain ⟨mid, post, rfl⟩ := List.append_of_mem hb
      exact ⟨[], a, mid, b, post, rfl, e.symm⟩
    · obtain ⟨pre, x, mid, y, post, rfl, e⟩ := ih fun hn => this (by rw [List.map_cons]; exact List.nodup_cons.mpr ⟨h, hn⟩)
      exact ⟨a :: pre, x, mid, y, post, rfl, e⟩
def hd (R : List Int) : Int := R.getD 0 0
theorem Rd.hd {s p : Int → Int} {e : Int} {R : List Int} (h : Rd s p e R) : hd R = e ∧ e ∈ R := by
  have := h.head.1
  refine ⟨?_, List.mem_of_getElem? this⟩
  unfold Gf.hd
  rw [List.getD_eq_getElem?_getD, this]; rfl
section
variable {s p : Int → Int} {m : Nat} {W : List (List Int)} (h : Rds s p m W)
include h
theorem Rds.disj {R R' : List Int} (hR : R ∈ W) (hR' : R' ∈ W) {x : Int} (h1 : x ∈ R) (h2 : x ∈ R') : R = R' := by
  have nd := h.nd
  have : ∀ (W : List (List Int)), W.flatten.Nodup → R ∈ W → R' ∈ W → R = R' := by
    intro W
    induction W with
    | nil => intro _ h; cases h
    | cons A W ih =>
      intro nd a b
      rw [List.flatten_cons, List.nodup_append] at nd
      have key : ∀ {B : List Int}, B ∈ W → x ∈ A → x ∈ B → False := fun hB h1 h2 => nd.2.2 x h1 x (List.mem_flatten.mpr ⟨_, hB, h2⟩) rfl
      rcases List.mem_cons.mp a with ea | ea
      · rcases List.mem_cons.mp b with eb | eb
        · rw [ea, eb]
        · exact (key eb (by rw [← ea]; exact h1) h2).elim
      · rcases List.mem_cons.mp b with eb | eb
        · exact (key ea (by rw [← eb]; exact h2) h1).elim
        · exact ih nd.2.1 ea eb
  exact this W nd hR hR'
theorem Rds.heads : (W.map hd).Nodup := by
  have key : ∀ (V : List (List Int)), (∀ R ∈ V, R ∈ W) → V.flatten.Nodup → (V.map hd).Nodup := by
    intro V
    induction V with
    | nil => intro _ _; exact List.nodup_nil
    | cons A V ih =>
      intro hV nd
      rw [List.flatten_cons, List.nodup_append] at nd
      rw [List.map_cons]
      refine List.nodup_cons.mpr ⟨fun hm => ?_, ih (fun R hR => hV R (List.mem_cons_of_mem _ hR)) nd.2.1⟩
      obtain ⟨B, hB, e⟩ := List.mem_map.mp hm
      obtain ⟨a, _, _, ha, _⟩ := h.rd A (hV A (List.mem_cons_self ..))
      obtain ⟨b, _, _, hb, _⟩ := h.rd B (hV B (List.mem_cons_of_mem _ hB))
      rw [ha.hd.1, hb.hd.1] at e
      subst e
      exact nd.2.2 b ha.hd.2 b (List.mem_flatten.mpr ⟨_, hB, hb.hd.2⟩) rfl
  exact key W (fun _ h => h) h.nd
end
section
variable {n : Nat} {f : Nat → Int} (hf : Net (4 * n) f) (hf2 : ∀ i, i < 4 * n → f i ≠ i)
include hf hf2
theorem rd_closed {c : Nat → Int} {W : List (List Int)} (h : Rds (sJ f c) (par c) (4 * n) W) {R : List Int} (hR : R ∈ W) : ∀ x ∈ R, 0 ≤ x ∧ x < ((4 * n : Nat) : Int) ∧ par c x ∈ R ∧ fJ f x ∈ R := by
  obtain ⟨e, a, b, ⟨k, k1, rfl, k2, _⟩, _⟩ := h.rd R hR
  exact fun x hx => wl_closed sJ_s par_hJ (net_hJ hf hf2) a b k1 k2 hx
/-- what is closed and meets a round has the whole -/
theorem rd_whole {c : Nat → Int} {W : List (List Int)} (h : Rds (sJ f c) (par c) (4 * n) W) {R : List Int} (hR : R ∈ W) {Z : Int → Prop} (hZ : ∀ x, 0 ≤ x → x < ((4 * n : Nat) : Int) → Z x → Z (par c x) ∧ Z (fJ f x)) {x : Int} (hx : x ∈ R) (hz : Z x) : ∀ y ∈ R, Z y := by
  obtain ⟨e, a, b, ⟨k, k1, rfl, k2, _⟩, _⟩ := h.rd R hR
  exact wl_fwd sJ_s par_hJ (net_hJ hf hf2) a b hZ (wl_back' sJ_s par_hJ (net_hJ hf hf2) a b hZ hx hz) k
/-- joined at a place at which two rounds go: fewer rounds -/
theorem fewer {c : Nat → Int} {W W' : List (List Int)} {q a b w : Int} (hq0 : 0 ≤ q) (hq1 : q < (n : Int)) (h : Rds (sJ f c) (par c) (4 * n) W) (ha : a / 4 = q) (hb : b / 4 = q) {R : List Int} (hR : R ∈ W) (haR : a ∈ R) (hbR : b ∉ R)
    (hj : par (fun k => if (k : Int) = q then w else c k) a = b) (h' : Rds (sJ f (fun k => if (k : Int) = q then w else c k)) (par fun k => if (k : Int) = q then w else c k) (4 * n) W') : W'.length < W.length := by
  have hoff : ∀ k : Nat, (k : Int) ≠ q → c k = (fun k : Nat => if (k : Int) = q then w else c k) k := fun k hk => by
    simp only []
    rw [if_neg hk]
  generalize (fun k : Nat => if (k : Int) = q then w else c k) = c' at hj h' hoff
  have a0 : 0 ≤ a ∧ a < ((4 * n : Nat) : Int) := by omega
  have b0 : 0 ≤ b ∧ b < ((4 * n : Nat) : Int) := by omega
  have hRc := rd_closed hf hf2 h hR
  have pa := par_hJ (n := n) (c := c) a a0.1 a0.2
  have pb := par_hJ (n := n) (c := c) b b0.1 b0.2
  have pa4 := par_at (c := c) (x := a) a0.1
  have pb4 := par_at (c := c) (x := b) b0.1
  have haP : par c a ∈ R := (hRc a haR).2.2.1
  have hbP : par c b ∉ R := fun z => hbR (by have := (hRc _ z).2.2.1; rwa [pb.2.2.1] at this)
  -- the four ends of the place
  have four : ∀ x : Int, x / 4 = q → x = a ∨ x = par c a ∨ x = b ∨ x = par c b := by
    intro x hx
    have n1 : a ≠ b := fun e => hbR (e ▸ haR)
    have n2 : a ≠ par c b := fun e => hbP (e ▸ haR)
    have n3 : par c a ≠ b := fun e => hbR (e ▸ haP)
    have n4 : par c a ≠ par c b := fun e => hbP (e ▸ haP)
    have n5 := pa.2.2.2
    have n6 := pb.2.2.2
    generalize par c a = u at *
    generalize par c b = v at *
    omega
  -- what is closed by the new ways is closed by the old ones
  have old : ∀ Z : Int → Prop, (∀ x, 0 ≤ x → x < ((4 * n : Nat) : Int) → Z x → Z (par c' x) ∧ Z (fJ f x)) → ∀ x, 0 ≤ x → x < ((4 * n : Nat) : Int) → Z x → Z (par c x) ∧ Z (fJ f x) := by
    intro Z hZ x x0 x1 hx
    refine ⟨?_, (hZ x x0 x1 hx).2⟩
    by_cases hxq : x / 4 = q
    · obtain ⟨y, hy⟩ := pth_ex (c := c) hf hf2 hq0 hq1 hxq
      have y4 : y / 4 = q := by obtain ⟨_, _, _, h, _⟩ := hy; exact h
      have hzy := pth_on hf hf2 hq0 hq1 hoff hxq hy hZ hx
      have hne := pth_ne (c := c) hf hf2 hq0 hq1 hxq hy
      have inR : x ∈ R → y ∈ R := fun hx => pth_on (c' := c) hf hf2 hq0 hq1 (fun _ _ => rfl) hxq hy (Z := fun z => z ∈ R) (fun z _ _ hz => (hRc z hz).2.2) hx
      have outR : x ∉ R → y ∉ R := fun hx => pth_on (c' := c) hf hf2 hq0 hq1 (fun _ _ => rfl) hxq hy (Z := fun z => 0 ≤ z ∧ z < ((4 * n : Nat) : Int) ∧ z ∉ R) (fun z z0 z1 hz => by
        have p1 := par_hJ (n := n) (c := c) z z0 z1
        have p2 := net_hJ hf hf2 z z0 z1
        refine ⟨⟨p1.1, p1.2.1, fun h => hz.2.2 ?_⟩, p2.1, p2.2.1, fun h => hz.2.2 ?_⟩
        · have := (hRc _ h).2.2.1; rwa [p1.2.2.1] at this
        · have := (hRc _ h).2.2.2; rwa [p2.2.2.1] at this) ⟨x0, x1, hx⟩ |>.2.2
      have : y = par c x := by
        rcases four x hxq with rfl | rfl | rfl | rfl
        · have := inR haR
          rcases four y y4 with rfl | rfl | rfl | rfl
          · exact absurd rfl hne
          · rfl
          · exact absurd this hbR
          · exact absurd this hbP
        · have := inR haP
          rw [pa.2.2.1]
          rcases four y y4 with rfl | rfl | rfl | rfl
          · rfl
          · exact absurd rfl hne
          · exact absurd this hbR
          · exact absurd this hbP
        · have := outR hbR
          rcases four y y4 with rfl | rfl | rfl | rfl
          · exact absurd haR this
          · exact absurd haP this
          · exact absurd rfl hne
          · rfl
        · have := outR hbP
          rw [pb.2.2.1]
          rcases four y y4 with rfl | rfl | rfl | rfl
          · exact absurd haR this
          · exact absurd haP this
          · rfl
          · exact absurd rfl hne
      rw [← this]; exact hzy
    · rw [par_off hq0 hoff x0 hxq]
      exact (hZ x x0 x1 hx).1
  have whole : ∀ R' ∈ W', ∀ A ∈ W, ∀ x, x ∈ A → x ∈ R' → ∀ y ∈ A, y ∈ R' := fun R' hR' A hA x h1 h2 => rd_whole hf hf2 h hA (Z := fun z => z ∈ R') (old (fun z => z ∈ R') fun z _ _ hz => (rd_closed hf hf2 h' hR' z hz).2.2) h1 h2
  -- each new first end is an old one
  have first : ∀ R' ∈ W', ∃ A ∈ W, hd A = hd R' ∧ hd R' ∈ A := by
    intro R' hR'
    obtain ⟨e', e0, e1, hr', le'⟩ := h'.rd R' hR'
    obtain ⟨A, hA, hx⟩ := List.mem_flatten.mp (h.all e' e0 e1)
    obtain ⟨e, z0, z1, hr, le⟩ := h.rd A hA
    have he := whole R' hR' A hA e' hx hr'.hd.2 e hr.hd.2
    have := le' e he
    have := le e' hx
    refine ⟨A, hA, ?_, ?_⟩
    · rw [hr.hd.1, hr'.hd.1]; omega
    · rw [hr'.hd.1]; exact hx
  -- the round of b
  obtain ⟨B, hB, hbB⟩ := List.mem_flatten.mp (h.all b b0.1 b0.2)
  obtain ⟨R', hR', haR'⟩ := List.mem_flatten.mp (h'.all a a0.1 a0.2)
  have hbR' : b ∈ R' := by
    have := (rd_closed hf hf2 h' hR' a haR').2.2.1
    rwa [hj] at this
  have hRR := whole R' hR' R hR a haR haR'
  have hBR := whole R' hR' B hB b hbB hbR'
  obtain ⟨r1, _, _, hr1, _⟩ := h.rd R hR
  obtain ⟨r2, _, _, hr2, _⟩ := h.rd B hB
  have hne : r1 ≠ r2 := fun e => by
    subst e
    exact hbR (h.disj hR hB hr1.hd.2 hr2.hd.2 ▸ hbB)
  obtain ⟨e', _, _, hr', le'⟩ := h'.rd R' hR'
  -- the greater of both is no new first end
  have hlt : ∀ r, (r = r1 ∨ r = r2) → r ≠ e' → r ∉ W'.map hd := by
    intro r hr hre hm
    obtain ⟨A', hA', e⟩ := List.mem_map.mp hm
    obtain ⟨x, _, _, hx, _⟩ := h'.rd A' hA'
    rw [hx.hd.1] at e
    subst e
    have : x ∈ R' := by
      rcases hr with rfl | rfl
      · exact hRR _ hr1.hd.2
      · exact hBR _ hr2.hd.2
    have := h'.disj hA' hR' hx.hd.2 this
    subst this
    have e1 := hx.hd.1
    have e2 := hr'.hd.1
    exact hre (e1.symm.trans e2)
  obtain ⟨r, hr, hre⟩ : ∃ r, (r = r1 ∨ r = r2) ∧ r ≠ e' := by
    by_cases z : r1 = e'
    · exact ⟨r2, .inr rfl, fun z2 => hne (z.trans z2.symm)⟩
    · exact ⟨r1, .inl rfl, z⟩
  have hrm : r ∈ W.map hd := by
    rcases hr with rfl | rfl
    · exact List.mem_map.mpr ⟨R, hR, hr1.hd.1⟩
    · exact List.mem_map.mpr ⟨B, hB, hr2.hd.1⟩
  have := nodup_sub (l := r :: W'.map hd) (m := W.map hd) (List.nodup_cons.mpr ⟨hlt r hr hre, h'.heads⟩) fun x hx => by
    rcases List.mem_cons.mp hx with rfl | hx
    · exact hrm
    · obtain ⟨A', hA', rfl⟩ := List.mem_map.mp hx
      obtain ⟨A, hA, e, _⟩ := first A' hA'
      exact List.mem_map.mpr ⟨A, hA, e⟩
  simp only [List.length_cons, List.length_map] at this
  omega
end
/-- a way that joins two ends of a place -/
theorem way_of {q a b : Int} (ha : a / 4 = q) (hb : b / 4 = q) (hq : 0 ≤ q) (hab : a ≠ b) (c : Nat → Int) : ∃ w : Int, 0 ≤ w ∧ w < 3 ∧ par (fun k => if (k : Int) = q then w else c k) a = b := by
  have hpar : ∀ w : Int, par (fun k => if (k : Int) = q then w else c k) a = 4 * q + jn w (a % 4) := fun w => by
    unfold par
    rw [ha]
    have : (if ((q.toNat : Nat) : Int) = q then w else c q.toNat) = w := if_pos (by omega)
    show 4 * q + jn (if ((q.toNat : Nat) : Int) = q then w else c q.toNat) (a % 4) = _
    rw [this]
  have h1 : a % 4 = 0 ∨ a % 4 = 1 ∨ a % 4 = 2 ∨ a % 4 = 3 := by omega
  have h2 : b % 4 = 0 ∨ b % 4 = 1 ∨ b % 4 = 2 ∨ b % 4 = 3 := by omega
  have key : ∃ w : Int, 0 ≤ w ∧ w < 3 ∧ jn w (a % 4) = b % 4 := by
    rcases h1 with h1 | h1 | h1 | h1 <;> rcases h2 with h2 | h2 | h2 | h2 <;> rw [h1, h2] <;> first
      | (exfalso; omega)
      | exact ⟨0, by decide, by decide, by decide⟩
      | exact ⟨1, by decide, by decide, by decide⟩
      | exact ⟨2, by decide, by decide, by decide⟩
  obtain ⟨w, w0, w1, w2⟩ := key
  exact ⟨w, w0, w1, by rw [hpar, w2]; omega⟩
end Gf

/-! ## Gf10: texts as rows of signs; a sign that stands twice -/
namespace Gf
open PySem Ty PySem.StrLaws Builtin.Str
abbrev tx (l : List Nat) : Str := ⟨l.toArray⟩
theorem tx_sg (c : Nat) : sgS c = tx [c] := rfl
theorem tx_inj {a b : List Nat} (h : tx a = tx b) : a = b := congrArg (fun y : Str => y.cps.toList) h
theorem tx_len (l : List Nat) : (tx l).length = l.length := by show l.toArray.size = _; simp
theorem tx_app (a b : List Nat) : tx a ++ tx b = tx (a ++ b) := by
  show (⟨a.toArray ++ b.toArray⟩ : Str) = _
  simp
theorem sgs (l : List Nat) : (tx l).cps.toList.map sgS = l.map sgS := rfl
theorem addS_ok {a b : List Nat} (h : a.length + b.length ≤ 16777216) : addSM (tx a) (tx b) = .ok (tx (a ++ b)) := by
  unfold addSM
  have e : szB ((tx a).length + (tx b).length) = true := by
    rw [tx_len, tx_len]
    unfold szB
    rw [sizeLine_eq]
    exact decide_eq_true h
  rw [e, tx_app]; rfl
theorem lenS_ok {a : List Nat} (h : a.length ≤ 16777216) : lenS (tx a) = .ok (a.length : Int) := by
  unfold lenS
  rw [sizeLine_eq, decide_eq_true (by rw [tx_len]; exact h), tx_len]; rfl
theorem atS_ok {a : List Nat} {i : Int} (h : a.length ≤ 16777216) (h0 : 0 ≤ i) (h1 : i < a.length) : atS (tx a) i = .ok (sgS (a.getD i.toNat 0)) := by
  unfold atS
  rw [sizeLine_eq, decide_eq_true (by rw [tx_len]; exact h)]
  have e : L2.atI (tx a).cps.toList i = some (a.getD i.toNat 0) := by
    rw [atI_ok h0 (by exact h1)]
    show a[i.toNat]? = _
    rw [List.getD_eq_getElem?_getD, List.getElem?_eq_getElem (by omega)]; rfl
  rw [e]; rfl
theorem cutS_ok {a : List Nat} {i j : Nat} (h : a.length ≤ 16777216) : cutSM (tx a) (some (i : Int)) (some (j : Int)) = .ok (tx ((a.drop (min i a.length)).take (min j a.length - min i a.length))) := by
  unfold cutSM
  rw [sizeLine_eq, decide_eq_true (by rw [tx_len]; exact h)]
  unfold L2.cutS
  rw [HT.sIx_nat, HT.sIx_nat, tx_len]; rfl
/-! ### where a sign stands -/
theorem occ_run (x : Str) (c lim : Nat) : ∀ (is : List Nat) (acc : Array Nat) (free : Nat), is.Pairwise (· < ·) → (∀ i ∈ is, free ≤ i) →
    (forIn is (acc, free) (occBody x ⟨#[c]⟩ x.length lim)).run.fst.toList = acc.toList ++ (is.filter fun i => decide (x.cps.toList[i]? = some c)).take (lim - acc.size)
  | [], acc, free, _, _ => by simp
  | a :: is, acc, free, hp, hf => by
    rw [List.forIn_cons]
    unfold occBody
    obtain ⟨hp1, hp2⟩ := List.pairwise_cons.mp hp
    have ha := hf a List.mem_cons_self
    by_cases hc : x.cps.toList[a]? = some c
    · have hs := (subAt_one x c a).mpr hc
      rw [List.filter_cons_of_pos (by simpa using hc)]
      by_cases hl : acc.size < lim
      · rw [if_pos ⟨⟨⟨hl, ha⟩, hs.1⟩, hs.2⟩]
        refine (occ_run x c lim is _ _ hp2 fun i hi => ?_).trans ?_
        · have := hp1 i hi
          show a + 1 ≤ i
          omega
        · rw [Array.toList_push, Array.size_push, List.append_assoc]
          congr 1
          rw [show lim - acc.size = (lim - (acc.size + 1)) + 1 by omega, List.take_succ_cons]
          rfl
      · rw [if_neg (fun h => hl h.1.1.1)]
        refine (occ_run x c lim is _ _ hp2 fun i hi => hf i (List.mem_cons_of_mem _ hi)).trans ?_
        rw [show lim - acc.size = 0 by omega]; simp
    · rw [List.filter_cons_of_neg (by simpa using hc), if_neg (fun h => hc ((subAt_one x c a).mp ⟨h.1.2, h.2⟩))]
      exact occ_run x c lim is _ _ hp2 fun i hi => hf i (List.mem_cons_of_mem _ hi)
theorem occ_one (l : List Nat) (c lo lim : Nat) : occurrences (tx l) (sgS c) lo l.length lim = ((List.range' lo (l.length + 1 - lo)).filter fun i => decide (l[i]? = some c)).take lim := by
  rw [occ_eq, ← tx_len l]
  refine (occ_run (tx l) c lim _ _ _ ?_ ?_).trans ?_
  · exact List.pairwise_lt_range'
  · intro i hi
    have := List.mem_range'.mp hi
    omega
  · rw [tx_len]; rfl
theorem up_nat {a b : List Nat} (ha : a.Pairwise (· < ·)) (hb : b.Pairwise (· < ·)) (h : ∀ x, x ∈ a ↔ x ∈ b) : a = b := Ty.nup_uniq ha hb h
theorem pos_up (l : List Nat) (c lo n : Nat) : ((List.range' lo n).filter fun i => decide (l[i]? = some c)).Pairwise (· < ·) := List.Pairwise.filter _ List.pairwise_lt_range'
theorem mem_pos {l : List Nat} {c lo i : Nat} : i ∈ ((List.range' lo (l.length + 1 - lo)).filter fun i => decide (l[i]? = some c)) ↔ lo ≤ i ∧ l[i]? = some c := by
  rw [List.mem_filter, List.mem_range', decide_eq_true_eq]
  constructor
  · rintro ⟨⟨j, h1, h2⟩, h3⟩
    exact ⟨by omega, h3⟩
  · rintro ⟨h1, h2⟩
    have := (List.getElem?_eq_some_iff.mp h2).1
    exact ⟨⟨i - lo, by omega, by omega⟩, h2⟩
/-- c stands at i and j alone -/
structure Two (l : List Nat) (c i j : Nat) : Prop where
  lt : i < j
  hi : l[i]? = some c
  hj : l[j]? = some c
  only : ∀ k, l[k]? = some c → k = i ∨ k = j
theorem Two.bi {l : List Nat} {c i j : Nat} (h : Two l c i j) : i < l.length := (List.getElem?_eq_some_iff.mp h.hi).1
theorem Two.bj {l : List Nat} {c i j : Nat} (h : Two l c i j) : j < l.length := (List.getElem?_eq_some_iff.mp h.hj).1
theorem Two.mem {l : List Nat} {c i j : Nat} (h : Two l c i j) : c ∈ l := List.mem_of_getElem? h.hi
theorem Two.uniq {l : List Nat} {c i j i' j' : Nat} (h : Two l c i j) (h' : Two l c i' j') : i = i' ∧ j = j' := by
  have a := h.only i' h'.hi
  have b := h.only j' h'.hj
  have c1 := h'.only i h.hi
  have d := h'.only j h.hj
  have := h.lt
  have := h'.lt
  omega
theorem Two.pos0 {l : List Nat} {c i j : Nat} (h : Two l c i j) : ((List.range' 0 (l.length + 1 - 0)).filter fun k => decide (l[k]? = some c)) = [i, j] := by
  refine up_nat (pos_up ..) (by simpa using h.lt) fun k => ?_
  rw [mem_pos]
  constructor
  · rintro ⟨_, hk⟩
    rcases h.only k hk with e | e <;> simp [e]
  · intro hk
    rcases List.mem_cons.mp hk with e | e
    · rw [e]; exact ⟨Nat.zero_le _, h.hi⟩
    · rw [List.mem_singleton.mp e]; exact ⟨Nat.zero_le _, h.hj⟩
theorem Two.find {l : List Nat} {c i j : Nat} (h : Two l c i j) : Txt.find (tx l) (sgS c) = (i : Int) := by
  unfold Txt.find
  rw [tx_len, occ_one, h.pos0]; rfl
theorem Two.index {l : List Nat} {c i j : Nat} (h : Two l c i j) : indexM (tx l) (sgS c) = .ok (i : Int) := by
  unfold indexM Txt.index0
  rw [tx_len, occ_one, h.pos0]; rfl
theorem len_pos (l : List Nat) (c : Nat) : ((List.range' 0 (l.length + 1 - 0)).filter fun k => decide (l[k]? = some c)).length = l.count c := by
  have key : ∀ (m : List Nat) (s : Nat), (∀ k, k < m.length → l[s + k]? = m[k]?) → (∀ k, m.length ≤ k → l[s + k]? = none) → ((List.range' s (m.length + 1)).filter fun k => decide (l[k]? = some c)).length = m.count c := by
    intro m
    induction m with
    | nil =>
      intro s _ h2
      have := h2 0 (Nat.le_refl _)
      simp only [Nat.add_zero] at this
      simp [this]
    | cons a m ih =>
      intro s h1 h2
      rw [List.length_cons, List.range'_succ]
      have q := h1 0 (by simp)
      simp only [Nat.add_zero, List.getElem?_cons_zero] at q
      have ih := ih (s + 1) (fun k hk => by
        have := h1 (k + 1) (by simp; omega)
        rw [show s + 1 + k = s + (k + 1) by omega, this]; simp) fun k hk => by
        rw [show s + 1 + k = s + (k + 1) by omega]
        exact h2 (k + 1) (by simp; omega)
      by_cases e : a = c
      · subst e
        rw [List.filter_cons_of_pos (by simp [q]), List.length_cons, ih, List.count_cons_self]
      · rw [List.filter_cons_of_neg (by simp [q, e]), ih, List.count_cons_of_ne (Ne.symm (Ne.symm e))]
  exact key l 0 (fun k _ => by rw [Nat.zero_add]) fun k hk => by rw [Nat.zero_add]; exact List.getElem?_eq_none hk
theorem count_tx (l : List Nat) (c : Nat) : Txt.count (tx l) (sgS c) = (l.count c : Int) := by
  unfold Txt.count
  rw [tx_len, occ_one, List.take_of_length_le, len_pos]
  rw [len_pos]
  have := List.count_le_length (a := c) (l := l)
  omega
theorem two_of_count {l : List Nat} {c : Nat} (h : l.count c = 2) : ∃ i j, Two l c i j := by
  have e := len_pos l c
  rw [h] at e
  match q : ((List.range' 0 (l.length + 1 - 0)).filter fun k => decide (l[k]? = some c)), e with
  | [i, j], _ =>
    have hu := pos_up l c 0 (l.length + 1 - 0)
    rw [q] at hu
    have hm : ∀ k, k ∈ [i, j] ↔ 0 ≤ k ∧ l[k]? = some c := fun k => by rw [← q]; exact mem_pos
    refine ⟨i, j, by simpa using hu, ((hm i).mp (by simp)).2, ((hm j).mp (by simp)).2, fun k hk => ?_⟩
    have := (hm k).mpr ⟨Nat.zero_le _, hk⟩
    simpa using this
/-- what stands between two places -/
def btw (l : List Nat) (i j : Nat) : List Nat := (l.drop (i + 1)).take (j - (i + 1))
theorem btw_get {l : List Nat} {i j k : Nat} (hk : k < j - (i + 1)) : (btw l i j)[k]? = l[i + 1 + k]? := by
  unfold btw
  rw [List.getElem?_take_of_lt hk, List.getElem?_drop]
theorem btw_len {l : List Nat} {i j : Nat} (h : j ≤ l.length) : (btw l i j).length = j - (i + 1) := by
  unfold btw
  rw [List.length_take, List.length_drop]
  omega
theorem btw_count {l : List Nat} {i j c a b : Nat} (hj : j ≤ l.length) (h : Two l c a b) : (btw l i j).count c = (if i < a ∧ a < j then 1 else 0) + (if i < b ∧ b < j then 1 else 0) := by
  rw [← len_pos]
  have hm : ∀ k, k ∈ ((List.range' 0 ((btw l i j).length + 1 - 0)).filter fun k => decide ((btw l i j)[k]? = some c)) ↔ k ∈ (((if i < a ∧ a < j then [a - (i + 1)] else []) ++ (if i < b ∧ b < j then [b - (i + 1)] else [])) : List Nat) := fun k => by
    rw [mem_pos, List.mem_append]
    have e1 : (k ∈ (if i < a ∧ a < j then [a - (i + 1)] else [] : List Nat)) ↔ (i < a ∧ a < j) ∧ k = a - (i + 1) := by
      split <;> simp [*]
    have e2 : (k ∈ (if i < b ∧ b < j then [b - (i + 1)] else [] : List Nat)) ↔ (i < b ∧ b < j) ∧ k = b - (i + 1) := by
      split <;> simp [*]
    rw [e1, e2]
    constructor
    · rintro ⟨_, hk⟩
      have hl := (List.getElem?_eq_some_iff.mp hk).1
      rw [btw_len hj] at hl
      rw [btw_get hl] at hk
      rcases h.only _ hk with e | e
      · left; omega
      · right; omega
    · rintro (⟨⟨h1, h2⟩, rfl⟩ | ⟨⟨h1, h2⟩, rfl⟩)
      · refine ⟨Nat.zero_le _, ?_⟩
        rw [btw_get (by omega), show i + 1 + (a - (i + 1)) = a by omega]
        exact h.hi
      · refine ⟨Nat.zero_le _, ?_⟩
        rw [btw_get (by omega), show i + 1 + (b - (i + 1)) = b by omega]
        exact h.hj
  have hl := h.lt
  have : ((List.range' 0 ((btw l i j).length + 1 - 0)).filter fun k => decide ((btw l i j)[k]? = some c)) = ((if i < a ∧ a < j then [a - (i + 1)] else []) ++ (if i < b ∧ b < j then [b - (i + 1)] else [])) := by
    refine up_nat (pos_up ..) ?_ hm
    split <;> split <;> simp <;> omega
  rw [this]
  split <;> split <;> simp
end Gf

/-! ## Gf11: ring words, their letters, where these stand, crossings -/
namespace Gf
open PySem Ty
/-- the letters of a word, rising -/
abbrev cs (l : List Nat) : List Nat := csort (tx l)
theorem mem_cs {l : List Nat} {c : Nat} : c ∈ cs l ↔ c ∈ l := mem_csort
theorem cs_up (l : List Nat) : (cs l).Pairwise (· < ·) := csort_up _
theorem cs_nd (l : List Nat) : (cs l).Nodup := by
  rw [List.nodup_iff_pairwise_ne]
  exact (cs_up l).imp fun h => by omega
/-- a ring word of n letters -/
structure Ring (l : List Nat) (n : Nat) : Prop where
  n1 : 1 ≤ n
  n10 : n ≤ 10
  len : l.length = 2 * n
  two : ∀ c ∈ l, l.count c = 2
  low : ∀ c ∈ l, 97 ≤ c ∧ c < 123
  few : (cs l).length = n
def dbl (ls : List Nat) : List Nat := ls.flatMap fun x => [x, x]
theorem dbl_len (ls : List Nat) : (dbl ls).length = 2 * ls.length := by
  unfold dbl
  induction ls with
  | nil => rfl
  | cons a l ih => rw [List.flatMap_cons, List.length_append, ih]; simp; omega
theorem mem_dbl {ls : List Nat} {c : Nat} : c ∈ dbl ls ↔ c ∈ ls := by
  unfold dbl
  rw [List.mem_flatMap]
  constructor
  · rintro ⟨a, h, e⟩
    simp at e
    rw [e]; exact h
  · intro h
    exact ⟨c, h, by simp⟩
theorem count_dbl {ls : List Nat} {c : Nat} (hn : ls.Nodup) (h : c ∈ ls) : (dbl ls).count c = 2 := by
  have key : ∀ ls : List Nat, (dbl ls).count c = 2 * ls.count c := by
    intro ls
    unfold dbl
    induction ls with
    | nil => rfl
    | cons a l ih =>
      rw [List.flatMap_cons, List.count_append, ih]
      by_cases e : a = c
      · subst e; simp; omega
      · simp [e]
  rw [key, hn.count, if_pos h]
theorem Ring.of_perm {l ls : List Nat} (hp : l.Perm (dbl ls)) (hn : ls.Nodup) (h1 : 1 ≤ ls.length) (h10 : ls.length ≤ 10) (hl : ∀ c ∈ ls, 97 ≤ c ∧ c < 123) : Ring l ls.length := by
  have hm : ∀ c, c ∈ l ↔ c ∈ ls := fun c => hp.mem_iff.trans mem_dbl
  refine ⟨h1, h10, by rw [hp.length_eq, dbl_len], fun c hc => ?_, fun c hc => hl c ((hm c).mp hc), ?_⟩
  · rw [hp.count_eq, count_dbl hn ((hm c).mp hc)]
  · exact ((List.perm_ext_iff_of_nodup (cs_nd l) hn).mpr fun c => mem_cs.trans (hm c)).length_eq
/-- where c stands -/
def pl (l : List Nat) (c : Nat) : Nat × Nat := match (List.range' 0 (l.length + 1 - 0)).filter fun k => decide (l[k]? = some c) with
  | [i, j] => (i, j)
  | _ => (0, 0)
theorem Two.pl {l : List Nat} {c i j : Nat} (h : Two l c i j) : Gf.pl l c = (i, j) := by
  unfold Gf.pl
  rw [h.pos0]
theorem Ring.at {l : List Nat} {n c : Nat} (R : Ring l n) (h : c ∈ l) : Two l c (pl l c).1 (pl l c).2 := by
  obtain ⟨i, j, q⟩ := two_of_count (R.two c h)
  rw [q.pl]; exact q
/-- do c and d stand by turns? -/
def crB (l : List Nat) (c d : Nat) : Bool := decide ((pl l c).1 < (pl l d).1 ∧ (pl l d).1 < (pl l c).2) != decide ((pl l c).1 < (pl l d).2 ∧ (pl l d).2 < (pl l c).2)
def cr (l : List Nat) (c d : Nat) : Int := if crB l c d then 1 else 0
theorem crB_self (l : List Nat) (c : Nat) : crB l c c = false := by
  unfold crB
  have h1 : ¬ ((pl l c).1 < (pl l c).1 ∧ (pl l c).1 < (pl l c).2) := by omega
  have h2 : ¬ ((pl l c).1 < (pl l c).2 ∧ (pl l c).2 < (pl l c).2) := by omega
  rw [decide_eq_false h1, decide_eq_false h2]; rfl
theorem crB_symm {l : List Nat} {n c d : Nat} (R : Ring l n) (hc : c ∈ l) (hd : d ∈ l) : crB l c d = crB l d c := by
  by_cases e : c = d
  · rw [e]
  have tc := R.at hc
  have td := R.at hd
  unfold crB
  generalize pl l c = p at *
  generalize pl l d = q at *
  obtain ⟨i, j⟩ := p
  obtain ⟨a, b⟩ := q
  have l1 := tc.lt
  have l2 := td.lt
  simp only at *
  have ne : ∀ x y : Nat, l[x]? = some c → l[y]? = some d → x ≠ y := fun x y h1 h2 h3 => by
    rw [h3, h2] at h1
    exact e (Option.some.inj h1).symm
  have n1 := ne i a tc.hi td.hi
  have n2 := ne i b tc.hi td.hj
  have n3 := ne j a tc.hj td.hi
  have n4 := ne j b tc.hj td.hj
  rw [Bool.eq_iff_iff]
  simp only [bne_iff_ne, ne_eq, decide_eq_decide]
  omega
/-- the crossings of a word -/
def crs (l : List Nat) (n : Nat) : List (List Int) := tab n fun i j => cr l ((cs l).getD i 0) ((cs l).getD j 0)
theorem cs_row {l : List Nat} {n : Nat} (R : Ring l n) : cs l = row n fun i => (cs l).getD i 0 := row_ext R.few fun i hi => by
  rw [List.getD_eq_getElem?_getD, List.getElem?_eq_getElem (by rw [R.few]; exact hi)]; rfl
theorem cs_mem {l : List Nat} {n i : Nat} (R : Ring l n) (hi : i < n) : (cs l).getD i 0 ∈ l := by
  have h : i < (cs l).length := by rw [R.few]; exact hi
  rw [List.getD_eq_getElem?_getD, List.getElem?_eq_getElem h]
  exact mem_cs.mp (List.getElem_mem h)
/-- d stands once between the two places of c -/
theorem btw_cr {l : List Nat} {n c d : Nat} (R : Ring l n) (hc : c ∈ l) (hd : d ∈ l) : decide (((btw l (pl l c).1 (pl l c).2).count d : Int) = 1) = crB l c d := by
  have tc := R.at hc
  have td := R.at hd
  have hj := tc.bj
  rw [btw_count (by omega) td]
  unfold crB
  generalize pl l c = p
  generalize pl l d = q
  by_cases h1 : p.1 < q.1 ∧ q.1 < p.2 <;> by_cases h2 : p.1 < q.2 ∧ q.2 < p.2 <;> simp [h1, h2]
end Gf

/-! ## Gf12: those of a choice that are not 0; choice tables -/
namespace Gf
open PySem Ty
def sel (n : Nat) (p : Nat → Bool) : List Nat := (List.range n).filter p
/-- the letter of number i -/
def lt (l : List Nat) (i : Nat) : Nat := (cs l).getD i 0
/-- which letters count: a way other than 0 -/
def on (n : Nat) (ch : Nat → Int) : List Nat := sel n fun i => !decide (ch i = 0)
end Gf

/-! ## Gf13: in the order of first standing; the net of a word -/
namespace Gf
open PySem Ty
section
variable {α : Type} [DecidableEq α]
def addF (acc : List α) (c : α) : List α := if c ∈ acc then acc else acc ++ [c]
/-- each once, as they first stand -/
def fo (l : List α) : List α := l.foldl addF []
theorem fo_snoc (l : List α) (c : α) : fo (l ++ [c]) = addF (fo l) c := by
  unfold fo
  rw [List.foldl_append]; rfl
theorem snoc_ind {P : List α → Prop} (h0 : P []) (h1 : ∀ l c, P l → P (l ++ [c])) (l : List α) : P l := by
  have : ∀ r : List α, P r.reverse := by
    intro r
    induction r with
    | nil => exact h0
    | cons a r ih => rw [List.reverse_cons]; exact h1 _ _ ih
  simpa using this l.reverse
theorem mem_fo {c : α} (l : List α) : c ∈ fo l ↔ c ∈ l := by
  refine snoc_ind (P := fun l => ∀ c, c ∈ fo l ↔ c ∈ l) (fun _ => Iff.rfl) (fun l d ih c => ?_) l c
  rw [fo_snoc]
  unfold addF
  split
  · rename_i h
    rw [ih, List.mem_append, List.mem_singleton]
    constructor
    · exact .inl
    · rintro (z | z)
      · exact z
      · rw [z]; exact (ih d).mp h
  · rw [List.mem_append, List.mem_append, ih]
theorem fo_nd (l : List α) : (fo l).Nodup := by
  refine snoc_ind (P := fun l => (fo l).Nodup) List.nodup_nil (fun l d ih => ?_) l
  rw [fo_snoc]
  unfold addF
  split
  · exact ih
  · rename_i h
    exact List.nodup_append.mpr ⟨ih, by simp, fun a ha b hb e => by
      rw [List.mem_singleton] at hb
      rw [e, hb] at ha
      exact h ha⟩
/-- where sign number k comes in -/
def inn [Inhabited α] (l : List α) (k : Nat) : Nat := 4 * (fo l).idxOf (l.getD k default) + if l.getD k default ∈ l.take k then 2 else 0
end
/-! ### of a ring word -/
theorem fo_len {l : List Nat} {n : Nat} (R : Ring l n) : (fo l).length = n := by
  rw [← R.few]
  exact ((List.perm_ext_iff_of_nodup (fo_nd l) (cs_nd l)).mpr fun c => (mem_fo l).trans mem_cs.symm).length_eq
theorem getD_mem' {l : List Nat} {k : Nat} (h : k < l.length) : l.getD k default ∈ l := by
  rw [List.getD_eq_getElem?_getD, List.getElem?_eq_getElem h]
  exact List.getElem_mem h
theorem mem_take' {l : List Nat} {c k : Nat} : c ∈ l.take k ↔ ∃ i, i < k ∧ l[i]? = some c := by
  rw [List.mem_iff_getElem?]
  constructor
  · rintro ⟨i, h⟩
    rw [List.getElem?_take] at h
    split at h
    · exact ⟨i, ‹_›, h⟩
    · cases h
  · rintro ⟨i, h1, h2⟩
    exact ⟨i, by rw [List.getElem?_take_of_lt h1]; exact h2⟩
theorem Two.seat {l : List Nat} {c i j k : Nat} (h : Two l c i j) (hk : l[k]? = some c) : (c ∈ l.take k ↔ k = j) ∧ (¬ c ∈ l.take k ↔ k = i) := by
  have hl := h.lt
  rw [mem_take']
  rcases h.only k hk with e | e
  · subst e
    have a : ¬ ∃ i, i < k ∧ l[i]? = some c := by
      rintro ⟨a, ha, q⟩
      rcases h.only a q with z | z <;> omega
    exact ⟨⟨fun z => absurd z a, fun z => by omega⟩, ⟨fun _ => rfl, fun _ => a⟩⟩
  · subst e
    have a : ∃ i, i < k ∧ l[i]? = some c := ⟨i, hl, h.hi⟩
    exact ⟨⟨fun _ => rfl, fun _ => a⟩, ⟨fun z => absurd a z, fun z => by omega⟩⟩
theorem inn_even (l : List Nat) (k : Nat) : inn l k % 2 = 0 := by
  unfold inn
  split <;> omega
theorem inn_lt {l : List Nat} {n k : Nat} (R : Ring l n) (hk : k < l.length) : inn l k < 4 * n := by
  unfold inn
  have : (fo l).idxOf (l.getD k default) < (fo l).length := List.idxOf_lt_length_iff.mpr ((mem_fo l).mpr (getD_mem' hk))
  rw [fo_len R] at this
  split <;> omega
theorem inn_sur {l : List Nat} {n j : Nat} (R : Ring l n) (hj : j < 4 * n) (he : j % 2 = 0) : ∃ k, k < l.length ∧ inn l k = j := by
  have hi : j / 4 < (fo l).length := by rw [fo_len R]; omega
  have hc : (fo l)[j / 4] ∈ l := (mem_fo l).mp (List.getElem_mem hi)
  have hx : (fo l).idxOf (fo l)[j / 4] = j / 4 := (fo_nd l).idxOf_getElem _ hi
  generalize (fo l)[j / 4] = c at hc hx
  obtain ⟨a, b, T⟩ := two_of_count (R.two c hc)
  have ga : l.getD a default = c := by rw [List.getD_eq_getElem?_getD, T.hi]; rfl
  have gb : l.getD b default = c := by rw [List.getD_eq_getElem?_getD, T.hj]; rfl
  have hl := T.lt
  by_cases h4 : j % 4 = 0
  · refine ⟨a, T.bi, ?_⟩
    unfold inn
    rw [ga, hx, if_neg ((T.seat T.hi).2.mpr rfl)]
    omega
  · refine ⟨b, T.bj, ?_⟩
    unfold inn
    rw [gb, hx, if_pos ((T.seat T.hj).1.mpr rfl)]
    omega
def prv' (m k : Nat) : Nat := if k = 0 then m - 1 else k - 1
theorem prv_lt {m k : Nat} (h : k < m) : prv' m k < m := by unfold prv'; split <;> omega
/-- the ties of a word's net, up to sign number j -/
def NetU (l : List Nat) (j : Nat) (F : Nat → Int) : Prop := ∀ k, k < j → F (inn l k) = inn l (prv' l.length k) + 1 ∧ F (inn l (prv' l.length k) + 1) = inn l k
end Gf

/-! ## Gf14: cut texts; words from places and letters -/
namespace Gf
open PySem Ty
theorem cutS_to {a : List Nat} {j : Nat} (h : a.length ≤ 16777216) : cutSM (tx a) none (some (j : Int)) = .ok (tx (a.take (min j a.length))) := by
  unfold cutSM
  rw [sizeLine_eq, decide_eq_true (by rw [tx_len]; exact h)]
  unfold L2.cutS
  rw [HT.sIx_nat, HT.sIx_none, tx_len]; rfl
theorem cutS_from {a : List Nat} {i : Nat} (h : a.length ≤ 16777216) : cutSM (tx a) (some (i : Int)) none = .ok (tx (a.drop (min i a.length))) := by
  unfold cutSM
  rw [sizeLine_eq, decide_eq_true (by rw [tx_len]; exact h)]
  unfold L2.cutS
  rw [HT.sIx_nat, HT.sIx_none, tx_len]
  show Except.ok (tx ((a.drop (min i a.length)).take (a.length - min i a.length))) = _
  rw [List.take_of_length_le (by rw [List.length_drop]; omega)]
theorem all_in {F M : List Int} (hF : F.Nodup) (hM : M.Nodup) (hl : M.length ≤ F.length) (hs : ∀ x ∈ F, x ∈ M) : F.Perm M := by
  refine (List.perm_ext_iff_of_nodup hF hM).mpr fun x => ⟨hs x, fun hx => ?_⟩
  refine Classical.byContradiction fun hn => ?_
  have := nodup_le (List.nodup_cons.mpr ⟨hn, hF⟩) (fun y hy => (List.mem_cons.mp hy).elim (fun e => e ▸ hx) (hs y))
  rw [List.length_cons] at this
  omega
end Gf

/-! ## Gf15: texts that may be compared -/
namespace Gf
open PySem Ty
theorem neMx {α : Type} [Rp α] [DecidableEq α] [Eqv α] {a b : α} (ha : Eqv.ok a = true) (hb : Eqv.ok b = true) : neM a b = .ok (!decide (a = b)) := by
  unfold neM
  rw [ha, hb]; rfl
theorem eqMx {α : Type} [Rp α] [DecidableEq α] [Eqv α] {a b : α} (ha : Eqv.ok a = true) (hb : Eqv.ok b = true) : eqM a b = .ok (decide (a = b)) := by
  unfold eqM
  rw [ha, hb]; rfl
theorem okL {α : Type} [Rp α] [DecidableEq α] [Eqv α] {l : List α} (h : ∀ x ∈ l, Eqv.ok x = true) : Eqv.ok l = true := List.all_eq_true.mpr h
end Gf

/-! ## Gf16: a word's writings, the least of them -/
namespace Gf
open PySem Ty
/-- letters renamed in the order of first standing -/
def rn (l : List Nat) : List Nat := l.map fun c => 97 + (fo l).idxOf c
def rot (k : Nat) (l : List Nat) : List Nat := l.drop k ++ l.take k
theorem mem_rot {k : Nat} {l : List Nat} {c : Nat} : c ∈ rot k l ↔ c ∈ l := by
  unfold rot
  rw [List.mem_append, or_comm, ← List.mem_append, List.take_append_drop]
theorem rot_zero (l : List Nat) : rot 0 l = l := by simp [rot]
/-- a writing: from place k on, perhaps backwards, renamed -/
def mvd (l : List Nat) (k : Nat) (b : Bool) : List Nat := if b then (rot k l).reverse else rot k l
def wr (l : List Nat) (k : Nat) (b : Bool) : List Nat := rn (mvd l k b)
end Gf

/-! ## Gf17: a round through all places as a word; choices held against it: what is closed, and what the crossings tell -/
namespace Gf
open PySem Ty
/-- one round through all ends: one comes in at I k, goes out at O k; A q, B q: the two turns at which the place q is come to -/
structure CW (n : Nat) (f c I O : Nat → Int) (A B : Nat → Nat) : Prop where
  n1 : 1 ≤ n
  rI : ∀ k, k < 2 * n → 0 ≤ I k ∧ I k < ((4 * n : Nat) : Int)
  rO : ∀ k, k < 2 * n → 0 ≤ O k ∧ O k < ((4 * n : Nat) : Int)
  hp : ∀ k, k < 2 * n → par c (I k) = O k
  hf : ∀ k, k + 1 < 2 * n → fJ f (O k) = I (k + 1)
  hl : fJ f (O (2 * n - 1)) = I 0
  all : ∀ x : Int, 0 ≤ x → x < ((4 * n : Nat) : Int) → ∃ k, k < 2 * n ∧ (x = I k ∨ x = O k)
  iI : ∀ j k, j < 2 * n → k < 2 * n → I j = I k → j = k
  iIO : ∀ j k, j < 2 * n → k < 2 * n → I j ≠ O k
  hA : ∀ q, q < n → A q < B q ∧ B q < 2 * n ∧ I (A q) / 4 = (q : Int) ∧ I (B q) / 4 = (q : Int)
  hk : ∀ k, k < 2 * n → ∀ q, q < n → I k / 4 = (q : Int) → k = A q ∨ k = B q
/-- the place come to at a turn -/
def wpl (I : Nat → Int) (k : Nat) : Nat := (I k / 4).toNat
/-- two places' turns stand by turns -/
def crw (A B : Nat → Nat) (q p : Nat) : Bool := decide (A q < A p ∧ A p < B q) != decide (A q < B p ∧ B p < B q)
/-- how a choice joins at a place: 0 along, 1 in with in, 2 in with the other out -/
def tpw (I O : Nat → Int) (A B : Nat → Nat) (d : Nat → Int) (q : Nat) : Nat := if par d (I (A q)) = O (A q) then 0 else if par d (I (A q)) = I (B q) then 1 else 2
def amw (I O : Nat → Int) (A B : Nat → Nat) (d : Nat → Int) (q p : Nat) : Bool := if q = p then decide (tpw I O A B d q = 1) else crw A B q p
def suw (I O : Nat → Int) (A B : Nat → Nat) (d : Nat → Int) (q : Nat) : Bool := decide (tpw I O A B d q ≠ 0)
/-- what the part at S makes noughts of -/
def Ker (n : Nat) (a : Nat → Nat → Bool) (S x : Nat → Bool) : Prop := (∀ k, k < n → S k = false → x k = false) ∧ ∀ i, i < n → S i = true → qx n (fun j => a i j && x j) = false
/-- closed under a choice and the ties -/
def Clo (n : Nat) (f d : Nat → Int) (Z : Int → Bool) : Prop := ∀ x : Int, 0 ≤ x → x < ((4 * n : Nat) : Int) → Z (par d x) = Z x ∧ Z (fJ f x) = Z x
theorem qx_two {n u v : Nat} (hu : u < n) (hv : v < n) (huv : u ≠ v) {h : Nat → Bool} (hz : ∀ k, k < n → k ≠ u → k ≠ v → h k = false) : qx n h = (h u != h v) := by
  rw [qx_split2 hu hv huv, qx_no fun k hk => by
    by_cases e : k = u ∨ k = v
    · rw [if_pos e]
    · rw [if_neg e]; exact hz k hk (fun z => e (.inl z)) (fun z => e (.inr z))]
  cases h u <;> cases h v <;> rfl
/-- counted place by place -/
theorem qx_places {n m : Nat} {w : Nat → Nat} (hw : ∀ k, k < m → w k < n) (u x : Nat → Bool) : qx m (fun k => u k && x (w k)) = qx n (fun p => (qx m fun k => u k && decide (w k = p)) && x p) := by
  induction m with
  | zero => exact (qx_no fun k _ => rfl).symm
  | succ m ih =>
    have ih := ih fun k hk => hw k (by omega)
    show (qx m (fun k => u k && x (w k)) != (u m && x (w m))) = qx n (fun p => (qx m (fun k => u k && decide (w k = p)) != (u m && decide (w m = p))) && x p)
    rw [ih]
    have e : ∀ p, ((qx m (fun k => u k && decide (w k = p)) != (u m && decide (w m = p))) && x p) = ((qx m (fun k => u k && decide (w k = p)) && x p) != ((u m && decide (w m = p)) && x p)) := fun p => by
      cases qx m (fun k => u k && decide (w k = p)) <;> cases u m <;> cases decide (w m = p) <;> cases x p <;> rfl
    rw [qx_congr fun p _ => e p, qx_xor]
    congr 1
    rw [qx_one (hw m (by omega)) fun p _ hp => by rw [decide_eq_false (fun z => hp z.symm)]; simp]
    simp
/-- the stretch from i to j -/
theorem qx_cut {h : Nat → Bool} {i : Nat} : ∀ {j : Nat}, i ≤ j → (qx i h != qx j h) = qx j fun k => decide (i ≤ k) && h k
  | 0, hi => by
    have : i = 0 := by omega
    subst this; rfl
  | j + 1, hi => by
    show (qx i h != (qx j h != h j)) = (qx j (fun k => decide (i ≤ k) && h k) != (decide (i ≤ j) && h j))
    by_cases e : i ≤ j
    · rw [← qx_cut e, decide_eq_true e]
      generalize qx i h = a
      generalize qx j h = b
      cases a <;> cases b <;> cases h j <;> rfl
    · have e2 : i = j + 1 := by omega
      subst e2
      rw [decide_eq_false e, qx_no (h := fun k => decide (j + 1 ≤ k) && h k) fun k hk => by rw [decide_eq_false (show ¬ j + 1 ≤ k by omega)]; rfl]
      show ((qx j h != h j) != (qx j h != h j)) = _
      generalize qx j h = a
      cases a <;> cases h j <;> rfl
theorem fJfJ {m : Nat} {f : Nat → Int} (hn : Net m f) {x : Int} (h0 : 0 ≤ x) (h1 : x < (m : Int)) : fJ f (fJ f x) = x := by
  unfold fJ
  rw [(hn x.toNat (by omega)).2.2]
  omega
section
variable {n : Nat} {f c I O : Nat → Int} {A B : Nat → Nat} (C : CW n f c I O A B)
include C
theorem CW.pO {k : Nat} (hk : k < 2 * n) : par c (O k) = I k := by
  rw [← C.hp k hk, par_par (C.rI k hk).1]
theorem CW.dO {k : Nat} (hk : k < 2 * n) : O k / 4 = I k / 4 := by
  rw [← C.hp k hk]; exact par_at (C.rI k hk).1
theorem CW.iO {j k : Nat} (hj : j < 2 * n) (hk : k < 2 * n) (h : O j = O k) : j = k := C.iI j k hj hk (by rw [← C.pO hj, h, C.pO hk])
theorem CW.hw {k : Nat} (hk : k < 2 * n) : wpl I k < n ∧ I k / 4 = (wpl I k : Int) := by
  have := C.rI k hk
  unfold wpl
  omega
theorem CW.wA {q : Nat} (hq : q < n) : wpl I (A q) = q ∧ wpl I (B q) = q := by
  have := C.hA q hq
  unfold wpl
  omega
theorem CW.wk {k q : Nat} (hk : k < 2 * n) (hq : q < n) : wpl I k = q ↔ k = A q ∨ k = B q := by
  constructor
  · intro h
    exact C.hk k hk q hq (by rw [(C.hw hk).2, h])
  · rintro (rfl | rfl)
    · exact (C.wA hq).1
    · exact (C.wA hq).2
/-- the four ends of a place -/
theorem CW.ends {q : Nat} (hq : q < n) {x : Int} (h0 : 0 ≤ x) (h : x / 4 = (q : Int)) : x = I (A q) ∨ x = O (A q) ∨ x = I (B q) ∨ x = O (B q) := by
  obtain ⟨k, hk, e⟩ := C.all x h0 (by omega)
  have e4 : I k / 4 = (q : Int) := by
    rcases e with rfl | rfl
    · exact h
    · rw [← C.dO hk]; exact h
  rcases C.hk k hk q hq e4 with rfl | rfl <;> rcases e with rfl | rfl <;> simp
theorem CW.dis {q : Nat} (hq : q < n) : I (A q) ≠ O (A q) ∧ I (A q) ≠ I (B q) ∧ I (A q) ≠ O (B q) ∧ O (A q) ≠ I (B q) ∧ O (A q) ≠ O (B q) ∧ I (B q) ≠ O (B q) := by
  obtain ⟨h1, h2, _, _⟩ := C.hA q hq
  refine ⟨C.iIO _ _ (by omega) (by omega), fun z => ?_, C.iIO _ _ (by omega) (by omega), fun z => C.iIO _ _ (by omega) (by omega) z.symm, fun z => ?_, C.iIO _ _ (by omega) (by omega)⟩
  · have := C.iI _ _ (by omega) (by omega) z; omega
  · have := C.iO (by omega) (by omega) z; omega
/-- how the ends of a place are joined -/
theorem CW.joins {q : Nat} (hq : q < n) (d : Nat → Int) : (tpw I O A B d q = 0 ∧ par d (I (A q)) = O (A q) ∧ par d (I (B q)) = O (B q)) ∨ (tpw I O A B d q = 1 ∧ par d (I (A q)) = I (B q) ∧ par d (O (A q)) = O (B q)) ∨ (tpw I O A B d q = 2 ∧ par d (I (A q)) = O (B q) ∧ par d (O (A q)) = I (B q)) := by
  obtain ⟨h1, h2, h3, h4⟩ := C.hA q hq
  obtain ⟨d1, d2, d3, d4, d5, d6⟩ := C.dis hq
  have rA := C.rI (A q) (by omega)
  have rB := C.rI (B q) (by omega)
  have sA := C.rO (A q) (by omega)
  have sB := C.rO (B q) (by omega)
  have oA : O (A q) / 4 = (q : Int) := by rw [C.dO (by omega)]; exact h3
  have oB : O (B q) / 4 = (q : Int) := by rw [C.dO (by omega)]; exact h4
  have key : ∀ x : Int, 0 ≤ x → x / 4 = (q : Int) → par d x ≠ x ∧ par d (par d x) = x ∧ (par d x = I (A q) ∨ par d x = O (A q) ∨ par d x = I (B q) ∨ par d x = O (B q)) := fun x x0 xq => by
    refine ⟨par_ne x0, par_par x0, C.ends hq ?_ (by rw [par_at x0]; exact xq)⟩
    have := par_at (c := d) x0
    omega
  obtain ⟨a1, a2, a3⟩ := key _ rA.1 h3
  obtain ⟨b1, b2, b3⟩ := key _ rB.1 h4
  obtain ⟨e1, e2, e3⟩ := key _ sA.1 oA
  unfold tpw
  rcases a3 with a | a | a | a
  · exact absurd a a1
  · refine .inl ⟨if_pos a, a, ?_⟩
    rcases b3 with b | b | b | b
    · rw [b] at b2; rw [b2] at a; exact absurd a d4.symm
    · rw [b] at b2; rw [a] at a2; rw [a2] at b2; exact absurd b2 d2
    · exact absurd b b1
    · exact b
  · refine .inr (.inl ⟨by rw [if_neg (by rw [a]; exact d4.symm), if_pos a], a, ?_⟩)
    rcases e3 with b | b | b | b
    · rw [b] at e2; rw [e2] at a; exact absurd a d4
    · exact absurd b e1
    · rw [b] at e2; rw [a] at a2; rw [a2] at e2; exact absurd e2 d1
    · exact b
  · refine .inr (.inr ⟨by rw [if_neg (by rw [a]; exact d5.symm), if_neg (by rw [a]; exact d6.symm)], a, ?_⟩)
    rcases e3 with b | b | b | b
    · rw [b] at e2; rw [e2] at a; exact absurd a d5
    · exact absurd b e1
    · exact b
    · rw [b] at e2; rw [a] at a2; rw [a2] at e2; exact absurd e2 d1
/-- what changes at a turn -/
theorem CW.flip {d : Nat → Int} {Z : Int → Bool} (hZ : Clo n f d Z) {k : Nat} (hk : k < 2 * n) : (Z (I k) != Z (O k)) = (Z (I (A (wpl I k))) != Z (O (A (wpl I k)))) ∧ (tpw I O A B d (wpl I k) = 0 → Z (I k) = Z (O k)) := by
  obtain ⟨hq, _⟩ := C.hw hk
  obtain ⟨h1, h2, _, _⟩ := C.hA _ hq
  have zz : ∀ j, j < 2 * n → Z (par d (I j)) = Z (I j) ∧ Z (par d (O j)) = Z (O j) := fun j hj => ⟨(hZ _ (C.rI j hj).1 (C.rI j hj).2).1, (hZ _ (C.rO j hj).1 (C.rO j hj).2).1⟩
  have zA := zz (A (wpl I k)) (by omega)
  have zB := zz (B (wpl I k)) (by omega)
  rcases (C.wk hk hq).mp rfl with e | e
  · constructor
    · rw [← e]
    · intro t0
      rcases C.joins hq d with ⟨t, j1, j2⟩ | ⟨t, _⟩ | ⟨t, _⟩
      · rw [e, ← zA.1, j1]
      · rw [t] at t0; cases t0
      · rw [t] at t0; cases t0
  · have ek : Z (I k) = Z (I (B (wpl I k))) ∧ Z (O k) = Z (O (B (wpl I k))) := by rw [← e]; exact ⟨rfl, rfl⟩
    rw [ek.1, ek.2]
    rcases C.joins hq d with ⟨t, j1, j2⟩ | ⟨t, j1, j2⟩ | ⟨t, j1, j2⟩
    · rw [← zA.1, j1, ← zB.1, j2]
      refine ⟨?_, fun _ => rfl⟩
      generalize Z (O (A (wpl I k))) = a
      generalize Z (O (B (wpl I k))) = b
      cases a <;> cases b <;> rfl
    · rw [← zA.1, ← zA.2, j1, j2]
      refine ⟨rfl, fun z => ?_⟩
      rw [t] at z; cases z
    · rw [← zA.1, ← zA.2, j1, j2]
      refine ⟨?_, fun z => ?_⟩
      · generalize Z (I (B (wpl I k))) = a
        generalize Z (O (B (wpl I k))) = b
        cases a <;> cases b <;> rfl
      · rw [t] at z; cases z
/-- what one is in behind k turns -/
theorem CW.along {Z : Int → Bool} {x : Nat → Bool} (hZ : ∀ y : Int, 0 ≤ y → y < ((4 * n : Nat) : Int) → Z (fJ f y) = Z y) (hx : ∀ k, k < 2 * n → (Z (I k) != Z (O k)) = x (wpl I k)) : ∀ k, k < 2 * n → Z (I k) = (Z (I 0) != qx k fun k => x (wpl I k)) ∧ Z (O k) = (Z (I 0) != qx (k + 1) fun k => x (wpl I k))
  | 0, h0 => by
    have := hx 0 h0
    refine ⟨by show _ = (Z (I 0) != false); simp, ?_⟩
    show _ = (Z (I 0) != (false != x (wpl I 0)))
    rw [← this]
    generalize Z (I 0) = a
    generalize Z (O 0) = b
    cases a <;> cases b <;> rfl
  | k + 1, h => by
    obtain ⟨_, i2⟩ := CW.along hZ hx k (by omega)
    have e : Z (I (k + 1)) = (Z (I 0) != qx (k + 1) fun k => x (wpl I k)) := by
      rw [← C.hf k h, hZ _ (C.rO k (by omega)).1 (C.rO k (by omega)).2, i2]
    refine ⟨e, ?_⟩
    have := hx (k + 1) h
    show _ = (Z (I 0) != (qx (k + 1) (fun k => x (wpl I k)) != x (wpl I (k + 1))))
    rw [← this, e]
    generalize Z (I 0) = a
    generalize qx (k + 1) (fun k => x (wpl I k)) = b
    generalize Z (O (k + 1)) = e
    cases a <;> cases b <;> cases e <;> rfl
/-- the places come to once between both turns of a place -/
theorem CW.count {q p : Nat} (hq : q < n) (hp : p < n) : (qx (B q) fun k => decide (A q + 1 ≤ k) && decide (wpl I k = p)) = if q = p then false else crw A B q p := by
  obtain ⟨h1, h2, _, _⟩ := C.hA q hq
  obtain ⟨g1, g2, _, _⟩ := C.hA p hp
  have ew : ∀ k, k < B q → (decide (A q + 1 ≤ k) && decide (wpl I k = p)) = ((decide (A q + 1 ≤ k) && decide (k = A p)) != (decide (A q + 1 ≤ k) && decide (k = B p))) := fun k hk => by
    have := C.wk (k := k) (q := p) (by omega) hp
    by_cases e1 : k = A p
    · rw [decide_eq_true (this.mpr (.inl e1)), decide_eq_true e1, decide_eq_false (show ¬ k = B p by omega)]; simp
    · by_cases e2 : k = B p
      · rw [decide_eq_true (this.mpr (.inr e2)), decide_eq_false e1, decide_eq_true e2]; simp
      · rw [decide_eq_false (fun z => (this.mp z).elim e1 e2), decide_eq_false e1, decide_eq_false e2]; simp
  rw [qx_congr ew, qx_xor]
  have one : ∀ a, (qx (B q) fun k => decide (A q + 1 ≤ k) && decide (k = a)) = decide (A q < a ∧ a < B q) := fun a => by
    by_cases ha : a < B q
    · rw [qx_one ha fun k _ hk => by rw [decide_eq_false hk]; simp]
      simp [ha, Nat.succ_le_iff]
    · rw [qx_no fun k hk => by rw [decide_eq_false (show ¬ k = a by omega)]; simp, decide_eq_false (by omega)]
  rw [one, one]
  by_cases e : q = p
  · subst e
    rw [if_pos rfl, decide_eq_false (by omega), decide_eq_false (by omega)]; rfl
  · rw [if_neg e]; rfl
/-- between both turns of a place -/
theorem CW.stretch {q : Nat} (hq : q < n) (x : Nat → Bool) : (qx (A q + 1) (fun k => x (wpl I k)) != qx (B q) fun k => x (wpl I k)) = qx n fun p => (if q = p then false else crw A B q p) && x p := by
  obtain ⟨h1, h2, _, _⟩ := C.hA q hq
  rw [qx_cut (by omega), qx_places (n := n) fun k hk => (C.hw (show k < 2 * n by omega)).1]
  exact qx_congr fun p hp => by rw [C.count hq hp]
theorem CW.sum_a {q : Nat} (hq : q < n) (d : Nat → Int) (x : Nat → Bool) : (qx n fun p => amw I O A B d q p && x p) = ((qx (A q + 1) (fun k => x (wpl I k)) != qx (B q) fun k => x (wpl I k)) != (decide (tpw I O A B d q = 1) && x q)) := by
  rw [C.stretch hq, qx_split hq, qx_split hq (h := fun p => (if q = p then false else crw A B q p) && x p)]
  unfold amw
  simp only [if_true, Bool.false_and]
  rw [qx_congr (h := fun k => if k = q then false else (if q = k then decide (tpw I O A B d q = 1) else crw A B q k) && x k) (h' := fun k => if k = q then false else (if q = k then false else crw A B q k) && x k) fun k _ => by
    by_cases e : k = q
    · rw [if_pos e, if_pos e]
    · rw [if_neg e, if_neg e, if_neg (Ne.symm e), if_neg (Ne.symm e)]]
  generalize qx n _ = z
  cases z <;> cases decide (tpw I O A B d q = 1) <;> cases x q <;> rfl
theorem CW.toK {d : Nat → Int} {Z : Int → Bool} (hZ : Clo n f d Z) : Ker n (amw I O A B d) (suw I O A B d) fun q => Z (I (A q)) != Z (O (A q)) := by
  refine ⟨fun q hq hs => ?_, fun q hq hs => ?_⟩
  · have t0 : tpw I O A B d q = 0 := by
      unfold suw at hs
      simpa using hs
    have h := C.hA q hq
    have := (C.flip hZ (k := A q) (by omega)).2 (by rw [(C.wA hq).1]; exact t0)
    simp only
    rw [this]; simp
  · rw [C.sum_a hq]
    have al := C.along (Z := Z) (x := fun q => Z (I (A q)) != Z (O (A q))) (fun y a b => (hZ y a b).2) fun k hk => (C.flip hZ hk).1
    obtain ⟨h1, h2, _, _⟩ := C.hA q hq
    have a1 := (al (A q) (by omega)).2
    have a2 := (al (B q) h2).1
    have zz : ∀ j, j < 2 * n → Z (par d (I j)) = Z (I j) ∧ Z (par d (O j)) = Z (O j) := fun j hj => ⟨(hZ _ (C.rI j hj).1 (C.rI j hj).2).1, (hZ _ (C.rO j hj).1 (C.rO j hj).2).1⟩
    have zA := zz (A q) (by omega)
    have e : ((qx (A q + 1) fun k => Z (I (A (wpl I k))) != Z (O (A (wpl I k)))) != qx (B q) fun k => Z (I (A (wpl I k))) != Z (O (A (wpl I k)))) = (Z (O (A q)) != Z (I (B q))) := by
      rw [a1, a2]
      generalize Z (I 0) = a
      generalize (qx (A q + 1) fun k => Z (I (A (wpl I k))) != Z (O (A (wpl I k)))) = b
      generalize (qx (B q) fun k => Z (I (A (wpl I k))) != Z (O (A (wpl I k)))) = e
      cases a <;> cases b <;> cases e <;> rfl
    rw [e]
    rcases C.joins hq d with ⟨t, j1, j2⟩ | ⟨t, j1, j2⟩ | ⟨t, j1, j2⟩
    · unfold suw at hs
      rw [t] at hs; cases hs
    · rw [t, ← zA.1, j1]
      generalize Z (I (B q)) = a
      generalize Z (O (A q)) = b
      cases a <;> cases b <;> rfl
    · rw [t, ← zA.2, j2]
      simp
theorem CW.none {d : Nat → Int} {Z : Int → Bool} (hZ : Clo n f d Z) (h0 : Z (I 0) = false) (hz : ∀ q, q < n → (Z (I (A q)) != Z (O (A q))) = false) : ∀ x : Int, 0 ≤ x → x < ((4 * n : Nat) : Int) → Z x = false := by
  have al := C.along (Z := Z) (x := fun _ => false) (fun y a b => (hZ y a b).2) fun k hk => by
    rw [(C.flip hZ hk).1]
    exact hz _ (C.hw hk).1
  intro x x0 x1
  obtain ⟨k, hk, rfl | rfl⟩ := C.all x x0 x1
  · rw [(al k hk).1, h0, qx_no fun _ _ => rfl]; rfl
  · rw [(al k hk).2, h0, qx_no fun _ _ => rfl]; rfl
omit C in
/-- a set of ends told by what changes at the places -/
def zOf (n : Nat) (I O : Nat → Int) (x : Nat → Bool) (e : Int) : Bool := (List.range (2 * n)).any fun k => (decide (e = I k) && qx k fun k => x (wpl I k)) || (decide (e = O k) && qx (k + 1) fun k => x (wpl I k))
theorem CW.zI {x : Nat → Bool} {k : Nat} (hk : k < 2 * n) : zOf n I O x (I k) = (qx k fun k => x (wpl I k)) ∧ zOf n I O x (O k) = (qx (k + 1) fun k => x (wpl I k)) := by
  constructor
  · unfold zOf
    apply Bool.eq_iff_iff.mpr
    rw [List.any_eq_true]
    constructor
    · rintro ⟨j, hj, h⟩
      have hj := List.mem_range.mp hj
      rw [decide_eq_false (C.iIO k j hk hj)] at h
      simp only [Bool.false_and, Bool.or_false, Bool.and_eq_true, decide_eq_true_eq] at h
      rw [C.iI k j hk hj h.1]; exact h.2
    · intro h
      exact ⟨k, List.mem_range.mpr hk, by rw [decide_eq_true rfl, h]; rfl⟩
  · unfold zOf
    apply Bool.eq_iff_iff.mpr
    rw [List.any_eq_true]
    constructor
    · rintro ⟨j, hj, h⟩
      have hj := List.mem_range.mp hj
      rw [decide_eq_false (show ¬ O k = I j from fun z => C.iIO j k hj hk z.symm)] at h
      simp only [Bool.false_and, Bool.false_or, Bool.and_eq_true, decide_eq_true_eq] at h
      rw [C.iO hk hj h.1]; exact h.2
    · intro h
      exact ⟨k, List.mem_range.mpr hk, by rw [decide_eq_true (show O k = O k from rfl), h]; simp⟩
theorem CW.whole (x : Nat → Bool) : (qx (2 * n) fun k => x (wpl I k)) = false := by
  have := qx_places (n := n) (m := 2 * n) (w := wpl I) (fun k hk => (C.hw hk).1) (fun _ => true) x
  simp only [Bool.true_and] at this
  rw [this]
  refine qx_no fun p hp => ?_
  obtain ⟨h1, h2, _, _⟩ := C.hA p hp
  rw [qx_two (u := A p) (v := B p) (by omega) h2 (by omega) fun k hk e1 e2 => decide_eq_false fun z => ((C.wk hk hp).mp z).elim e1 e2, decide_eq_true (C.wA hp).1, decide_eq_true (C.wA hp).2]
  rfl
theorem CW.ofK (hn : Net (4 * n) f) {d : Nat → Int} {x : Nat → Bool} (h : Ker n (amw I O A B d) (suw I O A B d) x) : Clo n f d (zOf n I O x) ∧ zOf n I O x (I 0) = false ∧ ∀ q, q < n → (zOf n I O x (I (A q)) != zOf n I O x (O (A q))) = x q := by
  have n1 := C.n1
  have st : ∀ k, k < 2 * n → (zOf n I O x (I k) != zOf n I O x (O k)) = x (wpl I k) := fun k hk => by
    rw [(C.zI hk).1, (C.zI hk).2]
    show ((qx k fun k => x (wpl I k)) != ((qx k fun k => x (wpl I k)) != x (wpl I k))) = _
    generalize (qx k fun k => x (wpl I k)) = a
    generalize x (wpl I k) = b
    cases a <;> cases b <;> rfl
  have z0 : zOf n I O x (I 0) = false := (C.zI (k := 0) (by omega)).1
  have nx : ∀ k, k < 2 * n → zOf n I O x (fJ f (O k)) = zOf n I O x (O k) := fun k hk => by
    by_cases e : k + 1 < 2 * n
    · rw [C.hf k e, (C.zI e).1, (C.zI hk).2]
    · have e2 : k = 2 * n - 1 := by omega
      subst e2
      rw [C.hl, z0, (C.zI hk).2, show 2 * n - 1 + 1 = 2 * n by omega, C.whole x]
  refine ⟨fun y y0 y1 => ?_, z0, fun q hq => ?_⟩
  rotate_left
  · have := st (A q) (by have := C.hA q hq; omega)
    rw [(C.wA hq).1] at this
    exact this
  constructor
  · obtain ⟨q, hq, eq⟩ : ∃ q, q < n ∧ y / 4 = (q : Int) := ⟨(y / 4).toNat, by omega, by omega⟩
    obtain ⟨h1, h2, _, _⟩ := C.hA q hq
    have sA := st (A q) (by omega)
    have sB := st (B q) h2
    rw [(C.wA hq).1] at sA
    rw [(C.wA hq).2] at sB
    have sum := C.sum_a hq d x
    have oA := (C.zI (x := x) (k := A q) (by omega)).2
    have iB := (C.zI (x := x) (k := B q) h2).1
    rw [← oA, ← iB] at sum
    have rA := C.rI (A q) (by omega)
    have rB := C.rI (B q) (by omega)
    have tA := C.rO (A q) (by omega)
    have tB := C.rO (B q) (by omega)
    rcases C.joins hq d with ⟨t, j1, j2⟩ | ⟨t, j1, j2⟩ | ⟨t, j1, j2⟩
    · have xq : x q = false := h.1 q hq (by unfold suw; rw [t]; rfl)
      rw [xq] at sA sB
      have eA : zOf n I O x (I (A q)) = zOf n I O x (O (A q)) := by
        revert sA
        cases zOf n I O x (I (A q)) <;> cases zOf n I O x (O (A q)) <;> simp
      have eB : zOf n I O x (I (B q)) = zOf n I O x (O (B q)) := by
        revert sB
        cases zOf n I O x (I (B q)) <;> cases zOf n I O x (O (B q)) <;> simp
      have j3 : par d (O (A q)) = I (A q) := by rw [← j1, par_par rA.1]
      have j4 : par d (O (B q)) = I (B q) := by rw [← j2, par_par rB.1]
      rcases C.ends hq y0 eq with rfl | rfl | rfl | rfl
      · rw [j1, eA]
      · rw [j3, eA]
      · rw [j2, eB]
      · rw [j4, eB]
    · have s0 := h.2 q hq (by unfold suw; rw [t]; rfl)
      rw [sum, t, decide_eq_true rfl] at s0
      have e1 : zOf n I O x (I (A q)) = zOf n I O x (I (B q)) ∧ zOf n I O x (O (A q)) = zOf n I O x (O (B q)) := by
        revert sA sB s0
        cases zOf n I O x (I (A q)) <;> cases zOf n I O x (O (A q)) <;> cases zOf n I O x (I (B q)) <;> cases zOf n I O x (O (B q)) <;> cases x q <;> simp
      have j3 : par d (I (B q)) = I (A q) := by rw [← j1, par_par rA.1]
      have j4 : par d (O (B q)) = O (A q) := by rw [← j2, par_par tA.1]
      rcases C.ends hq y0 eq with rfl | rfl | rfl | rfl
      · rw [j1, e1.1]
      · rw [j2, e1.2]
      · rw [j3, e1.1]
      · rw [j4, e1.2]
    · have s0 := h.2 q hq (by unfold suw; rw [t]; rfl)
      rw [sum, t, decide_eq_false (by omega)] at s0
      have e1 : zOf n I O x (I (A q)) = zOf n I O x (O (B q)) ∧ zOf n I O x (O (A q)) = zOf n I O x (I (B q)) := by
        revert sA sB s0
        cases zOf n I O x (I (A q)) <;> cases zOf n I O x (O (A q)) <;> cases zOf n I O x (I (B q)) <;> cases zOf n I O x (O (B q)) <;> cases x q <;> simp
      have j3 : par d (O (B q)) = I (A q) := by rw [← j1, par_par rA.1]
      have j4 : par d (I (B q)) = O (A q) := by rw [← j2, par_par tA.1]
      rcases C.ends hq y0 eq with rfl | rfl | rfl | rfl
      · rw [j1, e1.1]
      · rw [j2, e1.2]
      · rw [j4, e1.2]
      · rw [j3, e1.1]
  · obtain ⟨k, hk, e⟩ := C.all y y0 y1
    rcases e with rfl | rfl
    · by_cases e : k = 0
      · subst e
        have tl := C.rO (2 * n - 1) (by omega)
        have : fJ f (I 0) = O (2 * n - 1) := by rw [← C.hl]; exact fJfJ hn tl.1 tl.2
        have u := nx (2 * n - 1) (by omega)
        rw [this, ← u, C.hl]
      · obtain ⟨j, rfl⟩ : ∃ j, k = j + 1 := ⟨k - 1, by omega⟩
        have tl := C.rO j (by omega)
        have : fJ f (I (j + 1)) = O j := by rw [← C.hf j hk]; exact fJfJ hn tl.1 tl.2
        have u := nx j (by omega)
        rw [this, ← u, C.hf j hk]
    · exact nx k hk
end
end Gf

/-! ## Gf18: a word's net is a net; places of signs; rounds in their order -/
namespace Gf
open PySem Ty
theorem prv_sur {m k : Nat} (h : k < m) : ∃ j, j < m ∧ prv' m j = k := by
  by_cases e : k + 1 < m
  · exact ⟨k + 1, e, by unfold prv'; rw [if_neg (by omega)]; omega⟩
  · exact ⟨0, by omega, by unfold prv'; rw [if_pos rfl]; omega⟩
theorem NetU.net {l : List Nat} {n : Nat} (R : Ring l n) {F : Nat → Int} (h : NetU l l.length F) : Net (4 * n) F ∧ ∀ i, i < 4 * n → F i ≠ i := by
  have key : ∀ i, i < 4 * n → 0 ≤ F i ∧ F i < ((4 * n : Nat) : Int) ∧ F (F i).toNat = i ∧ F i ≠ i := by
    intro i hi
    by_cases he : i % 2 = 0
    · obtain ⟨k, hk, rfl⟩ := inn_sur R hi he
      obtain ⟨h1, h2⟩ := h k hk
      have b := inn_lt R (prv_lt hk)
      have b2 := inn_even l (prv' l.length k)
      rw [h1]
      refine ⟨by omega, by omega, ?_, by omega⟩
      rw [show (((inn l (prv' l.length k) : Nat) : Int) + 1).toNat = inn l (prv' l.length k) + 1 by omega, h2]
    · obtain ⟨j, hj, ej⟩ := inn_sur R (j := i - 1) (by omega) (by omega)
      obtain ⟨k, hk, ek⟩ := prv_sur hj
      obtain ⟨h1, h2⟩ := h k hk
      rw [ek, ej, show i - 1 + 1 = i by omega] at h2
      rw [ek, ej] at h1
      have b := inn_lt R hk
      have b2 := inn_even l k
      rw [h2]
      refine ⟨by omega, by omega, ?_, by omega⟩
      rw [Int.toNat_natCast, h1]
      omega
  exact ⟨fun i hi => ⟨(key i hi).1, (key i hi).2.1, (key i hi).2.2.1⟩, fun i hi => (key i hi).2.2.2⟩
end Gf

/-! ## Gf19: a word as a round through its own net; rounds of another choice are what makes noughts -/
namespace Gf
open PySem Ty
section
variable {l : List Nat} {n : Nat} (R : Ring l n)
include R
end
/-! ### rounds -/
theorem Rds.dis {s p : Int → Int} {m : Nat} {W : List (List Int)} (hW : Rds s p m W) {i j : Nat} {x : Int} (hi : x ∈ W.getD i []) (hj : x ∈ W.getD j []) : i = j := by
  have hp := (List.pairwise_flatten.mp (List.nodup_iff_pairwise_ne.mp hW.nd)).2
  have li : i < W.length := by
    refine Decidable.byContradiction fun h => ?_
    rw [List.getD_eq_getElem?_getD, List.getElem?_eq_none (by omega)] at hi
    cases hi
  have lj : j < W.length := by
    refine Decidable.byContradiction fun h => ?_
    rw [List.getD_eq_getElem?_getD, List.getElem?_eq_none (by omega)] at hj
    cases hj
  rw [List.getD_eq_getElem?_getD, List.getElem?_eq_getElem li] at hi
  rw [List.getD_eq_getElem?_getD, List.getElem?_eq_getElem lj] at hj
  rcases Nat.lt_trichotomy i j with h | h | h
  · exact absurd rfl (List.pairwise_iff_getElem.mp hp i j li lj h x hi x hj)
  · exact h
  · exact absurd rfl (List.pairwise_iff_getElem.mp hp j i lj li h x hj x hi)
section
variable {n : Nat} {f d : Nat → Int} (hn : Net (4 * n) f) (hf2 : ∀ i, i < 4 * n → f i ≠ i) {W : List (List Int)} (hW : Rds (sJ f d) (par d) (4 * n) W)
/-- the end is in the round -/
def inR (W : List (List Int)) (i : Nat) (x : Int) : Bool := decide (x ∈ W.getD i [])
include hn hf2 hW
end
/-- bits of a mask by places in another order -/
structure Prm (n : Nat) (π σ : Nat → Nat) : Prop where
  p : ∀ i, i < n → π i < n ∧ σ (π i) = i
  s : ∀ i, i < n → σ i < n ∧ π (σ i) = i
theorem Prm.qx {n : Nat} {π σ : Nat → Nat} (h : Prm n π σ) (g : Nat → Bool) : Gf.qx n (fun i => g (π i)) = Gf.qx n g := by
  have := qx_places (n := n) (m := n) (w := π) (fun k hk => (h.p k hk).1) (fun _ => true) g
  simp only [Bool.true_and] at this
  rw [this]
  refine qx_congr fun p hp => ?_
  rw [qx_one (v := σ p) (h.s p hp).1 fun k hk hne => decide_eq_false fun z => hne (by rw [← z]; exact (h.p k hk).2.symm), decide_eq_true (h.s p hp).2, Bool.true_and]
theorem Ker.congr {n : Nat} {a b : Nat → Nat → Bool} {S T x y : Nat → Bool} (ha : ∀ i j, i < n → j < n → a i j = b i j) (hs : ∀ i, i < n → S i = T i) (hx : ∀ i, i < n → x i = y i) (k : Ker n a S x) : Ker n b T y :=
  ⟨fun i hi h => by rw [← hx i hi]; exact k.1 i hi (by rw [hs i hi]; exact h), fun i hi h => by
    rw [← k.2 i hi (by rw [hs i hi]; exact h)]
    exact qx_congr fun j hj => by rw [ha i j hi hj, hx j hj]⟩
section
variable {n : Nat} {f c I O : Nat → Int} {A B : Nat → Nat} (C : CW n f c I O A B) (hn : Net (4 * n) f) (hf2 : ∀ i, i < 4 * n → f i ≠ i) {d : Nat → Int} {W : List (List Int)} (hW : Rds (sJ f d) (par d) (4 * n) W) {π σ : Nat → Nat} (P : Prm n π σ)
include C hn hf2 hW P
end
end Gf

/-! ## Gf20: rank and what makes noughts -/
namespace Gf
open PySem Ty
theorem sp_app : ∀ {L U : List Nat} {v : Nat}, v ∈ sp (L ++ U) → ∃ a, a ∈ sp L ∧ v ^^^ a ∈ sp U
  | [], U, v, h => ⟨0, sp_zero _, by rw [Nat.xor_zero]; exact h⟩
  | k :: L, U, v, h => by
    rw [List.cons_append, sp_cons] at h
    rcases h with h | h
    · obtain ⟨a, h1, h2⟩ := sp_app h
      exact ⟨a, sp_cons.mpr (.inl h1), h2⟩
    · obtain ⟨a, h1, h2⟩ := sp_app h
      refine ⟨a ^^^ k, sp_cons.mpr (.inr (by rw [xs]; exact h1)), ?_⟩
      rw [Nat.xor_comm a k, ← Nat.xor_assoc]
      exact h2
theorem Ind.app : ∀ {L U : List Nat}, Ind L → Ind U → (∀ v, v ∈ sp L → v ∈ sp U → v = 0) → Ind (L ++ U)
  | [], U, _, h, _ => h
  | k :: L, U, h1, h2, hd => by
    obtain ⟨i1, i2⟩ := Ind.cons.mp h1
    refine Ind.cons.mpr ⟨Ind.app i1 h2 fun v a b => hd v (sp_cons.mpr (.inl a)) b, fun h => ?_⟩
    obtain ⟨a, a1, a2⟩ := sp_app h
    have : k ^^^ a = 0 := hd _ (sp_cons.mpr (.inr (by rw [Nat.xor_comm k a, xs]; exact a1))) a2
    have : a = k := by
      have e := xs' a k
      rw [this, Nat.xor_zero] at e
      exact e.symm
    exact i2 (this ▸ a1)
end Gf

/-! ## Gf21: a word's rounds under a choice, and the rank of the choice's table -/
namespace Gf
open PySem Ty
section
variable {l : List Nat} {n : Nat} (R : Ring l n)
include R
end
end Gf

/-! ## Gf22: a word has a net -/
namespace Gf
open PySem Ty
end Gf

/-! ## Gf23: ends at a place counted; sums as parities; the rounds two ends are in -/
namespace Gf
open PySem Ty
section
variable {n : Nat} {f d : Nat → Int} (hn : Net (4 * n) f) (hf2 : ∀ i, i < 4 * n → f i ≠ i) {W : List (List Int)} (hW : Rds (sJ f d) (par d) (4 * n) W)
include hn hf2 hW
end
end Gf

set_option maxHeartbeats 2000000
/-! ## Gf24: a choice that leaves one round is a word; the word of the turned choice; texts within texts -/
namespace Gf
open PySem Ty
theorem wl_idx {s p : Int → Int} {e : Int} {k : Nat} (hnd : (wl s p e k).Nodup) {x y : Nat} {v : Int} (hx : (wl s p e k)[x]? = some v) (hy : (wl s p e k)[y]? = some v) : x = y := by
  obtain ⟨bx, ex⟩ := List.getElem?_eq_some_iff.mp hx
  obtain ⟨bY, ey⟩ := List.getElem?_eq_some_iff.mp hy
  exact (List.getElem_inj hnd).mp (by rw [ex, ey])
/-- a round with as many ends as there are is all -/
theorem wl_all {s p f : Int → Int} {e : Int} {m k : Nat} (hs : ∀ x, s x = f (p x)) (hpi : ∀ x : Int, 0 ≤ x → x < m → 0 ≤ p x ∧ p x < m ∧ p (p x) = x ∧ p x ≠ x) (hfi : ∀ x : Int, 0 ≤ x → x < m → 0 ≤ f x ∧ f x < m ∧ f (f x) = x ∧ f x ≠ x) (h0 : 0 ≤ e) (h1 : e < m) (hR : Rd s p e (wl s p e k)) (hk : 2 * k = m) : OneR m p f ∧ ∀ x : Int, 0 ≤ x → x < (m : Int) → x ∈ wl s p e k := by
  have hnd := Rd.nd hs hpi hfi h0 h1 hR
  have hrg := Rd.rng hs hpi hfi h0 h1 hR
  have hall : ∀ x : Int, 0 ≤ x → x < (m : Int) → x ∈ wl s p e k := by
    have hP := all_in (F := wl s p e k) (M := (List.range m).map fun i : Nat => (i : Int)) hnd (by
      rw [List.nodup_iff_pairwise_ne, List.pairwise_map]
      exact List.pairwise_lt_range.imp fun h => by omega) (by rw [List.length_map, List.length_range, wl_len]; omega) fun x hx => by
        have := hrg x hx
        exact List.mem_map.mpr ⟨x.toNat, List.mem_range.mpr (by omega), by omega⟩
    intro x x0 x1
    exact hP.mem_iff.mpr (List.mem_map.mpr ⟨x.toNat, List.mem_range.mpr (by omega), by omega⟩)
  refine ⟨fun W hW ⟨x, x0, x1, hx⟩ y y0 y1 => ?_, hall⟩
  have he := wl_back' hs hpi hfi h0 h1 hW (hall x x0 x1) hx
  exact wl_fwd hs hpi hfi h0 h1 hW he k y (hall y y0 y1)
section
variable {n : Nat} {f c : Nat → Int} (hn1 : 1 ≤ n) (hn : Net (4 * n) f) (hf2 : ∀ i, i < 4 * n → f i ≠ i) (ho : OneR (4 * n) (par c) (fJ f))
include hn1 hn hf2 ho
theorem one_len : orb (sJ f c) 0 (2 * n) = 0 ∧ Rd (sJ f c) (par c) 0 (wl (sJ f c) (par c) 0 (2 * n)) := by
  have hj := net_hJ hn hf2
  have hs : ∀ x, sJ f c x = fJ f (par c x) := fun _ => rfl
  obtain ⟨k, k1, k2, k3, k4⟩ := orb_back (s := sJ f c) (e := (0 : Int)) (m := 4 * n) (fun x a b => by
    have q := par_hJ (c := c) x a b
    have q2 := hj _ q.1 q.2.1
    exact ⟨q2.1, q2.2.1⟩) (fun x y a b a' b' h => s_inj (s := sJ f c) (p := par c) (f := fJ f) hs par_hJ hj (e := (0 : Int)) (by omega) (by omega) a b a' b' h) (by omega) (by omega)
  have hR : Rd (sJ f c) (par c) 0 (wl (sJ f c) (par c) 0 k) := ⟨k, k1, rfl, k3, k4⟩
  have hnd := Rd.nd (f := fJ f) hs par_hJ hj (e := (0 : Int)) (by omega) (by omega) hR
  have hlen := Rd.len (f := fJ f) hs par_hJ hj (e := (0 : Int)) (by omega) (by omega) hR
  rw [wl_len] at hlen
  have hall : ∀ x : Int, 0 ≤ x → x < ((4 * n : Nat) : Int) → x ∈ wl (sJ f c) (par c) 0 k := ho (fun x => x ∈ wl (sJ f c) (par c) 0 k) (fun x x0 x1 hx => by
    have := wl_closed (s := sJ f c) (p := par c) (f := fJ f) hs par_hJ hj (e := (0 : Int)) (by omega) (by omega) k1 k3 hx
    exact ⟨this.2.2.1, this.2.2.2⟩) ⟨0, by omega, by omega, (mem_wl k).mpr ⟨0, by omega, .inl rfl⟩⟩
  have hle := nodup_sub (l := (List.range (4 * n)).map fun i : Nat => (i : Int)) (m := wl (sJ f c) (par c) 0 k) (by
    rw [List.nodup_iff_pairwise_ne, List.pairwise_map]
    exact List.pairwise_lt_range.imp fun h => by omega) fun x hx => by
      obtain ⟨i, hi, rfl⟩ := List.mem_map.mp hx
      have := List.mem_range.mp hi
      exact hall _ (by omega) (by omega)
  rw [List.length_map, List.length_range, wl_len] at hle
  have : k = 2 * n := by omega
  subst this
  exact ⟨k3, hR⟩
theorem cw_one : ∃ A B, CW n f c (fun k => orb (sJ f c) 0 k) (fun k => par c (orb (sJ f c) 0 k)) A B := by
  have hj := net_hJ hn hf2
  have hs : ∀ x, sJ f c x = fJ f (par c x) := fun _ => rfl
  obtain ⟨h2n, hR⟩ := one_len hn1 hn hf2 ho
  have hnd := Rd.nd (f := fJ f) hs par_hJ hj (e := (0 : Int)) (by omega) (by omega) hR
  have hall := (wl_all hs par_hJ hj (by omega) (by omega) hR (by omega)).2
  have rg := orb_rng (s := sJ f c) (p := par c) (f := fJ f) (e := (0 : Int)) (m := 4 * n) hs par_hJ hj (by omega) (by omega)
  have iI : ∀ j k, j < 2 * n → k < 2 * n → orb (sJ f c) 0 j = orb (sJ f c) 0 k → j = k := fun j k hj' hk' h => by
    have := wl_idx hnd (wl_get (k := 2 * n) hj').1 (by rw [h]; exact (wl_get (k := 2 * n) hk').1)
    omega
  have iIO : ∀ j k, j < 2 * n → k < 2 * n → orb (sJ f c) 0 j ≠ par c (orb (sJ f c) 0 k) := fun j k hj' hk' h => by
    have := wl_idx hnd (wl_get (k := 2 * n) hj').1 (by rw [h]; exact (wl_get (k := 2 * n) hk').2)
    omega
  have all : ∀ x : Int, 0 ≤ x → x < ((4 * n : Nat) : Int) → ∃ k, k < 2 * n ∧ (x = orb (sJ f c) 0 k ∨ x = par c (orb (sJ f c) 0 k)) := fun x x0 x1 => (mem_wl _).mp (hall x x0 x1)
  have ex : ∀ q : Nat, ∃ ab : Nat × Nat, q < n → ab.1 < ab.2 ∧ ab.2 < 2 * n ∧ orb (sJ f c) 0 ab.1 / 4 = (q : Int) ∧ orb (sJ f c) 0 ab.2 / 4 = (q : Int) ∧ ∀ k, k < 2 * n → orb (sJ f c) 0 k / 4 = (q : Int) → k = ab.1 ∨ k = ab.2 := by
    intro q
    by_cases hq : q < n
    rotate_left
    · exact ⟨(0, 0), fun h => absurd h hq⟩
    have turn : ∀ x : Int, 0 ≤ x → x / 4 = (q : Int) → ∃ k, k < 2 * n ∧ orb (sJ f c) 0 k / 4 = (q : Int) ∧ (x = orb (sJ f c) 0 k ∨ x = par c (orb (sJ f c) 0 k)) := fun x x0 xq => by
      obtain ⟨k, hk, e⟩ := all x x0 (by omega)
      refine ⟨k, hk, ?_, e⟩
      rcases e with e | e
      · rw [← e]; exact xq
      · rw [← par_at (c := c) (rg k).1, ← e]; exact xq
    have p0 : par c (4 * (q : Int)) / 4 = (q : Int) := by rw [par_at (by omega)]; omega
    have p1 : par c (4 * (q : Int)) ≠ 4 * (q : Int) := par_ne (by omega)
    obtain ⟨x, x0, xq, xa, xb⟩ : ∃ x : Int, 0 ≤ x ∧ x / 4 = (q : Int) ∧ x ≠ 4 * (q : Int) ∧ x ≠ par c (4 * (q : Int)) := by
      by_cases h : par c (4 * (q : Int)) = 4 * (q : Int) + 1
      · exact ⟨4 * (q : Int) + 2, by omega, by omega, by omega, by omega⟩
      · exact ⟨4 * (q : Int) + 1, by omega, by omega, by omega, fun z => h z.symm⟩
    obtain ⟨k0, hk0, q0, e0⟩ := turn (4 * (q : Int)) (by omega) (by omega)
    obtain ⟨k1, hk1, q1, e1⟩ := turn x x0 xq
    have pp : ∀ k, par c (par c (orb (sJ f c) 0 k)) = orb (sJ f c) 0 k := fun k => par_par (rg k).1
    have two : ∀ k y, k < 2 * n → (y = orb (sJ f c) 0 k ∨ y = par c (orb (sJ f c) 0 k)) → ∀ k', k' < 2 * n → (orb (sJ f c) 0 k' = y ∨ orb (sJ f c) 0 k' = par c y) → k' = k := fun k y hk e k' hk' e' => by
      rcases e with e | e <;> rw [e] at e'
      · rcases e' with e' | e'
        · exact iI k' k hk' hk e'
        · exact absurd e' (iIO k' k hk' hk)
      · rw [pp] at e'
        rcases e' with e' | e'
        · exact absurd e' (iIO k' k hk' hk)
        · exact iI k' k hk' hk e'
    have hne : k0 ≠ k1 := fun z => by
      rw [← z] at e1
      have ep : par c (4 * (q : Int)) = orb (sJ f c) 0 k0 ∨ par c (4 * (q : Int)) = par c (orb (sJ f c) 0 k0) := by
        rcases e0 with e0 | e0
        · exact .inr (by rw [← e0])
        · exact .inl (by rw [e0, pp])
      rcases e0 with e0 | e0 <;> rcases e1 with e1 | e1 <;> rcases ep with ep | ep
      · exact xa (by rw [e1, e0])
      · exact xa (by rw [e1, e0])
      · exact p1 (by rw [ep, e0])
      · exact xb (by rw [e1, ep])
      · exact xb (by rw [e1, ep])
      · exact p1 (by rw [ep, e0])
      · exact xa (by rw [e1, e0])
      · exact xa (by rw [e1, e0])
    have py : par c x / 4 = (q : Int) := by rw [par_at x0]; exact xq
    have y1 : par c x ≠ x := par_ne x0
    have y2 : par c x ≠ 4 * (q : Int) := fun z => xb (by rw [← z, par_par x0])
    have y3 : par c x ≠ par c (4 * (q : Int)) := fun z => xa (by
      have := congrArg (par c) z
      rw [par_par x0, par_par (by omega)] at this
      exact this)
    have fin : ∀ k, k < 2 * n → orb (sJ f c) 0 k / 4 = (q : Int) → k = k0 ∨ k = k1 := fun k hk hq4 => by
      have h4 : orb (sJ f c) 0 k = 4 * (q : Int) ∨ orb (sJ f c) 0 k = par c (4 * (q : Int)) ∨ orb (sJ f c) 0 k = x ∨ orb (sJ f c) 0 k = par c x := by omega
      rcases h4 with h | h | h | h
      · exact .inl (two k0 _ hk0 e0 k hk (.inl h))
      · exact .inl (two k0 _ hk0 e0 k hk (.inr h))
      · exact .inr (two k1 _ hk1 e1 k hk (.inl h))
      · exact .inr (two k1 _ hk1 e1 k hk (.inr h))
    by_cases hlt : k0 < k1
    · exact ⟨(k0, k1), fun _ => ⟨hlt, hk1, q0, q1, fin⟩⟩
    · exact ⟨(k1, k0), fun _ => ⟨by show k1 < k0; omega, hk0, q1, q0, fun k hk h => (fin k hk h).symm⟩⟩
  refine ⟨fun q => (Classical.choose (ex q)).1, fun q => (Classical.choose (ex q)).2, ?_⟩
  exact {
    n1 := hn1
    rI := fun k _ => rg k
    rO := fun k _ => by
      have := par_hJ (c := c) (n := n) _ (rg k).1 (rg k).2
      exact ⟨this.1, this.2.1⟩
    hp := fun _ _ => rfl
    hf := fun _ _ => rfl
    hl := by
      have : orb (sJ f c) 0 (2 * n - 1 + 1) = 0 := by rw [show 2 * n - 1 + 1 = 2 * n by omega]; exact h2n
      exact this
    all := all
    iI := iI
    iIO := iIO
    hA := fun q hq => by
      have := Classical.choose_spec (ex q) hq
      exact ⟨this.1, this.2.1, this.2.2.1, this.2.2.2.1⟩
    hk := fun k hk q hq h => (Classical.choose_spec (ex q) hq).2.2.2.2 k hk h }
end
/-! ### the turned word -/
section
variable {n : Nat} {f c I O : Nat → Int} {A B : Nat → Nat} (C : CW n f c I O A B) (hn : Net (4 * n) f) {d : Nat → Int} {q : Nat} (hq : q < n) (hoff : ∀ x : Int, 0 ≤ x → x / 4 ≠ (q : Int) → par d x = par c x) (hI : par d (I (A q)) = I (B q))
include C hn hq hoff hI
end
/-! ### texts within texts -/
theorem Two.rfind {l : List Nat} {c i j : Nat} (h : Two l c i j) : Txt.rfind (tx l) (sgS c) = (j : Int) := by
  have key : ∀ k, StrLaws.At (tx l) (sgS c) (tx l).length k ↔ l[k]? = some c := fun k => by
    rw [tx_len]
    unfold StrLaws.At
    rw [StrLaws.subAt_eq, tx_sg, tx_len]
    show (k + 1 ≤ l.length ∧ ((l.drop k).take 1 == [c]) = true) ↔ _
    constructor
    · rintro ⟨h1, h2⟩
      have h2 := eq_of_beq h2
      have := congrArg (fun z : List Nat => z[0]?) h2
      simp only [List.getElem?_take, List.getElem?_drop] at this
      simpa using this
    · intro h1
      obtain ⟨b1, b2⟩ := List.getElem?_eq_some_iff.mp h1
      refine ⟨b1, ?_⟩
      rw [List.drop_eq_getElem_cons b1, b2]
      simp
  unfold Txt.rfind
  rcases StrLaws.last_spec (tx l) (sgS c) with ⟨_, hn⟩ | ⟨k, e, hk, hmax⟩
  · exact absurd ((key j).mpr h.hj) (hn j)
  · rw [e]
    have hk := (key k).mp hk
    have hlt := h.lt
    rcases h.only k hk with r | r
    · exact absurd ((key j).mpr h.hj) (hmax j (by omega))
    · rw [r]
end Gf

/-! ## Gf25: ties spliced, rounds counted by pairs joined one behind the other -/
namespace Gf
/-- ties of the ends of D, two and two -/
def Td (D : Int → Prop) (f : Int → Int) : Prop := ∀ x, D x → D (f x) ∧ f x ≠ x ∧ f (f x) = x
def rm2 (D : Int → Prop) (a b : Int) : Int → Prop := fun x => D x ∧ x ≠ a ∧ x ≠ b
def Pr (D : Int → Prop) : List (Int × Int) → Prop
  | [] => True
  | p :: l => (D p.1 ∧ D p.2 ∧ p.1 ≠ p.2) ∧ Pr (rm2 D p.1 p.2) l
def rms (D : Int → Prop) : List (Int × Int) → Int → Prop
  | [] => D
  | p :: l => rms (rm2 D p.1 p.2) l
theorem Td.congr {D : Int → Prop} {f g : Int → Int} (h : Td D f) (e : ∀ x, D x → f x = g x) : Td D g := fun x hx => by
  obtain ⟨a, b, c⟩ := h x hx
  rw [← e x hx, ← e _ a]
  exact ⟨a, b, c⟩
/-! ### places -/
def prs (p : Int) (w : Nat) : List (Int × Int) := if w = 0 then [(4 * p, 4 * p + 1), (4 * p + 2, 4 * p + 3)] else if w = 1 then [(4 * p, 4 * p + 2), (4 * p + 1, 4 * p + 3)] else [(4 * p, 4 * p + 3), (4 * p + 1, 4 * p + 2)]
theorem prs_pr {D : Int → Prop} {p : Int} (w : Nat) (h : ∀ s : Int, 0 ≤ s → s < 4 → D (4 * p + s)) : Pr D (prs p w) := by
  have h0 := h 0 (by decide) (by decide)
  have h1 := h 1 (by decide) (by decide)
  have h2 := h 2 (by decide) (by decide)
  have h3 := h 3 (by decide) (by decide)
  rw [Int.add_zero] at h0
  unfold prs
  split
  · exact ⟨⟨h0, h1, by simp only; omega⟩, ⟨⟨h2, by simp only; omega, by simp only; omega⟩, ⟨h3, by simp only; omega, by simp only; omega⟩, by simp only; omega⟩, trivial⟩
  · split
    · exact ⟨⟨h0, h2, by simp only; omega⟩, ⟨⟨h1, by simp only; omega, by simp only; omega⟩, ⟨h3, by simp only; omega, by simp only; omega⟩, by simp only; omega⟩, trivial⟩
    · exact ⟨⟨h0, h3, by simp only; omega⟩, ⟨⟨h1, by simp only; omega, by simp only; omega⟩, ⟨h2, by simp only; omega, by simp only; omega⟩, by simp only; omega⟩, trivial⟩
def Pls (D : Int → Prop) (o : List Int) : Prop := o.Nodup ∧ ∀ p ∈ o, ∀ s : Int, 0 ≤ s → s < 4 → D (4 * p + s)
theorem Pls.pr {D : Int → Prop} {p : Int} {o : List Int} (h : Pls D (p :: o)) (w : Nat) : Pr D (prs p w) := prs_pr w (h.2 p List.mem_cons_self)
theorem Pr.app : ∀ (l m : List (Int × Int)) {D : Int → Prop}, Pr D l → Pr (rms D l) m → Pr D (l ++ m)
  | [], _, _, _, h => h
  | p :: l, m, D, ⟨a, b⟩, h => ⟨a, Pr.app l m b h⟩
/-! ### counted -/
def mxN (L : List Nat) : Nat := L.foldr max 0
open Ty in
def cnt (L : List Nat) : List Int := row (mxN L + 1) fun k => (L.count k : Int)
open Ty
end Gf

/-! ## Gf26: solutions counted; webs' parts by choices -/
namespace Gf
def sh (a : Nat → Nat → Bool) : Nat → Nat → Bool := fun i j => a (i + 1) (j + 1)
def r0 (n : Nat) (a : Nat → Nat → Bool) (x : Nat → Bool) : Bool := qx n fun j => a 0 (j + 1) && x j
/-- the web without loops and alike across -/
structure Web (n : Nat) (a : Nat → Nat → Bool) : Prop where
  d : ∀ i, i < n → a i i = false
  s : ∀ i j, i < n → j < n → a i j = a j i
theorem Web.sh {n : Nat} {a : Nat → Nat → Bool} (h : Web (n + 1) a) : Web n (sh a) := ⟨fun i hi => h.d _ (by omega), fun i j hi hj => h.s _ _ (by omega) (by omega)⟩
end Gf

/-! ## Gf27: the solutions of all choices' parts -/
namespace Gf
open Ty
section
variable {n : Nat} {a : Nat → Nat → Bool} (h : Web (n + 1) a) (arr : Bool)
include h
end
end Gf

/-! ## Gf28: parts by choices, their solutions; choices told by their last way; elimination -/
namespace Gf
open Ty
/-! ### elimination -/
end Gf

/-! ## Gf29: rounds walked are as many as pairs' closings -/
namespace Gf
open PySem Ty
theorem Pr.sep {D : Int → Prop} {p : Int × Int} {l : List (Int × Int)} (h : Pr D (p :: l)) : ∀ q ∈ l, (q.1 ≠ p.1 ∧ q.1 ≠ p.2) ∧ q.2 ≠ p.1 ∧ q.2 ≠ p.2 := by
  have key : ∀ (l : List (Int × Int)) {E : Int → Prop}, Pr E l → ∀ q ∈ l, E q.1 ∧ E q.2 := by
    intro l
    induction l with
    | nil => intro E _ q hq; cases hq
    | cons r l ih =>
      intro E hE q hq
      rcases List.mem_cons.mp hq with e | hq
      · rw [e]; exact ⟨hE.1.1, hE.1.2.1⟩
      · obtain ⟨h1, h2⟩ := ih hE.2 q hq
        exact ⟨h1.1, h2.1⟩
  intro q hq
  obtain ⟨h1, h2⟩ := key l h.2 q hq
  exact ⟨h1.2, h2.2⟩
theorem Pr.of {D : Int → Prop} : ∀ {l : List (Int × Int)}, (∀ q ∈ l, D q.1 ∧ D q.2 ∧ q.1 ≠ q.2) → l.Pairwise (fun q r => (r.1 ≠ q.1 ∧ r.1 ≠ q.2) ∧ r.2 ≠ q.1 ∧ r.2 ≠ q.2) → Pr D l := by
  intro l
  induction l generalizing D with
  | nil => exact fun _ _ => trivial
  | cons q l ih =>
    intro h1 h2
    obtain ⟨h3, h4⟩ := List.pairwise_cons.mp h2
    refine ⟨h1 q List.mem_cons_self, ih (fun r hr => ?_) h4⟩
    obtain ⟨a, b, c⟩ := h1 r (List.mem_cons_of_mem _ hr)
    obtain ⟨d, e⟩ := h3 r hr
    exact ⟨⟨a, d⟩, ⟨b, e⟩, c⟩
theorem Pr.pw {D : Int → Prop} : ∀ {l : List (Int × Int)}, Pr D l → l.Pairwise (fun q r => (r.1 ≠ q.1 ∧ r.1 ≠ q.2) ∧ r.2 ≠ q.1 ∧ r.2 ≠ q.2) := by
  intro l
  induction l generalizing D with
  | nil => exact fun _ => .nil
  | cons q l ih => exact fun h => List.pairwise_cons.mpr ⟨h.sep, ih h.2⟩
theorem Pr.in {D : Int → Prop} : ∀ {l : List (Int × Int)}, Pr D l → ∀ q ∈ l, D q.1 ∧ D q.2 ∧ q.1 ≠ q.2 := by
  intro l
  induction l generalizing D with
  | nil => intro _ q hq; cases hq
  | cons r l ih =>
    intro h q hq
    rcases List.mem_cons.mp hq with e | hq
    · rw [e]; exact h.1
    · obtain ⟨a, b, c⟩ := ih h.2 q hq
      exact ⟨a.1, b.1, c⟩
/-! ### pairs told either way round -/
def nm (q : Int × Int) : Int × Int := if q.1 ≤ q.2 then q else (q.2, q.1)
structure CV (D : Int → Prop) (p : Int → Int) (l : List (Int × Int)) : Prop where
  pr : Pr D l
  p2 : ∀ q ∈ l, q.2 = p q.1
  cv : ∀ x, D x → ∃ q ∈ l, x = q.1 ∨ x = q.2
theorem CV.mem {D : Int → Prop} {p : Int → Int} (hp : ∀ x, D x → D (p x) ∧ p (p x) = x ∧ p x ≠ x) {l : List (Int × Int)} (h : CV D p l) (q : Int × Int) : q ∈ l.map nm ↔ D q.1 ∧ q.2 = p q.1 ∧ q.1 < q.2 := by
  constructor
  · intro hq
    obtain ⟨r, hr, rfl⟩ := List.mem_map.mp hq
    obtain ⟨a, b, c⟩ := h.pr.in r hr
    have e := h.p2 r hr
    unfold nm
    split
    · exact ⟨a, e, by omega⟩
    · refine ⟨b, ?_, by show r.2 < r.1; omega⟩
      show r.1 = p r.2
      rw [e, (hp _ a).2.1]
  · rintro ⟨a, b, c⟩
    obtain ⟨r, hr, e⟩ := h.cv q.1 a
    obtain ⟨d1, d2, d3⟩ := h.pr.in r hr
    have e2 := h.p2 r hr
    refine List.mem_map.mpr ⟨r, hr, ?_⟩
    rcases e with e | e
    · have : r = q := by
        refine Prod.ext e.symm ?_
        rw [e2, b, e]
      rw [this]
      unfold nm
      rw [if_pos (by omega)]
    · have e3 : q.2 = r.1 := by rw [b, e, e2, (hp _ d1).2.1]
      unfold nm
      rw [if_neg (by omega)]
      exact Prod.ext e.symm e3.symm
/-! ### the rounds of a net -/
section
variable {s p f : Int → Int} {m : Nat} (hs : ∀ x, s x = f (p x)) (hpi : ∀ x : Int, 0 ≤ x → x < m → 0 ≤ p x ∧ p x < m ∧ p (p x) = x ∧ p x ≠ x) (hfi : ∀ x : Int, 0 ≤ x → x < m → 0 ≤ f x ∧ f x < m ∧ f (f x) = x ∧ f x ≠ x)
include hs hpi hfi
def rg (m : Nat) : Int → Prop := fun x => 0 ≤ x ∧ x < (m : Int)
end
end Gf

/-! ## Gf30: counts by rounds -/
namespace Gf
open PySem Ty
end Gf

/-! ## Gf31: a word's choices: rounds and solutions -/
namespace Gf
open PySem Ty
section
variable {l : List Nat} {n : Nat} (R : Ring l n)
include R
end
end Gf

/-! ## Gf32: sums over all x, products: the worth at 2 -/
namespace Gf
open Ty
end Gf

/-! ## Gf33: the worths at -2 -/
namespace Gf
open Ty
/-! ### the three ways of one number -/
def Tri3 (x y z : Nat) : Prop := ∃ m, (x = 2 ^ m ∧ y = 2 ^ m ∧ z = 2 ^ (m + 1)) ∨ (x = 2 ^ m ∧ y = 2 ^ (m + 1) ∧ z = 2 ^ m) ∨ (x = 2 ^ (m + 1) ∧ y = 2 ^ m ∧ z = 2 ^ m)
theorem Tri3.s12 {x y z : Nat} (h : Tri3 x y z) : Tri3 x z y := by
  obtain ⟨m, h | h | h⟩ := h
  · exact ⟨m, .inr (.inl ⟨h.1, h.2.2, h.2.1⟩)⟩
  · exact ⟨m, .inl ⟨h.1, h.2.2, h.2.1⟩⟩
  · exact ⟨m, .inr (.inr ⟨h.1, h.2.2, h.2.1⟩)⟩
theorem Tri3.two {x y z : Nat} (h : Tri3 x y z) : Tri3 (2 * x) (2 * y) (2 * z) := by
  have e : ∀ m, 2 * 2 ^ m = 2 ^ (m + 1) := fun m => by rw [Nat.pow_succ, Nat.mul_comm]
  obtain ⟨m, h | h | h⟩ := h
  · exact ⟨m + 1, .inl ⟨by rw [h.1, e], by rw [h.2.1, e], by rw [h.2.2, e]⟩⟩
  · exact ⟨m + 1, .inr (.inl ⟨by rw [h.1, e], by rw [h.2.1, e], by rw [h.2.2, e]⟩)⟩
  · exact ⟨m + 1, .inr (.inr ⟨by rw [h.1, e], by rw [h.2.1, e], by rw [h.2.2, e]⟩)⟩
/-! ### the first number as the last -/
def rotW (n : Nat) (a : Nat → Nat → Bool) : Nat → Nat → Bool := fun i j => a (if i = n then 0 else i + 1) (if j = n then 0 else j + 1)
theorem Web.rot {n : Nat} {a : Nat → Nat → Bool} (h : Web (n + 1) a) : Web (n + 1) (rotW n a) := by
  refine ⟨fun i hi => h.d _ ?_, fun i j hi hj => h.s _ _ ?_ ?_⟩ <;> split <;> omega
theorem Tri3.worth {x y z : Nat} (h : Tri3 x y z) : (-2 : Int) ^ Nat.log2 x + (-2 : Int) ^ Nat.log2 y + (-2 : Int) ^ Nat.log2 z = 0 := by
  have e : ∀ m : Nat, (-2 : Int) ^ (m + 1) = -2 * (-2 : Int) ^ m := fun m => by rw [Int.pow_succ, Int.mul_comm]
  obtain ⟨m, h | h | h⟩ := h <;> (rw [h.1, h.2.1, h.2.2, Nat.log2_two_pow, Nat.log2_two_pow, e]; omega)
def ones (n : Nat) : List Nat := List.replicate n 1
end Gf

/-! ## Gf34: crossings of words moved and renamed -/
namespace Gf
open Ty PySem
theorem Ring.perm {l l2 : List Nat} {n : Nat} (R : Ring l n) (h : l2.Perm l) : Ring l2 n := by
  have h2 : l.Perm (dbl (cs l)) := by
    refine List.perm_iff_count.mpr fun c => ?_
    by_cases hc : c ∈ l
    · rw [R.two c hc, count_dbl (cs_nd l) (mem_cs.mpr hc)]
    · rw [List.count_eq_zero.mpr hc, List.count_eq_zero.mpr fun z => hc (mem_cs.mp (mem_dbl.mp z))]
  have := Ring.of_perm (h.trans h2) (cs_nd l) (by rw [R.few]; exact R.n1) (by rw [R.few]; exact R.n10) fun c hc => R.low c (mem_cs.mp hc)
  rwa [R.few] at this
theorem rot_perm (k : Nat) (l : List Nat) : (rot k l).Perm l := by
  unfold rot
  exact List.perm_append_comm.trans (by rw [List.take_append_drop])
theorem mvd_perm (l : List Nat) (k : Nat) (b : Bool) : (mvd l k b).Perm l := by
  unfold mvd
  split
  · exact (List.reverse_perm _).trans (rot_perm k l)
  · exact rot_perm k l
theorem Ring.mvd {l : List Nat} {n : Nat} (R : Ring l n) (k : Nat) (b : Bool) : Ring (mvd l k b) n := R.perm (mvd_perm l k b)
theorem Ring.map {l : List Nat} {n : Nat} (R : Ring l n) {σ : Nat → Nat} (hi : ∀ a ∈ l, ∀ b ∈ l, σ a = σ b → a = b) (hr : ∀ a ∈ l, 97 ≤ σ a ∧ σ a < 123) : Ring (l.map σ) n := by
  have h2 : l.Perm (dbl (cs l)) := by
    refine List.perm_iff_count.mpr fun c => ?_
    by_cases hc : c ∈ l
    · rw [R.two c hc, count_dbl (cs_nd l) (mem_cs.mpr hc)]
    · rw [List.count_eq_zero.mpr hc, List.count_eq_zero.mpr fun z => hc (mem_cs.mp (mem_dbl.mp z))]
  have h3 : (l.map σ).Perm (dbl ((cs l).map σ)) := by
    refine (h2.map σ).trans ?_
    unfold dbl
    rw [List.map_flatMap, List.flatMap_map]
    exact List.Perm.refl _
  have hnd : ((cs l).map σ).Nodup := by
    rw [List.nodup_iff_pairwise_ne, List.pairwise_map]
    refine (List.nodup_iff_pairwise_ne.mp (cs_nd l)).imp_of_mem fun {a b} ha hb hab e => hab (hi a (mem_cs.mp ha) b (mem_cs.mp hb) e)
  have := Ring.of_perm h3 hnd (by rw [List.length_map, R.few]; exact R.n1) (by rw [List.length_map, R.few]; exact R.n10) fun c hc => by
    obtain ⟨d, hd, rfl⟩ := List.mem_map.mp hc
    exact hr d (mem_cs.mp hd)
  rwa [List.length_map, R.few] at this
/-! ### crossing, by places -/
def xB (i j i' j' : Nat) : Bool := decide (i < i' ∧ i' < j) != decide (i < j' ∧ j' < j)
theorem crB_two {l : List Nat} {c d i j i' j' : Nat} (h : Two l c i j) (h' : Two l d i' j') : crB l c d = xB i j i' j' := by
  unfold crB
  rw [h.pl, h'.pl]
  rfl
theorem Two.apart {l : List Nat} {c d i j i' j' : Nat} (h : Two l c i j) (h' : Two l d i' j') (hne : c ≠ d) : i ≠ i' ∧ i ≠ j' ∧ j ≠ i' ∧ j ≠ j' := by
  have a := h.hi
  have b := h.hj
  have a' := h'.hi
  have b' := h'.hj
  refine ⟨fun e => ?_, fun e => ?_, fun e => ?_, fun e => ?_⟩
  · rw [e, a'] at a; exact hne (Option.some.inj a).symm
  · rw [e, b'] at a; exact hne (Option.some.inj a).symm
  · rw [e, a'] at b; exact hne (Option.some.inj b).symm
  · rw [e, b'] at b; exact hne (Option.some.inj b).symm
theorem Ring.two_mk {l : List Nat} {n c p q : Nat} (R : Ring l n) (hp : l[p]? = some c) (hq : l[q]? = some c) (hpq : p < q) : Two l c p q := by
  have h := R.at (List.mem_of_getElem? hp)
  have s1 := h.seat hp
  have s2 := h.seat hq
  have t1 : p = (pl l c).1 ∨ p = (pl l c).2 := by
    by_cases z : c ∈ l.take p
    · exact .inr (s1.1.mp z)
    · exact .inl (s1.2.mp z)
  have t2 : q = (pl l c).1 ∨ q = (pl l c).2 := by
    by_cases z : c ∈ l.take q
    · exact .inr (s2.1.mp z)
    · exact .inl (s2.2.mp z)
  have hlt := h.lt
  have e1 : p = (pl l c).1 := by omega
  have e2 : q = (pl l c).2 := by omega
  rw [← e1, ← e2] at h
  exact h
theorem rot1_get {x : Nat} {t : List Nat} (p : Nat) (hp : p < t.length + 1) : (t ++ [x])[if p = 0 then t.length else p - 1]? = (x :: t)[p]? := by
  cases p with
  | zero => rw [if_pos rfl, List.getElem?_append_right (Nat.le_refl _), Nat.sub_self]; rfl
  | succ p => rw [if_neg (by omega), Nat.add_sub_cancel, List.getElem?_append_left (by omega)]; rfl
theorem crB_rot1 {x : Nat} {t : List Nat} {n : Nat} (R : Ring (x :: t) n) {c d : Nat} (hc : c ∈ x :: t) (hd : d ∈ x :: t) : crB (t ++ [x]) c d = crB (x :: t) c d := by
  by_cases hne : c = d
  · subst hne
    rw [crB_self, crB_self]
  have R2 : Ring (t ++ [x]) n := R.perm (by simpa using List.perm_append_comm (l₁ := t) (l₂ := [x]))
  have key : ∀ e ∈ x :: t, ∀ i j, Two (x :: t) e i j → Two (t ++ [x]) e (if i = 0 then j - 1 else i - 1) (if i = 0 then t.length else j - 1) := fun e he i j h => by
    have hlt := h.lt
    have bi : i < t.length + 1 := h.bi
    have bj : j < t.length + 1 := h.bj
    have gi := (rot1_get (x := x) i bi).trans h.hi
    have gj := (rot1_get (x := x) j bj).trans h.hj
    by_cases z : i = 0
    · rw [if_pos z] at gi
      rw [if_neg (by omega)] at gj
      rw [if_pos z, if_pos z]
      exact R2.two_mk gj gi (by omega)
    · rw [if_neg z] at gi
      rw [if_neg (by omega)] at gj
      rw [if_neg z, if_neg z]
      exact R2.two_mk gi gj (by omega)
  have h := R.at hc
  have h' := R.at hd
  have ap := h.apart h' hne
  have l1 := h.lt
  have l2 := h'.lt
  have b1 : (pl (x :: t) c).2 < t.length + 1 := h.bj
  have b2 : (pl (x :: t) d).2 < t.length + 1 := h'.bj
  rw [crB_two (key c hc _ _ h) (key d hd _ _ h'), crB_two h h']
  generalize (pl (x :: t) c).1 = i at *
  generalize (pl (x :: t) c).2 = j at *
  generalize (pl (x :: t) d).1 = i' at *
  generalize (pl (x :: t) d).2 = j' at *
  have xi : ∀ a b a' b', xB a b a' b' = true ↔ ¬ ((a < a' ∧ a' < b) ↔ (a < b' ∧ b' < b)) := fun a b a' b' => by
    unfold xB
    rw [bne_iff_ne, ne_eq, decide_eq_decide]
  rw [Bool.eq_iff_iff, xi, xi]
  by_cases z : i = 0
  · rw [if_pos z, if_pos z, if_neg (by omega), if_neg (by omega)]
    omega
  · by_cases z' : i' = 0
    · rw [if_neg z, if_neg z, if_pos z', if_pos z']
      omega
    · rw [if_neg z, if_neg z, if_neg z', if_neg z']
      omega
theorem rot_succ {k : Nat} {l : List Nat} (hk : k < l.length) : ∃ x t, rot k l = x :: t ∧ rot (k + 1) l = t ++ [x] := by
  refine ⟨l[k], l.drop (k + 1) ++ l.take k, ?_, ?_⟩
  · unfold rot
    rw [List.drop_eq_getElem_cons hk]
    rfl
  · unfold rot
    rw [List.take_succ_eq_append_getElem hk, List.append_assoc]
theorem crB_rot {l : List Nat} {n : Nat} (R : Ring l n) {c d : Nat} (hc : c ∈ l) (hd : d ∈ l) : ∀ k, k ≤ l.length → crB (rot k l) c d = crB l c d
  | 0, _ => by rw [rot_zero]
  | k + 1, h => by
    obtain ⟨x, t, e1, e2⟩ := rot_succ (show k < l.length by omega)
    have R1 : Ring (rot k l) n := R.perm (rot_perm k l)
    have hc1 := (mem_rot (k := k)).mpr hc
    have hd1 := (mem_rot (k := k)).mpr hd
    rw [← crB_rot R hc hd k (by omega), e2]
    rw [e1] at R1 hc1 hd1 ⊢
    exact crB_rot1 R1 hc1 hd1
end Gf

/-! ## Gf35: two letters that stand by turns, their stretches exchanged -/
namespace Gf
open PySem Ty
structure Alt (A B C D E : List Nat) (x y : Nat) : Prop where
  ne : x ≠ y
  hx : x ∉ A ∧ x ∉ B ∧ x ∉ C ∧ x ∉ D ∧ x ∉ E
  hy : y ∉ A ∧ y ∉ B ∧ y ∉ C ∧ y ∉ D ∧ y ∉ E
theorem Alt.sw {A B C D E : List Nat} {x y : Nat} (h : Alt A B C D E x y) : Alt A D C B E x y := ⟨h.ne, ⟨h.hx.1, h.hx.2.2.2.1, h.hx.2.2.1, h.hx.2.1, h.hx.2.2.2.2⟩, ⟨h.hy.1, h.hy.2.2.2.1, h.hy.2.2.1, h.hy.2.1, h.hy.2.2.2.2⟩⟩
end Gf

/-! ## Gf36: a web changed at points; an exchange is three changes -/
namespace Gf
open PySem Ty
/-- what changes beside u and v -/
def CsW (f : Nat → Nat → Int) (u v a b : Nat) : Prop := a ≠ b ∧ (a ≠ u ∧ a ≠ v) ∧ (b ≠ u ∧ b ≠ v) ∧ ¬ (f u a = 0 ∧ f v a = 0) ∧ ¬ (f u b = 0 ∧ f v b = 0) ∧ ¬ (f u a = f u b ∧ f v a = f v b)
instance {f : Nat → Nat → Int} {u v a b : Nat} : Decidable (CsW f u v a b) := by unfold CsW; exact inferInstance
def sw (u v x : Nat) : Nat := if x = u then v else if x = v then u else x
def Ex (u v a b : Nat) : Prop := ((a = u ∨ a = v) ∧ b ≠ u ∧ b ≠ v) ∨ ((b = u ∨ b = v) ∧ a ≠ u ∧ a ≠ v)
instance {u v a b : Nat} : Decidable (Ex u v a b) := by unfold Ex; exact inferInstance
/-- u's and v's exchanged -/
def exF (g : Nat → Nat → Int) (u v : Nat) : Nat → Nat → Int := fun a b => if Ex u v a b then g (sw u v a) (sw u v b) else g a b
def SymW (n : Nat) (f : Nat → Nat → Int) : Prop := ∀ i j, i < n → j < n → f i j = f j i
structure Wbf (n : Nat) (f : Nat → Nat → Int) : Prop where
  bits : Bits n f
  sym : SymW n f
  dia : ∀ i, i < n → f i i = 0
theorem b1 {x : Int} (h : x = 0 ∨ x = 1) : 1 - x = 0 ∨ 1 - x = 1 := by omega
end Gf

/-! ## Gf37: a word turned thrice; tables changed at a set of places -/
namespace Gf
open PySem Ty
/-- the stretch between turned -/
def trnW (l : List Nat) (i j : Nat) : List Nat := l.take (i + 1) ++ (btw l i j).reverse ++ l.drop j
theorem Alt.rx {A B C D E : List Nat} {x y : Nat} (h : Alt A B C D E x y) : Alt A C.reverse B.reverse D E x y := ⟨h.ne, by have := h.hx; simp [this], by have := h.hy; simp [this]⟩
theorem Alt.ry {A B C D E : List Nat} {x y : Nat} (h : Alt A B C D E x y) : Alt A B D.reverse C.reverse E x y := ⟨h.ne, by have := h.hx; simp [this], by have := h.hy; simp [this]⟩
/-- changed where P -/
noncomputable def tg (f : Nat → Nat → Int) (P : Nat → Nat → Prop) : Nat → Nat → Int := fun a b => haveI := Classical.propDecidable (P a b); if P a b then 1 - f a b else f a b
end Gf

/-! ## Gf38: crossings of a word turned at a letter -/
namespace Gf
open PySem Ty
theorem trnW_get {l : List Nat} {i j : Nat} (hlt : i < j) (hj : j < l.length) (k : Nat) : (trnW l i j)[k]? = if i < k ∧ k < j then l[i + j - k]? else l[k]? := by
  have hb : (btw l i j).length = j - (i + 1) := btw_len (by omega)
  have ht : (l.take (i + 1)).length = i + 1 := by rw [List.length_take]; omega
  unfold trnW
  by_cases k1 : k < i + 1
  · rw [if_neg (by omega), List.append_assoc, List.getElem?_append_left (by omega), List.getElem?_take, if_pos k1]
  · rw [List.append_assoc, List.getElem?_append_right (by omega), ht]
    by_cases k2 : k < j
    · rw [if_pos ⟨by omega, k2⟩, List.getElem?_append_left (by rw [List.length_reverse]; omega), List.getElem?_reverse (by omega), btw_get (by omega)]
      congr 1
      omega
    · rw [if_neg (by omega), List.getElem?_append_right (by rw [List.length_reverse]; omega), List.length_reverse, List.getElem?_drop]
      congr 1
      omega
theorem trnW_perm {l : List Nat} {i j : Nat} (h : i < j) (hj : j < l.length) : (trnW l i j).Perm l := by
  have e : l = l.take (i + 1) ++ btw l i j ++ l.drop j := by
    have e : btw l i j ++ l.drop j = l.drop (i + 1) := by
      unfold btw
      have := List.take_append_drop (j - (i + 1)) (l.drop (i + 1))
      rw [List.drop_drop, show i + 1 + (j - (i + 1)) = j by omega] at this
      exact this
    rw [List.append_assoc, e, List.take_append_drop]
  unfold trnW
  conv => rhs; rw [e]
  exact (List.Perm.append_left _ (List.reverse_perm _)).append_right _
/-- where a place is, behind the turn -/
def mir (i j p : Nat) : Nat := if i < p ∧ p < j then i + j - p else p
theorem mir_mir {i j p : Nat} : mir i j (mir i j p) = p := by
  unfold mir
  by_cases h : i < p ∧ p < j
  · rw [if_pos h, if_pos (by omega)]; omega
  · rw [if_neg h, if_neg h]
theorem trnW_mir {l : List Nat} {i j : Nat} (hlt : i < j) (hj : j < l.length) (p : Nat) : (trnW l i j)[mir i j p]? = l[p]? := by
  rw [trnW_get hlt hj]
  unfold mir
  by_cases h : i < p ∧ p < j
  · rw [if_pos h, if_pos (by omega)]
    congr 1
    omega
  · rw [if_neg h, if_neg h]
theorem trnW_two {l : List Nat} {n i j c p q : Nat} (R : Ring l n) (hlt : i < j) (hj : j < l.length) (h : Two l c p q) : Two (trnW l i j) c (min (mir i j p) (mir i j q)) (max (mir i j p) (mir i j q)) := by
  have R2 : Ring (trnW l i j) n := R.perm (trnW_perm hlt hj)
  have a := (trnW_mir hlt hj p).trans h.hi
  have b := (trnW_mir hlt hj q).trans h.hj
  have hpq := h.lt
  have hne : mir i j p ≠ mir i j q := fun e => by
    have := congrArg (mir i j) e
    rw [mir_mir, mir_mir] at this
    omega
  rcases Nat.lt_or_gt_of_ne hne with z | z
  · rw [Nat.min_eq_left (by omega), Nat.max_eq_right (by omega)]
    exact R2.two_mk a b z
  · rw [Nat.min_eq_right (by omega), Nat.max_eq_left (by omega)]
    exact R2.two_mk b a z
theorem xB_iff (a b a' b' : Nat) : xB a b a' b' = true ↔ ¬ ((a < a' ∧ a' < b) ↔ (a < b' ∧ b' < b)) := by
  unfold xB
  rw [bne_iff_ne, ne_eq, decide_eq_decide]
theorem xB_mir {i j p q r s : Nat} (h1 : i < j) (h2 : p < q) (h3 : r < s) (n1 : p ≠ r ∧ p ≠ s ∧ q ≠ r ∧ q ≠ s) (n2 : i ≠ p ∧ i ≠ q ∧ j ≠ p ∧ j ≠ q) (n3 : i ≠ r ∧ i ≠ s ∧ j ≠ r ∧ j ≠ s) :
    xB (min (mir i j p) (mir i j q)) (max (mir i j p) (mir i j q)) (min (mir i j r) (mir i j s)) (max (mir i j r) (mir i j s)) = (xB p q r s != (xB i j p q && xB i j r s)) := by
  by_cases a1 : i < p ∧ p < j <;> by_cases a2 : i < q ∧ q < j <;> by_cases a3 : i < r ∧ r < j <;> by_cases a4 : i < s ∧ s < j
  all_goals
    unfold mir
    simp only [a1, a2, a3, a4, and_self, if_true, if_false, xB, decide_true, decide_false, bne_self_eq_false, Bool.false_and, Bool.and_false, Bool.bne_false, Bool.true_and, Bool.and_true, show (true != false) = true from rfl, show (false != true) = true from rfl, Bool.bne_true]
    rw [Bool.eq_iff_iff]
    simp only [bne_iff_ne, ne_eq, decide_eq_decide, Bool.not_eq_true']
    try rw [bne_eq_false_iff_eq, decide_eq_decide]
    omega
theorem xB_mir0 {i j r s : Nat} (h1 : i < j) (h3 : r < s) (n3 : i ≠ r ∧ i ≠ s ∧ j ≠ r ∧ j ≠ s) :
    xB i j (min (mir i j r) (mir i j s)) (max (mir i j r) (mir i j s)) = xB i j r s := by
  rw [Bool.eq_iff_iff, xB_iff, xB_iff]
  unfold mir
  by_cases a3 : i < r ∧ r < j <;> by_cases a4 : i < s ∧ s < j
  · rw [if_pos a3, if_pos a4]; omega
  · rw [if_pos a3, if_neg a4]; omega
  · rw [if_neg a3, if_pos a4]; omega
  · rw [if_neg a3, if_neg a4]
    omega
theorem crB_trn {l : List Nat} {n v i j c d : Nat} (R : Ring l n) (hv : Two l v i j) (hc : c ∈ l) (hd : d ∈ l) (hne : c ≠ d) : crB (trnW l i j) c d = (crB l c d != (crB l v c && crB l v d)) := by
  have hlt := hv.lt
  have hj := hv.bj
  have R2 : Ring (trnW l i j) n := R.perm (trnW_perm hlt hj)
  have hv2 : Two (trnW l i j) v i j := by
    have := trnW_two R hlt hj hv
    unfold mir at this
    rw [if_neg (by omega), if_neg (by omega), Nat.min_eq_left (by omega), Nat.max_eq_right (by omega)] at this
    exact this
  have tc := R.at hc
  have td := R.at hd
  by_cases cv : c = v
  · subst cv
    rw [crB_self, Bool.false_and, Bool.bne_false, crB_two hv2 (trnW_two R hlt hj td), crB_two hv td]
    exact xB_mir0 hlt td.lt (hv.apart td hne)
  by_cases dv : d = v
  · subst dv
    rw [crB_self, Bool.and_false, Bool.bne_false, crB_symm R hc hd, crB_symm R2 ((trnW_perm hlt hj).mem_iff.mpr hc) hv2.mem, crB_two hv2 (trnW_two R hlt hj tc), crB_two hv tc]
    exact xB_mir0 hlt tc.lt (hv.apart tc (Ne.symm cv))
  rw [crB_two (trnW_two R hlt hj tc) (trnW_two R hlt hj td), crB_two tc td, crB_two hv tc, crB_two hv td]
  exact xB_mir hlt tc.lt td.lt (tc.apart td hne) (hv.apart tc (Ne.symm cv)) (hv.apart td (Ne.symm dv))
end Gf

/-! ## Gf39: a search by layers -/
namespace Gf
open PySem Ty
section
variable {σ : Type} (n : Nat) (T : σ → Nat → σ) (P : σ → Prop)
/-- along a way -/
def wk (x : σ) : List Int → σ
  | [] => x
  | q :: r => wk (T x q.toNat) r
theorem wk_snoc (x : σ) (q : Int) : ∀ l : List Int, ∀ x : σ, wk T x (l ++ [q]) = T (wk T x l) q.toNat
  | [], x => rfl
  | a :: l, x => by rw [List.cons_append]; exact wk_snoc x q l _
def okp (ps : List Int) : Prop := ∀ p ∈ ps, 0 ≤ p ∧ p < (n : Int)
variable {n T P}
/-- what is found: rows below i are gone through, row i at the places below k -/
structure Bs (n : Nat) (T : σ → Nat → σ) (P : σ → Prop) (x0 : σ) (W : List (σ × List Int)) (i k : Nat) : Prop where
  nd : (W.map (·.1)).Nodup
  hd : W[0]? = some (x0, [])
  ok : ∀ w ∈ W, P w.1 ∧ okp n w.2 ∧ wk T x0 w.2 = w.1
  so : W.Pairwise fun a b => a.2.length ≤ b.2.length
  up : ∀ c, W[i]? = some c → ∀ w ∈ W, w.2.length ≤ c.2.length + 1
  up0 : k = 0 → 0 < i → ∀ c, W[i - 1]? = some c → ∀ w ∈ W, w.2.length ≤ c.2.length + 1
  nb : ∀ j q c, (j < i ∧ q < n ∨ j = i ∧ q < k) → W[j]? = some c → ∃ w ∈ W, w.1 = T c.1 q ∧ w.2.length ≤ c.2.length + 1
  le : i ≤ W.length
  ln : ∀ j (c : σ × List Int), W[j]? = some c → c.2.length ≤ j
variable {x0 : σ} {W : List (σ × List Int)} {i k : Nat}
theorem Bs.start (h : P x0) : Bs n T P x0 [(x0, [])] 0 0 where
  nd := by simp
  hd := rfl
  ok := fun w hw => by
    rw [List.mem_singleton.mp hw]
    exact ⟨h, fun p hp => (nomatch hp), rfl⟩
  so := List.pairwise_singleton _ _
  up := fun c hc w hw => by
    rw [List.mem_singleton.mp hw]
    exact Nat.zero_le _
  up0 := fun _ h => absurd h (Nat.lt_irrefl 0)
  nb := fun j q c h _ => by omega
  le := Nat.zero_le _
  ln := fun j c h => by
    have := List.mem_singleton.mp (List.mem_of_getElem? h)
    rw [this]; exact Nat.zero_le _
theorem Bs.old {c : σ × List Int} (B : Bs n T P x0 W i k) (hc : W[i]? = some c) (hin : T c.1 k ∈ W.map (·.1)) : Bs n T P x0 W i (k + 1) where
  nd := B.nd
  hd := B.hd
  ok := B.ok
  so := B.so
  up := B.up
  up0 := fun h => absurd h (Nat.succ_ne_zero k)
  nb := fun j q d h hd => by
    by_cases e : j = i ∧ q = k
    · obtain ⟨rfl, rfl⟩ := e
      have : d = c := Option.some.inj (hd.symm.trans hc)
      subst this
      obtain ⟨w, hw, e⟩ := List.mem_map.mp hin
      exact ⟨w, hw, e, B.up d hc w hw⟩
    · exact B.nb j q d (by omega) hd
  le := B.le
  ln := B.ln
theorem get_app {α : Type} {l : List α} {a : α} {j : Nat} {c : α} (h : l[j]? = some c) : (l ++ [a])[j]? = some c := by
  have := (List.getElem?_eq_some_iff.mp h).1
  rw [List.getElem?_append_left this]; exact h
theorem Bs.new {c : σ × List Int} (hP : ∀ x, P x → ∀ q, q < n → P (T x q)) (B : Bs n T P x0 W i k) (hk : k < n) (hc : W[i]? = some c) (hin : T c.1 k ∉ W.map (·.1)) : Bs n T P x0 (W ++ [(T c.1 k, c.2 ++ [(k : Int)])]) i (k + 1) := by
  have hi := (List.getElem?_eq_some_iff.mp hc).1
  have hcm := List.mem_of_getElem? hc
  obtain ⟨c1, c2, c3⟩ := B.ok c hcm
  refine ⟨?_, get_app B.hd, ?_, ?_, ?_, fun h => absurd h (Nat.succ_ne_zero k), ?_, by rw [List.length_append]; have := B.le; omega, fun j d hd => ?_⟩
  · rw [List.map_append]
    refine List.nodup_append.mpr ⟨B.nd, by simp, fun a ha b hb e => ?_⟩
    have hb : b = T c.1 k := by simpa using hb
    subst e hb
    exact hin ha
  · intro w hw
    rcases List.mem_append.mp hw with hw | hw
    · exact B.ok w hw
    · rw [List.mem_singleton.mp hw]
      refine ⟨hP _ c1 k hk, fun p hp => ?_, ?_⟩
      · rcases List.mem_append.mp hp with hp | hp
        · exact c2 p hp
        · rw [List.mem_singleton.mp hp]; omega
      · show wk T x0 (c.2 ++ [(k : Int)]) = T c.1 k
        rw [wk_snoc _ x0, c3, Int.toNat_natCast]
  · refine List.pairwise_append.mpr ⟨B.so, List.pairwise_singleton _ _, fun a ha b hb => ?_⟩
    rw [List.mem_singleton.mp hb]
    show a.2.length ≤ (c.2 ++ [(k : Int)]).length
    rw [List.length_append]
    exact B.up c hc a ha
  · intro d hd w hw
    have : d = c := by
      rw [List.getElem?_append_left hi] at hd
      exact Option.some.inj (hd.symm.trans hc)
    subst this
    rcases List.mem_append.mp hw with hw | hw
    · exact B.up d hc w hw
    · rw [List.mem_singleton.mp hw]
      show (d.2 ++ [(k : Int)]).length ≤ _
      rw [List.length_append]; exact Nat.le_refl _
  · intro j q d h hd
    rw [List.getElem?_append_left (by omega)] at hd
    by_cases e : j = i ∧ q = k
    · obtain ⟨rfl, rfl⟩ := e
      have : d = c := by
        rw [hc] at hd
        exact (Option.some.inj hd).symm
      subst this
      refine ⟨_, List.mem_append_right _ (List.mem_singleton.mpr rfl), rfl, ?_⟩
      show (d.2 ++ [(q : Int)]).length ≤ _
      rw [List.length_append]; exact Nat.le_refl _
    · obtain ⟨w, hw, e⟩ := B.nb j q d (by omega) hd
      exact ⟨w, List.mem_append_left _ hw, e⟩
  · by_cases hj : j < W.length
    · rw [List.getElem?_append_left hj] at hd
      exact B.ln j d hd
    · rw [List.getElem?_append_right (by omega)] at hd
      have := List.mem_singleton.mp (List.mem_of_getElem? hd)
      rw [this]
      have := B.ln i c hc
      show (c.2 ++ [(k : Int)]).length ≤ j
      rw [List.length_append, List.length_singleton]
      omega
theorem Bs.sorted (B : Bs n T P x0 W i k) {a b : Nat} {c d : σ × List Int} (h : a ≤ b) (ha : W[a]? = some c) (hb : W[b]? = some d) : c.2.length ≤ d.2.length := by
  obtain ⟨a1, rfl⟩ := List.getElem?_eq_some_iff.mp ha
  obtain ⟨b1, rfl⟩ := List.getElem?_eq_some_iff.mp hb
  rcases Nat.lt_or_eq_of_le h with h | h
  · exact List.pairwise_iff_getElem.mp B.so a b a1 b1 h
  · subst h; exact Nat.le_refl _
theorem Bs.next (B : Bs n T P x0 W i n) (hi : i < W.length) : Bs n T P x0 W (i + 1) 0 where
  nd := B.nd
  hd := B.hd
  ok := B.ok
  so := B.so
  up := fun c hc w hw => by
    have h0 := List.getElem?_eq_getElem hi
    have a := B.up _ h0 w hw
    have b := B.sorted (Nat.le_succ i) h0 hc
    omega
  up0 := fun _ _ c hc w hw => B.up c hc w hw
  nb := fun j q c h hc => B.nb j q c (by omega) hc
  le := hi
  ln := B.ln
/-- all is gone through: whatever is come to is found -/
theorem Bs.all (B : Bs n T P x0 W i 0) (hi : W.length ≤ i) : ∀ {ps : List Int} {x : σ}, x ∈ W.map (·.1) → okp n ps → wk T x ps ∈ W.map (·.1)
  | [], x, hx, _ => hx
  | q :: r, x, hx, h => by
    have hq : q.toNat < n := by have := h q (List.mem_cons_self ..); omega
    refine Bs.all (ps := r) (x := T x q.toNat) B hi ?_ fun p hp => h p (List.mem_cons_of_mem _ hp)
    obtain ⟨c, hc, rfl⟩ := List.mem_map.mp hx
    obtain ⟨j, hj⟩ := List.getElem?_of_mem hc
    have := (List.getElem?_eq_some_iff.mp hj).1
    obtain ⟨w, hw, e, -⟩ := B.nb j q.toNat c (by omega) hj
    exact List.mem_map.mpr ⟨w, hw, e⟩
/-- no way is shorter -/
theorem Bs.least (B : Bs n T P x0 W i 0) {y : σ} {ps qs : List Int} (hy : (y, ps) ∈ W) (hq : okp n qs) (e : wk T x0 qs = y) : ps.length ≤ qs.length := by
  have uniq : ∀ w ∈ W, w.1 = y → w.2 = ps := fun w hw h => by
    have hp := List.nodup_iff_pairwise_ne.mp B.nd
    rw [List.pairwise_map] at hp
    obtain ⟨a, ha⟩ := List.getElem?_of_mem hw
    obtain ⟨b, hb⟩ := List.getElem?_of_mem hy
    obtain ⟨a1, a2⟩ := List.getElem?_eq_some_iff.mp ha
    obtain ⟨b1, b2⟩ := List.getElem?_eq_some_iff.mp hb
    rcases Nat.lt_trichotomy a b with z | z | z
    · have := List.pairwise_iff_getElem.mp hp a b a1 b1 z
      rw [a2, b2] at this
      exact absurd h this
    · subst z
      rw [ha] at hb
      rw [Option.some.inj hb]
    · have := List.pairwise_iff_getElem.mp hp b a b1 a1 z
      rw [a2, b2] at this
      exact absurd h.symm this
  refine Nat.le_of_not_lt fun hlt => ?_
  by_cases h0 : i = 0
  · -- nothing is gone through
    subst h0
    have := B.up _ B.hd _ hy
    have hp : ps.length ≤ 1 := this
    have hqs : qs = [] := List.length_eq_zero_iff.mp (by omega)
    subst hqs
    have := uniq _ (List.mem_of_getElem? B.hd) e
    rw [← this] at hlt
    exact absurd hlt (Nat.not_lt_zero _)
  · have hle := B.le
    have hc := List.getElem?_eq_getElem (l := W) (i := i - 1) (by omega)
    generalize W[i - 1]'(by omega) = c at hc
    have h1 := B.up0 rfl (by omega) c hc _ hy
    have h1 : ps.length ≤ c.2.length + 1 := h1
    have key : ∀ m, m ≤ qs.length → ∃ w ∈ W, w.1 = wk T x0 (qs.take m) ∧ w.2.length ≤ m := by
      intro m
      induction m with
      | zero => exact fun _ => ⟨_, List.mem_of_getElem? B.hd, rfl, Nat.le_refl _⟩
      | succ m ih =>
        intro hm
        obtain ⟨w, hw, e1, e2⟩ := ih (by omega)
        obtain ⟨j, hj⟩ := List.getElem?_of_mem hw
        have hji : j < i := by
          refine Nat.lt_of_not_le fun z => ?_
          have := B.sorted (show i - 1 ≤ j by omega) hc hj
          omega
        have hqm := List.getElem?_eq_getElem (l := qs) (i := m) (by omega)
        generalize qs[m]'(by omega) = q at hqm
        have hqr := hq q (List.mem_of_getElem? hqm)
        obtain ⟨w', hw', e3, e4⟩ := B.nb j q.toNat w (by omega) hj
        refine ⟨w', hw', ?_, by omega⟩
        rw [List.take_add_one, hqm, Option.toList_some, wk_snoc _ x0, e3, e1]
    obtain ⟨w, hw, e1, e2⟩ := key qs.length (Nat.le_refl _)
    rw [List.take_length, e] at e1
    rw [uniq w hw e1] at e2
    omega
end
/-! ### choices told as lists -/
end Gf

/-! ## Gf40: from any choice that leaves one round some turns lead nearer to any other one -/
namespace Gf
open PySem Ty
theorem turns_sym {a b c d : Nat} (h1 : a < b) (h2 : c < d) (h3 : a ≠ c) (h4 : a ≠ d) (h5 : b ≠ c) (h6 : b ≠ d) : (decide (a < c ∧ c < b) != decide (a < d ∧ d < b)) = (decide (c < a ∧ a < d) != decide (c < b ∧ b < d)) := by
  rcases Nat.lt_or_gt_of_ne h3 with x | x <;> rcases Nat.lt_or_gt_of_ne h4 with y | y <;> rcases Nat.lt_or_gt_of_ne h5 with z | z <;> rcases Nat.lt_or_gt_of_ne h6 with w | w <;> first | omega | (simp [x, y, z, w, Nat.lt_asymm x, Nat.lt_asymm y, Nat.lt_asymm z, Nat.lt_asymm w]; done) | (simp [x, y, z, w]; omega)
/-- another way at a place -/
def upw (c : Nat → Int) (q w : Int) : Nat → Int := fun k => if (k : Int) = q then w else c k
section
variable {n : Nat} {f c I O : Nat → Int} {A B : Nat → Nat} (C : CW n f c I O A B) (hn : Net (4 * n) f)
include C
theorem crw_sym {q p : Nat} (hq : q < n) (hp : p < n) (hqp : q ≠ p) : crw A B q p = crw A B p q := by
  obtain ⟨a1, a2, a3, a4⟩ := C.hA q hq
  obtain ⟨b1, b2, b3, b4⟩ := C.hA p hp
  have ne : ∀ {x y : Nat}, I x / 4 = (q : Int) → I y / 4 = (p : Int) → x ≠ y := fun hx hy z => by
    rw [z] at hx; omega
  exact turns_sym a1 b1 (ne a3 b3) (ne a3 b4) (ne a4 b3) (ne a4 b4)
theorem tpw_0 {q : Nat} (hq : q < n) : tpw I O A B c q = 0 := by
  obtain ⟨a1, a2, -⟩ := C.hA q hq
  unfold tpw
  rw [C.hp (A q) (by omega), if_pos rfl]
/-- the joins at a place rest on the way there -/
theorem tpw_at {d e : Nat → Int} {q : Nat} (hq : q < n) (h : d q = e q) : tpw I O A B d q = tpw I O A B e q := by
  obtain ⟨a1, a2, a3, a4⟩ := C.hA q hq
  have : par d (I (A q)) = par e (I (A q)) := by
    unfold par
    rw [a3, Int.toNat_natCast, h]
  unfold tpw
  rw [this]
theorem tpw_inj {d e : Nat → Int} {q : Nat} (hq : q < n) (hd : 0 ≤ d q ∧ d q < 3) (he : 0 ≤ e q ∧ e q < 3) (h : tpw I O A B d q = tpw I O A B e q) : d q = e q := by
  obtain ⟨a1, a2, a3, a4⟩ := C.hA q hq
  have r := C.rI (A q) (by omega)
  have hp : par d (I (A q)) = par e (I (A q)) := by
    rcases C.joins hq d with ⟨t, x, -⟩ | ⟨t, x, -⟩ | ⟨t, x, -⟩ <;> rcases C.joins hq e with ⟨u, y, -⟩ | ⟨u, y, -⟩ | ⟨u, y, -⟩ <;> first | (rw [x, y]; done) | (rw [t, u] at h; exact absurd h (by decide))
  unfold par at hp
  rw [a3, Int.toNat_natCast] at hp
  have hj : jn (d q) (I (A q) % 4) = jn (e q) (I (A q) % 4) := by omega
  have hs : I (A q) % 4 = 0 ∨ I (A q) % 4 = 1 ∨ I (A q) % 4 = 2 ∨ I (A q) % 4 = 3 := by omega
  have h1 : d q = 0 ∨ d q = 1 ∨ d q = 2 := by omega
  have h2 : e q = 0 ∨ e q = 1 ∨ e q = 2 := by omega
  rcases h1 with h1 | h1 | h1 <;> rcases h2 with h2 | h2 | h2 <;> first | (rw [h1, h2]; done) | (exfalso; rw [h1, h2] at hj; rcases hs with s | s | s | s <;> rw [s] at hj <;> revert hj <;> decide)
include hn
/-- one round is left just where nothing but nought is held against the crossings -/
theorem oneK (hf2 : ∀ i, i < 4 * n → f i ≠ i) (d : Nat → Int) : OneR (4 * n) (par d) (fJ f) ↔ ∀ x : Nat → Bool, Ker n (amw I O A B d) (suw I O A B d) x → ∀ k, k < n → x k = false := by
  have h1 := C.n1
  have r0 := C.rI 0 (by omega)
  constructor
  · intro ho x hx k hk
    obtain ⟨z1, z2, z3⟩ := C.ofK hn hx
    have := ho (fun e => zOf n I O x e = false) (fun e e0 e1 h => by
      obtain ⟨a, b⟩ := z1 e e0 e1
      exact ⟨a.trans h, b.trans h⟩) ⟨I 0, r0.1, r0.2, z2⟩
    obtain ⟨a1, a2, -⟩ := C.hA k hk
    have rA := C.rI (A k) (by omega)
    have sA := C.rO (A k) (by omega)
    rw [← z3 k hk, this _ rA.1 rA.2, this _ sA.1 sA.2]; rfl
  · intro h W hW ⟨e0, b0, b1, hw0⟩
    have hclo : ∀ e : Int, 0 ≤ e → e < ((4 * n : Nat) : Int) → (W (par d e) ↔ W e) ∧ (W (fJ f e) ↔ W e) := fun e e0 e1 => by
      have p := par_in (c := d) e0 e1
      have q := net_hJ hn hf2 e e0 e1
      refine ⟨⟨fun z => ?_, fun z => (hW e e0 e1 z).1⟩, ⟨fun z => ?_, fun z => (hW e e0 e1 z).2⟩⟩
      · have := (hW _ p.1 p.2 z).1
        rwa [par_par e0] at this
      · have := (hW _ q.1 q.2.1 z).2
        rwa [q.2.2.1] at this
    classical
    have key : ∀ Z : Int → Bool, Clo n f d Z → Z (I 0) = false → ∀ e : Int, 0 ≤ e → e < ((4 * n : Nat) : Int) → Z e = false := fun Z hZ h0 => C.none hZ h0 (h _ (C.toK hZ))
    by_cases hI : W (I 0)
    · have := key (fun e => !decide (W e)) (fun e e0 e1 => by
        obtain ⟨a, b⟩ := hclo e e0 e1
        exact ⟨by show (!decide (W (par d e))) = !decide (W e); rw [decide_eq_decide.mpr a], by show (!decide (W (fJ f e))) = !decide (W e); rw [decide_eq_decide.mpr b]⟩) (by show (!decide (W (I 0))) = false; rw [decide_eq_true hI]; rfl)
      intro e e0 e1
      have := this e e0 e1
      simpa using this
    · have := key (fun e => decide (W e)) (fun e e0 e1 => by
        obtain ⟨a, b⟩ := hclo e e0 e1
        exact ⟨decide_eq_decide.mpr a, decide_eq_decide.mpr b⟩) (decide_eq_false hI) e0 b0 b1
      exact absurd hw0 (of_decide_eq_false this)
theorem one_single (hf2 : ∀ i, i < 4 * n → f i ≠ i) {d : Nat → Int} {q : Nat} (hq : q < n) (hoff : ∀ k, k ≠ q → d k = c k) (h : tpw I O A B d q = 1) : OneR (4 * n) (par d) (fJ f) := by
  refine (oneK C hn hf2 d).mpr fun x hx k hk => ?_
  have hz : ∀ j, j < n → j ≠ q → x j = false := fun j hj hne => hx.1 j hj (by
    unfold suw
    rw [tpw_at C hj (hoff j hne), tpw_0 C hj]; rfl)
  by_cases e : k = q
  · subst e
    have := hx.2 k hk (by unfold suw; rw [h]; rfl)
    rw [qx_one hk fun j hj hne => by rw [hz j hj hne, Bool.and_false]] at this
    unfold amw at this
    rw [if_pos rfl, h] at this
    simpa using this
  · exact hz k hk e
theorem one_two (hf2 : ∀ i, i < 4 * n → f i ≠ i) {d : Nat → Int} {q p : Nat} (hq : q < n) (hp : p < n) (hqp : q ≠ p) (hoff : ∀ k, k ≠ q → k ≠ p → d k = c k) (hcr : crw A B q p = true) (tq : tpw I O A B d q ≠ 0) (tp : tpw I O A B d p ≠ 0) (h : tpw I O A B d q ≠ 1 ∨ tpw I O A B d p ≠ 1) : OneR (4 * n) (par d) (fJ f) := by
  have hcr' : crw A B p q = true := by rw [← crw_sym C hq hp hqp]; exact hcr
  refine (oneK C hn hf2 d).mpr fun x hx k hk => ?_
  have hz : ∀ j, j < n → j ≠ q → j ≠ p → x j = false := fun j hj h1 h2 => hx.1 j hj (by
    unfold suw
    rw [tpw_at C hj (hoff j h1 h2), tpw_0 C hj]; rfl)
  have r1 := hx.2 q hq (by unfold suw; exact decide_eq_true tq)
  have r2 := hx.2 p hp (by unfold suw; exact decide_eq_true tp)
  rw [qx_two hq hp hqp fun j hj h1 h2 => by rw [hz j hj h1 h2, Bool.and_false]] at r1 r2
  unfold amw at r1 r2
  rw [if_pos rfl, if_neg hqp, hcr] at r1
  rw [if_pos rfl, if_neg (Ne.symm hqp), hcr'] at r2
  have both : x q = false ∧ x p = false := by
    rcases h with h | h
    · rw [decide_eq_false h] at r1
      have : x p = false := by simpa using r1
      rw [this] at r2
      exact ⟨by simpa using r2, this⟩
    · rw [decide_eq_false h] at r2
      have : x q = false := by simpa using r2
      rw [this] at r1
      exact ⟨this, by simpa using r1⟩
  by_cases e : k = q
  · rw [e]; exact both.1
  · by_cases e2 : k = p
    · rw [e2]; exact both.2
    · exact hz k hk e e2
end
/-- a turn, or three, nearer -/
theorem nearer {n : Nat} {f c c' : Nat → Int} (hn1 : 1 ≤ n) (hn : Net (4 * n) f) (hf2 : ∀ i, i < 4 * n → f i ≠ i) (hc : ∀ i, i < n → 0 ≤ c i ∧ c i < 3) (hc' : ∀ i, i < n → 0 ≤ c' i ∧ c' i < 3) (ho : OneR (4 * n) (par c) (fJ f)) (ho' : OneR (4 * n) (par c') (fJ f)) {k : Nat} (hk : k < n) (hne : c k ≠ c' k) :
    (∃ q, q < n ∧ c q ≠ c' q ∧ OneR (4 * n) (par (upw c q (c' q))) (fJ f)) ∨
    ∃ q p w, q < n ∧ p < n ∧ q ≠ p ∧ c q ≠ c' q ∧ c p ≠ c' p ∧ 0 ≤ w ∧ w < 3 ∧ w ≠ c q ∧ w ≠ c' q ∧ OneR (4 * n) (par (upw c q w)) (fJ f) ∧ OneR (4 * n) (par (upw (upw c q w) p (c' p))) (fJ f) ∧ OneR (4 * n) (par (upw (upw (upw c q w) p (c' p)) q (c' q))) (fJ f) := by
  obtain ⟨A, B, C⟩ := cw_one hn1 hn hf2 ho
  generalize hI : (fun k => orb (sJ f c) 0 k) = I at C
  generalize hO : (fun k => par c (orb (sJ f c) 0 k)) = O at C
  have t0 : ∀ q, q < n → (tpw I O A B c' q = 0 ↔ c' q = c q) := fun q hq => ⟨fun h => tpw_inj C hq (hc' q hq) (hc q hq) (by rw [h, tpw_0 C hq]), fun h => by rw [tpw_at C hq h, tpw_0 C hq]⟩
  have hat : ∀ (c : Nat → Int) (q : Nat) (w : Int), upw c q w q = w := fun c q w => if_pos rfl
  have hof : ∀ (c : Nat → Int) (q : Nat) (w : Int) (k : Nat), k ≠ q → upw c q w k = c k := fun c q w k h => if_neg (by omega)
  by_cases h1 : ∃ q, q < n ∧ tpw I O A B c' q = 1
  · obtain ⟨q, hq, h⟩ := h1
    refine .inl ⟨q, hq, fun e => ?_, one_single C hn hf2 hq (fun k hk => hof _ _ _ _ hk) ?_⟩
    · rw [(t0 q hq).mpr e.symm] at h; cases h
    · rw [tpw_at (d := upw c q (c' q)) (e := c') C hq (hat _ _ _)]; exact h
  · right
    have ht : tpw I O A B c' k ≠ 0 := fun z => hne ((t0 k hk).mp z).symm
    have hcr : ∃ p, p < n ∧ tpw I O A B c' p ≠ 0 ∧ p ≠ k ∧ crw A B k p = true := by
      refine Decidable.byContradiction fun hno => ?_
      have hx : Ker n (amw I O A B c') (suw I O A B c') fun j => decide (j = k) := by
        refine ⟨fun j hj hs => decide_eq_false fun e => ?_, fun i hi hs => ?_⟩
        · rw [e] at hs
          unfold suw at hs
          exact ht (by simpa using hs)
        · rw [qx_one hk fun j hj hne => by show (amw I O A B c' i j && decide (j = k)) = false; rw [decide_eq_false hne, Bool.and_false]]
          show (amw I O A B c' i k && decide (k = k)) = false
          rw [decide_eq_true rfl, Bool.and_true]
          unfold amw
          by_cases e : i = k
          · rw [if_pos e]
            exact decide_eq_false fun z => h1 ⟨i, hi, z⟩
          · rw [if_neg e, crw_sym C hi hk e]
            unfold suw at hs
            have hti : tpw I O A B c' i ≠ 0 := of_decide_eq_true hs
            cases hb : crw A B k i with
            | false => rfl
            | true => exact absurd ⟨i, hi, hti, e, hb⟩ hno
      have := (oneK C hn hf2 c').mp ho' _ hx k hk
      simp at this
    obtain ⟨p, hp, tp, hpk, hc2⟩ := hcr
    obtain ⟨a1, a2, a3, a4⟩ := C.hA k hk
    obtain ⟨d1, d2, d3, d4, d5, d6⟩ := C.dis hk
    obtain ⟨w, w0, w1, hw⟩ := way_of (q := (k : Int)) (a := I (A k)) (b := I (B k)) a3 a4 (by omega) d2 c
    have tw : tpw I O A B (upw c k w) k = 1 := by
      unfold tpw
      have hw : par (upw c k w) (I (A k)) = I (B k) := hw
      rw [hw, if_neg (fun z => d4 z.symm), if_pos rfl]
    have wc : w ≠ c k := fun e => by
      have : tpw I O A B (upw c k w) k = tpw I O A B c k := tpw_at C hk (by rw [hat]; exact e)
      rw [tw, tpw_0 C hk] at this; cases this
    have wc' : w ≠ c' k := fun e => by
      have : tpw I O A B (upw c k w) k = tpw I O A B c' k := tpw_at C hk (by rw [hat]; exact e)
      rw [tw] at this
      exact h1 ⟨k, hk, this.symm⟩
    have hkp : k ≠ p := fun e => hpk e.symm
    have cp : c p ≠ c' p := fun e => tp ((t0 p hp).mpr e.symm)
    have tp2 : ∀ d : Nat → Int, d p = c' p → tpw I O A B d p ≠ 0 ∧ tpw I O A B d p ≠ 1 := fun d hd => by
      rw [tpw_at C hp hd]
      exact ⟨tp, fun z => h1 ⟨p, hp, z⟩⟩
    refine ⟨k, p, w, hk, hp, hkp, hne, cp, w0, w1, wc, wc', one_single C hn hf2 hk (fun j hj => hof _ _ _ _ hj) tw, ?_, ?_⟩
    · refine one_two C hn hf2 hk hp hkp (fun j j1 j2 => by rw [hof _ _ _ _ j2, hof _ _ _ _ j1]) hc2 ?_ (tp2 _ (hat _ _ _)).1 (.inr (tp2 _ (hat _ _ _)).2)
      rw [tpw_at (e := upw c k w) C hk (hof _ _ _ _ hkp), tw]; decide
    · have hpp : upw (upw (upw c k w) p (c' p)) k (c' k) p = c' p := by rw [hof _ _ _ _ hpk, hat]
      refine one_two C hn hf2 hk hp hkp (fun j j1 j2 => by rw [hof _ _ _ _ j1, hof _ _ _ _ j2, hof _ _ _ _ j1]) hc2 ?_ (tp2 _ hpp).1 (.inr (tp2 _ hpp).2)
      rw [tpw_at (e := c') C hk (hat _ _ _)]; exact ht
end Gf

/-! ## Gf41: rounds found from starts in any order -/
namespace Gf
open PySem Ty
theorem flat_disj {R R' : List Int} {x : Int} (h1 : x ∈ R) (h2 : x ∈ R') : ∀ (W : List (List Int)), W.flatten.Nodup → R ∈ W → R' ∈ W → R = R'
  | [], _, h, _ => by cases h
  | A :: W, nd, a, b => by
    rw [List.flatten_cons, List.nodup_append] at nd
    have key : ∀ {B : List Int}, B ∈ W → x ∈ A → x ∈ B → False := fun hB h1 h2 => nd.2.2 x h1 x (List.mem_flatten.mpr ⟨_, hB, h2⟩) rfl
    rcases List.mem_cons.mp a with ea | ea
    · rcases List.mem_cons.mp b with eb | eb
      · rw [ea, eb]
      · exact (key eb (by rw [← ea]; exact h1) h2).elim
    · rcases List.mem_cons.mp b with eb | eb
      · exact (key ea (by rw [← eb]; exact h2) h1).elim
      · exact flat_disj h1 h2 W nd.2.1 ea eb
structure Rdl (s p : Int → Int) (S : List Int) (m : Nat) (V : List (List Int)) : Prop where
  rd : ∀ R ∈ V, ∃ e, 0 ≤ e ∧ e < (m : Int) ∧ Rd s p e R
  nd : V.flatten.Nodup
  all : ∀ x ∈ S, x ∈ V.flatten
theorem Rdl.zero {s p : Int → Int} {m : Nat} : Rdl s p [] m [] := ⟨by simp, by simp, fun x h => by cases h⟩
theorem Rdl.old {s p : Int → Int} {S : List Int} {m : Nat} {V : List (List Int)} {e : Int} (h : Rdl s p S m V) (he : e ∈ V.flatten) : Rdl s p (S ++ [e]) m V := ⟨h.rd, h.nd, fun x hx => by
  rcases List.mem_append.mp hx with hx | hx
  · exact h.all x hx
  · rw [List.mem_singleton.mp hx]; exact he⟩
theorem Rds.rdl {s p : Int → Int} {m : Nat} {W : List (List Int)} (h : Rds s p m W) : Rdl s p (row m fun k => (k : Int)) m W := ⟨fun R hR => by
  obtain ⟨e, a, b, c, _⟩ := h.rd R hR
  exact ⟨e, a, b, c⟩, h.nd, fun x hx => by
  obtain ⟨k, hk, rfl⟩ := List.mem_map.mp (show x ∈ (List.range m).map fun k : Nat => (k : Int) from hx)
  exact h.all _ (by omega) (by have := List.mem_range.mp hk; omega)⟩
section
variable {s p f : Int → Int} {m : Nat} (hs : ∀ x, s x = f (p x)) (hpi : ∀ x : Int, 0 ≤ x → x < m → 0 ≤ p x ∧ p x < m ∧ p (p x) = x ∧ p x ≠ x) (hfi : ∀ x : Int, 0 ≤ x → x < m → 0 ≤ f x ∧ f x < m ∧ f (f x) = x ∧ f x ≠ x)
include hs hpi hfi
theorem Rdl.rng {S : List Int} {V : List (List Int)} (h : Rdl s p S m V) : ∀ x ∈ V.flatten, 0 ≤ x ∧ x < (m : Int) := fun x hx => by
  obtain ⟨R, hR, hx⟩ := List.mem_flatten.mp hx
  obtain ⟨e, a, b, c⟩ := h.rd R hR
  exact Rd.rng hs hpi hfi a b c x hx
theorem Rdl.new {S : List Int} {V : List (List Int)} {e : Int} {R : List Int} (h0 : 0 ≤ e) (h1 : e < m) (h : Rdl s p S m V) (hn : e ∉ V.flatten) (hR : Rd s p e R) : Rdl s p (S ++ [e]) m (V ++ [R]) := by
  have hd : ∀ x ∈ R, x ∉ V.flatten := by
    intro x hx hw
    obtain ⟨k, k1, rfl, k2, k3⟩ := hR
    obtain ⟨R', hR', hx'⟩ := List.mem_flatten.mp hw
    obtain ⟨e', a, b, ⟨k', k1', rfl, k2', k3'⟩⟩ := h.rd _ hR'
    refine hn (List.mem_flatten.mpr ⟨_, hR', ?_⟩)
    exact wl_back' hs hpi hfi h0 h1 (Z := fun x => x ∈ wl s p e' k') (fun y _ _ hy => (wl_closed hs hpi hfi a b k1' k2' hy).2.2) hx hx'
  have he : e ∈ R := hR.hd.2
  refine ⟨fun R' hR' => ?_, ?_, fun x hx => ?_⟩
  · rcases List.mem_append.mp hR' with z | z
    · exact h.rd R' z
    · rw [List.mem_singleton.mp z]; exact ⟨e, h0, h1, hR⟩
  · rw [List.flatten_append, List.flatten_cons, List.flatten_nil, List.append_nil]
    exact List.nodup_append.mpr ⟨h.nd, Rd.nd hs hpi hfi h0 h1 hR, fun a ha b hb e => hd b hb (e ▸ ha)⟩
  · rw [List.flatten_append, List.flatten_cons, List.flatten_nil, List.append_nil]
    rcases List.mem_append.mp hx with hx | hx
    · exact List.mem_append_left _ (h.all x hx)
    · rw [List.mem_singleton.mp hx]; exact List.mem_append_right _ he
open Classical in
theorem Rdl.le {S T : List Int} {V W : List (List Int)} (hV : Rdl s p S m V) (hW : Rdl s p T m W) (hT : ∀ x, 0 ≤ x → x < (m : Int) → x ∈ T) : V.length ≤ W.length := by
  refine Nat.le_of_not_lt fun hl => ?_
  have ex : ∀ R ∈ V, ∃ R', R' ∈ W ∧ hd R ∈ R' := fun R hR => by
    obtain ⟨e, a, b, c⟩ := hV.rd R hR
    rw [c.hd.1]
    obtain ⟨R', h1, h2⟩ := List.mem_flatten.mp (hW.all e (hT e a b))
    exact ⟨R', h1, h2⟩
  let k : List Int → Int := fun R => if h : ∃ R', R' ∈ W ∧ hd R ∈ R' then hd (Classical.choose h) else 0
  have hk : ∀ R ∈ V, ∃ R', R' ∈ W ∧ hd R ∈ R' ∧ k R = hd R' := fun R hR => by
    have h := ex R hR
    refine ⟨Classical.choose h, (Classical.choose_spec h).1, (Classical.choose_spec h).2, ?_⟩
    show (if h : ∃ R', R' ∈ W ∧ hd R ∈ R' then hd (Classical.choose h) else 0) = _
    rw [dif_pos h]
  obtain ⟨pre, R1, mid, R2, post, eV, ek⟩ := two_alike (k := k) (l := V) (m := W.map hd) (fun R hR => by
    obtain ⟨R', h1, _, h2⟩ := hk R hR
    rw [h2]; exact List.mem_map.mpr ⟨R', h1, rfl⟩) (by rw [List.length_map]; exact hl)
  have m1 : R1 ∈ V := by rw [eV]; simp
  have m2 : R2 ∈ V := by rw [eV]; simp
  obtain ⟨A, a1, a2, a3⟩ := hk R1 m1
  obtain ⟨B, b1, b2, b3⟩ := hk R2 m2
  obtain ⟨eA, _, _, cA⟩ := hW.rd A a1
  obtain ⟨eB, _, _, cB⟩ := hW.rd B b1
  have hAB : A = B := flat_disj (x := hd A) (by rw [cA.hd.1]; exact cA.hd.2) (by rw [← a3, ek, b3, cB.hd.1]; exact cB.hd.2) W hW.nd a1 b1
  subst hAB
  obtain ⟨e1, p1, p2, ⟨k1, q1, rfl, q2, q3⟩⟩ := hV.rd R1 m1
  obtain ⟨e2, r1, r2, c2⟩ := hV.rd R2 m2
  obtain ⟨e3, t1, t2, ⟨k3, u1, rfl, u2, u3⟩⟩ := hW.rd A a1
  have hZ : ∀ x : Int, 0 ≤ x → x < (m : Int) → x ∈ wl s p e1 k1 → p x ∈ wl s p e1 k1 ∧ f x ∈ wl s p e1 k1 := fun y _ _ hy => (wl_closed hs hpi hfi p1 p2 q1 q2 hy).2.2
  have hin : hd (wl s p e1 k1) ∈ wl s p e1 k1 := by
    have c1 : Rd s p e1 (wl s p e1 k1) := ⟨k1, q1, rfl, q2, q3⟩
    rw [c1.hd.1]; exact c1.hd.2
  have hb := wl_back' hs hpi hfi t1 t2 (Z := fun x => x ∈ wl s p e1 k1) hZ a2 hin
  have hall := wl_fwd hs hpi hfi t1 t2 (Z := fun x => x ∈ wl s p e1 k1) hZ hb k3 _ b2
  have hin2 : hd R2 ∈ R2 := by rw [c2.hd.1]; exact c2.hd.2
  have nd := hV.nd
  rw [eV, List.flatten_append, List.flatten_cons, List.flatten_append, List.flatten_cons] at nd
  have nd2 := (List.nodup_append.mp nd).2.1
  exact (List.nodup_append.mp nd2).2.2 _ hall _ (List.mem_append_right _ (List.mem_append_left _ hin2)) rfl
theorem Rdl.count {S : List Int} {V W : List (List Int)} (hV : Rdl s p S m V) (hS : ∀ x, 0 ≤ x → x < (m : Int) → x ∈ S) (hW : Rds s p m W) : V.length = W.length :=
  Nat.le_antisymm (hV.le hs hpi hfi hW.rdl fun x a b => List.mem_map.mpr ⟨x.toNat, List.mem_range.mpr (by omega), by omega⟩) (hW.rdl.le hs hpi hfi hV hS)
end
end Gf

/-! ## Gf42: words that have a web; letters put in and left out -/
namespace Gf
open PySem Ty
theorem two_mid {A B C : List Nat} {c : Nat} (hA : c ∉ A) (hB : c ∉ B) (hC : c ∉ C) : Two (A ++ c :: (B ++ c :: C)) c A.length (A.length + 1 + B.length) where
  lt := by omega
  hi := by rw [List.getElem?_append_right (Nat.le_refl _), Nat.sub_self]; rfl
  hj := by
    rw [List.getElem?_append_right (by omega), show A.length + 1 + B.length - A.length = B.length + 1 by omega, List.getElem?_cons_succ, List.getElem?_append_right (Nat.le_refl _), Nat.sub_self]; rfl
  only k hk := by
    by_cases h1 : k < A.length
    · rw [List.getElem?_append_left h1] at hk
      exact absurd (List.mem_of_getElem? hk) hA
    · rw [List.getElem?_append_right (by omega)] at hk
      obtain ⟨r, rfl⟩ : ∃ r, k = A.length + r := ⟨k - A.length, by omega⟩
      rw [Nat.add_sub_cancel_left] at hk
      cases r with
      | zero => exact .inl (by omega)
      | succ r =>
        rw [List.getElem?_cons_succ] at hk
        by_cases h2 : r < B.length
        · rw [List.getElem?_append_left h2] at hk
          exact absurd (List.mem_of_getElem? hk) hB
        · rw [List.getElem?_append_right (by omega)] at hk
          obtain ⟨t, rfl⟩ : ∃ t, r = B.length + t := ⟨r - B.length, by omega⟩
          rw [Nat.add_sub_cancel_left] at hk
          cases t with
          | zero => exact .inr (by omega)
          | succ t =>
            rw [List.getElem?_cons_succ] at hk
            exact absurd (List.mem_of_getElem? hk) hC
theorem btw_mid {A B C : List Nat} {c : Nat} : btw (A ++ c :: (B ++ c :: C)) A.length (A.length + 1 + B.length) = B := by
  unfold btw
  rw [List.drop_append, List.drop_of_length_le (by omega), List.nil_append, show A.length + 1 - A.length = 1 by omega, List.drop_succ_cons, List.drop_zero, show A.length + 1 + B.length - (A.length + 1) = B.length by omega, List.take_left]
theorem crB_mid {A B C : List Nat} {c d n : Nat} (R : Ring (A ++ c :: (B ++ c :: C)) n) (hA : c ∉ A) (hB : c ∉ B) (hC : c ∉ C) (hd : d ∈ A ++ c :: (B ++ c :: C)) : crB (A ++ c :: (B ++ c :: C)) c d = decide (B.count d = 1) := by
  rw [← btw_cr R (by simp) hd, (two_mid hA hB hC).pl]
  simp only []
  rw [btw_mid]
  exact decide_eq_decide.mpr (by omega)
/-- a word cut at the two places of a letter -/
theorem cut_two {l : List Nat} {c : Nat} (h : l.count c = 2) : ∃ A B C, l = A ++ c :: (B ++ c :: C) ∧ c ∉ A ∧ c ∉ B ∧ c ∉ C := by
  have hm : c ∈ l := List.count_pos_iff.mp (by omega)
  obtain ⟨A, l', e, hA⟩ := List.eq_append_cons_of_mem hm
  rw [e, List.count_append, List.count_cons_self, List.count_eq_zero.mpr hA] at h
  have hm2 : c ∈ l' := List.count_pos_iff.mp (by omega)
  obtain ⟨B, C, e2, hB⟩ := List.eq_append_cons_of_mem hm2
  rw [e2, List.count_append, List.count_cons_self, List.count_eq_zero.mpr hB] at h
  exact ⟨A, B, C, by rw [e, e2], hA, hB, List.count_eq_zero.mp (by omega)⟩
theorem crB_filter {u : List Nat} {n m c d : Nat} {S : Nat → Bool} (R : Ring u n) (R2 : Ring (u.filter S) m) (hc : c ∈ u) (hd : d ∈ u) (sc : S c = true) (sd : S d = true) : crB (u.filter S) c d = crB u c d := by
  obtain ⟨A, B, C, rfl, hA, hB, hC⟩ := cut_two (R.two c hc)
  have e : (A ++ c :: (B ++ c :: C)).filter S = A.filter S ++ c :: (B.filter S ++ c :: C.filter S) := by
    rw [List.filter_append, List.filter_cons_of_pos sc, List.filter_append, List.filter_cons_of_pos sc]
  have hd2 : d ∈ (A ++ c :: (B ++ c :: C)).filter S := List.mem_filter.mpr ⟨hd, sd⟩
  rw [e] at R2 hd2 ⊢
  rw [crB_mid R hA hB hC hd, crB_mid R2 (fun z => hA (List.mem_filter.mp z).1) (fun z => hB (List.mem_filter.mp z).1) (fun z => hC (List.mem_filter.mp z).1) hd2, List.count_filter sd]
/-- a word with each letter of P twice whose crossings are f -/
structure WF (f : Nat → Nat → Int) (P : List Nat) (w : List Nat) : Prop where
  cnt : ∀ c, w.count c = if c ∈ P.map (97 + ·) then 2 else 0
  web : ∀ p ∈ P, ∀ q ∈ P, p ≠ q → (crB w (97 + p) (97 + q) = true ↔ f p q = 1)
/-- places that a choice of letters may have -/
structure Pts (P : List Nat) : Prop where
  nd : P.Nodup
  few : P.length ≤ 10
  low : ∀ p ∈ P, p < 26
theorem mem97 {P : List Nat} {p : Nat} : 97 + p ∈ P.map (97 + ·) ↔ p ∈ P := by
  rw [List.mem_map]
  constructor
  · rintro ⟨a, h, e⟩
    have e : 97 + a = 97 + p := e
    rw [show p = a by omega]; exact h
  · intro h; exact ⟨p, h, rfl⟩
theorem WF.mem {f : Nat → Nat → Int} {P w : List Nat} (h : WF f P w) {c : Nat} : c ∈ w ↔ c ∈ P.map (97 + ·) := by
  rw [← List.count_pos_iff, h.cnt c]
  split <;> simp_all
theorem WF.mem' {f : Nat → Nat → Int} {P w : List Nat} (h : WF f P w) {p : Nat} : 97 + p ∈ w ↔ p ∈ P := by rw [h.mem, mem97]
theorem ring_cnt {P w : List Nat} (h : ∀ c, w.count c = if c ∈ P.map (97 + ·) then 2 else 0) (hp : Pts P) (hne : P ≠ []) : Ring w P.length := by
  have hnd : (P.map (97 + ·)).Nodup := by
    rw [List.nodup_iff_pairwise_ne, List.pairwise_map]
    exact (List.nodup_iff_pairwise_ne.mp hp.nd).imp fun h e => h (by omega)
  have hpm : w.Perm (dbl (P.map (97 + ·))) := by
    refine List.perm_iff_count.mpr fun c => ?_
    rw [h c]
    split
    · rename_i z; rw [count_dbl hnd z]
    · rename_i z; rw [List.count_eq_zero.mpr fun y => z (mem_dbl.mp y)]
  have := Ring.of_perm hpm hnd (by rw [List.length_map]; exact List.length_pos_iff.mpr hne) (by rw [List.length_map]; exact hp.few) fun c hc => by
    obtain ⟨p, hp', rfl⟩ := List.mem_map.mp hc
    have := hp.low p hp'
    omega
  rwa [List.length_map] at this
theorem WF.ring {f : Nat → Nat → Int} {P w : List Nat} (h : WF f P w) (hp : Pts P) (hne : P ≠ []) : Ring w P.length := ring_cnt h.cnt hp hne
theorem WF.len {f : Nat → Nat → Int} {P w : List Nat} (h : WF f P w) (hp : Pts P) : w.length = 2 * P.length := by
  by_cases hne : P = []
  · subst hne
    have : w = [] := List.eq_nil_iff_forall_not_mem.mpr fun c hc => by simpa using h.mem.mp hc
    rw [this]; rfl
  · exact (h.ring hp hne).len
theorem WF.congr {f : Nat → Nat → Int} {P Q w : List Nat} (h : WF f P w) (e : ∀ p, p ∈ P ↔ p ∈ Q) : WF f Q w where
  cnt c := by
    rw [h.cnt c]
    have : c ∈ P.map (97 + ·) ↔ c ∈ Q.map (97 + ·) := by simp only [List.mem_map, e]
    simp only [this]
  web p hp q hq := h.web p ((e p).mpr hp) q ((e q).mpr hq)
theorem WF.congrF {f g : Nat → Nat → Int} {P w : List Nat} (h : WF f P w) (e : ∀ p ∈ P, ∀ q ∈ P, p ≠ q → (f p q = 1 ↔ g p q = 1)) : WF g P w :=
  ⟨h.cnt, fun p hp q hq hne => (h.web p hp q hq hne).trans (e p hp q hq hne)⟩
/-- the letters of fewer points -/
theorem WF.sub {f : Nat → Nat → Int} {P Q w : List Nat} (h : WF f P w) (hp : Pts P) (hQ : ∀ q ∈ Q, q ∈ P) (hq : Pts Q) : WF f Q (w.filter fun c => decide (c ∈ Q.map (97 + ·))) := by
  have hc : ∀ c, (w.filter fun c => decide (c ∈ Q.map (97 + ·))).count c = if c ∈ Q.map (97 + ·) then 2 else 0 := fun c => by
    split
    · rename_i z
      rw [List.count_filter (by simpa using z), h.cnt c, if_pos]
      obtain ⟨q, hq', rfl⟩ := List.mem_map.mp z
      exact mem97.mpr (hQ q hq')
    · rename_i z
      rw [List.count_eq_zero]
      intro y
      exact z (by simpa using (List.mem_filter.mp y).2)
  refine ⟨hc, fun p hp' q hq' hne => ?_⟩
  have R := h.ring hp (List.ne_nil_of_mem (hQ p hp'))
  have R2 := ring_cnt hc hq (List.ne_nil_of_mem hp')
  rw [crB_filter R R2 (h.mem'.mpr (hQ p hp')) (h.mem'.mpr (hQ q hq')) (by simpa using hp') (by simpa using hq')]
  exact h.web p (hQ p hp') q (hQ q hq') hne
/-- a letter put in at two places -/
def ins (w : List Nat) (a b c : Nat) : List Nat := w.take a ++ c :: ((w.drop a).take (b - a) ++ c :: w.drop b)
theorem ins_parts {A B C : List Nat} {c : Nat} : ins (A ++ B ++ C) A.length (A.length + B.length) c = A ++ c :: (B ++ c :: C) := by
  unfold ins
  rw [List.append_assoc, List.take_left, List.drop_left, Nat.add_sub_cancel_left, List.take_left, ← List.append_assoc, List.drop_append, List.drop_of_length_le (by simp), List.nil_append, List.length_append, Nat.sub_self, List.drop_zero]
theorem ins_perm {w : List Nat} {a b c : Nat} (hab : a ≤ b) : (ins w a b c).Perm (c :: c :: w) := by
  refine List.perm_iff_count.mpr fun d => ?_
  have e : w = w.take a ++ ((w.drop a).take (b - a) ++ w.drop b) := by
    conv => lhs; rw [← List.take_append_drop a w, ← List.take_append_drop (b - a) (w.drop a), List.drop_drop, show a + (b - a) = b by omega]
  have e2 := congrArg (List.count d) e
  rw [List.count_append, List.count_append] at e2
  unfold ins
  rw [List.count_append, List.count_cons, List.count_append, List.count_cons, List.count_cons, List.count_cons, e2]
  omega
theorem ins_filter {w : List Nat} {a b c : Nat} (hab : a ≤ b) (hc : c ∉ w) : (ins w a b c).filter (fun d => decide (d ≠ c)) = w := by
  have hk : ∀ l : List Nat, (∀ x ∈ l, x ∈ w) → l.filter (fun d => decide (d ≠ c)) = l := fun l hl => List.filter_eq_self.mpr fun x hx => by
    have : x ≠ c := fun e => hc (e ▸ hl x hx)
    simpa using this
  unfold ins
  rw [List.filter_append, List.filter_cons_of_neg (by simp), List.filter_append, List.filter_cons_of_neg (by simp), hk _ fun x hx => List.mem_of_mem_take hx, hk _ fun x hx => List.mem_of_mem_drop (List.mem_of_mem_take hx), hk _ fun x hx => List.mem_of_mem_drop hx]
  conv => rhs; rw [← List.take_append_drop a w, ← List.take_append_drop (b - a) (w.drop a), List.drop_drop, show a + (b - a) = b by omega]
theorem WF.ins {f : Nat → Nat → Int} {P w : List Nat} {p a b : Nat} (h : WF f P w) (hp : Pts (P ++ [p])) (hs : ∀ q ∈ P, f q p = f p q) (hab : a ≤ b) (ht : ∀ q ∈ P, ((w.drop a).take (b - a)).count (97 + q) = 1 ↔ f p q = 1) : WF f (P ++ [p]) (ins w a b (97 + p)) := by
  have hpP : p ∉ P := fun z => (List.nodup_append.mp hp.nd).2.2 p z p (List.mem_singleton.mpr rfl) rfl
  have hpw : 97 + p ∉ w := fun z => hpP (h.mem'.mp z)
  have hc : ∀ c, (Gf.ins w a b (97 + p)).count c = if c ∈ (P ++ [p]).map (97 + ·) then 2 else 0 := fun c => by
    rw [(ins_perm hab).count_eq, List.count_cons, List.count_cons, h.cnt c, List.map_append]
    by_cases z : c = 97 + p
    · subst z
      rw [if_neg (fun y => hpP (mem97.mp y))]
      simp
    · have z2 : (97 + p == c) = false := beq_eq_false_iff_ne.mpr fun y => z y.symm
      rw [z2]
      simp only [Bool.false_eq_true, if_false, Nat.add_zero]
      by_cases y : c ∈ P.map (97 + ·)
      · rw [if_pos y, if_pos (List.mem_append_left _ y)]
      · rw [if_neg y, if_neg fun x => (List.mem_append.mp x).elim y fun x => z (by simpa using x)]
  have R := ring_cnt hc hp (by simp)
  have mem2 : ∀ {q}, q ∈ P ++ [p] → 97 + q ∈ Gf.ins w a b (97 + p) := fun {q} hq => List.count_pos_iff.mp (by rw [hc, if_pos (mem97.mpr hq)]; omega)
  have hw : ∀ x, x ∈ w.take a ∨ x ∈ (w.drop a).take (b - a) ∨ x ∈ w.drop b → x ∈ w := fun x hx => by
    rcases hx with hx | hx | hx
    · exact List.mem_of_mem_take hx
    · exact List.mem_of_mem_drop (List.mem_of_mem_take hx)
    · exact List.mem_of_mem_drop hx
  have key : ∀ q ∈ P, (crB (Gf.ins w a b (97 + p)) (97 + p) (97 + q) = true ↔ f p q = 1) := fun q hq => by
    have e := crB_mid (d := 97 + q) (show Ring (w.take a ++ (97 + p) :: ((w.drop a).take (b - a) ++ (97 + p) :: w.drop b)) _ from R) (fun z => hpw (hw _ (.inl z))) (fun z => hpw (hw _ (.inr (.inl z)))) (fun z => hpw (hw _ (.inr (.inr z)))) (mem2 (List.mem_append_left _ hq))
    rw [show Gf.ins w a b (97 + p) = w.take a ++ (97 + p) :: ((w.drop a).take (b - a) ++ (97 + p) :: w.drop b) from rfl, e, decide_eq_true_iff]
    exact ht q hq
  refine ⟨hc, fun x hx y hy hne => ?_⟩
  rcases List.mem_append.mp hx with hx1 | hx1
  · rcases List.mem_append.mp hy with hy1 | hy1
    · have hne0 := List.ne_nil_of_mem hx1
      have hP : Pts P := ⟨(List.nodup_append.mp hp.nd).1, by have := hp.few; rw [List.length_append] at this; omega, fun q hq => hp.low q (List.mem_append_left _ hq)⟩
      have R1 := h.ring hP hne0
      have e := crB_filter (c := 97 + x) (d := 97 + y) (S := fun d => decide (d ≠ 97 + p)) R (by rw [ins_filter hab hpw]; exact R1) (mem2 hx) (mem2 hy) (by
        have : x ≠ p := fun e => hpP (e ▸ hx1)
        simp; omega) (by
        have : y ≠ p := fun e => hpP (e ▸ hy1)
        simp; omega)
      rw [ins_filter hab hpw] at e
      rw [← e]
      exact h.web x hx1 y hy1 hne
    · rw [List.mem_singleton.mp hy1] at hy ⊢
      rw [crB_symm R (mem2 hx) (mem2 hy), hs x hx1]
      exact key x hx1
  · rw [List.mem_singleton.mp hx1] at hne ⊢
    rcases List.mem_append.mp hy with hy1 | hy1
    · exact key y hy1
    · exact absurd (List.mem_singleton.mp hy1).symm hne
/-- a letter more of a whole word: put in at two places -/
theorem WF.grow {f : Nat → Nat → Int} {U P u : List Nat} {p : Nat} (h : WF f U u) (hU : Pts U) (hp : Pts (P ++ [p])) (hs : ∀ q ∈ P ++ [p], q ∈ U) :
    ∃ a b, a ≤ b ∧ b ≤ (u.filter fun c => decide (c ∈ P.map (97 + ·))).length ∧ (u.filter fun c => decide (c ∈ (P ++ [p]).map (97 + ·))) = Gf.ins (u.filter fun c => decide (c ∈ P.map (97 + ·))) a b (97 + p) ∧
      (∀ q ∈ P, (((u.filter fun c => decide (c ∈ P.map (97 + ·))).drop a).take (b - a)).count (97 + q) = 1 ↔ f p q = 1) ∧ (∀ r ∈ P, u.head? = some (97 + r) → 1 ≤ a) := by
  have hpP : p ∉ P := fun z => (List.nodup_append.mp hp.nd).2.2 p z p (List.mem_singleton.mpr rfl) rfl
  have h2 := h.sub hU hs hp
  have e0 : (u.filter fun c => decide (c ∈ P.map (97 + ·))) = (u.filter fun c => decide (c ∈ (P ++ [p]).map (97 + ·))).filter fun d => decide (d ≠ 97 + p) := by
    rw [List.filter_filter]
    refine List.filter_congr fun c _ => ?_
    rw [List.map_append]
    by_cases z : c = 97 + p
    · subst z
      simp [hpP]
    · simp [z]
  have R2 := h2.ring hp (by simp)
  generalize hu' : (u.filter fun c => decide (c ∈ (P ++ [p]).map (97 + ·))) = u' at h2 e0 R2
  have hm : 97 + p ∈ u' := h2.mem'.mpr (by simp)
  obtain ⟨A, B, C, e, hA, hB, hC⟩ := cut_two (R2.two _ hm)
  have hk : ∀ l : List Nat, 97 + p ∉ l → l.filter (fun d => decide (d ≠ 97 + p)) = l := fun l hl => List.filter_eq_self.mpr fun x hx => by
    have : x ≠ 97 + p := fun e => hl (e ▸ hx)
    simpa using this
  have e1 : u'.filter (fun d => decide (d ≠ 97 + p)) = A ++ B ++ C := by
    rw [e, List.filter_append, List.filter_cons_of_neg (by simp), List.filter_append, List.filter_cons_of_neg (by simp), hk A hA, hk B hB, hk C hC, List.append_assoc]
  rw [e0, e1]
  refine ⟨A.length, A.length + B.length, by omega, by simp, by rw [ins_parts]; exact e, fun q hq => ?_, fun r hr hh => ?_⟩
  · rw [List.append_assoc, List.drop_left, Nat.add_sub_cancel_left, List.take_left]
    have hq2 : q ∈ P ++ [p] := List.mem_append_left _ hq
    have hm2 : 97 + q ∈ u' := h2.mem'.mpr hq2
    rw [e] at R2 hm2
    have := crB_mid (d := 97 + q) R2 hA hB hC hm2
    rw [← e] at this
    have hw := h2.web p (by simp) q hq2 (fun z => hpP (z ▸ hq))
    rw [this, decide_eq_true_iff] at hw
    exact hw
  · cases A with
    | cons a A => simp
    | nil =>
      exfalso
      cases u with
      | nil => cases hh
      | cons y u =>
        have hy : y = 97 + r := by simpa using hh
        subst hy
        rw [List.filter_cons_of_pos (by simpa using Or.inl hr)] at hu'
        rw [e] at hu'
        have := (List.cons.inj hu').1
        exact hpP ((show r = p by omega) ▸ hr)
/-- the word may begin with any letter -/
theorem WF.from {f : Nat → Nat → Int} {P u : List Nat} {p : Nat} (h : WF f P u) (hp : Pts P) (hm : p ∈ P) : ∃ v, WF f P v ∧ v.head? = some (97 + p) := by
  have R := h.ring hp (List.ne_nil_of_mem hm)
  have hc := h.mem'.mpr hm
  obtain ⟨k, hk, e⟩ := List.getElem_of_mem hc
  refine ⟨rot k u, ⟨fun c => by rw [(rot_perm k u).count_eq]; exact h.cnt c, fun x hx y hy hne => ?_⟩, ?_⟩
  · rw [crB_rot R (h.mem'.mpr hx) (h.mem'.mpr hy) k (by omega)]
    exact h.web x hx y hy hne
  · unfold rot
    rw [List.drop_eq_getElem_cons hk, e]; rfl
/-- a web turned at a point -/
def trnf (v : Nat) (f : Nat → Nat → Int) : Nat → Nat → Int := fun i j => if f v i = 1 ∧ f v j = 1 ∧ i ≠ j then 1 - f i j else f i j
theorem WF.turn {f : Nat → Nat → Int} {P u : List Nat} {p : Nat} (h : WF f P u) (hp : Pts P) (hm : p ∈ P) (hf : ∀ i ∈ P, ∀ j ∈ P, f i j = 0 ∨ f i j = 1) (hd : ∀ i ∈ P, f i i = 0) : ∃ v, WF (trnf p f) P v := by
  have R := h.ring hp (List.ne_nil_of_mem hm)
  obtain ⟨i, j, ht⟩ := two_of_count (R.two _ (h.mem'.mpr hm))
  refine ⟨trnW u i j, fun c => by rw [(trnW_perm ht.lt ht.bj).count_eq]; exact h.cnt c, fun x hx y hy hne => ?_⟩
  have hx' := h.mem'.mpr hx
  have hy' := h.mem'.mpr hy
  have e1 := crB_trn R ht hx' hy' (show 97 + x ≠ 97 + y by omega)
  have w1 := h.web x hx y hy hne
  have w2 : crB u (97 + p) (97 + x) = true ↔ f p x = 1 := by
    by_cases z : p = x
    · subst z; rw [crB_self, hd p hm]; simp
    · exact h.web p hm x hx z
  have w3 : crB u (97 + p) (97 + y) = true ↔ f p y = 1 := by
    by_cases z : p = y
    · subst z; rw [crB_self, hd p hm]; simp
    · exact h.web p hm y hy z
  have f0 := hf x hx y hy
  rw [e1]
  unfold trnf
  cases hb1 : crB u (97 + x) (97 + y) <;> cases hb2 : crB u (97 + p) (97 + x) <;> cases hb3 : crB u (97 + p) (97 + y) <;> rw [hb1] at w1 <;> rw [hb2] at w2 <;> rw [hb3] at w3 <;> simp at w1 w2 w3 <;> simp [w1, w2, w3, hne] <;> omega
end Gf

/-! ## Gf43: webs of up to six points by codes: each has a word, or is one of the 132 that turn to the wheel -/
namespace Gf
open PySem Ty
/-- the bit of two points -/
def bt (g i j : Nat) : Bool := if i = j then false else if j < i then g.testBit (i * (i - 1) / 2 + j) else g.testBit (j * (j - 1) / 2 + i)
def fc (g i j : Nat) : Int := if bt g i j then 1 else 0
theorem bt_symm (g i j : Nat) : bt g i j = bt g j i := by
  unfold bt
  by_cases h : i = j
  · rw [if_pos h, if_pos h.symm]
  · rw [if_neg h, if_neg (show ¬ j = i from fun e => h e.symm)]
    by_cases h2 : j < i
    · rw [if_pos h2, if_neg (by omega)]
    · rw [if_neg h2, if_pos (by omega)]
theorem fc_symm (g i j : Nat) : fc g i j = fc g j i := by unfold fc; rw [bt_symm]
theorem fc_self (g i : Nat) : fc g i i = 0 := by unfold fc bt; simp
theorem fc_one {g i j : Nat} : fc g i j = 1 ↔ bt g i j = true := by unfold fc; cases bt g i j <;> simp
theorem fc_bit (g i j : Nat) : fc g i j = 0 ∨ fc g i j = 1 := by unfold fc; cases bt g i j <;> simp
/-- which letters stood oddly often, sign by sign -/
def pms : Nat → List Nat → List Nat
  | m, [] => [m]
  | m, c :: w => m :: pms (m ^^^ (1 <<< (c - 97))) w
theorem pms_len : ∀ (w : List Nat) (m : Nat), (pms m w).length = w.length + 1
  | [], _ => rfl
  | _ :: w, m => by
    show (pms _ w).length + 1 = _
    rw [pms_len w]; rfl
theorem one_shl (a q : Nat) : (1 <<< a).testBit q = decide (a = q) := by
  rw [Nat.one_shiftLeft, Nat.testBit_two_pow]
theorem pms_bit {q : Nat} : ∀ (w : List Nat) (m i : Nat), i ≤ w.length → (∀ c ∈ w, 97 ≤ c) → ((pms m w).getD i 0).testBit q = (m.testBit q != decide ((w.take i).count (97 + q) % 2 = 1))
  | w, m, 0, _, _ => by
    have : (pms m w).getD 0 0 = m := by cases w <;> rfl
    rw [this]; simp
  | c :: w, m, i + 1, h, hl => by
    have ih := pms_bit (q := q) w (m ^^^ (1 <<< (c - 97))) i (by simpa using h) fun d hd => hl d (List.mem_cons_of_mem _ hd)
    show ((pms (m ^^^ (1 <<< (c - 97))) w).getD i 0).testBit q = _
    rw [ih, Nat.testBit_xor, one_shl, List.take_succ_cons, List.count_cons]
    have hc := hl c (List.mem_cons_self ..)
    by_cases z : c = 97 + q
    · rw [decide_eq_true (by omega), show (c == 97 + q) = true from beq_iff_eq.mpr z, if_pos rfl]
      by_cases y : (w.take i).count (97 + q) % 2 = 1
      · rw [decide_eq_true y, decide_eq_false (by omega)]
        cases m.testBit q <;> rfl
      · rw [decide_eq_false y, decide_eq_true (by omega)]
        cases m.testBit q <;> rfl
    · rw [decide_eq_false (by omega), show (c == 97 + q) = false from beq_eq_false_iff_ne.mpr z, if_neg (by simp), Nat.add_zero]
      cases m.testBit q <;> rfl
theorem pms_slice {w : List Nat} {q a b : Nat} (hab : a ≤ b) (hb : b ≤ w.length) (hl : ∀ c ∈ w, 97 ≤ c) (h2 : w.count (97 + q) ≤ 2) : (((pms 0 w).getD a 0) ^^^ ((pms 0 w).getD b 0)).testBit q = true ↔ (((w.drop a).take (b - a)).count (97 + q) = 1) := by
  rw [Nat.testBit_xor, pms_bit w 0 a (by omega) hl, pms_bit w 0 b hb hl]
  have e : w.take b = w.take a ++ (w.drop a).take (b - a) := by
    rw [List.take_drop, show a + (b - a) = b by omega]
    conv => lhs; rw [← List.take_append_drop a (w.take b), List.take_take, Nat.min_eq_left hab]
  have e2 := congrArg (List.count (97 + q)) e
  rw [List.count_append] at e2
  have e3 : (w.take b).count (97 + q) ≤ w.count (97 + q) := (List.take_sublist b w).count_le _
  rw [e2]
  rw [e2] at e3
  simp only [Nat.zero_testBit, Bool.false_bne]
  by_cases y : (w.take a).count (97 + q) % 2 = 1 <;> by_cases z : ((w.take a).count (97 + q) + ((w.drop a).take (b - a)).count (97 + q)) % 2 = 1
  · rw [decide_eq_true y, decide_eq_true z]; simp; omega
  · rw [decide_eq_true y, decide_eq_false z]; simp; omega
  · rw [decide_eq_false y, decide_eq_true z]; simp; omega
  · rw [decide_eq_false y, decide_eq_false z]; simp; omega
/-- no letter beyond k: no bit beyond k -/
theorem pms_lt {k : Nat} : ∀ (w : List Nat) (m : Nat), (∀ c ∈ w, c < 97 + k) → m < 2 ^ k → 1 ≤ k → ∀ x ∈ pms m w, x < 2 ^ k
  | [], m, _, hm, _, x, hx => by rw [List.mem_singleton.mp hx]; exact hm
  | c :: w, m, hl, hm, hk, x, hx => by
    rcases List.mem_cons.mp hx with rfl | hx
    · exact hm
    · refine pms_lt w _ (fun d hd => hl d (List.mem_cons_of_mem _ hd)) (Nat.xor_lt_two_pow hm ?_) hk x hx
      rw [Nat.one_shiftLeft]
      exact Nat.pow_lt_pow_right (by omega) (by have := hl c (List.mem_cons_self ..); omega)
theorem getD_lt {l : List Nat} {i n : Nat} (h : ∀ x ∈ l, x < n) (hn : 0 < n) : l.getD i 0 < n := by
  rw [List.getD_eq_getElem?_getD]
  cases e : l[i]? with
  | none => exact hn
  | some v => exact h v (List.mem_of_getElem? e)
theorem fc_more {g x k i j : Nat} (hg : g < 2 ^ (k * (k - 1) / 2)) (hi : i < k) (hj : j < k) : fc (g ||| x <<< (k * (k - 1) / 2)) i j = fc g i j := by
  have key : ∀ n, n < k * (k - 1) / 2 → (g ||| x <<< (k * (k - 1) / 2)).testBit n = g.testBit n := fun n hn => by
    rw [Nat.testBit_or, Nat.testBit_shiftLeft, decide_eq_false (by omega), Bool.false_and, Bool.or_false]
  have lt : ∀ a b, a < k → b < a → a * (a - 1) / 2 + b < k * (k - 1) / 2 := fun a b ha hb => by
    obtain ⟨a, rfl⟩ : ∃ a', a = a' + 1 := ⟨a - 1, by omega⟩
    obtain ⟨k, rfl⟩ : ∃ k', k = k' + 1 := ⟨k - 1, by omega⟩
    simp only [Nat.add_sub_cancel]
    have h1 : (a + 1) * a + 2 * (a + 1) ≤ (k + 1) * k := by
      have : a + 1 ≤ k := by omega
      calc (a + 1) * a + 2 * (a + 1) = (a + 1 + 1) * (a + 1) := by rw [Nat.add_mul (a+1) 1 (a+1), Nat.mul_add (a + 1) a 1]; omega
        _ ≤ (k + 1) * k := Nat.mul_le_mul (by omega) this
    omega
  unfold fc bt
  by_cases z : i = j
  · rw [if_pos z, if_pos z]
  · rw [if_neg z, if_neg z]
    by_cases y : j < i
    · rw [if_pos y, if_pos y, key _ (lt i j hi y)]
    · rw [if_neg y, if_neg y, key _ (lt j i hj (by omega))]
theorem fc_new {g x k q : Nat} (hg : g < 2 ^ (k * (k - 1) / 2)) (hq : q < k) : fc (g ||| x <<< (k * (k - 1) / 2)) k q = 1 ↔ x.testBit q = true := by
  rw [fc_one]
  unfold bt
  rw [if_neg (by omega), if_pos hq, Nat.testBit_or, Nat.testBit_lt_two_pow (Nat.lt_of_lt_of_le hg (Nat.pow_le_pow_right (by omega) (by omega))), Bool.false_or, Nat.testBit_shiftLeft, decide_eq_true (by omega), Bool.true_and, Nat.add_sub_cancel_left]
theorem pts_range {k : Nat} (h : k ≤ 10) : Pts (List.range k) := ⟨List.nodup_range, by rw [List.length_range]; exact h, fun p hp => by have := List.mem_range.mp hp; omega⟩
/-- one point more -/
theorem WF.next {g k : Nat} {w : List Nat} {a b : Nat} (h : WF (fc g) (List.range k) w) (hk : k ≤ 9) (hk1 : 1 ≤ k) (hg : g < 2 ^ (k * (k - 1) / 2)) (hab : a ≤ b) (hb : b ≤ w.length) :
    WF (fc (g ||| (((pms 0 w).getD a 0) ^^^ ((pms 0 w).getD b 0)) <<< (k * (k - 1) / 2))) (List.range (k + 1)) (Gf.ins w a b (97 + k)) ∧ g ||| (((pms 0 w).getD a 0) ^^^ ((pms 0 w).getD b 0)) <<< (k * (k - 1) / 2) < 2 ^ ((k + 1) * k / 2) := by
  have hlow : ∀ c ∈ w, 97 ≤ c ∧ c < 97 + k := fun c hc => by
    obtain ⟨p, hp, e⟩ := List.mem_map.mp (h.mem.mp hc)
    have hp := List.mem_range.mp hp
    have e : 97 + p = c := e
    omega
  have hx : ((pms 0 w).getD a 0) ^^^ ((pms 0 w).getD b 0) < 2 ^ k := by
    have := pms_lt (k := k) w 0 (fun c hc => (hlow c hc).2) (Nat.pow_pos (by omega)) hk1
    exact Nat.xor_lt_two_pow (getD_lt this (Nat.pow_pos (by omega))) (getD_lt this (Nat.pow_pos (by omega)))
  have hT : (k + 1) * k / 2 = k * (k - 1) / 2 + k := by
    obtain ⟨k, rfl⟩ : ∃ k', k = k' + 1 := ⟨k - 1, by omega⟩
    simp only [Nat.add_sub_cancel]
    have : (k + 1 + 1) * (k + 1) = (k + 1) * k + (k + 1) * 2 := by rw [← Nat.mul_add, Nat.mul_comm]
    omega
  generalize hxx : ((pms 0 w).getD a 0) ^^^ ((pms 0 w).getD b 0) = x at hx ⊢
  refine ⟨?_, ?_⟩
  · rw [List.range_succ]
    refine (h.congrF fun p hp q hq _ => by rw [fc_more hg (List.mem_range.mp hp) (List.mem_range.mp hq)]).ins (by rw [← List.range_succ]; exact pts_range (by omega)) (fun q _ => fc_symm _ _ _) hab fun q hq => ?_
    rw [fc_new hg (List.mem_range.mp hq), ← hxx]
    refine (pms_slice hab hb (fun c hc => (hlow c hc).1) ?_).symm
    rw [h.cnt]
    split <;> omega
  · rw [hT]
    refine Nat.or_lt_two_pow (Nat.lt_of_lt_of_le hg (Nat.pow_le_pow_right (by omega) (by omega))) ?_
    rw [Nat.shiftLeft_eq, Nat.add_comm, Nat.pow_add]
    exact Nat.mul_lt_mul_of_pos_right hx (Nat.pow_pos (by omega))
/-- a word by places: what it is and its web -/
def gen : Nat → Nat → Nat → List Nat → Nat → Option (Nat × List Nat)
  | 0, _, _, w, g => some (g, w)
  | s + 1, c, k, w, g =>
    let b := c % 16
    let a := c / 16 % 16
    if a ≤ b ∧ b ≤ w.length then gen s (c / 256) (k + 1) (ins w a b (97 + k)) (g ||| (((pms 0 w).getD a 0) ^^^ ((pms 0 w).getD b 0)) <<< (k * (k - 1) / 2)) else none
theorem gen_ok : ∀ (s c k : Nat) (w : List Nat) (g : Nat), k + s ≤ 10 → 1 ≤ k → WF (fc g) (List.range k) w → g < 2 ^ (k * (k - 1) / 2) → ∀ {g' w'}, gen s c k w g = some (g', w') → WF (fc g') (List.range (k + s)) w' ∧ g' < 2 ^ ((k + s) * (k + s - 1) / 2)
  | 0, c, k, w, g, hk, hk1, h, hg, g', w', e => by
    injection e with e
    injection e with e1 e2
    subst e1 e2
    exact ⟨h, hg⟩
  | s + 1, c, k, w, g, hk, hk1, h, hg, g', w', e => by
    unfold gen at e
    simp only [] at e
    split at e
    · rename_i hab
      obtain ⟨h1, h2⟩ := h.next (by omega) hk1 hg hab.1 hab.2
      have := gen_ok s (c / 256) (k + 1) _ _ (by omega) (by omega) h1 h2 e
      rw [show k + (s + 1) = k + 1 + s by omega]
      exact this
    · cases e
theorem wf_one : WF (fc 0) (List.range 1) [97, 97] := by
  refine ⟨fun c => ?_, fun p hp q hq hne => ?_⟩
  · by_cases z : c = 97
    · subst z; decide
    · rw [List.count_eq_zero.mpr (by simp; omega), if_neg (by simp; omega)]
  · simp at hp hq
    omega
/-- the differences of two places' marks, as bits -/
def dif : List Nat → Nat
  | [] => 0
  | m :: r => (m :: r).foldl (fun d x => d ||| 1 <<< (m ^^^ x)) (dif r)
theorem fold_bit {N m : Nat} : ∀ (l : List Nat) (d : Nat), (l.foldl (fun d x => d ||| 1 <<< (m ^^^ x)) d).testBit N = true → d.testBit N = true ∨ ∃ i, i < l.length ∧ N = m ^^^ l.getD i 0
  | [], d, h => .inl h
  | x :: l, d, h => by
    rcases fold_bit l _ h with h | ⟨i, hi, e⟩
    · rw [Nat.testBit_or, Bool.or_eq_true, one_shl, decide_eq_true_iff] at h
      rcases h with h | h
      · exact .inl h
      · exact .inr ⟨0, by simp, h.symm⟩
    · exact .inr ⟨i + 1, by simpa using hi, e⟩
theorem dif_bit {N : Nat} : ∀ (l : List Nat), (dif l).testBit N = true → ∃ a b, a ≤ b ∧ b < l.length ∧ N = l.getD a 0 ^^^ l.getD b 0
  | [], h => by simp [dif] at h
  | m :: l, h => by
    rcases fold_bit (m :: l) _ h with h | ⟨i, hi, e⟩
    · obtain ⟨a, b, h1, h2, h3⟩ := dif_bit l h
      exact ⟨a + 1, b + 1, by omega, by simpa using h2, h3⟩
    · exact ⟨0, i, by omega, hi, e⟩
def Z : List Nat := [7915, 7916, 7922, 7925, 8027, 8028, 8049, 8054, 8090, 8093, 8105, 8110, 11755, 11756, 11762, 11765, 12111, 12118, 12133, 12156, 12174, 12183, 12195, 12218, 13787, 13788, 13809, 13814, 14031, 14038, 14053, 14076, 14221, 14227, 14247, 14265, 14810, 14813, 14825, 14830, 15054, 15063, 15075, 15098, 15181, 15187, 15207, 15225, 19835, 19836, 19898, 19901, 20079, 20086, 20142, 20151, 20269, 20275, 20460, 20466, 21755, 21756, 21945, 21950, 22111, 22133, 22174, 22195, 22301, 22327, 22492, 22513, 22778, 22781, 22905, 22910, 23134, 23149, 23199, 23211, 23323, 23343, 23514, 23529, 25839, 25846, 25951, 25973, 26014, 26029, 26279, 26302, 26391, 26429, 26582, 26597, 26862, 26871, 26974, 26995, 27039, 27051, 27239, 27262, 27407, 27451, 27598, 27619, 28909, 28915, 29021, 29047, 29083, 29103, 29271, 29309, 29327, 29371, 29645, 29651, 31980, 31986, 32092, 32113, 32154, 32169, 32342, 32357, 32398, 32419, 32525, 32531]
def zm (g : Nat) : Nat := Z.foldl (fun d z => if z % 1024 = g then d ||| 1 <<< (z / 1024) else d) 0
theorem zm_bit {g N : Nat} (h : (zm g).testBit N = true) : N * 1024 + g ∈ Z := by
  have key : ∀ (l : List Nat) (d : Nat), (l.foldl (fun d z => if z % 1024 = g then d ||| 1 <<< (z / 1024) else d) d).testBit N = true → d.testBit N = true ∨ N * 1024 + g ∈ l := by
    intro l
    induction l with
    | nil => intro d h; exact .inl h
    | cons z l ih =>
      intro d h
      rcases ih _ h with h | h
      · have h : (if z % 1024 = g then d ||| 1 <<< (z / 1024) else d).testBit N = true := h
        split at h
        · rename_i e
          rw [Nat.testBit_or, Bool.or_eq_true, one_shl, decide_eq_true_iff] at h
          rcases h with h | h
          · exact .inl h
          · exact .inr (by rw [show N * 1024 + g = z by omega]; exact List.mem_cons_self ..)
        · exact .inl h
      · exact .inr (List.mem_cons_of_mem _ h)
  rcases key Z 0 h with h | h
  · simp at h
  · exact h
/-- the codes of five-point words suffice for g -/
def okG (g : Nat) (cs : List Nat) : Bool := (cs.all fun c => match gen 4 c 1 [97, 97] 0 with | some (g', _) => g' == g | none => false) && (!cs.isEmpty) && (cs.foldl (fun d c => d ||| match gen 4 c 1 [97, 97] 0 with | some (_, w) => dif (pms 0 w) | none => 0) (zm g)) % 4294967296 == 4294967295
theorem okG_six {g : Nat} {cs : List Nat} (h : okG g cs = true) {N : Nat} (hN : N < 32) : N * 1024 + g ∈ Z ∨ ∃ w, WF (fc (g ||| N <<< 10)) (List.range 6) w := by
  unfold okG at h
  simp only [Bool.and_eq_true, beq_iff_eq] at h
  obtain ⟨⟨h1, -⟩, h3⟩ := h
  have hb : (cs.foldl (fun d c => d ||| match gen 4 c 1 [97, 97] 0 with | some (_, w) => dif (pms 0 w) | none => 0) (zm g)).testBit N = true := by
    have := Nat.testBit_mod_two_pow (cs.foldl (fun d c => d ||| match gen 4 c 1 [97, 97] 0 with | some (_, w) => dif (pms 0 w) | none => 0) (zm g)) 32 N
    rw [show (2 : Nat) ^ 32 = 4294967296 from rfl, h3, decide_eq_true hN, Bool.true_and] at this
    rw [← this, show (4294967295 : Nat) = 2 ^ 32 - 1 from rfl, Nat.testBit_two_pow_sub_one, decide_eq_true hN]
  have key : ∀ (l : List Nat) (d : Nat), (l.foldl (fun d c => d ||| match gen 4 c 1 [97, 97] 0 with | some (_, w) => dif (pms 0 w) | none => 0) d).testBit N = true → d.testBit N = true ∨ ∃ c ∈ l, ∃ g' w, gen 4 c 1 [97, 97] 0 = some (g', w) ∧ (dif (pms 0 w)).testBit N = true := by
    intro l
    induction l with
    | nil => intro d h; exact .inl h
    | cons c l ih =>
      intro d h
      rcases ih _ h with h | ⟨c', hc', r⟩
      · have h : (d ||| match gen 4 c 1 [97, 97] 0 with | some (_, w) => dif (pms 0 w) | none => 0).testBit N = true := h
        rw [Nat.testBit_or, Bool.or_eq_true] at h
        rcases h with h | h
        · exact .inl h
        · refine .inr ⟨c, List.mem_cons_self .., ?_⟩
          cases e : gen 4 c 1 [97, 97] 0 with
          | none => rw [e] at h; simp at h
          | some q => rw [e] at h; exact ⟨q.1, q.2, rfl, h⟩
      · exact .inr ⟨c', List.mem_cons_of_mem _ hc', r⟩
  rcases key cs _ hb with h | ⟨c, hc, g', w, e, h⟩
  · exact .inl (zm_bit h)
  · right
    have hg := List.all_eq_true.mp h1 c hc
    rw [e] at hg
    have hg : g' = g := by simpa using hg
    subst hg
    obtain ⟨q1, q2⟩ := gen_ok 4 c 1 _ 0 (by omega) (by omega) wf_one (by decide) e
    obtain ⟨a, b, k1, k2, k3⟩ := dif_bit _ h
    rw [pms_len] at k2
    have := (q1.next (by omega) (by omega) q2 k1 (by omega)).1
    rw [← k3] at this
    exact ⟨_, this⟩
def tb0 : List (List Nat) := [[286331153, 387257105, 1427443985, 2285048593, 386994449], [286331154, 353571090, 572657938], [286331921, 639898641, 858985489], [286331922, 606213138, 1144198162], [286331409, 387256849, 1717965329], [286331410, 606212626, 1716851218], [286336017, 606217233, 1716855825], [286331666, 606212882, 1144197906], [286658833, 890639121, 857088529], [286658834, 323293458, 573968658], [286659601, 608506897, 1143280657], [286659602, 573838354, 571872274], [286659089, 638980625], [286659090, 857084434, 571871762, 1142297106], [286663697, 857089041, 571876369, 1142301713], [286659346, 857084690, 571872018, 1712722706], [286527761, 639832849, 1712473105], [286527762, 324407570, 573837586], [287511569, 639833105], [287511570, 857936914, 572724242, 1143149586], [286528017, 388174353, 2286227985], [286528018, 576066066, 571740690], [286401553, 571614225, 1997677585, 856826897], [287511314, 857936658, 572723986, 1143149330], [289804561, 891691537, 1998865425], [286593298, 323358994, 573903122], [288691217, 859116561, 573903889, 1144329233], [287577106, 858002450, 572789778, 1713640466], [289804817, 575017489, 2001080849, 860230161], [286593554, 857018898, 571806226, 1142231570], [287712273, 858137617, 572924945, 1428562961], [286593810, 571806482, 1142231826, 1712657170], [286396689, 388178449, 289752081], [286396690, 353505554], [286397457, 890508305, 861279249], [286397458, 571610130, 1427248146, 856822802], [286396945, 388305425, 2285113873], [286396946, 571609618, 1997672978, 856822290], [286532625, 576070673, 571745297], [286397202, 571609874, 1427247890, 856822546], [287707409, 891687697, 857031697], [287707410, 572920082, 1428558098, 858132754], [286594065, 608572433, 1143346193], [286594066, 571806738, 1142232082, 1427444754], [287707665, 858133009, 1143345681, 1428558353], [287707666, 858133010, 572920338, 1428558354], [286598161, 857023505, 571810833, 1142236177], [287707922, 858133266, 572920594, 1428558610], [287576337, 387126033, 2282955281], [287576338, 572789010, 1998852370, 858001682], [286462993, 856888337, 1142101009, 1427313681], [286462994, 856888338, 571675666, 1427313682], [286462481, 388239889, 2285179409], [286462482, 571675154, 1997738514, 1427313170], [286467089, 571679761, 1997743121, 1427317777], [286462738, 856888082, 571675410, 1427313426], [288756497, 572867601, 573969169], [287641874, 572854546, 1428492562, 858067218], [288756753, 859182097, 573969425, 1144394769], [286528530, 856953874, 571741202, 1427379218], [288756241, 573968913, 2000032273, 1429606929], [287642130, 858067474, 572854802, 1428492818], [287646737, 858072081, 572859409, 1428497425], [286528274, 573969170, 571740946]]
theorem tb0_ok : ((List.range 64).all fun i => okG (0 + i) (tb0.getD i [])) = true := by decide +kernel
def tb1 : List (List Nat) := [[403771665, 404034321, 404890129], [403771666, 1477644562, 1730285842], [403772433, 656675857, 1731400721], [403772434, 657658898, 940643346], [403771921, 404034065], [403771922, 940642834, 404886034, 1730286098], [403776529, 940647441, 404890641, 1730290705], [403772178, 940643090, 404886290, 1445073682], [404099345, 655758097, 1729503761], [404099346, 944050450, 406196498], [404100113, 658838545, 656741393], [404100114, 657724434], [404099601, 655757841], [404099602, 655757842], [404104209, 655762449], [404099858, 655758098], [403968273, 404951825], [403968274, 942936338, 1729368338, 406065426], [404952081, 656610321], [404952082, 656610322], [403968529, 404951569], [403968530, 404951570], [403842065, 1729242129], [404951826, 1445139218], [407245073, 944115985, 405152273, 1730552337], [404033810, 943001874, 1444221202, 406130962], [406131729, 657789969], [405017618, 656675858], [407245329, 1732645393], [404034066, 1444221458], [405152785, 1445340177], [404034322, 1159009042], [403837201, 404955665], [403837202, 1477579026], [403837969, 1192367121, 403969041, 1729369105], [403837970, 1192367122], [403837457, 405082641], [403837458, 1729237522], [403973137, 404956177], [403837714, 1444025106], [405147921, 1193677073, 405148433, 1730548497], [405147922, 1193677074], [404034577, 907351057, 407245841, 908465169], [404034578, 907351058], [405148177, 1730548241], [405148178, 1445335570], [404038673, 1444226065], [405148434, 1160123154], [405016849, 403903249], [405016850, 1730416914], [403903505, 1729303569], [403903506, 1444090898], [403902993, 405017105], [403902994, 1729303058], [403907601, 1729307665], [403903250, 1444090642], [406197009, 406200849], [405082386, 1445269778], [406197265, 1446384657], [403969042, 1158943762], [406196753, 1731596817], [405082642, 1445270034], [405087249, 1445274641], [403968786, 405082898]]
theorem tb1_ok : ((List.range 64).all fun i => okG (64 + i) (tb1.getD i [])) = true := by decide +kernel
def tb2 : List (List Nat) := [[370217233, 873796369, 306463761], [370217234, 1444090130, 2015498514], [1158747153, 874779665], [1158747154, 622990354, 1729172498, 1159861266], [370217489, 873796113, 1195643409], [370217490, 592777746, 907088402], [336667665, 307569681, 873538577, 337781777], [1158746898, 622990098, 2014384914, 1159861010], [622203153, 873861905], [622203154, 1161171218, 1159074066, 1731596562], [873862161, 874845201], [873862162, 874845202], [622203409, 873861649], [622203410, 873861650], [588653585, 1159078929], [873861906, 1729499922], [370413841, 1445139217, 622076433], [370413842, 878055698, 372510994], [623055889, 874714129], [623055890, 874714130], [370414097, 591729169, 873730577], [370414098, 592843282], [336733201, 588391441], [623055634, 874713874], [340136209, 304366609, 877007121, 908468753], [622137618, 1161105682, 1159008530, 2016743698], [590681105, 1161106449], [874779666, 1730417682], [340136465, 591794705], [622137874, 873796114], [304489489, 1160127505], [873796370, 2014647058], [370282769, 306529297], [370282770, 1444024594], [1158812689, 873731089], [1158812690, 1729238034], [370283025, 874844689, 1158812177, 1445270033], [370283026, 1158812178], [588522513, 304292881], [1158812434, 2014450450], [1160122641, 874910481], [1160122642, 1730547986], [873796625, 874910737], [873796626, 1444221970], [874910225, 1445335569], [874910226, 1730548242], [588588049, 1159013393], [874910482, 1730548498], [371462417, 873665297, 1159991569, 1444090641], [371462418, 1159991570], [873665553, 1444090897], [873665554, 1729303570], [370348561, 590680593, 873665041, 371462673], [370348562, 873665042], [588456977, 1444094993], [873665298, 2014515986], [590746385, 305537553], [1160057106, 2015695122], [590746641, 1161171985], [873731090, 1729369106], [590746129, 1446384145], [874844690, 2015695378], [304423953, 1160061969], [873730834, 874844946]]
theorem tb2_ok : ((List.range 64).all fun i => okG (128 + i) (tb2.getD i [])) = true := by decide +kernel
def tb3 : List (List Nat) := [[1745948945, 673456657, 609567761], [386994450, 1460867346, 1747063058], [1460737041, 926094353, 1461851153, 1462965265], [1175524370, 639767570, 1460737042, 1176638482], [1745949201, 1747063313, 1181094417, 1748177425], [386994706, 923865618, 388108818, 1747063314], [1209082897, 673326097, 1460741137, 1210197009], [386994962, 389223186, 923865874, 1176638226], [1461063953, 1463161105, 924197393, 1461068305], [638980370, 1177948434, 1175851282, 1463161106], [1175852049, 1176835089], [890639378, 891622418], [1461064209, 1213600273], [638980626, 1461064210], [924197905, 1175856145], [638980882, 890639122], [1746145553, 1175602193, 1748242705, 1746149905], [387191058, 926159122, 1746145554, 389288210], [1461916689, 926159889], [639833106, 1461916690], [1746145809, 1747128849], [387191314, 388174354], [1209148433, 1460806673], [388174610, 639832850], [1212551441, 1462116881, 1464209681, 673587729], [387256594, 1175785746, 1212551442, 389353746], [926225425, 1177883665], [639898642, 891556882], [1212551697, 1464209937], [387256850, 638915090], [673588241, 925246481], [387257106, 638915346], [1746014481, 673391121], [387059986, 1460801810], [1460802577, 894833681], [1175589906, 1460802578], [1746014737, 1748242961], [387060242, 1746014738], [673391633, 676733969], [387060498, 1175589650], [1462112529, 890586129], [1176899858, 1462112530], [1175786513, 1176900625], [890573842, 1175786514], [1462112785], [1462112786], [1175790609], [891687698], [1747194129, 1746084369], [388239634, 1747194130], [1460868113], [1460868114], [1746080273, 1747194385], [387125778, 1746080274], [1460872209], [387126034], [674636305, 673530897], [388305170, 1176834322], [1177949201], [890508306], [1463161361], [388305426], [673522705, 1176839185], [387191570, 388305682]]
theorem tb3_ok : ((List.range 64).all fun i => okG (192 + i) (tb3.getD i [])) = true := by decide +kernel
def tb4 : List (List Nat) := [[336662801, 873800209, 1729184785], [336662802, 588452114], [336663569, 2015630353, 372446225], [336663570, 305337362, 873534482, 337777682], [336663057, 1159008785, 656544273], [336663058, 307565074, 873533970, 337777170], [370222097, 592782353, 907093009], [336663314, 305337106, 873534226, 337777426], [588648721, 873865745], [588648722, 305533202], [588649489, 622203921, 304419857, 2015695889], [588649490, 304419858], [588648977, 907416081], [588648978, 1159074322], [622208017, 873866257], [588649234, 1444287250], [588517649, 1729250321], [588517650, 305402130], [304288785, 371397649], [304288786, 2015564818], [588517905, 656609809, 1158943249, 304288273], [588517906, 304288274], [370287633, 1158816785], [304288530, 1730351890], [306581777, 874914321], [588583186, 305467666], [305468433, 2016744465], [304354322, 2015630354], [306582033, 877007377], [588583442, 1159008786], [874914833, 1730552849], [588583698, 1444221714], [336728337, 874717713, 2017805329], [336728338, 588386578], [336729105, 2014581777, 370283537], [336729106, 588387346], [336728593, 1160057361, 1192366609], [336728594, 588386834], [370418705, 592847889], [336728850, 588387090], [304484625, 908464401, 1444234257, 908464913], [304484626, 874909970], [588583953, 622138385, 304485393, 1730548753], [588583954, 2014647314], [304484881, 908464657], [304484882, 1160122898], [622142481, 873800721], [304485138, 1445335826], [304353553, 656675089, 873669137, 370348817], [304353554, 874778898], [370349073, 588452881], [588452882, 2014516242], [588452369, 656675345, 1444090385, 304353809], [588452370, 1444090386], [370353169, 873669649], [588452626, 1729303314], [305533713, 590750225], [304419090, 874844434], [305533969, 1731597329], [588518418, 2014581778], [305533457, 1161171473], [304419346, 1160057362], [874849297, 2015699985], [588518162, 304419602]]
theorem tb4_ok : ((List.range 64).all fun i => okG (256 + i) (tb4.getD i [])) = true := by decide +kernel
def tb5 : List (List Nat) := [[1209078033, 673452817, 388121617], [1209078034, 673321234, 675549458, 1210192146], [386995217, 673453073, 1748177937], [386995218, 389223442, 923866130, 1210192914], [1209078289, 673321489, 674435601, 675549713], [1209078290, 673321490, 1460736530, 1210192402], [386999313, 923870225, 388113425, 1747067921], [1209078546, 673321746, 1460736786, 1210192658], [924193041, 674631953, 924193553, 1461064465], [924193042, 674631954], [638981137, 1461064721, 388305937, 673518609], [638981138, 388305938], [924193297, 676729361], [924193298, 1175851538], [638985233, 1461068817], [924193554, 1175851794], [674500881, 673387281], [674500882, 676729106], [388174865, 673387537], [388174866, 673387538], [673387025, 675615249], [673387026, 676729362], [387064849, 1746019345], [673387282, 1461916434], [675680529, 388252689], [674566418, 675680530], [389354513, 674567185], [388240402, 673453074], [675680785], [1175786002], [1462117393], [1175786258], [1209143569, 673517841, 390415377, 1746146065], [1209143570, 673386770], [387060753, 1209144337, 387191825, 1746146321], [387060754, 1209144338], [1209143825, 673518097], [1209143826, 1460802066], [387195921, 388178961], [1209144082, 1460802322], [673583377, 1462113041, 925241617, 673583889], [673583378, 925241618], [387257361, 1462113297, 638915601, 673584145], [387257362, 638915602], [673583633, 925241873], [673583634, 925241874], [387261457, 638919697], [673583890, 925242130], [673452305, 1746080529], [673452306], [387126289, 1746080785], [387126290], [673452561, 674566673], [1460867602], [387130385, 1746084881], [1460867858], [674632465, 388318225], [673517842], [674632721, 1463161873], [387191826], [674632209], [673518098, 1176834578], [388310033], [673518354, 674632466]]
theorem tb5_ok : ((List.range 64).all fun i => okG (320 + i) (tb5.getD i [])) = true := by decide +kernel
def tb6 : List (List Nat) := [[1175523601, 605360913, 325460497], [1175523602, 639766802, 609554706, 1176637714], [353440785, 322114577, 324342801, 355669009], [353440786, 890311698, 354554898, 1747063826], [353440273, 890573329, 1462964753], [353440274, 324342290, 890311186, 1176637970], [353444881, 324346897, 890315793, 1176642577], [353440530, 890311442, 354554642, 1747063570], [890638609, 605426449], [890638610, 608506130], [605426705, 323294225], [605426706, 322180114], [605426193, 890638865], [605426194, 890638866], [605430801, 890643473], [605426450, 1461064466], [890507537, 354620177, 640946449, 1461916433], [890507538, 640946450], [354620433, 322180113], [354620434, 1747129362], [605295121, 1461916177, 890507793, 354619921], [605295122, 354619922], [353510417, 1175594001], [354620178, 1747129106], [608571665, 1176904209], [890573074, 608571666], [322245649], [1747194898], [323359249, 608571921], [605360658, 890573330], [891692049], [605360914], [1175589137, 891621649, 354624017, 605295377], [1175589138, 639832338], [353506321, 605295633], [353506322, 1746015250], [353505809, 891621905, 1175589393, 1176834577], [353505810, 1175589394], [605299729, 354624529], [353506066, 1746014994], [891687185, 1176900369], [891687186], [605361169, 323359761], [605361170], [891687441, 1176900113], [891687442], [605365265, 890577937], [1462113042], [639897873, 1460867857, 891556113, 353571601], [639897874, 891556114], [353571857, 605230097], [353571858, 605230098], [353571345, 1460867601, 639898129, 891556369], [353571346, 605229586], [353575953, 605234193], [353571602, 605229842], [322310929, 322314769], [891621650], [322311185], [605295634, 1746146322], [322310673, 1177948689], [891621906], [891626513], [605295378, 322310930]]
theorem tb6_ok : ((List.range 64).all fun i => okG (384 + i) (tb6.getD i [])) = true := by decide +kernel
def tb7 : List (List Nat) := [[1477514001, 656557073, 1478628113], [1192300818, 656544018, 658772242, 1193414930], [1477514257, 942871569, 1478628369, 1479742481], [370218002, 907088914, 371332114, 1478628370], [1477513745, 1478627857, 912658961, 943985169], [1192301074, 656544274, 1477513746, 1193415186], [1192305681, 656548881, 1477518353, 1193419793], [370217746, 657658642, 907088658], [1192629009, 1192632849], [907415826, 658837778], [1192629265, 944051217], [622203922, 372511762], [1192628753, 945164817], [907416082, 1192628754], [907420689, 1192633361], [622203666, 907416338], [1478693649, 1477583377], [657723666, 626397458], [1478693905, 942937105], [371397650, 1478693906], [1478693393, 944050705], [656609810, 626397714], [1192371217, 1477583889], [371397394, 656610066], [1193681425, 656688145], [907350290, 657789202], [943002641], [371463186], [944116241], [907350546], [908469265, 1193681937], [622138130, 907350802], [1477579537, 1478697489], [1192366354, 656609554], [1477579793, 945165329], [370283538, 1477579794], [1477579281, 942936593], [1192366610, 1477579282], [656614417, 626402321], [370283282, 1192366866], [1193677585, 907363345], [908464402], [1193677841, 944116753], [622138386], [1193677329], [908464658, 1193677330], [907355153], [908464914, 1193677586], [1477645073, 1477648913], [656675090], [1477645329], [370349074, 1477645330], [1477644817, 943002129], [1477644818], [1477649425], [370348818, 1477645074], [943067921, 943071761], [656740626, 908398866], [943068177, 1194726417], [370414610, 622072850], [943067665, 1194725905], [656740882, 908399122], [656745489, 908403729], [370414354, 656741138]]
theorem tb7_ok : ((List.range 64).all fun i => okG (448 + i) (tb7.getD i [])) = true := by decide +kernel
def tb8 : List (List Nat) := [[303108369, 875762449, 1734742289], [303108370, 589435154], [303109137, 875762705], [303109138, 589435922], [303108625, 1734742545], [303108626, 589435410], [303113233, 589440017], [303108882, 589435666], [303436049, 370545425, 2014716433], [303436050, 336990482, 1162154258, 339087634], [303436817, 623186961, 2014712849, 589632529], [303436818, 589632530], [303436305, 370545169], [303436306, 2014712338], [303440913, 2014716945], [303436562, 2014712594], [303304977, 908268305, 873612305], [303304978, 336859410, 1448481042, 338956562], [589501457, 908268561], [589501458, 1159926802], [303305233, 655626769, 589500945, 1159926289], [303305234, 589500946], [303178769, 873604113], [589501202, 1159926546], [373690641, 589579281, 910561553], [303370514, 336924946, 1162219794, 339022098], [624235537, 875893777], [589566994, 1445205010], [373690897, 1162220049], [303370770, 1729434130], [589702161, 2015765521], [303371026, 1729434386], [303173905, 908272145, 1732592657], [303173906, 621941010], [303174673, 907154449, 1448481809, 907285521], [303174674, 873600018], [303174161, 655495697, 875827729, 371528209], [303174162, 873599506], [303309841, 589505553], [303174418, 873599762], [338039057, 2015761169, 371593489], [338039058, 589697298], [303371281, 623252497, 1729434641, 589698065], [303371282, 1729434642], [371593745, 589697553], [589697554, 2015760914], [303375377, 1729438737], [589697810, 2015761170], [337907985, 1158877969, 1193546001], [337907986, 589566226], [303240209, 907219985], [303240210, 1158878226], [303239697, 655561233, 589566481, 1445204497], [303239698, 1158877714], [303244305, 1158882321], [303239954, 1158877970], [372642577, 589644817], [337973522, 589631762], [624301073, 875959313], [303305746, 1444156434], [372642321, 875958801], [589632018, 1730482706], [589636625, 1730487313], [303305490, 589632274]]
theorem tb8_ok : ((List.range 64).all fun i => okG (512 + i) (tb8.getD i [])) = true := by decide +kernel
def tb9 : List (List Nat) := [[672207121, 672469777, 392569361], [672207122, 672338194, 1464078610, 1209209106], [672207889, 925111313, 924980241, 1461982225], [672207890, 924980242], [672207377, 672469521], [672207378, 1179980306], [672211985, 1179984913], [672207634, 1177752338], [387322129, 672535313, 1746280977], [387322130, 1209405714, 1178931474, 389419282], [387322897, 1462047761, 672535569, 639964177], [387322898, 639964178], [387322385, 672535057], [387322386, 672535058], [387326993, 672539665], [387322642, 672535314], [672403729, 1211371793, 672277009, 672408081], [672403730, 1211371794, 1209274642, 1463030034], [925045777, 1463030801], [925045778, 1176704018], [672403985, 1749357073], [672403986, 391516690], [672277521], [1176703762], [390467857, 927338769, 388375057, 1747329553], [672469266, 1211437330, 1209340178, 1463095570], [641012753, 1463096337], [925111314, 1176769554], [390468113, 1749422609], [672469522, 1460998674], [388375569], [672469778], [672272657, 1210388753, 672273169, 672404241], [672272658, 1210257682], [672273425, 1460933649, 923931665, 672404497], [672273426, 923931666], [672272913, 1747259921], [672272914], [672408593, 391521297], [672273170], [388370705, 1210454289, 388371217, 1747325713], [388370706, 1210454290], [672470033, 1460999185, 388371473, 640029713], [672470034, 924128274], [388370961, 1747325457], [388370962], [672474129, 1461003281], [388371218], [1210323217, 672338705], [1210323218, 1461981458], [672338961, 923997201], [672338962, 923997202], [672338449, 1748308497], [672338450], [672343057], [672338706, 1175655186], [389419793, 389423633], [1210388754, 1462046994], [389420049, 641078289], [672404498, 924062738], [389419537, 1748374033], [1462047250], [1462051857], [672404242, 389419794]]
theorem tb9_ok : ((List.range 64).all fun i => okG (576 + i) (tb9.getD i [])) = true := by decide +kernel
def tb10 : List (List Nat) := [[638652689, 606343953, 321012753], [638652690, 638783762, 1750405394, 1175654674], [891425809, 606344209], [891425810, 607327250], [638652945, 353702417, 891425297, 1460998673], [638652946, 891425298], [605103121, 321004561], [891425554, 607326994], [353767697, 892735761, 320217617, 353772049], [353767698, 892735762, 1746276626, 355864850], [606409745, 893719569], [606409746, 607392786], [353767953, 1180045841], [353767954, 1746276882], [320218129], [1746277138], [353636625, 1176703761, 605168145], [353636626, 1175720210, 1465258258, 355733778], [606278673, 891491345], [606278674, 891491346], [353636881, 1460933137, 606278161, 891490833], [353636882, 606278162], [319955985, 605168657], [606278418, 891491090], [356913425, 321143825, 893784337, 321266193], [353702162, 892670226, 1746211090, 355799314], [607458321, 892670993], [606344210, 1461982226], [356913681, 1178997265], [353702418, 1746211346], [321266705], [1746211602], [638718225, 1462046993, 890376977, 1175720721], [638718226, 1176703250], [890377233, 1175720977], [890377234], [638718481, 1462047249, 890376721, 354750993], [638718482, 890376722], [320087057, 321070097], [890376978], [354816273, 606475025], [354816274, 1747325202], [606475281, 893785105], [1460999186], [354816529, 606474769], [354816530, 606474770], [320152593], [606475026, 1747325714], [354685201, 890442513, 1176768785, 1175655185], [354685202, 1176768786], [890442769, 1175655441], [890442770], [638784017, 1461981713, 890442257, 354685457], [638784018, 890442258], [320021521, 1175659537], [890442514], [607523601, 355869201], [354750738, 1747259666], [607523857, 892736529], [1460933650], [355865105, 607523345], [354750994, 606409234], [321201169], [606409490, 607523602]]
theorem tb10_ok : ((List.range 64).all fun i => okG (640 + i) (tb10.getD i [])) = true := by decide +kernel
def tb11 : List (List Nat) := [[1477775633, 908215313, 1479872785], [655429906, 655560978, 1480855826, 1192431890], [1193546769, 1194529809], [908203026, 1194529810], [1477775889, 1480856081], [655430162, 374673938], [941761553, 911549457], [655430418, 908202770], [1477841169, 1479938321, 940974609, 1477845521], [370544914, 909512978, 1477841170, 372642066], [1193612305, 910496785], [623186962, 624170002], [1477841425, 1196823057], [370545170, 1477841426], [940975121], [370545426], [1477710097, 907166737, 1479807249, 940712465], [655626514, 1194594578, 1192497426, 1479807250], [1193481233, 1194595345], [908268562, 1193481234], [1477710353, 1480921617], [655626770, 374739474], [940712977], [908268306], [1195774225, 1478894097, 1480986897, 656810513], [370479378, 910561554, 372576530], [909448209, 1194660881], [623121426, 908334098], [1195774481, 1480987153], [370479634, 655692306], [656811025, 942023697], [370479890, 655692562], [1478824209, 941826577], [655495442, 1193480466], [1192498193, 911610897], [907154450], [1478824465, 1479807505], [655495698], [940844049, 941827089], [655495954, 907154194], [1478889745, 940917777], [371593490, 1478889746], [1192563729, 910562321], [1192563730], [1478890001], [371593746, 1478890002], [940909585, 1192567825], [371594002, 623252242], [1478758673, 940778001], [1193546002, 1478758674], [1192432657], [907219986, 1192432658], [1478758929, 1479873041], [655561234], [940778513, 1192436753], [655561490, 907219730], [657859089, 623199249], [371527954, 1193611538], [909513745], [907285522, 1192498194], [1479938577], [371528210, 1478824466], [941958161, 1193616401], [655627026, 371528466]]
theorem tb11_ok : ((List.range 64).all fun i => okG (704 + i) (tb11.getD i [])) = true := by decide +kernel
def tb12 : List (List Nat) := [[605098257, 606347793, 1179993105], [605098258, 320016658], [605099025, 321131537, 1750406161, 354685969], [605099026, 321000466], [605098513, 320147985, 1177752081, 924127761], [605098514, 320999954], [638657553, 891429905], [605098770, 321000210], [320213265, 641077521, 320213777, 353768209], [320213266, 607523090], [320214033, 356848657, 353768465, 321197073], [320214034, 321197074], [320213521, 643174929], [320213522], [353772561, 1746281489], [320213778], [320082193, 642060561, 321065745, 925045521], [320082194, 607392018], [321066001, 355734545], [321066002], [320082449, 642060817, 924062225, 321065489], [320082450, 321065490], [638723089, 890381329], [321065746], [642126097, 606478865], [320147730, 607457554], [355800081, 1748309009], [321131538], [642126353, 893784593], [320147986], [354821137, 606479377], [320148242, 1460998930], [319951121, 891494929, 1749369873], [319951122, 605163794], [319951889, 638718993, 1465259025, 320082961], [319951890, 605164562], [319951377, 923931153, 892604945, 321196561], [319951378, 605164050], [353641489, 606282769], [319951634, 605164306], [321261841, 640028945, 1461011473, 321262353], [321261842, 606474514], [320148497, 356914193, 353702929, 321262609], [320148498, 1746211858], [321262097, 640029201], [321262098], [353707025, 1746215953], [321262354], [321130769, 925110545, 890446353, 320017169], [321130770, 606343442], [320017425, 638784529], [320017426], [320016913, 641012241, 923996689, 321131025], [320016914, 1175654930], [638788625, 890446865], [320017170], [355865361, 607527441], [321196306, 606408978], [355865617, 1748374545], [320082962], [641077777, 892736017], [321196562], [354755601, 606413841], [320082706, 321196818]]
theorem tb12_ok : ((List.range 64).all fun i => okG (768 + i) (tb12.getD i [])) = true := by decide +kernel
def tb13 : List (List Nat) := [[940773649, 661000977, 940904721], [940773650, 941756690], [655430673, 941888529, 941757457, 1478759441], [655430674, 941757458], [940904977, 941756945], [941756946, 911544850], [655434769, 374678545], [941757202, 1194529554], [940970257, 657854737, 940970769, 1477841681], [940970258, 657854738], [370545681, 940971025, 373625873, 941954065], [370545682, 371528722], [940970513, 659952145], [940970514], [370549777, 1477846033], [940970770], [940839185, 941822737], [940839186, 659951890], [941822993, 1479808017], [941822994], [940839441, 941822481], [940839442, 941822482], [655500305], [941822738, 1193480978], [658903313, 1193559057], [940904722, 658903314], [372577297, 1479873553], [941888530], [658903569], [940904978, 1192563218], [371598353, 1478894609], [940905234, 1192563474], [940708113, 941953297, 373638161, 940708625], [940708114, 941822226], [655496209, 1477710865, 940708881, 655627281], [655496210, 940708882], [940708369, 941953553], [940708370], [655631377, 374744081], [940708626], [656806161, 1478890257, 942018833, 656806673], [656806162, 942018834], [370480145, 658904081, 656806929], [370480146, 655692818], [656806417, 942019089], [656806418, 942019090], [370484241, 655696913], [656806674, 942019346], [941887761, 940774161], [941887762], [655561745, 940774417], [655561746, 940774418], [940773905, 941888017], [940773906, 1192432146], [655565841], [940774162, 1192432402], [657855249, 371541009], [941953298], [372642833, 657855505], [655627282, 940839954], [657854993], [941953554, 1193611794], [371532817, 1478829073], [940839698, 941953810]]
theorem tb13_ok : ((List.range 64).all fun i => okG (832 + i) (tb13.getD i [])) = true := by decide +kernel
def tb14 : List (List Nat) := [[907219217, 338891537, 624234769], [907219218, 908202258], [621876241, 337908753], [621876242, 338891794], [621875729, 336925201, 908202513, 1192563217], [621875730, 908202514], [621880337, 908207121], [621875986, 338891538], [624300305, 336990993], [624300306, 625283346], [336991249, 337974289], [336991250, 337974290], [336990737, 911610385], [336990738], [336995345], [336990994, 1477841682], [907284753, 337842961, 624169233, 1193480977], [907284754, 624169234], [337843217, 338957329], [337843218], [336859665, 625283601, 907285009, 337842705], [336859666, 337842706], [621945873, 907158545], [337842962], [625348881, 338043409], [624234770, 625348882], [339022865], [337908754, 1478759442], [625349137, 910561809], [336925202], [338043921, 623256593], [336925458, 1477776146], [907153681, 623186193, 337846801, 621941521], [907153682, 908267794], [621941777, 336860177], [621941778], [621941265, 1193611793, 907153937, 337973777], [621941266, 907153938], [336864273, 337847313], [621941522], [623251729, 338039569], [623251730], [336925713, 338039825], [336925714, 1477776402], [338039313, 623251985], [338039314, 623251986], [336929809], [338039570, 1478890258], [623120657, 1192432401, 908333329, 336794385], [623120658, 908333330], [336794641, 622007313], [336794642, 622007314], [336794129, 624235025, 907219473], [336794130, 622006802], [336798737, 622011409], [336794386, 622007058], [339088145, 339091985], [623186194], [339088401], [336860178, 1477710866], [339087889, 624300561], [337973778, 623186450], [337978385, 623191057], [336859922, 337974034]]
theorem tb14_ok : ((List.range 64).all fun i => okG (896 + i) (tb14.getD i [])) = true := by decide +kernel
def tb15 : List (List Nat) := [[1209340689, 924992529], [923996434, 924979474], [1210323985, 1211307025], [638653458, 1211307026], [1209340433, 1211306513], [924979730, 643109394], [924984337, 643114001], [638653202, 924979986], [1209406225, 1209410065], [641077522, 642060562], [1209406481, 1210389521], [353768466, 354751506], [1209405969, 928387601], [1209405970], [1209410577], [353768210, 1209406226], [1210258193, 1209278993], [924061970, 643174674], [1210258449, 1211372561], [1210258450], [1209274897, 1210257937], [924062226, 925045266], [923935761], [925045522, 1210258194], [1210458641, 925123601], [924127506, 641011986], [1211438097], [354685970, 1210323986], [927339025], [924127762, 1209340434], [640033809, 1210459153], [353702674, 924128018], [1209275153, 1210262033], [923930898, 925045010], [1209275409, 928388113], [638718994], [1210389009, 1211372049], [923931154], [924066833, 925049873], [638718738, 923931410], [1210454801, 924140561], [640028946], [1209340945, 1210455057], [353702930, 1209340946], [1210454545], [640029202, 1210454546], [924132369, 1209345041], [354816786, 640029458], [1209209617, 1209213457], [925110546], [1209209873], [638784530, 1209209874], [1209209361, 1210323473], [923996690, 1209209362], [924001297, 1209213969], [638784274, 923996946], [926290705, 926294545], [639963410, 925176082], [926290961, 1211503633], [353637394, 638850066], [926290449, 1211503121], [639963666, 925176338], [639968273, 925180945], [353637138, 641078034]]
theorem tb15_ok : ((List.range 64).all fun i => okG (960 + i) (tb15.getD i [])) = true := by decide +kernel
theorem all_g {g : Nat} (h : g < 1024) : ∃ cs, okG g cs = true := by
  have q : g / 64 = 0 ∨ g / 64 = 1 ∨ g / 64 = 2 ∨ g / 64 = 3 ∨ g / 64 = 4 ∨ g / 64 = 5 ∨ g / 64 = 6 ∨ g / 64 = 7 ∨ g / 64 = 8 ∨ g / 64 = 9 ∨ g / 64 = 10 ∨ g / 64 = 11 ∨ g / 64 = 12 ∨ g / 64 = 13 ∨ g / 64 = 14 ∨ g / 64 = 15 := by omega
  rcases q with q | q | q | q | q | q | q | q | q | q | q | q | q | q | q | q
  · exact ⟨_, (show 0 + (g - 0) = g by omega) ▸ List.all_eq_true.mp tb0_ok (g - 0) (List.mem_range.mpr (by omega))⟩
  · exact ⟨_, (show 64 + (g - 64) = g by omega) ▸ List.all_eq_true.mp tb1_ok (g - 64) (List.mem_range.mpr (by omega))⟩
  · exact ⟨_, (show 128 + (g - 128) = g by omega) ▸ List.all_eq_true.mp tb2_ok (g - 128) (List.mem_range.mpr (by omega))⟩
  · exact ⟨_, (show 192 + (g - 192) = g by omega) ▸ List.all_eq_true.mp tb3_ok (g - 192) (List.mem_range.mpr (by omega))⟩
  · exact ⟨_, (show 256 + (g - 256) = g by omega) ▸ List.all_eq_true.mp tb4_ok (g - 256) (List.mem_range.mpr (by omega))⟩
  · exact ⟨_, (show 320 + (g - 320) = g by omega) ▸ List.all_eq_true.mp tb5_ok (g - 320) (List.mem_range.mpr (by omega))⟩
  · exact ⟨_, (show 384 + (g - 384) = g by omega) ▸ List.all_eq_true.mp tb6_ok (g - 384) (List.mem_range.mpr (by omega))⟩
  · exact ⟨_, (show 448 + (g - 448) = g by omega) ▸ List.all_eq_true.mp tb7_ok (g - 448) (List.mem_range.mpr (by omega))⟩
  · exact ⟨_, (show 512 + (g - 512) = g by omega) ▸ List.all_eq_true.mp tb8_ok (g - 512) (List.mem_range.mpr (by omega))⟩
  · exact ⟨_, (show 576 + (g - 576) = g by omega) ▸ List.all_eq_true.mp tb9_ok (g - 576) (List.mem_range.mpr (by omega))⟩
  · exact ⟨_, (show 640 + (g - 640) = g by omega) ▸ List.all_eq_true.mp tb10_ok (g - 640) (List.mem_range.mpr (by omega))⟩
  · exact ⟨_, (show 704 + (g - 704) = g by omega) ▸ List.all_eq_true.mp tb11_ok (g - 704) (List.mem_range.mpr (by omega))⟩
  · exact ⟨_, (show 768 + (g - 768) = g by omega) ▸ List.all_eq_true.mp tb12_ok (g - 768) (List.mem_range.mpr (by omega))⟩
  · exact ⟨_, (show 832 + (g - 832) = g by omega) ▸ List.all_eq_true.mp tb13_ok (g - 832) (List.mem_range.mpr (by omega))⟩
  · exact ⟨_, (show 896 + (g - 896) = g by omega) ▸ List.all_eq_true.mp tb14_ok (g - 896) (List.mem_range.mpr (by omega))⟩
  · exact ⟨_, (show 960 + (g - 960) = g by omega) ▸ List.all_eq_true.mp tb15_ok (g - 960) (List.mem_range.mpr (by omega))⟩
end Gf

/-! ## Gf44: the 132 webs turned: among themselves, each to one of them -/
namespace Gf
open PySem Ty
def prZ : List ((Nat × Nat) × Nat) := [((1, 0), 0), ((2, 0), 1), ((2, 1), 2), ((3, 0), 3), ((3, 1), 4), ((3, 2), 5), ((4, 0), 6), ((4, 1), 7), ((4, 2), 8), ((4, 3), 9), ((5, 0), 10), ((5, 1), 11), ((5, 2), 12), ((5, 3), 13), ((5, 4), 14)]
def tcode (c p : Nat) : Nat := prZ.foldl (fun d x => if bt c x.1.1 x.1.2 != (bt c p x.1.1 && bt c p x.1.2) then d ||| 1 <<< x.2 else d) 0
def ztB (c : Nat) : Bool := (List.range 6).all fun p => Z.contains (tcode c p) && (List.range 6).all fun i => (List.range 6).all fun j => (i == j) || (bt (tcode c p) i j == (bt c i j != (bt c p i && bt c p j)))
theorem zt_all : Z.all ztB = true := by decide +kernel
theorem zt {c p : Nat} (h : c ∈ Z) (hp : p < 6) : tcode c p ∈ Z ∧ ∀ i j, i < 6 → j < 6 → fc (tcode c p) i j = trnf p (fc c) i j := by
  have h1 := List.all_eq_true.mp (List.all_eq_true.mp zt_all c h) p (List.mem_range.mpr hp)
  rw [Bool.and_eq_true] at h1
  refine ⟨by simpa using h1.1, fun i j hi hj => ?_⟩
  have h2 := List.all_eq_true.mp (List.all_eq_true.mp h1.2 i (List.mem_range.mpr hi)) j (List.mem_range.mpr hj)
  unfold trnf
  by_cases z : i = j
  · subst z
    rw [if_neg (by simp), fc_self, fc_self]
  · have h2 : bt (tcode c p) i j = (bt c i j != (bt c p i && bt c p j)) := by
      have e : (i == j) = false := beq_eq_false_iff_ne.mpr z
      rw [e, Bool.false_or] at h2
      exact beq_iff_eq.mp h2
    unfold fc
    rw [h2]
    cases bt c i j <;> cases bt c p i <;> cases bt c p j <;> simp [z]
def pth : List (Nat × List Nat) := [(7915, []), (7916, [5]), (7922, [4]), (7925, [5, 4]), (8027, [2, 5, 0, 1]), (8028, [3, 4, 3]), (8049, [5, 3, 4]), (8054, [3, 4]), (8090, [5, 4, 3]), (8093, [4, 3]), (8105, [3]), (8110, [5, 3]), (11755, [2, 3, 2, 1]), (11756, [1, 0, 5]), (11762, [1, 0, 4]), (11765, [0, 1, 0]), (12111, [3, 4, 5, 1]), (12118, [1, 3, 4]), (12133, [1, 0, 2]), (12156, [3, 4, 1]), (12174, [0, 5, 3]), (12183, [3, 5, 0]), (12195, [3, 2, 1]), (12218, [3, 5, 4, 0]), (13787, [2, 5, 4, 1]), (13788, [1, 2, 5]), (13809, [1, 0, 3]), (13814, [2, 5, 1]), (14031, [3, 4, 0, 1]), (14038, [2, 5, 2]), (14053, [2, 5, 4]), (14076, [2, 5]), (14221, [4, 0, 3]), (14227, [5, 0, 3]), (14247, [2, 1, 3, 0]), (14265, [0, 3]), (14810, [0, 4, 2]), (14813, [2, 4, 0]), (14825, [2, 3, 1]), (14830, [2, 4, 5, 0]), (15054, [5, 4, 2]), (15063, [5, 2]), (15075, [2]), (15098, [4, 2]), (15181, [4, 0, 2]), (15187, [5, 0, 2]), (15207, [0, 2]), (15225, [3, 1, 2, 0]), (19835, [4, 0, 3, 1]), (19836, [2, 1, 5]), (19898, [2, 0, 4]), (19901, [1, 5, 2]), (20079, [1, 5, 3, 1]), (20086, [3, 0, 4]), (20142, [1, 5, 3]), (20151, [1, 2, 4, 0]), (20269, [1, 5, 1]), (20275, [5, 0, 4]), (20460, [1, 5]), (20466, [0, 4]), (21755, [1, 4, 2, 1]), (21756, [2, 0, 5]), (21945, [2, 0, 3]), (21950, [0, 2, 0]), (22111, [3, 2, 0, 1]), (22133, [0, 5, 4]), (22174, [2, 0, 1]), (22195, [4, 2, 1]), (22301, [2, 4, 3]), (22327, [4, 5, 0]), (22492, [4, 3, 2]), (22513, [4, 5, 3, 0]), (22778, [1, 4, 2]), (22781, [1, 3, 5, 0]), (22905, [0, 3, 1]), (22910, [1, 3, 0]), (23134, [3, 0, 1]), (23149, [5, 3, 1]), (23199, [0, 1]), (23211, [1]), (23323, [5, 0, 1]), (23343, [5, 1]), (23514, [4, 2, 1, 0]), (23529, [3, 1]), (25839, [5, 0, 2, 1]), (25846, [3, 1, 4]), (25951, [0]), (25973, [1, 0]), (26014, [2, 0]), (26029, [4, 2, 3]), (26279, [0, 2, 1]), (26302, [1, 2, 0]), (26391, [5, 0]), (26429, [5, 1, 0]), (26582, [5, 2, 0]), (26597, [2, 1, 0]), (26862, [3, 0, 5]), (26871, [1, 4, 3]), (26974, [3, 0]), (26995, [5, 3, 2]), (27039, [3, 2, 0]), (27051, [2, 3, 2]), (27239, [3, 0, 2]), (27262, [0, 3, 0]), (27407, [4, 5, 1]), (27451, [3, 2, 5]), (27598, [5, 3, 0]), (27619, [3, 2]), (28909, [4, 0, 5]), (28915, [1, 4, 1]), (29021, [4, 0]), (29047, [4, 1, 0]), (29083, [5, 4, 1]), (29103, [2, 3, 4]), (29271, [3, 5, 2]), (29309, [5, 4, 0]), (29327, [4, 0, 1]), (29371, [4, 1]), (29645, [0, 4, 0]), (29651, [4, 1, 5]), (31980, [0, 5]), (31986, [1, 4]), (32092, [4, 3, 0]), (32113, [3, 1, 0]), (32154, [4, 2, 0]), (32169, [2, 3]), (32342, [5, 2, 3]), (32357, [5, 4, 2, 0]), (32398, [5, 3, 1, 0]), (32419, [2, 1]), (32525, [5, 1, 4]), (32531, [0, 5, 0])]
theorem pth_ok : (pth.all fun q => q.2.foldl tcode q.1 == 7915 && q.2.all fun p => decide (p < 6)) = true := by decide +kernel
theorem pth_Z : (Z.all fun c => pth.any fun q => q.1 == c) = true := by decide +kernel
def HasW (c : Nat) : Prop := ∃ u, WF (fc c) (List.range 6) u
theorem hasW_turn {c p : Nat} (h : c ∈ Z) (hp : p < 6) (hw : HasW c) : HasW (tcode c p) := by
  obtain ⟨u, hu⟩ := hw
  obtain ⟨v, hv⟩ := hu.turn (pts_range (by omega)) (List.mem_range.mpr hp) (fun i _ j _ => fc_bit c i j) (fun i _ => fc_self c i)
  exact ⟨v, hv.congrF fun i hi j hj _ => by rw [(zt h hp).2 i j (List.mem_range.mp hi) (List.mem_range.mp hj)]⟩
theorem hasW_path : ∀ (ps : List Nat) (c : Nat), c ∈ Z → (∀ p ∈ ps, p < 6) → HasW c → HasW (ps.foldl tcode c)
  | [], _, _, _, h => h
  | p :: ps, c, hc, hp, h => hasW_path ps (tcode c p) (zt hc (hp p (List.mem_cons_self ..))).1 (fun q hq => hp q (List.mem_cons_of_mem _ hq)) (hasW_turn hc (hp p (List.mem_cons_self ..)) h)
theorem no_word (h0 : ¬ HasW 7915) {c : Nat} (h : c ∈ Z) : ¬ HasW c := fun hw => by
  have h1 := List.all_eq_true.mp pth_Z c h
  obtain ⟨q, hq, e⟩ := List.any_eq_true.mp h1
  have e : q.1 = c := beq_iff_eq.mp e
  have h2 := List.all_eq_true.mp pth_ok q hq
  rw [Bool.and_eq_true, beq_iff_eq, e] at h2
  refine h0 (h2.1 ▸ hasW_path q.2 c h (fun p hp => ?_) hw)
  exact of_decide_eq_true (List.all_eq_true.mp h2.2 p hp)
/-! ### turned twice -/
theorem trnf_row {f : Nat → Nat → Int} {p i : Nat} (h : f p p = 0) : trnf p f p i = f p i := by
  unfold trnf
  rw [if_neg (by omega)]
theorem trnf_two {f : Nat → Nat → Int} {p i j : Nat} (h : f p p = 0) : trnf p (trnf p f) i j = f i j := by
  have e : trnf p (trnf p f) i j = if trnf p f p i = 1 ∧ trnf p f p j = 1 ∧ i ≠ j then 1 - trnf p f i j else trnf p f i j := rfl
  rw [e, trnf_row h, trnf_row h]
  unfold trnf
  split <;> omega
end Gf

/-! ## LGcell0: cells, mixed -/
namespace Law
open PySem Ty
theorem cell_ok (s : Scr) (k : Int) (h0 : 0 ≤ k) : Ev (mir__law_cell s k) fun c => 0 ≤ c := by
  unfold mir__law_cell
  simp only [pureB]
  refine Ev.run (Ev.bind (P := fun c => ∃ v : Int, c = .nx v) (Ev.bif (fun hc => ?_) fun hc => ⟨_, rfl, _, rfl⟩) ?_)
  · rw [atM_ok h0 (of_decide_eq_true hc)]
    exact ⟨_, rfl, _, rfl⟩
  · rintro _ ⟨v, rfl⟩
    refine Ev.ok ⟨_, rfl, ?_⟩
    omega
end Law

namespace Law
open PySem Ty
theorem shuf_ok (l : List Int) (z : Int) (hl : l.length ≤ 100) : Ev (mir__law_shuffled l z) fun r => r.Perm l := by
  unfold mir__law_shuffled
  simp only [pureB, bindA]
  rw [lstM_ok (by simp)]
  simp only [okB]
  refine Ev.run (Ev.whileR (fun s => (s.2.1 ++ s.2.2).Perm l) (fun s => s.2.2.length) ?_ 1000 _ (List.Perm.refl _) (by show l.length < 1000; omega))
  rintro ⟨z, found, left⟩ hp
  simp only [] at hp ⊢
  have hlen := hp.length_eq
  rw [List.length_append] at hlen
  rw [neM_ok]
  refine Ev.ok ?_
  match left, hp, hlen with
  | [], hp, hlen =>
    rw [decide_eq_true rfl]
    exact Ev.ok ⟨_, rfl, by simpa using hp⟩
  | a :: left, hp, hlen =>
    rw [decide_eq_false (by simp)]
    simp only [Bool.not_false, if_true]
    have e : (((a :: left).length : Nat) : Int) = (left.length : Int) + 1 := by simp
    rw [modM_ok (by omega)]
    simp only [okB]
    have hj0 : 0 ≤ (z * 48271 + 7919) % 2147483647 / 64 % (((a :: left).length : Nat) : Int) := Int.emod_nonneg _ (by omega)
    have hj1 : (z * 48271 + 7919) % 2147483647 / 64 % (((a :: left).length : Nat) : Int) < ((a :: left).length : Nat) := Int.emod_lt_of_pos _ (by omega)
    generalize (z * 48271 + 7919) % 2147483647 / 64 % (((a :: left).length : Nat) : Int) = j at hj0 hj1 ⊢
    have hb : ((a :: left).length : Int) ≤ 100 := by simp at hlen ⊢; omega
    rw [popAtM_ok hj0 hj1 (by omega)]
    simp only [okB]
    rw [appM_ok (by omega)]
    have hj : j.toNat < (a :: left).length := by omega
    refine Ev.ok (.inl ⟨_, .inl rfl, ?_, ?_⟩)
    · simp only []
      rw [show (a :: left).getD j.toNat default = (a :: left)[j.toNat] from by rw [List.getD_eq_getElem?_getD, List.getElem?_eq_getElem hj]; rfl]
      rw [List.append_assoc]
      refine List.Perm.trans ?_ hp
      exact List.Perm.append_left found (perm_erase hj)
    · show ((a :: left).eraseIdx j.toNat).length < _
      rw [List.length_eraseIdx_of_lt hj]
      omega
end Law

/-! ## LGwfr: the words that the program finds for a web -/
namespace Law
open PySem Ty Gf
def ci (P : List Nat) : List Int := P.map fun p : Nat => (p : Int)
theorem ci_len (P : List Nat) : (ci P).length = P.length := by unfold ci; simp
theorem ci_mem {P : List Nat} {p : Nat} : (p : Int) ∈ ci P ↔ p ∈ P := by
  unfold ci
  rw [List.mem_map]
  constructor
  · rintro ⟨a, h, e⟩
    rw [show p = a by omega]; exact h
  · intro h; exact ⟨p, h, rfl⟩
theorem ci_app (P : List Nat) (p : Nat) : ci P ++ [(p : Int)] = ci (P ++ [p]) := by unfold ci; simp
theorem ci_filter (P : List Nat) (t : Int → Bool) : (ci P).filter t = ci (P.filter fun p => t p) := by
  unfold ci
  rw [List.filter_map]; rfl
theorem smalls : ("abcdefghijklmnopqrstuvwxyz" : Str) = tx (List.range' 97 26) := by decide +kernel
theorem small_at {o : Nat} (h : o < 26) : atS ("abcdefghijklmnopqrstuvwxyz" : Str) (o : Int) = .ok (sgS (97 + o)) := by
  rw [smalls, atS_ok (by simp) (by omega) (by simp; omega)]
  congr 2
  rw [Int.toNat_natCast, List.getD_eq_getElem?_getD, List.getElem?_range' (by simpa using h)]
  simp
theorem crossed_ok {w : List Nat} {c a b : Nat} (hw : w.length ≤ 1000) : mir_crossed_between (tx w) (sgS c) (a : Int) (b : Int) = .ok (decide (((w.drop (min a w.length)).take (min b w.length - min a w.length)).count c = 1)) := by
  unfold mir_crossed_between
  simp only [pureB, bindA]
  rw [cutS_ok (by omega)]
  simp only [okB]
  rw [count_tx]
  show Except.ok _ = _
  congr 1
  exact decide_eq_decide.mpr (by omega)
theorem mem_rng {a b x : Int} : x ∈ rangeL a b ↔ a ≤ x ∧ x < b := by
  refine ⟨mem_range2, fun h => ?_⟩
  unfold rangeL
  rw [List.mem_map]
  exact ⟨(x - a).toNat, List.mem_range.mpr (by omega), by omega⟩
theorem near_ok {n : Nat} {f : Nat → Nat → Int} {P : List Nat} {i : Nat} (hi : i < n) (hP : ∀ p ∈ P, p < n) (hl : P.length ≤ 1000) : compM (ci P) (fun o => atM (tab n f) (i : Int) >>= fun a => atM a o >>= fun a => (Pure.pure (decide (a = 1)) : M Bool)) (fun o => Pure.pure o) = .ok (ci (P.filter fun p => decide (f i p = 1))) := by
  rw [compM_fm (t := fun o => atM (tab n f) (i : Int) >>= fun a => atM a o >>= fun a => (Pure.pure (decide (a = 1)) : M Bool)) (f := fun o : Int => (Pure.pure o : M Int)) (fun o => decide (f i o.toNat = 1)) (fun o => o) (by rw [ci_len]; omega) (fun o ho => ?_) fun _ _ _ => rfl, List.map_id', ci_filter]
  · rfl
  · obtain ⟨p, hp, rfl⟩ := List.mem_map.mp ho
    rw [atM_tabN hi]
    simp only [okB]
    rw [atM_rowN (hP p hp)]
    rfl
theorem nd_len : ∀ (l m : List Nat), l.Nodup → (∀ x ∈ l, x ∈ m) → l.length ≤ m.length
  | [], _, _, _ => Nat.zero_le _
  | a :: l, m, hn, h => by
    have hn := List.nodup_cons.mp hn
    have ha := h a (List.mem_cons_self ..)
    have := nd_len l (m.erase a) hn.2 fun x hx => (List.mem_erase_of_ne fun e : x = a => hn.1 (by rw [← e]; exact hx)).mpr (h x (List.mem_cons_of_mem _ hx))
    rw [List.length_erase_of_mem ha] at this
    have := List.length_pos_of_mem ha
    simp only [List.length_cons]
    omega
theorem next_ok {n : Nat} {f : Nat → Nat → Int} {P : List Nat} (hn : n ≤ 10) (hP : ∀ p ∈ P, p < n) (nd : P.Nodup) (hl : P.length < n) : Ev (mir_next_point (tab n f) (ci P)) fun p => ∃ q : Nat, p = (q : Int) ∧ q < n ∧ q ∉ P := by
  unfold mir_next_point
  simp only [pureB, bindA, tab_len]
  rw [range1_ok (by omega) (by omega)]
  simp only [okB]
  refine Ev.run (Ev.loopN (fun i s => (s.o = none ∧ ∀ q, q < i → q ∈ P) ∨ ∃ (b : Int) (q : Nat), s.o = some (b, (q : Int)) ∧ q < n ∧ q ∉ P) (.inl ⟨rfl, by simp⟩) ?_ ?_)
  · rintro i ⟨s⟩ hi hs
    have hi : i < n := by omega
    rw [near_ok hi hP (by omega)]
    simp only [okB]
    have hm : decide ((i : Int) ∈ ci P) = decide (i ∈ P) := decide_eq_decide.mpr ci_mem
    rw [hm]
    by_cases z : i ∈ P
    · rw [decide_eq_true z]
      refine ⟨_, rfl, ⟨s⟩, rfl, ?_⟩
      rcases hs with ⟨e, h⟩ | h
      · refine .inl ⟨e, fun q hq => ?_⟩
        rcases Nat.lt_or_ge q i with y | y
        · exact h q y
        · rw [show q = i by omega]; exact z
      · exact .inr h
    · rw [decide_eq_false z]
      rcases hs with ⟨e, h⟩ | ⟨b, q, e, h1, h2⟩
      · subst e
        exact ⟨_, rfl, _, rfl, .inr ⟨_, i, rfl, hi, z⟩⟩
      · subst e
        simp only [bAnd, bOr, Bool.not_false, pureB, bindA, if_true, Option.isNone_some, Bool.false_eq_true, if_false, ofOs, okB]
        refine Ev.bif (fun _ => ⟨_, rfl, _, rfl, .inr ⟨_, i, rfl, hi, z⟩⟩) fun _ => ⟨_, rfl, _, rfl, .inr ⟨b, q, rfl, h1, h2⟩⟩
  · rintro ⟨s⟩ hs
    rcases hs with ⟨e, h⟩ | ⟨b, q, e, h1, h2⟩
    · exfalso
      have := nd_len (List.range n) P List.nodup_range fun q hq => h q (by have := List.mem_range.mp hq; omega)
      rw [List.length_range] at this
      omega
    · subst e
      exact ⟨_, rfl, _, rfl, q, rfl, h1, h2⟩

theorem slice_min {w : List Nat} {a b : Nat} (hab : a ≤ b) (hb : b ≤ w.length) : (w.drop (min a w.length)).take (min b w.length - min a w.length) = (w.drop a).take (b - a) := by
  rw [show min a w.length = a by omega, show min b w.length = b by omega]
theorem grown_ok {n : Nat} {f : Nat → Nat → Int} {P w : List Nat} {p : Nat} (h : WF f P w) (hp : Pts (P ++ [p])) (hn : n ≤ 10) (hP : ∀ q ∈ P ++ [p], q < n) (hs : ∀ q ∈ P, f q p = f p q) :
    Ev (mir_grown_words (tx w) (p : Int) (ci P) (tab n f)) fun G => ∃ L : List (List Nat), G = L.map tx ∧ (∀ v ∈ L, WF f (P ++ [p]) v) ∧
      ∀ a b : Nat, min 1 P.length ≤ a → a ≤ b → b ≤ w.length → (∀ q ∈ P, ((w.drop a).take (b - a)).count (97 + q) = 1 ↔ f p q = 1) → Gf.ins w a b (97 + p) ∈ L := by
  have hPts : Pts P := ⟨(List.nodup_append.mp hp.nd).1, by have := hp.few; rw [List.length_append] at this; omega, fun q hq => hp.low q (List.mem_append_left _ hq)⟩
  have hlen := h.len hPts
  have hfew := hPts.few
  have hpn : p < n := hP p (by simp)
  have hp26 : p < 26 := by omega
  have hPn : ∀ q ∈ P, q < n := fun q hq => hP q (List.mem_append_left _ hq)
  unfold mir_grown_words
  simp only [pureB, bindA]
  rw [compM_fm (t := fun _ : Int => (Pure.pure true : M Bool)) (f := fun o : Int => atM (tab n f) (p : Int) >>= fun a => atM a o >>= fun a => (Pure.pure (decide (a = 1)) : M Bool)) (fun _ => true) (fun o => decide (f p o.toNat = 1)) (by rw [ci_len]; omega) (fun _ _ => rfl) fun o ho _ => ?_]
  rotate_left
  · obtain ⟨q, hq, rfl⟩ := List.mem_map.mp ho
    rw [atM_tabN hpn]
    simp only [okB]
    rw [atM_rowN (hPn q hq)]
    rfl
  simp only [okB]
  rw [lstM_ok (by simp), ci_len, lenS_ok (by omega)]
  simp only [okB]
  have hmin : (if (P.length : Int) < 1 then (P.length : Int) else 1) = ((min 1 P.length : Nat) : Int) := by
    split <;> omega
  rw [hmin, range2_ok (by omega) (by omega) (by omega) (by omega)]
  simp only [okB]
  refine Ev.run (Ev.loopL (fun pre s => ∃ L : List (List Nat), s = L.map tx ∧ L.length ≤ pre.length * 30 ∧ (∀ v ∈ L, WF f (P ++ [p]) v) ∧ ∀ a b : Nat, (a : Int) ∈ pre → a ≤ b → b ≤ w.length → (∀ q ∈ P, ((w.drop a).take (b - a)).count (97 + q) = 1 ↔ f p q = 1) → Gf.ins w a b (97 + p) ∈ L) ⟨[], rfl, by simp, by simp, by simp⟩ ?_ ?_)
  · rintro pre x post s e ⟨L, rfl, hL1, hL2, hL3⟩
    have hx := mem_rng.mp (show x ∈ rangeL _ _ from by rw [e]; simp)
    have hpl : pre.length ≤ 30 := by
      have := congrArg List.length e
      rw [rangeL_len, List.length_append, List.length_cons] at this
      omega
    obtain ⟨a, rfl⟩ : ∃ a : Nat, x = (a : Int) := ⟨x.toNat, by omega⟩
    rw [range2_ok (by omega) (by omega) (by omega) (by omega)]
    simp only [okB]
    refine Ev.loopL (fun pr s => ∃ L2 : List (List Nat), s = (L ++ L2).map tx ∧ L2.length ≤ pr.length ∧ (∀ v ∈ L2, WF f (P ++ [p]) v) ∧ ∀ b : Nat, (b : Int) ∈ pr → (∀ q ∈ P, ((w.drop a).take (b - a)).count (97 + q) = 1 ↔ f p q = 1) → Gf.ins w a b (97 + p) ∈ L2) ⟨[], by simp, by simp, by simp, by simp⟩ ?_ ?_
    · rintro pr y po s e2 ⟨L2, rfl, k1, k2, k3⟩
      have hy := mem_rng.mp (show y ∈ rangeL _ _ from by rw [e2]; simp)
      have hpr : pr.length ≤ 30 := by
        have := congrArg List.length e2
        rw [rangeL_len, List.length_append, List.length_cons] at this
        omega
      obtain ⟨b, rfl⟩ : ∃ b : Nat, y = (b : Int) := ⟨y.toNat, by omega⟩
      have hab : a ≤ b := by omega
      have hb : b ≤ w.length := by omega
      rw [compM_fm (t := fun _ : Int => (Pure.pure true : M Bool)) (f := fun o : Int => atS ("abcdefghijklmnopqrstuvwxyz" : Str) o >>= fun c => mir_crossed_between (tx w) c (a : Int) (b : Int)) (fun _ => true) (fun o => decide (((w.drop a).take (b - a)).count (97 + o.toNat) = 1)) (by rw [ci_len]; omega) (fun _ _ => rfl) fun o ho _ => ?_]
      rotate_left
      · obtain ⟨q, hq, rfl⟩ := List.mem_map.mp ho
        have := hPn q hq
        rw [small_at (by omega)]
        simp only [okB]
        rw [crossed_ok (by omega), slice_min hab hb]
        rfl
      simp only [okB]
      rw [eqMx (Gf.okL fun _ _ => rfl) (Gf.okL fun _ _ => rfl)]
      simp only [okB]
      have hiff : (((ci P).filter fun _ => true).map (fun o => decide (((w.drop a).take (b - a)).count (97 + o.toNat) = 1)) = ((ci P).filter fun _ => true).map fun o => decide (f p o.toNat = 1)) ↔ ∀ q ∈ P, ((w.drop a).take (b - a)).count (97 + q) = 1 ↔ f p q = 1 := by
        rw [List.map_inj_left]
        constructor
        · intro z q hq
          have := z (q : Int) (List.mem_filter.mpr ⟨ci_mem.mpr hq, rfl⟩)
          exact decide_eq_decide.mp this
        · intro z o ho
          obtain ⟨q, hq, rfl⟩ := List.mem_map.mp (List.mem_filter.mp ho).1
          exact decide_eq_decide.mpr (z q hq)
      refine Ev.bif (fun hc => ?_) fun hc => ?_
      · have hc := hiff.mp (of_decide_eq_true hc)
        rw [cutS_to (by omega), cutS_ok (by omega), cutS_from (by omega), small_at hp26, slice_min hab hb, Nat.min_eq_left (by omega), Nat.min_eq_left hb]
        simp only [okB]
        rw [tx_sg, addS_ok (by rw [List.length_take]; simp; omega)]
        simp only [okB]
        rw [addS_ok (by simp; omega)]
        simp only [okB]
        rw [addS_ok (by simp; omega)]
        simp only [okB]
        rw [addS_ok (by simp; omega)]
        simp only [okB]
        rw [appM_ok (by simp; omega)]
        refine ⟨_, rfl, _, rfl, L2 ++ [Gf.ins w a b (97 + p)], ?_, by simp; omega, fun v hv => ?_, fun b' hb' ht => ?_⟩
        · simp [Gf.ins]
        · rcases List.mem_append.mp hv with hv | hv
          · exact k2 v hv
          · rw [List.mem_singleton.mp hv]
            exact h.ins hp hs hab hc
        · rcases List.mem_append.mp hb' with hb' | hb'
          · exact List.mem_append_left _ (k3 b' hb' ht)
          · have : b' = b := by have := List.mem_singleton.mp hb'; omega
            subst this
            simp
      · have hc : ¬ _ := fun z => of_decide_eq_false hc (hiff.mpr z)
        refine ⟨_, rfl, _, rfl, L2, rfl, by simp; omega, k2, fun b' hb' ht => ?_⟩
        rcases List.mem_append.mp hb' with hb' | hb'
        · exact k3 b' hb' ht
        · have : b' = b := by have := List.mem_singleton.mp hb'; omega
          subst this
          exact absurd ht hc
    · rintro s ⟨L2, rfl, k1, k2, k3⟩
      refine ⟨_, rfl, _, rfl, L ++ L2, rfl, ?_, fun v hv => (List.mem_append.mp hv).elim (hL2 v) (k2 v), fun a' b' ha' hab hb ht => ?_⟩
      · rw [rangeL_len] at k1
        simp
        omega
      · rcases List.mem_append.mp ha' with ha' | ha'
        · exact List.mem_append_left _ (hL3 a' b' ha' hab hb ht)
        · have : a' = a := by have := List.mem_singleton.mp ha'; omega
          subst this
          exact List.mem_append_right _ (k3 b' (mem_rng.mpr (by omega)) ht)
  · rintro s ⟨L, rfl, hL1, hL2, hL3⟩
    exact ⟨_, rfl, _, rfl, L, rfl, hL2, fun a b h1 h2 h3 h4 => hL3 a b (mem_rng.mpr (by omega)) h2 h3 h4⟩

theorem range_mem {n p : Nat} {P : List Nat} (hp : ∀ q ∈ P, q < n) (nd : P.Nodup) (hl : P.length = n) : p ∈ List.range n ↔ p ∈ P := by
  rw [List.mem_range]
  refine ⟨fun h => ?_, hp p⟩
  refine Classical.byContradiction fun z => ?_
  have := nd_len (p :: P) (List.range n) (List.nodup_cons.mpr ⟨z, nd⟩) fun x hx => by
    rcases List.mem_cons.mp hx with rfl | hx
    · exact List.mem_range.mpr h
    · exact List.mem_range.mpr (hp x hx)
  rw [List.length_range, List.length_cons] at this
  omega
theorem WF_nil {f : Nat → Nat → Int} {w : List Nat} (h : WF f [] w) : w = [] := List.eq_nil_iff_forall_not_mem.mpr fun c hc => by simpa using h.mem.mp hc
/-- what the search tells: a word of the web; and one where one is there -/
theorem from_ok {n : Nat} {f : Nat → Nat → Int} (hn : n ≤ 10) (hs : ∀ i j, f i j = f j i) : ∀ (k : Nat) (P w : List Nat), WF f P w → P.Nodup → (∀ q ∈ P, q < n) → n < P.length + k →
    Ev (mirf_word_from k (tx w) (ci P) (tab n f)) fun r => (∀ s, r = some s → ∃ v, s = tx v ∧ WF f (List.range n) v) ∧
      ((∃ u, WF f (List.range n) u ∧ (∀ r ∈ P.head?, u.head? = some (97 + r)) ∧ w = u.filter fun c => decide (c ∈ P.map (97 + ·))) → r.isSome = true)
  | 0, P, w, h, nd, hP, hk => by
    exfalso
    have := nd_len P (List.range n) nd fun x hx => List.mem_range.mpr (hP x hx)
    rw [List.length_range] at this
    omega
  | k + 1, P, w, h, nd, hP, hk => by
    have hPn := nd_len P (List.range n) nd fun x hx => List.mem_range.mpr (hP x hx)
    rw [List.length_range] at hPn
    unfold mirf_word_from
    simp only [pureB, bindA, tab_len, ci_len]
    refine Ev.run (Ev.bif (fun hc => ?_) fun hc => ?_)
    · have hc := of_decide_eq_true hc
      refine ⟨_, rfl, _, rfl, fun s e => ?_, fun _ => rfl⟩
      injection e with e
      exact ⟨w, e.symm, h.congr fun p => (range_mem hP nd (by omega)).symm⟩
    · have hc := of_decide_eq_false hc
      refine Ev.bind (next_ok hn hP nd (by omega)) ?_
      rintro _ ⟨p, rfl, hp, hpP⟩
      have nd2 : (P ++ [p]).Nodup := List.nodup_append.mpr ⟨nd, by simp, fun x hx y hy e => by
        rw [List.mem_singleton.mp hy] at e
        exact hpP (e ▸ hx)⟩
      have hP2 : ∀ q ∈ P ++ [p], q < n := fun q hq => by
        rcases List.mem_append.mp hq with hq | hq
        · exact hP q hq
        · rw [List.mem_singleton.mp hq]; exact hp
      have pts2 : Pts (P ++ [p]) := ⟨nd2, by
        have := nd_len (P ++ [p]) (List.range n) nd2 fun x hx => List.mem_range.mpr (hP2 x hx)
        rw [List.length_range] at this
        omega, fun q hq => by have := hP2 q hq; omega⟩
      refine Ev.bind (grown_ok h pts2 hn hP2 fun q _ => hs q p) ?_
      rintro _ ⟨L, rfl, hL1, hL2⟩
      rw [lstM_ok (by simp)]
      simp only [okB]
      rw [catM_ok (by rw [ci_len]; simp; omega), ci_app]
      simp only [okB]
      refine Ev.loopR (fun pre _ => ∀ v : List Nat, tx v ∈ pre → ¬ ∃ u, WF f (List.range n) u ∧ (∀ r ∈ (P ++ [p]).head?, u.head? = some (97 + r)) ∧ v = u.filter fun c => decide (c ∈ (P ++ [p]).map (97 + ·))) (by simp) ?_ ?_
      · rintro pre x post - e hpre
        obtain ⟨v, hv, rfl⟩ : ∃ v, v ∈ L ∧ tx v = x := List.mem_map.mp (by rw [e]; simp)
        refine Ev.bind (from_ok hn hs k (P ++ [p]) v (hL1 v hv) nd2 hP2 (by rw [List.length_append, List.length_singleton]; omega)) ?_
        rintro r ⟨h1, h2⟩
        refine Ev.bif (fun hr => ?_) fun hr => ?_
        · exact ⟨_, rfl, .inr (.inl ⟨_, rfl, _, rfl, h1, fun _ => hr⟩)⟩
        · refine ⟨_, rfl, .inl ⟨_, .inl rfl, fun v' hv' hu => ?_⟩⟩
          rcases List.mem_append.mp hv' with hv' | hv'
          · exact hpre v' hv' hu
          · have := tx_inj (List.mem_singleton.mp hv')
            subst this
            rw [h2 hu] at hr
            cases hr
      · rintro - hall
        refine ⟨_, rfl, _, rfl, (fun s e => by cases e), ?_⟩
        rintro ⟨u, hu, hh, hw⟩
        exfalso
        have ptsN := pts_range (k := n) hn
        have main : ∀ u', WF f (List.range n) u' → (∀ r ∈ (P ++ [p]).head?, u'.head? = some (97 + r)) → w = (u'.filter fun c => decide (c ∈ P.map (97 + ·))) → False := fun u' hu' hh' hw' => by
          obtain ⟨a, b, hab, hb, e1, e2, e3⟩ := hu'.grow ptsN pts2 fun q hq => List.mem_range.mpr (hP2 q hq)
          rw [← hw'] at hb e1 e2
          refine hall _ (List.mem_map.mpr ⟨_, hL2 a b ?_ hab hb e2, rfl⟩) ⟨u', hu', hh', e1.symm⟩
          cases P with
          | nil => simp
          | cons r P =>
            have := e3 r (List.mem_cons_self ..) (hh' r (by simp))
            simp; omega
        cases P with
        | nil =>
          obtain ⟨u', hu', hh'⟩ := hu.from ptsN (List.mem_range.mpr hp)
          refine main u' hu' (fun r hr => ?_) ?_
          · have : p = r := by simpa using hr
            rw [← this]; exact hh'
          · rw [WF_nil h]; simp
        | cons r P => exact main u hu (fun r' hr' => hh r' (by simpa using hr')) hw
/-- told of a web of at most six points -/
theorem word_ok {n : Nat} {f : Nat → Nat → Int} (hn : n ≤ 6) (hs : ∀ i j, f i j = f j i) : Ev (mir_word_from (("" : Str)) [] (tab n f)) fun r => (∀ s, r = some s → ∃ v, s = tx v ∧ WF f (List.range n) v) ∧ ((∃ u, WF f (List.range n) u) → r.isSome = true) := by
  unfold mir_word_from
  have h0 : WF f [] [] := ⟨fun c => by simp, fun p hp => by cases hp⟩
  refine (from_ok (by omega) hs 7 [] [] h0 List.nodup_nil (by simp) (by simp; omega)).mono fun r ⟨h1, h2⟩ => ⟨h1, fun ⟨u, hu⟩ => h2 ⟨u, hu, by simp, by simp⟩⟩
end Law

/-! ## LGlw3: the law's own web of a word, by places (k86, k87, k88) -/
namespace Law
open PySem Ty Gf
theorem spots_eq {l : List Nat} {c i j : Nat} (h : Gf.Two l c i j) (hl : l.length ≤ 1000) : compM (enumL (l.map sgS)) (fun a => (Pure.pure (decide (a.2 = sgS c)) : M Bool)) (fun a => Pure.pure a.1) = .ok [(i : Int), (j : Int)] := by
  have sgl : l.map sgS = row l.length fun k => sgS (l.getD k 0) := by
    conv => lhs; rw [row_of l]
    unfold row
    rw [List.map_map]; rfl
  rw [sgl, enum_row, compM_fm (t := fun a : Int × Str => Pure.pure (decide (a.2 = sgS c))) (f := fun a : Int × Str => Pure.pure a.1) (fun a => decide (a.2 = sgS c)) (fun a => a.1) (by rw [row_len]; omega) (fun _ _ => rfl) (fun _ _ _ => rfl)]
  congr 1
  unfold row
  rw [List.filter_map, List.map_map]
  have e0 := h.pos0
  have e1 : (List.range' 0 (l.length + 1 - 0)) = List.range l.length ++ [l.length] := by
    rw [← List.range_succ, List.range_eq_range']
    rfl
  rw [e1, List.filter_append, List.filter_cons_of_neg (by simp), List.filter_nil, List.append_nil] at e0
  have e2 : (List.range l.length).filter ((fun a : Int × Str => decide (a.2 = sgS c)) ∘ fun k : Nat => ((k : Int), sgS (l.getD k 0))) = [i, j] := by
    rw [← e0]
    refine List.filter_congr fun k hk => ?_
    have hk := List.mem_range.mp hk
    show decide (sgS (l.getD k 0) = sgS c) = _
    rw [List.getD_eq_getElem?_getD, List.getElem?_eq_getElem hk]
    exact decide_eq_decide.mpr ⟨fun q => congrArg some (sg_inj q), fun q => by injection q with q; rw [← q]; rfl⟩
  rw [e2]
  rfl
theorem inner_ok (i j a b : Nat) : compM [(a : Int), (b : Int)] (fun x => chainM (fun a b => decide (a < b)) (fun a b => decide (a < b)) (atM [(i : Int), (j : Int)] 0) (Pure.pure x) (atM [(i : Int), (j : Int)] 1)) (fun x => Pure.pure x) = .ok (([(a : Int), (b : Int)].filter fun x => decide ((i : Int) < x) && decide (x < (j : Int)))) := by
  rw [compM_fm (t := fun x => chainM (fun a b => decide (a < b)) (fun a b => decide (a < b)) (atM [(i : Int), (j : Int)] 0) (Pure.pure x) (atM [(i : Int), (j : Int)] 1)) (f := fun x : Int => (Pure.pure x : M Int)) (fun x => decide ((i : Int) < x) && decide (x < (j : Int))) (fun x => x) (by simp) (fun x _ => ?_) fun _ _ _ => rfl, List.map_id']
  rw [show atM [(i : Int), (j : Int)] 0 = .ok (i : Int) from rfl, show atM [(i : Int), (j : Int)] 1 = .ok (j : Int) from rfl]
  unfold chainM
  simp only [okB, pureB]
  cases decide ((i : Int) < x) <;> rfl
theorem inner_len (i j a b : Nat) : decide ((([(a : Int), (b : Int)].filter fun x => decide ((i : Int) < x) && decide (x < (j : Int))).length : Int) = 1) = (decide (i < a ∧ a < j) != decide (i < b ∧ b < j)) := by
  by_cases h1 : i < a ∧ a < j <;> by_cases h2 : i < b ∧ b < j
  · rw [List.filter_cons_of_pos (by simp; omega), List.filter_cons_of_pos (by simp; omega)]
    simp [h1, h2]
  · rw [List.filter_cons_of_pos (by simp; omega), List.filter_cons_of_neg (by simp; omega)]
    simp [h1, h2]
  · rw [List.filter_cons_of_neg (by simp; omega), List.filter_cons_of_pos (by simp; omega)]
    simp [h1, h2]
  · rw [List.filter_cons_of_neg (by simp; omega), List.filter_cons_of_neg (by simp; omega)]
    simp [h1, h2]
theorem lweb_ok {l : List Nat} {n : Nat} (R : Ring l n) : mir__law_web (tx l) = .ok (crs l n) := by
  apply Ev.eq
  unfold mir__law_web
  have h10 := R.n10
  have hlen := R.len
  simp only [pureB, bindA]
  have es : sortTxtM (tx l) = .ok ((cs l).map sgS) := by
    unfold sortTxtM
    rw [tx_len, decide_eq_true (by omega)]; rfl
  rw [es]
  simp only [okB]
  have hcs : (cs l).map sgS = row n fun i => sgS ((cs l).getD i 0) := by
    conv => lhs; rw [cs_row R]
    unfold row
    rw [List.map_map]; rfl
  rw [hcs, Gf.sgs, comp_rows (f := fun c => compM (enumL (l.map sgS)) (fun a => (Pure.pure (decide (a.2 = c)) : M Bool)) (fun a => Pure.pure a.1)) (fun i => [((pl l ((cs l).getD i 0)).1 : Int), ((pl l ((cs l).getD i 0)).2 : Int)]) (by omega) fun k hk => spots_eq (R.at (cs_mem R hk)) (by omega)]
  simp only [okB]
  rw [lstM_ok (by simp)]
  simp only [okB]
  refine Ev.run (Ev.loopL (fun pre W => W = row pre.length fun i => row n fun j => cr l ((cs l).getD i 0) ((cs l).getD j 0)) rfl ?_ ?_)
  · rintro pre x post W e rfl
    obtain ⟨hi, rfl, -⟩ := row_pre e
    rw [lstM_ok (by simp)]
    simp only [okB]
    refine Ev.loopL (fun pr r => r = row pr.length fun j => cr l ((cs l).getD pre.length 0) ((cs l).getD j 0)) rfl ?_ ?_
    · rintro pr y po r e2 rfl
      obtain ⟨hj, rfl, -⟩ := row_pre e2
      rw [inner_ok]
      simp only [okB]
      rw [inner_len, appM_ok (by rw [row_len]; omega)]
      refine ⟨_, rfl, _, rfl, ?_⟩
      rw [List.length_append, List.length_singleton, row_succ]
      rfl
    · rintro r rfl
      rw [row_len, appM_ok (by rw [row_len]; omega)]
      refine ⟨_, rfl, _, rfl, ?_⟩
      rw [List.length_append, List.length_singleton, row_succ]
  · rintro W rfl
    rw [row_len]
    exact ⟨_, rfl, _, rfl, rfl⟩
theorem lweb_nil : mir__law_web (tx []) = .ok [] := by
  apply Ev.eq
  unfold mir__law_web
  simp only [pureB, bindA]
  have es : sortTxtM (tx []) = .ok [] := by
    unfold sortTxtM
    have e0 : csort (tx []) = [] := List.eq_nil_iff_forall_not_mem.mpr fun c hc => by simpa using mem_cs.mp (show c ∈ cs [] from hc)
    rw [tx_len, decide_eq_true (by simp), e0]; rfl
  rw [es]
  simp only [okB]
  exact ⟨_, rfl, rfl⟩
/-- the law's web of a word of the points is the web -/
theorem lweb_wf {n : Nat} {f : Nat → Nat → Int} {v : List Nat} (h : WF f (List.range n) v) (hn : n ≤ 10) (hb : ∀ i j, i < n → j < n → f i j = 0 ∨ f i j = 1) (hd : ∀ i, i < n → f i i = 0) : mir__law_web (tx v) = .ok (tab n f) := by
  by_cases h0 : n = 0
  · subst h0
    rw [WF_nil h]
    exact lweb_nil
  have pts := pts_range hn
  have hne : List.range n ≠ [] := fun e => h0 (by simpa using congrArg List.length e)
  have R := h.ring pts hne
  rw [List.length_range] at R
  rw [lweb_ok R]
  have hcs : cs v = (List.range n).map (97 + ·) := by
    refine up_nat (cs_up v) ?_ fun x => by rw [mem_cs]; exact h.mem
    rw [List.pairwise_map]
    exact (List.pairwise_lt_range).imp fun h => by omega
  have hg : ∀ i, i < n → (cs v).getD i 0 = 97 + i := fun i hi => by
    rw [hcs, List.getD_eq_getElem?_getD, List.getElem?_map, List.getElem?_range hi]; rfl
  unfold crs
  congr 1
  refine tab_congr fun i j hi hj => ?_
  rw [hg i hi, hg j hj]
  by_cases z : i = j
  · subst z
    unfold cr
    rw [crB_self, hd i hi]; rfl
  · have w := h.web i (List.mem_range.mpr hi) j (List.mem_range.mpr hj) z
    unfold cr
    rcases hb i j hi hj with e | e
    · rw [if_neg (fun y => by have := w.mp y; omega), e]
    · rw [if_pos (w.mpr e), e]
end Law

/-! ## LGwx5: webs by bits; each of at most five points has a word -/
namespace Law
open PySem Ty Gf
def Bit (f : Nat → Nat → Int) (n : Nat) : Prop := (∀ i j, i < n → j < n → f i j = 0 ∨ f i j = 1) ∧ (∀ i, i < n → f i i = 0) ∧ ∀ i j, f i j = f j i
/-- bits as wanted -/
theorem bits_of (p : Nat → Bool) : ∀ k, ∃ c, c < 2 ^ k ∧ ∀ n, n < k → c.testBit n = p n
  | 0 => ⟨0, by simp, fun n h => by omega⟩
  | k + 1 => by
    obtain ⟨c, h1, h2⟩ := bits_of p k
    cases e : p k
    · refine ⟨c, Nat.lt_trans h1 (Nat.pow_lt_pow_right (by omega) (by omega)), fun n hn => ?_⟩
      rcases Nat.lt_or_ge n k with z | z
      · exact h2 n z
      · rw [show n = k by omega, e]
        exact Nat.testBit_lt_two_pow h1
    · refine ⟨c ||| 1 <<< k, ?_, fun n hn => ?_⟩
      · refine Nat.or_lt_two_pow (Nat.lt_trans h1 (Nat.pow_lt_pow_right (by omega) (by omega))) ?_
        rw [Nat.one_shiftLeft]
        exact Nat.pow_lt_pow_right (by omega) (by omega)
      · rw [Nat.testBit_or, one_shl]
        rcases Nat.lt_or_ge n k with z | z
        · rw [h2 n z, decide_eq_false (by omega), Bool.or_false]
        · rw [show n = k by omega, e, decide_eq_true rfl, Bool.or_true]
def prs : List (Nat × Nat) := [(1, 0), (2, 0), (2, 1), (3, 0), (3, 1), (3, 2), (4, 0), (4, 1), (4, 2), (4, 3), (5, 0), (5, 1), (5, 2), (5, 3), (5, 4)]
theorem prs_at : ∀ i, i < 6 → ∀ j, j < i → prs.getD (i * (i - 1) / 2 + j) (0, 0) = (i, j) := by decide
/-- each web of at most six points by a code -/
theorem code_of {f : Nat → Nat → Int} {n : Nat} (h : Bit f n) (hn : n ≤ 6) (k : Nat) (hk : n ≤ k) (hk6 : k ≤ 6) : ∃ c, c < 2 ^ (k * (k - 1) / 2) ∧ ∀ i j, i < n → j < n → fc c i j = f i j := by
  obtain ⟨c, h1, h2⟩ := bits_of (fun m => decide (f (prs.getD m (0, 0)).1 (prs.getD m (0, 0)).2 = 1)) (k * (k - 1) / 2)
  refine ⟨c, h1, fun i j hi hj => ?_⟩
  have lt : ∀ a b, a < k → b < a → a * (a - 1) / 2 + b < k * (k - 1) / 2 := fun a b ha hb => by
    have : k = 0 ∨ k = 1 ∨ k = 2 ∨ k = 3 ∨ k = 4 ∨ k = 5 ∨ k = 6 := by omega
    have ha' : a = 0 ∨ a = 1 ∨ a = 2 ∨ a = 3 ∨ a = 4 ∨ a = 5 := by omega
    rcases this with q | q | q | q | q | q | q <;> subst q <;> rcases ha' with q | q | q | q | q | q <;> subst q <;> first | omega | (simp at ha hb ⊢; omega)
  have key : ∀ a b, a < n → b < a → c.testBit (a * (a - 1) / 2 + b) = decide (f a b = 1) := fun a b ha hb => by
    rw [h2 _ (lt a b (by omega) hb), prs_at a (by omega) b hb]
  unfold fc bt
  by_cases z : i = j
  · subst z
    rw [if_pos rfl, h.2.1 i hi]; rfl
  · rw [if_neg z]
    by_cases y : j < i
    · rw [if_pos y, key i j hi y]
      rcases h.1 i j hi hj with e | e <;> rw [e] <;> rfl
    · rw [if_neg y, key j i hj (by omega), h.2.2 i j]
      rcases h.1 j i hj hi with e | e <;> rw [e] <;> rfl
end Law

/-! ## LGnow: a web that no word has, by running (k87) -/
namespace Law
open PySem Ty Gf
def nowB : Bool := match mir_word_from (("" : Str)) [] (tab 6 (fc 7915)) with | .ok none => true | _ => false
theorem now_run : nowB = true := by decide +kernel
theorem now_ok : ¬ HasW 7915 := fun h => by
  obtain ⟨r, e, h1, h2⟩ := word_ok (n := 6) (f := fc 7915) (by omega) (fc_symm 7915)
  have h3 := now_run
  unfold nowB at h3
  rw [e] at h3
  have := h2 h
  cases r with
  | none => cases this
  | some s => cases h3
end Law

/-! ## LGwz7: the 132 webs that turn to the wheel, by running (k87, k88) -/
namespace Law
open PySem Ty Gf
def ins1 (x : Int) : List Int → List Int
  | [] => [x]
  | y :: l => if x ≤ y then x :: y :: l else y :: ins1 x l
def isort2 (l : List Int) : List Int := l.foldr ins1 []
theorem ins1_perm (x : Int) : ∀ l, (ins1 x l).Perm (x :: l)
  | [] => .refl _
  | y :: l => by
    unfold ins1
    split
    · exact .refl _
    · exact ((ins1_perm x l).cons y).trans (.swap ..)
theorem ins1_up (x : Int) : ∀ l, l.Pairwise (· ≤ ·) → (ins1 x l).Pairwise (· ≤ ·)
  | [], _ => by simp [ins1]
  | y :: l, h => by
    have h := List.pairwise_cons.mp h
    unfold ins1
    split
    · rename_i hx
      refine List.pairwise_cons.mpr ⟨fun z hz => ?_, List.pairwise_cons.mpr h⟩
      rcases List.mem_cons.mp hz with rfl | hz
      · exact hx
      · have := h.1 z hz; omega
    · rename_i hx
      refine List.pairwise_cons.mpr ⟨fun z hz => ?_, ins1_up x l h.2⟩
      rcases List.mem_cons.mp ((ins1_perm x l).mem_iff.mp hz) with rfl | hz
      · omega
      · exact h.1 z hz
theorem isort2_eq : isort = isort2 := funext fun l => by
  have hp : ∀ l : List Int, (isort2 l).Perm l := fun l => by
    induction l with
    | nil => exact .refl _
    | cons x l ih => exact (ins1_perm x _).trans (ih.cons x)
  have hu : ∀ l : List Int, (isort2 l).Pairwise (· ≤ ·) := fun l => by
    induction l with
    | nil => exact List.Pairwise.nil
    | cons x l ih => exact ins1_up x _ ih
  exact (isort_eq (hp l) (hu l)).symm
def mix_is_wheel (p0 : (List (List Int))) (p1 : (List Int)) : M Bool := runC ((fun (ar : (List (List Int)) × (List Int) × Unit) => (((((pure ar.2.1) >>= fun a => pure (isort2 a)) >>= fun a => ((pure (6 : Int)) >>= fun a => lrange 0 a) >>= fun b => neM a b) >>= fun x => if x then ((((pure false) >>= fun r => pure (.rt r)) : M (Ctl Empty Empty Bool)) >>= fun y => thenC y nofun) else (((pure ar.2.1) >>= fun a => pure (enumL a)) >>= fun xs => loopM (S := Unit) (ρ := Bool) (fun (k1 : (Int × Int)) (s2 : Unit) => (((pure ar.2.1) >>= fun a => pure (enumL a)) >>= fun xs => loopM (S := Unit) (ρ := Bool) (fun (j3 : (Int × Int)) (s4 : Unit) => ((bAnd ((pure k1.1) >>= fun a => (pure j3.1) >>= fun b => pure (!decide (a = b))) (bOr ((pure k1.1) >>= fun a => (pure (0 : Int)) >>= fun b => pure (decide (a = b))) (bOr ((pure j3.1) >>= fun a => (pure (0 : Int)) >>= fun b => pure (decide (a = b))) ((((pure k1.1) >>= fun a => (pure j3.1) >>= fun b => pure (a - b)) >>= fun a => pure (a % (5 : Int))) >>= fun a => (((pure (1 : Int)) >>= fun a => ((pure (4 : Int)) >>= fun a => (pure ([] : List Int)) >>= fun b => pure (a :: b)) >>= fun b => pure (a :: b)) >>= fun a => lstM a >>= fun b => pure (Tu.mk b)) >>= fun b => pure (decide (a ∈ b.l)))))) >>= fun (near5 : Bool) => (((((pure ar.1) >>= fun a => (pure k1.2) >>= fun b => atM a b) >>= fun a => (pure j3.2) >>= fun b => atM a b) >>= fun a => ((pure near5) >>= fun a => pure (if a then (1 : Int) else 0)) >>= fun b => pure (!decide (a = b))) >>= fun x => if x then ((((pure false) >>= fun r => pure (.rt r)) : M (Ctl Empty Unit Bool)) >>= fun y => thenC y nofun) else (pure (.nx ()))))) xs () >>= fun c => thenL c (fun (s4 : Unit) => (pure (.nx ()))))) xs () >>= fun c => thenL c (fun (s2 : Unit) => ((pure true) >>= fun r => pure (.rt r))))) : M (Ctl Unit Empty Bool))) (p0, p1, ()))
theorem mix_is_wheel_eq : @mir_is_wheel = @mix_is_wheel := by
  funext p0 p1
  unfold mir_is_wheel mix_is_wheel
  simp only [isort2_eq]
  all_goals rfl
def mix_wheel_order (p0 : (List (List Int))) : M (Op (List Int)) := runC ((fun (ar : (List (List Int)) × Unit) => ((((pure (6 : Int)) >>= fun a => range1 a) >>= fun xs => loopM (S := Unit) (ρ := (Op (List Int))) (fun (hub1 : Int) (s2 : Unit) => ((((pure (6 : Int)) >>= fun a => range1 a) >>= fun xs => compM xs (fun (point3 : Int) => ((pure point3) >>= fun a => (pure hub1) >>= fun b => pure (!decide (a = b)))) (fun (point3 : Int) => (pure point3))) >>= fun (rim4 : (List Int)) => (lstPM (pure hub1) ((pure (0 : Int)) >>= fun j => popAtM rim4 j) >>= fun (q5 : (List Int) × (List Int)) => (whileM (S := ((List Int) × (List Int))) (ρ := (Op (List Int))) (fun (s6 : ((List Int) × (List Int))) => (((pure s6.2) >>= fun a => pure (a.length : Int)) >>= fun a => (pure (0 : Int)) >>= fun b => pure (decide (b < a)))) (fun (s6 : ((List Int) × (List Int))) => (((pure s6.2) >>= fun xs => compM xs (fun (point7 : Int) => ((((pure ar.1) >>= fun a => ((pure s6.1) >>= fun a => ((pure (1 : Int)) >>= fun a => pure (-a)) >>= fun b => atM a b) >>= fun b => atM a b) >>= fun a => (pure point7) >>= fun b => atM a b) >>= fun a => (pure (1 : Int)) >>= fun b => pure (decide (a = b)))) (fun (point7 : Int) => (pure point7))) >>= fun (near8 : (List Int)) => (((pure near8) >>= fun a => ((pure ([] : List Int)) >>= fun a => lstM a) >>= fun b => eqM a b) >>= fun x => if x then (((pure (.bk (s6.1, s6.2))) : M (Ctl Empty ((List Int) × (List Int)) (Op (List Int)))) >>= fun y => thenC y nofun) else (((pure near8) >>= fun a => (pure (0 : Int)) >>= fun b => atM a b) >>= fun a => appM s6.1 a >>= fun (order9 : (List Int)) => ((((pure near8) >>= fun a => (pure (0 : Int)) >>= fun b => atM a b) >>= fun j => remM s6.2 j >>= fun l => pure ((), l)) >>= fun (q10 : Unit × (List Int)) => (pure (.nx (order9, q10.2)))))))) 1000 (q5.1, q5.2) >>= fun c => thenL c (fun (s6 : ((List Int) × (List Int))) => ((((pure ar.1) >>= fun a => ((pure s6.1) >>= fun a => (pure ()) >>= fun b => pure (a, b)) >>= fun b => pure (a, b)) >>= fun a => mix_is_wheel a.1 a.2.1) >>= fun x => if x then ((((pure s6.1 >>= fun x => pure (⟨some x⟩ : Op (List Int))) >>= fun x => pure (.rt x)) : M (Ctl Empty Unit (Op (List Int)))) >>= fun y => thenC y nofun) else (pure (.nx ())))))))) xs () >>= fun c => thenL c (fun (s2 : Unit) => ((pure (⟨none⟩ : Op (List Int))) >>= fun r => pure (.rt r)))) : M (Ctl Unit Empty (Op (List Int))))) (p0, ()))
theorem mix_wheel_order_eq : @mir_wheel_order = @mix_wheel_order := by
  funext p0
  unfold mir_wheel_order mix_wheel_order
  simp only [mix_is_wheel_eq]
  all_goals rfl
def mix_turns_to_wheel (p0 : (List (List Int))) : M ((List Int) × (List Int)) := runC ((fun (ar : (List (List Int)) × Unit) => (((((pure ar.1) >>= fun a => (pure ([] : List (List (List Int)))) >>= fun b => pure (a :: b)) >>= fun a => lstM a) >>= fun (webs1 : (List (List (List Int)))) => (((((pure ([] : List Int)) >>= fun a => lstM a) >>= fun a => (pure ([] : List (List Int))) >>= fun b => pure (a :: b)) >>= fun a => lstM a) >>= fun (ways2 : (List (List Int))) => ((pure (0 : Int)) >>= fun (at3 : Int) => ((((pure ar.1) >>= fun a => (pure ()) >>= fun b => pure (a, b)) >>= fun a => mix_wheel_order a.1) >>= fun (order4 : (Op (List Int))) => (whileM (S := ((List (List (List Int))) × (List (List Int)) × Int × (Op (List Int)))) (ρ := ((List Int) × (List Int))) (fun (s5 : ((List (List (List Int))) × (List (List Int)) × Int × (Op (List Int)))) => ((pure s5.2.2.2) >>= fun a => pure a.o.isNone)) (fun (s5 : ((List (List (List Int))) × (List (List Int)) × Int × (Op (List Int)))) => (((pure (6 : Int)) >>= fun a => range1 a) >>= fun xs => loopM (S := ((List (List (List Int))) × (List (List Int)))) (ρ := ((List Int) × (List Int))) (fun (point6 : Int) (s7 : ((List (List (List Int))) × (List (List Int)))) => (((((pure s5.2.2.1) >>= fun b => atM s7.1 b) >>= fun a => ((pure point6) >>= fun a => (pure ()) >>= fun b => pure (a, b)) >>= fun b => pure (a, b)) >>= fun a => mir_turned_web a.1 a.2.1) >>= fun (other8 : (List (List Int))) => (((pure other8) >>= fun a => (pure s7.1) >>= fun b => inDM a b >>= fun c => pure (!c)) >>= fun x => if x then ((pure other8) >>= fun a => appM s7.1 a >>= fun (webs9 : (List (List (List Int)))) => ((((pure s7.2) >>= fun a => (pure s5.2.2.1) >>= fun b => atM a b) >>= fun a => (((pure point6) >>= fun a => (pure ([] : List Int)) >>= fun b => pure (a :: b)) >>= fun a => lstM a) >>= fun b => catM a b) >>= fun a => appM s7.2 a >>= fun (ways10 : (List (List Int))) => (pure (.nx (webs9, ways10))))) else (pure (.nx (s7.1, s7.2)))))) xs (s5.1, s5.2.1) >>= fun c => thenL c (fun (s7 : ((List (List (List Int))) × (List (List Int)))) => (((pure s5.2.2.1) >>= fun a => (pure (1 : Int)) >>= fun b => pure (a + b)) >>= fun (at11 : Int) => (((((pure at11) >>= fun b => atM s7.1 b) >>= fun a => (pure ()) >>= fun b => pure (a, b)) >>= fun a => mix_wheel_order a.1) >>= fun (order12 : (Op (List Int))) => (pure (.nx (s7.1, s7.2, at11, order12)))))))) 1000 (webs1, ways2, at3, order4) >>= fun c => thenL c (fun (s5 : ((List (List (List Int))) × (List (List Int)) × Int × (Op (List Int)))) => (((pure s5.2.2.1) >>= fun j => atM s5.2.1 j) >>= fun x => (ofO s5.2.2.2.o) >>= fun y => pure (.rt (x, y))))))))) : M (Ctl Unit Empty ((List Int) × (List Int))))) (p0, ()))
theorem mix_turns_to_wheel_eq : @mir_turns_to_wheel = @mix_turns_to_wheel := by
  funext p0
  unfold mir_turns_to_wheel mix_turns_to_wheel
  simp only [mix_wheel_order_eq]
  all_goals rfl
def mix__law_wheel_by (p0 : (List (List Int))) (p1 : (List Int)) : M Bool := runC ((fun (ar : (List (List Int)) × (List Int) × Unit) => (((((pure ar.2.1) >>= fun a => pure (isort2 a)) >>= fun a => (((pure (0 : Int)) >>= fun a => ((pure (1 : Int)) >>= fun a => ((pure (2 : Int)) >>= fun a => ((pure (3 : Int)) >>= fun a => ((pure (4 : Int)) >>= fun a => ((pure (5 : Int)) >>= fun a => (pure ([] : List Int)) >>= fun b => pure (a :: b)) >>= fun b => pure (a :: b)) >>= fun b => pure (a :: b)) >>= fun b => pure (a :: b)) >>= fun b => pure (a :: b)) >>= fun b => pure (a :: b)) >>= fun a => lstM a) >>= fun b => neM a b) >>= fun x => if x then ((((pure false) >>= fun r => pure (.rt r)) : M (Ctl Empty Empty Bool)) >>= fun y => thenC y nofun) else (((pure (6 : Int)) >>= fun a => range1 a) >>= fun xs => loopM (S := Unit) (ρ := Bool) (fun (k1 : Int) (s2 : Unit) => (((pure (6 : Int)) >>= fun a => range1 a) >>= fun xs => loopM (S := Unit) (ρ := Bool) (fun (j3 : Int) (s4 : Unit) => ((bOr (bAnd (((pure k1) >>= fun a => (pure j3) >>= fun b => mulM a b) >>= fun a => (pure (0 : Int)) >>= fun b => pure (decide (a = b))) ((pure k1) >>= fun a => (pure j3) >>= fun b => pure (!decide (a = b)))) (bAnd (((pure k1) >>= fun a => (pure j3) >>= fun b => mulM a b) >>= fun a => (pure (0 : Int)) >>= fun b => pure (decide (b < a))) ((((pure j3) >>= fun a => (pure k1) >>= fun b => pure (a - b)) >>= fun a => pure (a % (5 : Int))) >>= fun a => (((pure (1 : Int)) >>= fun a => ((pure (4 : Int)) >>= fun a => (pure ([] : List Int)) >>= fun b => pure (a :: b)) >>= fun b => pure (a :: b)) >>= fun a => lstM a >>= fun b => pure (Tu.mk b)) >>= fun b => pure (decide (a ∈ b.l))))) >>= fun (near5 : Bool) => (((((pure ar.1) >>= fun a => ((pure ar.2.1) >>= fun a => (pure k1) >>= fun b => atM a b) >>= fun b => atM a b) >>= fun a => ((pure ar.2.1) >>= fun a => (pure j3) >>= fun b => atM a b) >>= fun b => atM a b) >>= fun a => ((pure near5) >>= fun a => pure (if a then (1 : Int) else 0)) >>= fun b => pure (!decide (a = b))) >>= fun x => if x then ((((pure false) >>= fun r => pure (.rt r)) : M (Ctl Empty Unit Bool)) >>= fun y => thenC y nofun) else (pure (.nx ()))))) xs () >>= fun c => thenL c (fun (s4 : Unit) => (pure (.nx ()))))) xs () >>= fun c => thenL c (fun (s2 : Unit) => ((pure true) >>= fun r => pure (.rt r))))) : M (Ctl Unit Empty Bool))) (p0, p1, ()))
theorem mix__law_wheel_by_eq : @mir__law_wheel_by = @mix__law_wheel_by := by
  funext p0 p1
  unfold mir__law_wheel_by mix__law_wheel_by
  simp only [isort2_eq]
  all_goals rfl
def mix__law_told_right (p0 : (List (List Int))) (p1 : Tw) : M (Option Str) := runC ((fun (ar : (List (List Int)) × Tw × Unit) => (((bOr (bNot ((pure ar.2.1) >>= fun _ => pure true)) ((((pure ar.2.1) >>= fun a => pure (twOq a)) >>= fun a => pure (a.l.length : Int)) >>= fun a => (pure (0 : Int)) >>= fun b => pure (decide (a = b)))) >>= fun x => if x then ((((pure (none : Option Str)) >>= fun r => pure (.rt r)) : M (Ctl Empty Empty (Option Str))) >>= fun y => thenC y nofun) else ((((pure ar.2.1) >>= fun a => pure (tw0 a)) >>= fun a => (pure ("word" : Str)) >>= fun b => pure (decide (a = b))) >>= fun x => if x then ((((bOr ((((pure ar.2.1) >>= fun a => pure (twOq a)) >>= fun a => pure (a.l.length : Int)) >>= fun a => (pure (2 : Int)) >>= fun b => pure (!decide (a = b))) (bOr (bNot (((pure ar.2.1) >>= fun a => tw1S a) >>= fun _ => pure true)) ((((pure ar.2.1) >>= fun a => tw1S a) >>= fun a => lenS a) >>= fun a => (((pure ar.1) >>= fun a => pure (a.length : Int)) >>= fun b => pure ((2 : Int) * b)) >>= fun b => pure (!decide (a = b))))) >>= fun x => if x then ((((pure (none : Option Str)) >>= fun r => pure (.rt r)) : M (Ctl Empty Empty (Option Str))) >>= fun y => thenC y nofun) else (((pure ("abcdef" : Str)) >>= fun a => (pure none) >>= fun l => (((pure ar.1) >>= fun a => pure (a.length : Int)) >>= fun i => pure (some i)) >>= fun u => cutSM a l u) >>= fun (letters1 : Str) => ((bOr ((((pure letters1) >>= fun a => pure (a.cps.toList.map sgS)) >>= fun xs => compM xs (fun (letter2 : Str) => (pure true)) (fun (letter2 : Str) => ((((pure ar.2.1) >>= fun a => tw1S a) >>= fun x => ((pure letter2) >>= fun a => (pure ()) >>= fun b => pure (a, b)) >>= fun y => pure (Txt.count x y.1)) >>= fun a => (pure (2 : Int)) >>= fun b => pure (!decide (a = b))))) >>= fun a => pure (a.any id)) (((((pure ar.2.1) >>= fun a => tw1S a) >>= fun a => (pure ()) >>= fun b => pure (a, b)) >>= fun a => mir__law_web a.1) >>= fun a => (pure ar.1) >>= fun b => neM a b)) >>= fun x => if x then ((((pure (none : Option Str)) >>= fun r => pure (.rt r)) : M (Ctl Empty Empty (Option Str))) >>= fun y => thenC y nofun) else (((pure ("word" : Str)) >>= fun a => pure (some a)) >>= fun r => pure (.rt r))))) : M (Ctl Empty Empty (Option Str))) >>= fun y => thenC y nofun) else ((bOr (((pure ar.2.1) >>= fun a => pure (tw0 a)) >>= fun a => (pure ("none" : Str)) >>= fun b => pure (!decide (a = b))) (bOr ((((pure ar.2.1) >>= fun a => pure (twOq a)) >>= fun a => pure (a.l.length : Int)) >>= fun a => (pure (3 : Int)) >>= fun b => pure (!decide (a = b))) (((pure ar.1) >>= fun a => pure (a.length : Int)) >>= fun a => (pure (6 : Int)) >>= fun b => pure (!decide (a = b))))) >>= fun x => if x then ((((pure (none : Option Str)) >>= fun r => pure (.rt r)) : M (Ctl Empty Empty (Option Str))) >>= fun y => thenC y nofun) else ((((pure ar.2.1) >>= fun a => ((pure (1 : Int)) >>= fun i => pure (some i)) >>= fun l => (pure none) >>= fun u => twCut a l u) >>= fun a => pure a.l) >>= fun xs => loopM (S := Unit) (ρ := (Option Str)) (fun (row3 : (List Int)) (s4 : Unit) => ((bOr (bNot ((pure row3) >>= fun _ => pure true)) (((pure row3) >>= fun xs => compM xs (fun (k5 : Int) => (pure true)) (fun (k5 : Int) => (bOr ((pure k5) >>= fun _ => pure false) (bNot ((pure k5) >>= fun _ => pure true))))) >>= fun a => pure (a.any id))) >>= fun x => if x then ((((pure (none : Option Str)) >>= fun r => pure (.rt r)) : M (Ctl Empty Unit (Option Str))) >>= fun y => thenC y nofun) else (pure (.nx ())))) xs () >>= fun c => thenL c (fun (s4 : Unit) => ((bOr ((((pure ar.2.1) >>= fun a => tw1L a) >>= fun a => pure (a.length : Int)) >>= fun a => (pure (200 : Int)) >>= fun b => pure (decide (b < a))) ((((pure ar.2.1) >>= fun a => tw1L a) >>= fun xs => compM xs (fun (k6 : Int) => (pure true)) (fun (k6 : Int) => ((pure k6) >>= fun x => ((pure (6 : Int)) >>= fun n => pure (⟨0, n⟩ : Rgv)) >>= fun r => pure (!decide (r.lo ≤ x ∧ x < r.hi))))) >>= fun a => pure (a.any id))) >>= fun x => if x then ((((pure (none : Option Str)) >>= fun r => pure (.rt r)) : M (Ctl Empty Empty (Option Str))) >>= fun y => thenC y nofun) else (((pure ar.2.1) >>= fun a => tw1L a) >>= fun xs => loopM (S := ((List (List Int)))) (ρ := (Option Str)) (fun (point7 : Int) (s8 : ((List (List Int)))) => ((((pure s8) >>= fun a => ((pure point7) >>= fun a => (pure ()) >>= fun b => pure (a, b)) >>= fun b => pure (a, b)) >>= fun a => mir__law_turned a.1 a.2.1) >>= fun (web_here9 : (List (List Int))) => (pure (.nx (web_here9))))) xs (ar.1) >>= fun c => thenL c (fun (s8 : ((List (List Int)))) => ((bNot (((pure s8) >>= fun a => (((pure ar.2.1) >>= fun a => tw2L a) >>= fun a => (pure ()) >>= fun b => pure (a, b)) >>= fun b => pure (a, b)) >>= fun a => mix__law_wheel_by a.1 a.2.1)) >>= fun x => if x then ((((pure (none : Option Str)) >>= fun r => pure (.rt r)) : M (Ctl Empty Empty (Option Str))) >>= fun y => thenC y nofun) else (((pure ("none" : Str)) >>= fun a => pure (some a)) >>= fun r => pure (.rt r))))))))))) : M (Ctl Unit Empty (Option Str)))) (p0, p1, ()))
theorem mix__law_told_right_eq : @mir__law_told_right = @mix__law_told_right := by
  funext p0 p1
  unfold mir__law_told_right mix__law_told_right
  simp only [mix__law_wheel_by_eq]
  all_goals rfl
def chk (c : Nat) : Bool := match mix_turns_to_wheel (tab 6 (fc c)) with
  | .ok r => (match mix__law_told_right (tab 6 (fc c)) (.n r.1 r.2) with | .ok (some s) => decide (s = "none") && decide (r.1.length ≤ 200) | _ => false)
  | _ => false
theorem chk_ok {c : Nat} (h : chk c = true) : ∃ t o, t.length ≤ 200 ∧ mir_turns_to_wheel (tab 6 (fc c)) = .ok (t, o) ∧ mir__law_told_right (tab 6 (fc c)) (.n t o) = .ok (some "none") := by
  unfold chk at h
  rw [mix_turns_to_wheel_eq, mix__law_told_right_eq]
  cases e : mix_turns_to_wheel (tab 6 (fc c)) with
  | error x => rw [e] at h; cases h
  | ok r =>
    obtain ⟨t, o⟩ := r
    rw [e] at h
    simp only [] at h
    cases e2 : mix__law_told_right (tab 6 (fc c)) (.n t o) with
    | error x => rw [e2] at h; cases h
    | ok s =>
      cases s with
      | none => rw [e2] at h; cases h
      | some s =>
        rw [e2] at h
        simp only [Bool.and_eq_true, decide_eq_true_eq] at h
        exact ⟨t, o, h.2, rfl, e2.trans (by rw [h.1])⟩
theorem chk_0 : ((Z.drop 0).take 4).all chk = true := by decide +kernel
theorem chk_1 : ((Z.drop 4).take 4).all chk = true := by decide +kernel
theorem chk_2 : ((Z.drop 8).take 4).all chk = true := by decide +kernel
theorem chk_3 : ((Z.drop 12).take 4).all chk = true := by decide +kernel
theorem chk_4 : ((Z.drop 16).take 4).all chk = true := by decide +kernel
theorem chk_5 : ((Z.drop 20).take 4).all chk = true := by decide +kernel
theorem chk_6 : ((Z.drop 24).take 4).all chk = true := by decide +kernel
theorem chk_7 : ((Z.drop 28).take 4).all chk = true := by decide +kernel
theorem chk_8 : ((Z.drop 32).take 4).all chk = true := by decide +kernel
theorem chk_9 : ((Z.drop 36).take 4).all chk = true := by decide +kernel
theorem chk_10 : ((Z.drop 40).take 4).all chk = true := by decide +kernel
theorem chk_11 : ((Z.drop 44).take 4).all chk = true := by decide +kernel
theorem chk_12 : ((Z.drop 48).take 4).all chk = true := by decide +kernel
theorem chk_13 : ((Z.drop 52).take 4).all chk = true := by decide +kernel
theorem chk_14 : ((Z.drop 56).take 4).all chk = true := by decide +kernel
theorem chk_15 : ((Z.drop 60).take 4).all chk = true := by decide +kernel
theorem chk_16 : ((Z.drop 64).take 4).all chk = true := by decide +kernel
theorem chk_17 : ((Z.drop 68).take 4).all chk = true := by decide +kernel
theorem chk_18 : ((Z.drop 72).take 4).all chk = true := by decide +kernel
theorem chk_19 : ((Z.drop 76).take 4).all chk = true := by decide +kernel
theorem chk_20 : ((Z.drop 80).take 4).all chk = true := by decide +kernel
theorem chk_21 : ((Z.drop 84).take 4).all chk = true := by decide +kernel
theorem chk_22 : ((Z.drop 88).take 4).all chk = true := by decide +kernel
theorem chk_23 : ((Z.drop 92).take 4).all chk = true := by decide +kernel
theorem chk_24 : ((Z.drop 96).take 4).all chk = true := by decide +kernel
theorem chk_25 : ((Z.drop 100).take 4).all chk = true := by decide +kernel
theorem chk_26 : ((Z.drop 104).take 4).all chk = true := by decide +kernel
theorem chk_27 : ((Z.drop 108).take 4).all chk = true := by decide +kernel
theorem chk_28 : ((Z.drop 112).take 4).all chk = true := by decide +kernel
theorem chk_29 : ((Z.drop 116).take 4).all chk = true := by decide +kernel
theorem chk_30 : ((Z.drop 120).take 4).all chk = true := by decide +kernel
theorem chk_31 : ((Z.drop 124).take 4).all chk = true := by decide +kernel
theorem chk_32 : ((Z.drop 128).take 4).all chk = true := by decide +kernel
theorem chk_all {c : Nat} (h : c ∈ Z) : chk c = true := by
  have e : Z = (Z.drop 0).take 4 ++ ((Z.drop 4).take 4 ++ ((Z.drop 8).take 4 ++ ((Z.drop 12).take 4 ++ ((Z.drop 16).take 4 ++ ((Z.drop 20).take 4 ++ ((Z.drop 24).take 4 ++ ((Z.drop 28).take 4 ++ ((Z.drop 32).take 4 ++ ((Z.drop 36).take 4 ++ ((Z.drop 40).take 4 ++ ((Z.drop 44).take 4 ++ ((Z.drop 48).take 4 ++ ((Z.drop 52).take 4 ++ ((Z.drop 56).take 4 ++ ((Z.drop 60).take 4 ++ ((Z.drop 64).take 4 ++ ((Z.drop 68).take 4 ++ ((Z.drop 72).take 4 ++ ((Z.drop 76).take 4 ++ ((Z.drop 80).take 4 ++ ((Z.drop 84).take 4 ++ ((Z.drop 88).take 4 ++ ((Z.drop 92).take 4 ++ ((Z.drop 96).take 4 ++ ((Z.drop 100).take 4 ++ ((Z.drop 104).take 4 ++ ((Z.drop 108).take 4 ++ ((Z.drop 112).take 4 ++ ((Z.drop 116).take 4 ++ ((Z.drop 120).take 4 ++ ((Z.drop 124).take 4 ++ ((Z.drop 128).take 4)))))))))))))))))))))))))))))))) := by decide +kernel
  rw [e] at h
  rcases List.mem_append.mp h with h | h
  · exact List.all_eq_true.mp chk_0 c h
  rcases List.mem_append.mp h with h | h
  · exact List.all_eq_true.mp chk_1 c h
  rcases List.mem_append.mp h with h | h
  · exact List.all_eq_true.mp chk_2 c h
  rcases List.mem_append.mp h with h | h
  · exact List.all_eq_true.mp chk_3 c h
  rcases List.mem_append.mp h with h | h
  · exact List.all_eq_true.mp chk_4 c h
  rcases List.mem_append.mp h with h | h
  · exact List.all_eq_true.mp chk_5 c h
  rcases List.mem_append.mp h with h | h
  · exact List.all_eq_true.mp chk_6 c h
  rcases List.mem_append.mp h with h | h
  · exact List.all_eq_true.mp chk_7 c h
  rcases List.mem_append.mp h with h | h
  · exact List.all_eq_true.mp chk_8 c h
  rcases List.mem_append.mp h with h | h
  · exact List.all_eq_true.mp chk_9 c h
  rcases List.mem_append.mp h with h | h
  · exact List.all_eq_true.mp chk_10 c h
  rcases List.mem_append.mp h with h | h
  · exact List.all_eq_true.mp chk_11 c h
  rcases List.mem_append.mp h with h | h
  · exact List.all_eq_true.mp chk_12 c h
  rcases List.mem_append.mp h with h | h
  · exact List.all_eq_true.mp chk_13 c h
  rcases List.mem_append.mp h with h | h
  · exact List.all_eq_true.mp chk_14 c h
  rcases List.mem_append.mp h with h | h
  · exact List.all_eq_true.mp chk_15 c h
  rcases List.mem_append.mp h with h | h
  · exact List.all_eq_true.mp chk_16 c h
  rcases List.mem_append.mp h with h | h
  · exact List.all_eq_true.mp chk_17 c h
  rcases List.mem_append.mp h with h | h
  · exact List.all_eq_true.mp chk_18 c h
  rcases List.mem_append.mp h with h | h
  · exact List.all_eq_true.mp chk_19 c h
  rcases List.mem_append.mp h with h | h
  · exact List.all_eq_true.mp chk_20 c h
  rcases List.mem_append.mp h with h | h
  · exact List.all_eq_true.mp chk_21 c h
  rcases List.mem_append.mp h with h | h
  · exact List.all_eq_true.mp chk_22 c h
  rcases List.mem_append.mp h with h | h
  · exact List.all_eq_true.mp chk_23 c h
  rcases List.mem_append.mp h with h | h
  · exact List.all_eq_true.mp chk_24 c h
  rcases List.mem_append.mp h with h | h
  · exact List.all_eq_true.mp chk_25 c h
  rcases List.mem_append.mp h with h | h
  · exact List.all_eq_true.mp chk_26 c h
  rcases List.mem_append.mp h with h | h
  · exact List.all_eq_true.mp chk_27 c h
  rcases List.mem_append.mp h with h | h
  · exact List.all_eq_true.mp chk_28 c h
  rcases List.mem_append.mp h with h | h
  · exact List.all_eq_true.mp chk_29 c h
  rcases List.mem_append.mp h with h | h
  · exact List.all_eq_true.mp chk_30 c h
  rcases List.mem_append.mp h with h | h
  · exact List.all_eq_true.mp chk_31 c h
  exact List.all_eq_true.mp chk_32 c h
end Law

/-! ## LGtw7: (k87) told of a web: a word or turns to the wheel (k87, k88) -/
namespace Law
open PySem Ty Gf
theorem zsix {c : Nat} (h : c < 32768) : c ∈ Z ∨ ∃ w, WF (fc c) (List.range 6) w := by
  obtain ⟨cs, hc⟩ := all_g (g := c % 1024) (Nat.mod_lt _ (by omega))
  have e : c % 1024 ||| (c / 1024) <<< 10 = c := by
    rw [Nat.or_comm, ← Nat.shiftLeft_add_eq_or_of_lt (by show c % 1024 < 1024; exact Nat.mod_lt _ (by omega)), Nat.shiftLeft_eq]
    omega
  rcases okG_six hc (N := c / 1024) (by omega) with z | z
  · left
    rw [show c / 1024 * 1024 + c % 1024 = c by omega] at z
    exact z
  · right
    rw [e] at z
    exact z
theorem six_cut {n : Nat} (h : n ≤ 6) : cutSM ("abcdef" : Str) none (some (n : Int)) = .ok (tx ((List.range n).map (97 + ·))) := by
  rw [show ("abcdef" : Str) = tx (List.range' 97 6) by decide +kernel, cutS_to (by simp)]
  have : n = 0 ∨ n = 1 ∨ n = 2 ∨ n = 3 ∨ n = 4 ∨ n = 5 ∨ n = 6 := by omega
  rcases this with e | e | e | e | e | e | e <;> subst e <;> rfl
theorem two_all {n : Nat} {f : Nat → Nat → Int} {v : List Nat} (hv : WF f (List.range n) v) (hn : n ≤ 6) : compM ((tx ((List.range n).map (97 + ·))).cps.toList.map sgS) (fun _ => (Pure.pure true : M Bool)) (fun l => (Pure.pure (!decide (Txt.count (tx v) l = 2)) : M Bool)) = .ok (((List.range n).map (97 + ·)).map fun _ => false) := by
  rw [sgs, compM_fm (t := fun _ : Str => (Pure.pure true : M Bool)) (f := fun l : Str => (Pure.pure (!decide (Txt.count (tx v) l = 2)) : M Bool)) (fun _ => true) (fun _ => false) (by simp; omega) (fun _ _ => rfl) fun x hx _ => ?_]
  · rw [List.filter_eq_self.mpr fun _ _ => rfl, List.map_map]; rfl
  · obtain ⟨c, hc, rfl⟩ := List.mem_map.mp hx
    rw [count_tx, hv.cnt c, if_pos hc]
    rfl
theorem right_w {n : Nat} {f : Nat → Nat → Int} {v : List Nat} (hn : n ≤ 6) (hf : Bit f n) (hv : WF f (List.range n) v) : mir__law_told_right (tab n f) (.w (tx v)) = .ok (some "word") := by
  have hlen := hv.len (pts_range (by omega))
  rw [List.length_range] at hlen
  apply Ev.eq
  unfold mir__law_told_right
  simp only [pureB, bindA, tab_len, twOq, tw0, tw1S]
  rw [lenS_ok (by omega), six_cut hn]
  simp only [okB]
  rw [two_all hv hn, lweb_wf hv (by omega) hf.1 hf.2.1]
  simp only [okB]
  rw [neMx (Gf.okL fun _ _ => Gf.okL fun _ _ => rfl) (Gf.okL fun _ _ => Gf.okL fun _ _ => rfl), decide_eq_true rfl, decide_eq_false (show ¬ (([Opq.o, Opq.o] : List Opq).length : Int) = 0 by decide), decide_eq_true (show (([Opq.o, Opq.o] : List Opq).length : Int) = 2 by decide), decide_eq_true (show (v.length : Int) = 2 * (n : Int) by omega)]
  have ha : ((((List.range n).map (97 + ·)).map fun _ => false).any id) = false := by
    rw [List.any_eq_false]
    intro x hx
    obtain ⟨_, _, rfl⟩ := List.mem_map.mp hx
    simp
  rw [ha]
  exact Ev.run ⟨_, rfl, _, rfl, rfl⟩
/-- what is told of a web of six points -/
theorem told6_ok {f : Nat → Nat → Int} (hf : Bit f 6) : Ev (mir_told_web (tab 6 f)) fun r => (∃ v, r = .w (tx v) ∧ WF f (List.range 6) v) ∨
    ((¬ ∃ v, WF f (List.range 6) v) ∧ ∃ t o, r = .n t o ∧ t.length ≤ 200 ∧ mir_turns_to_wheel (tab 6 f) = .ok (t, o) ∧ mir__law_told_right (tab 6 f) (.n t o) = .ok (some "none")) := by
  unfold mir_told_web
  simp only [pureB, bindA, tab_len]
  rw [decide_eq_false (by omega)]
  simp only [Bool.false_eq_true, if_false]
  rw [lstM_ok (by simp)]
  simp only [okB]
  refine Ev.run (Ev.bind (word_ok (n := 6) (by omega) hf.2.2) ?_)
  rintro r ⟨h1, h2⟩
  cases r with
  | some s =>
    obtain ⟨v, rfl, hv⟩ := h1 s rfl
    refine ⟨_, rfl, _, rfl, .inl ⟨v, rfl, hv⟩⟩
  | none =>
    have hno : ¬ ∃ v, WF f (List.range 6) v := fun z => by cases h2 z
    obtain ⟨c, hc, he⟩ := code_of hf (by omega) 6 (by omega) (by omega)
    have et : tab 6 f = tab 6 (fc c) := tab_congr fun i j hi hj => (he i j hi hj).symm
    rcases zsix (c := c) (by simpa using hc) with z | ⟨w, hw⟩
    · obtain ⟨t, o, e0, e1, e2⟩ := chk_ok (chk_all z)
      rw [et, e1]
      exact ⟨_, rfl, _, rfl, .inr ⟨hno, t, o, rfl, e0, rfl, e2⟩⟩
    · exact absurd ⟨w, hw.congrF fun p hp q hq _ => by rw [he p q (List.mem_range.mp hp) (List.mem_range.mp hq)]⟩ hno
end Law

/-! ## k87 -/
namespace Law
open PySem Ty Gf
theorem trnf_bit {v n : Nat} {f : Nat → Nat → Int} (h : Bit f n) : Bit (trnf v f) n := by
  refine ⟨fun i j hi hj => ?_, fun i hi => ?_, fun i j => ?_⟩
  · have := h.1 i j hi hj
    unfold trnf
    split <;> omega
  · have := h.2.1 i hi
    unfold trnf
    rw [if_neg (by omega)]
    exact this
  · have := h.2.2 i j
    unfold trnf
    by_cases z : f v i = 1 ∧ f v j = 1 ∧ i ≠ j
    · rw [if_pos z, if_pos ⟨z.2.1, z.1, fun e => z.2.2 e.symm⟩, this]
    · rw [if_neg z, if_neg fun y => z ⟨y.2.1, y.1, fun e => y.2.2 e.symm⟩, this]
theorem fc_Bit (c : Nat) : Bit (fc c) 6 := ⟨fun i j _ _ => fc_bit c i j, fun i _ => fc_self c i, fc_symm c⟩
theorem lturned_ok {n : Nat} {f : Nat → Nat → Int} {v : Int} (hn : n ≤ 10) (h0 : 0 ≤ v) (h1 : v < n) (hf : Bit f n) : mir__law_turned (tab n f) v = .ok (tab n (trnf v.toNat f)) := by
  apply Ev.eq
  unfold mir__law_turned
  simp only [pureB, tab_len]
  rw [lstM_ok (by simp), range1_ok (by omega) (by omega)]
  simp only [okB, pureB]
  refine Ev.run (Ev.loopN (fun k W => W = row k fun i => row n (trnf v.toNat f i)) rfl ?_ ?_)
  · rintro i W hi rfl
    rw [lstM_ok (by simp)]
    simp only [okB, pureB]
    refine Ev.loopN (fun k R => R = row k (trnf v.toNat f i)) rfl ?_ ?_
    · rintro j R hj rfl
      simp only [bAnd]
      rw [atM_tab h0 h1]
      simp only [okB, pureB]
      rw [atM_rowN (by omega), atM_rowN (by omega), atM_tabN (by omega)]
      simp only [okB, pureB]
      rw [atM_rowN (by omega)]
      simp only [okB, pureB]
      have hb := hf.1 i j (by omega) (by omega)
      have key : ∀ b : Bool, b = decide (f v.toNat i = 1 ∧ f v.toNat j = 1 ∧ i ≠ j) → Ev (do let row8 ← appM (row j (trnf v.toNat f i)) ((f i j + if b = true then 1 else 0) % 2); (pure (.nx row8) : M (Ctl (List Int) (List Int) (List (List Int))))) fun c => ∃ s', c = .nx s' ∧ s' = row (j + 1) (trnf v.toNat f i) := by
        intro b eb
        rw [appM_ok (by rw [row_len]; omega)]
        refine Ev.ok ⟨_, rfl, ?_⟩
        unfold row
        rw [List.range_succ, List.map_append]
        congr 1
        show _ = [trnf v.toNat f i j]
        unfold trnf
        subst eb
        by_cases hc : f v.toNat i = 1 ∧ f v.toNat j = 1 ∧ i ≠ j
        · rw [decide_eq_true hc, if_pos hc]; simp only [if_true]; congr 1; omega
        · rw [decide_eq_false hc, if_neg hc]; simp only [Bool.false_eq_true, if_false]; congr 1; omega
      have key2 : ∀ b : Bool, b = decide (f v.toNat i = 1 ∧ f v.toNat j = 1 ∧ i ≠ j) → ∀ x : M Bool, x = .ok b → Ev (do let near7 ← x; let a ← (do let a ← (do let b ← (pure (if near7 = true then (1 : Int) else 0) : M Int); pure (f i j + b)); pure (a % 2)); let row8 ← appM (row j (trnf v.toNat f i)) a; (pure (.nx row8) : M (Ctl (List Int) (List Int) (List (List Int))))) fun c => ∃ s', c = .nx s' ∧ s' = row (j + 1) (trnf v.toNat f i) := by
        rintro b eb x rfl
        exact key b eb
      refine key2 _ rfl _ ?_
      by_cases h1 : f v.toNat i = 1
      · by_cases h2 : f v.toNat j = 1
        · by_cases e : i = j
          · subst e; simp [h1]; rfl
          · have e' : ¬ (i : Int) = (j : Int) := by omega
            simp [h1, h2, e, e']; rfl
        · simp [h1, h2]; rfl
      · simp [h1]; rfl
    · rintro R rfl
      rw [appM_ok (by rw [row_len]; omega)]
      refine Ev.ok ⟨_, rfl, ?_⟩
      show row i _ ++ [row ((n : Int)).toNat _] = _
      rw [Int.toNat_natCast]
      unfold row
      rw [List.range_succ, List.map_append]; rfl
  · rintro W rfl
    exact Ev.ok ⟨_, rfl, rfl⟩
theorem zturned {c : Nat} {v : Int} (h : c ∈ Z) (h0 : 0 ≤ v) (h1 : v < 6) : ∃ d, d ∈ Z ∧ mir__law_turned (tab 6 (fc c)) v = .ok (tab 6 (fc d)) := by
  obtain ⟨hd, he⟩ := zt h (p := v.toNat) (by omega)
  refine ⟨_, hd, ?_⟩
  rw [lturned_ok (by omega) h0 (by exact h1) (fc_Bit c)]
  exact congrArg _ (tab_congr fun i j hi hj => (he i j hi hj).symm)
/-! ### the wheel by any order -/
def codeW (W : List (List Int)) : Nat := prZ.foldl (fun d x => if (W.getD x.1.1 []).getD x.1.2 0 = 1 then d ||| 1 <<< x.2 else d) 0
def whB (o : List Int) : Bool := match mir__law_wheel o with
  | .ok W => Z.contains (codeW W) && decide (W = tab 6 (fc (codeW W)))
  | _ => false
def allP : Nat → List Int → (List Int → Bool) → Bool
  | 0, pre, f => f pre
  | k + 1, pre, f => [(0 : Int), 1, 2, 3, 4, 5].all fun x => pre.contains x || allP k (pre ++ [x]) f
theorem allP_ok : ∀ (k : Nat) (pre : List Int) (f : List Int → Bool), allP k pre f = true → ∀ o, o.length = k → (pre ++ o).Nodup → (∀ x ∈ o, 0 ≤ x ∧ x < 6) → f (pre ++ o) = true
  | 0, pre, f, h, o, hl, _, _ => by
    have : o = [] := List.length_eq_zero_iff.mp hl
    subst this
    rw [List.append_nil]
    exact h
  | k + 1, pre, f, h, o, hl, hn, hr => by
    match o, hl with
    | x :: o, hl =>
      have hx := hr x (List.mem_cons_self ..)
      have h1 := List.all_eq_true.mp h x (by
        have : x = 0 ∨ x = 1 ∨ x = 2 ∨ x = 3 ∨ x = 4 ∨ x = 5 := by omega
        simpa using this)
      have hnp : pre.contains x = false := by
        have := (List.nodup_append.mp hn).2.2
        rw [← Bool.not_eq_true, List.contains_iff_mem]
        exact fun z => this x z x (List.mem_cons_self ..) rfl
      have hnp' : (decide (x ∈ pre)) = false := by simpa using hnp
      rw [hnp, Bool.false_or] at h1
      have := allP_ok k (pre ++ [x]) f h1 o (by simpa using hl) (by simpa using hn) fun y hy => hr y (List.mem_cons_of_mem _ hy)
      simpa using this
theorem wh_01 : allP 4 [0, 1] whB = true := by decide +kernel
theorem wh_02 : allP 4 [0, 2] whB = true := by decide +kernel
theorem wh_03 : allP 4 [0, 3] whB = true := by decide +kernel
theorem wh_04 : allP 4 [0, 4] whB = true := by decide +kernel
theorem wh_05 : allP 4 [0, 5] whB = true := by decide +kernel
theorem wh_10 : allP 4 [1, 0] whB = true := by decide +kernel
theorem wh_12 : allP 4 [1, 2] whB = true := by decide +kernel
theorem wh_13 : allP 4 [1, 3] whB = true := by decide +kernel
theorem wh_14 : allP 4 [1, 4] whB = true := by decide +kernel
theorem wh_15 : allP 4 [1, 5] whB = true := by decide +kernel
theorem wh_20 : allP 4 [2, 0] whB = true := by decide +kernel
theorem wh_21 : allP 4 [2, 1] whB = true := by decide +kernel
theorem wh_23 : allP 4 [2, 3] whB = true := by decide +kernel
theorem wh_24 : allP 4 [2, 4] whB = true := by decide +kernel
theorem wh_25 : allP 4 [2, 5] whB = true := by decide +kernel
theorem wh_30 : allP 4 [3, 0] whB = true := by decide +kernel
theorem wh_31 : allP 4 [3, 1] whB = true := by decide +kernel
theorem wh_32 : allP 4 [3, 2] whB = true := by decide +kernel
theorem wh_34 : allP 4 [3, 4] whB = true := by decide +kernel
theorem wh_35 : allP 4 [3, 5] whB = true := by decide +kernel
theorem wh_40 : allP 4 [4, 0] whB = true := by decide +kernel
theorem wh_41 : allP 4 [4, 1] whB = true := by decide +kernel
theorem wh_42 : allP 4 [4, 2] whB = true := by decide +kernel
theorem wh_43 : allP 4 [4, 3] whB = true := by decide +kernel
theorem wh_45 : allP 4 [4, 5] whB = true := by decide +kernel
theorem wh_50 : allP 4 [5, 0] whB = true := by decide +kernel
theorem wh_51 : allP 4 [5, 1] whB = true := by decide +kernel
theorem wh_52 : allP 4 [5, 2] whB = true := by decide +kernel
theorem wh_53 : allP 4 [5, 3] whB = true := by decide +kernel
theorem wh_54 : allP 4 [5, 4] whB = true := by decide +kernel
theorem wh_0 : allP 5 [0] whB = true := by
  unfold allP
  rw [List.all_eq_true]
  intro y hy
  simp only [List.mem_cons, List.not_mem_nil, or_false] at hy
  rcases hy with rfl | rfl | rfl | rfl | rfl | rfl
  · rfl
  · rw [show (([0] : List Int).contains 1) = false from rfl, Bool.false_or]; exact wh_01
  · rw [show (([0] : List Int).contains 2) = false from rfl, Bool.false_or]; exact wh_02
  · rw [show (([0] : List Int).contains 3) = false from rfl, Bool.false_or]; exact wh_03
  · rw [show (([0] : List Int).contains 4) = false from rfl, Bool.false_or]; exact wh_04
  · rw [show (([0] : List Int).contains 5) = false from rfl, Bool.false_or]; exact wh_05
theorem wh_1 : allP 5 [1] whB = true := by
  unfold allP
  rw [List.all_eq_true]
  intro y hy
  simp only [List.mem_cons, List.not_mem_nil, or_false] at hy
  rcases hy with rfl | rfl | rfl | rfl | rfl | rfl
  · rw [show (([1] : List Int).contains 0) = false from rfl, Bool.false_or]; exact wh_10
  · rfl
  · rw [show (([1] : List Int).contains 2) = false from rfl, Bool.false_or]; exact wh_12
  · rw [show (([1] : List Int).contains 3) = false from rfl, Bool.false_or]; exact wh_13
  · rw [show (([1] : List Int).contains 4) = false from rfl, Bool.false_or]; exact wh_14
  · rw [show (([1] : List Int).contains 5) = false from rfl, Bool.false_or]; exact wh_15
theorem wh_2 : allP 5 [2] whB = true := by
  unfold allP
  rw [List.all_eq_true]
  intro y hy
  simp only [List.mem_cons, List.not_mem_nil, or_false] at hy
  rcases hy with rfl | rfl | rfl | rfl | rfl | rfl
  · rw [show (([2] : List Int).contains 0) = false from rfl, Bool.false_or]; exact wh_20
  · rw [show (([2] : List Int).contains 1) = false from rfl, Bool.false_or]; exact wh_21
  · rfl
  · rw [show (([2] : List Int).contains 3) = false from rfl, Bool.false_or]; exact wh_23
  · rw [show (([2] : List Int).contains 4) = false from rfl, Bool.false_or]; exact wh_24
  · rw [show (([2] : List Int).contains 5) = false from rfl, Bool.false_or]; exact wh_25
theorem wh_3 : allP 5 [3] whB = true := by
  unfold allP
  rw [List.all_eq_true]
  intro y hy
  simp only [List.mem_cons, List.not_mem_nil, or_false] at hy
  rcases hy with rfl | rfl | rfl | rfl | rfl | rfl
  · rw [show (([3] : List Int).contains 0) = false from rfl, Bool.false_or]; exact wh_30
  · rw [show (([3] : List Int).contains 1) = false from rfl, Bool.false_or]; exact wh_31
  · rw [show (([3] : List Int).contains 2) = false from rfl, Bool.false_or]; exact wh_32
  · rfl
  · rw [show (([3] : List Int).contains 4) = false from rfl, Bool.false_or]; exact wh_34
  · rw [show (([3] : List Int).contains 5) = false from rfl, Bool.false_or]; exact wh_35
theorem wh_4 : allP 5 [4] whB = true := by
  unfold allP
  rw [List.all_eq_true]
  intro y hy
  simp only [List.mem_cons, List.not_mem_nil, or_false] at hy
  rcases hy with rfl | rfl | rfl | rfl | rfl | rfl
  · rw [show (([4] : List Int).contains 0) = false from rfl, Bool.false_or]; exact wh_40
  · rw [show (([4] : List Int).contains 1) = false from rfl, Bool.false_or]; exact wh_41
  · rw [show (([4] : List Int).contains 2) = false from rfl, Bool.false_or]; exact wh_42
  · rw [show (([4] : List Int).contains 3) = false from rfl, Bool.false_or]; exact wh_43
  · rfl
  · rw [show (([4] : List Int).contains 5) = false from rfl, Bool.false_or]; exact wh_45
theorem wh_5 : allP 5 [5] whB = true := by
  unfold allP
  rw [List.all_eq_true]
  intro y hy
  simp only [List.mem_cons, List.not_mem_nil, or_false] at hy
  rcases hy with rfl | rfl | rfl | rfl | rfl | rfl
  · rw [show (([5] : List Int).contains 0) = false from rfl, Bool.false_or]; exact wh_50
  · rw [show (([5] : List Int).contains 1) = false from rfl, Bool.false_or]; exact wh_51
  · rw [show (([5] : List Int).contains 2) = false from rfl, Bool.false_or]; exact wh_52
  · rw [show (([5] : List Int).contains 3) = false from rfl, Bool.false_or]; exact wh_53
  · rw [show (([5] : List Int).contains 4) = false from rfl, Bool.false_or]; exact wh_54
  · rfl
theorem wh_run : allP 6 [] whB = true := by
  unfold allP
  rw [List.all_eq_true]
  intro y hy
  simp only [List.mem_cons, List.not_mem_nil, or_false] at hy
  rcases hy with rfl | rfl | rfl | rfl | rfl | rfl
  · rw [show (([] : List Int).contains 0) = false from rfl, Bool.false_or]; exact wh_0
  · rw [show (([] : List Int).contains 1) = false from rfl, Bool.false_or]; exact wh_1
  · rw [show (([] : List Int).contains 2) = false from rfl, Bool.false_or]; exact wh_2
  · rw [show (([] : List Int).contains 3) = false from rfl, Bool.false_or]; exact wh_3
  · rw [show (([] : List Int).contains 4) = false from rfl, Bool.false_or]; exact wh_4
  · rw [show (([] : List Int).contains 5) = false from rfl, Bool.false_or]; exact wh_5
theorem wheel_ok {o : List Int} (h : o.Perm (rangeL 0 6)) : ∃ c, c ∈ Z ∧ mir__law_wheel o = .ok (tab 6 (fc c)) := by
  have hl : o.length = 6 := by rw [h.length_eq, rangeL_len]; rfl
  have hn : o.Nodup := h.nodup_iff.mpr (by decide)
  have := allP_ok 6 [] whB wh_run o hl (by simpa using hn) fun x hx => mem_range1 (h.mem_iff.mp hx)
  rw [List.nil_append] at this
  unfold whB at this
  cases e : mir__law_wheel o with
  | error x => rw [e] at this; cases this
  | ok W =>
    rw [e] at this
    simp only [Bool.and_eq_true, decide_eq_true_eq] at this
    exact ⟨codeW W, by simpa using this.1, congrArg _ this.2⟩
theorem raw_ok (s : Scr) {k : Int} (h : 0 ≤ k) : Ev (mir__law_raw s k) fun _ => True := by
  unfold mir__law_raw
  simp only [pureB, bindA]
  refine Ev.run (Ev.bind (P := fun c => ∃ v : Int, c = .nx v) (Ev.bif (fun hc => ?_) fun hc => ⟨_, rfl, _, rfl⟩) ?_)
  · have := of_decide_eq_true hc
    rw [modM_ok (by omega)]
    simp only [okB]
    rw [atM_ok (Int.emod_nonneg _ (by omega)) (Int.emod_lt_of_pos _ (by omega))]
    exact ⟨_, rfl, _, rfl⟩
  · rintro _ ⟨v, rfl⟩
    simp only [thenCn]
    rw [powM_ok (by decide +kernel)]
    simp only [okB]
    rw [modM_ok (by decide +kernel)]
    exact Ev.ok ⟨_, rfl, True.intro⟩
theorem ord_ok (l : List Int) (z : Int) (hl : l.length ≤ 100) : Ev (mir__law_ordered l z) fun r => r.Perm l := by
  unfold mir__law_ordered
  simp only [pureB, bindA]
  rw [lstM_ok (by simp)]
  simp only [okB]
  refine Ev.run (Ev.whileR (fun s => (s.1 ++ s.2.1).Perm l) (fun s => s.2.1.length) ?_ 1000 _ (List.Perm.refl _) (by show l.length < 1000; omega))
  rintro ⟨found, left, z⟩ hp
  simp only [] at hp ⊢
  have hlen := hp.length_eq
  rw [List.length_append] at hlen
  rw [neM_ok]
  refine Ev.ok ?_
  match left, hp, hlen with
  | [], hp, hlen =>
    rw [decide_eq_true rfl]
    exact Ev.ok ⟨_, rfl, by simpa using hp⟩
  | a :: left, hp, hlen =>
    rw [decide_eq_false (by simp)]
    simp only [Bool.not_false, if_true]
    have e : (((a :: left).length : Nat) : Int) = (left.length : Int) + 1 := by simp
    rw [modM_ok (by omega)]
    simp only [okB]
    have hj0 : 0 ≤ z % (((a :: left).length : Nat) : Int) := Int.emod_nonneg _ (by omega)
    have hj1 : z % (((a :: left).length : Nat) : Int) < ((a :: left).length : Nat) := Int.emod_lt_of_pos _ (by omega)
    generalize z % (((a :: left).length : Nat) : Int) = j at hj0 hj1 ⊢
    have hb : ((a :: left).length : Int) ≤ 100 := by simp at hlen ⊢; omega
    rw [popAtM_ok hj0 hj1 (by omega)]
    simp only [okB]
    rw [appM_ok (by omega)]
    simp only [okB]
    have hj : j.toNat < (a :: left).length := by omega
    have hel : ((a :: left).eraseIdx j.toNat).length = left.length := by rw [List.length_eraseIdx_of_lt hj]; simp
    rw [divM_s (by rw [hel]; omega) (by rw [hel]; omega)]
    refine Ev.ok (.inl ⟨_, .inl rfl, ?_, ?_⟩)
    · simp only []
      rw [show (a :: left).getD j.toNat default = (a :: left)[j.toNat] from by rw [List.getD_eq_getElem?_getD, List.getElem?_eq_getElem hj]; rfl]
      rw [List.append_assoc]
      refine List.Perm.trans ?_ hp
      exact List.Perm.append_left found (perm_erase hj)
    · show ((a :: left).eraseIdx j.toNat).length < _
      rw [hel]
      simp
/-- what is built -/
def Made (r : T3 (List (List Int)) (List Int) Int) : Prop := ∃ c, c ∈ Z ∧ r.a = tab 6 (fc c) ∧ (∃ x y : Nat, r.b = [(x : Int), (y : Int)] ∧ x < 6 ∧ y < 6 ∧ x ≠ y) ∧ 0 ≤ r.c ∧ r.c < 6
theorem pair_of {r : List Int} (h : r.Perm (rangeL 0 6)) : ∃ x y : Nat, cutL r none (some 2) = [(x : Int), (y : Int)] ∧ x < 6 ∧ y < 6 ∧ x ≠ y := by
  have hl : r.length = 6 := by rw [h.length_eq, rangeL_len]; rfl
  have hn : r.Nodup := h.nodup_iff.mpr (by decide)
  match r, hl with
  | a :: b :: t, hl =>
    have ha := mem_range1 (h.mem_iff.mp (List.mem_cons_self ..))
    have hb := mem_range1 (h.mem_iff.mp (List.mem_cons_of_mem a (List.mem_cons_self ..)))
    have hab : a ≠ b := fun e => (List.nodup_cons.mp hn).1 (by rw [e]; exact List.mem_cons_self ..)
    refine ⟨a.toNat, b.toNat, ?_, by omega, by omega, by omega⟩
    rw [cutL_to _ _ (by omega)]
    show [a, b] = _
    rw [Int.toNat_of_nonneg ha.1, Int.toNat_of_nonneg hb.1]
theorem made_ok (s : Scr) : Ev (mir__law_made s) Made := by
  have hr6 : lrange 0 6 = .ok (rangeL 0 6) := lrange_ok (by omega) (by omega)
  have hrl : (rangeL 0 6).length ≤ 100 := by decide
  unfold mir__law_made
  simp only [pureB, bindA]
  rw [hr6]
  simp only [okB]
  refine Ev.run (Ev.bind (raw_ok s (by omega)) fun z _ => Ev.bif (fun _ => ?_) fun _ => ?_)
  · refine Ev.bind (cell_ok s _ (by omega)) fun z1 _ => Ev.bind (shuf_ok _ z1 hrl) fun o ho => ?_
    obtain ⟨c, hc, e⟩ := wheel_ok ho
    rw [e]
    simp only [okB]
    refine Ev.bind (cell_ok s _ (by omega)) fun z2 _ => ?_
    rw [range1_ok (by omega) (by omega)]
    simp only [okB]
    refine Ev.bind (Ev.loop (fun _ W => ∃ c, c ∈ Z ∧ W = tab 6 (fc c)) ⟨c, hc, rfl⟩ ?_) ?_
    · rintro pre i post _ e ⟨c, hc, rfl⟩
      have hi := mem_range1 (pre_mem e)
      refine Ev.bind (cell_ok s _ (by omega)) fun z3 _ => ?_
      obtain ⟨d, hd, e⟩ := zturned hc (v := z3 % 6) (by omega) (by omega)
      rw [e]
      exact ⟨_, rfl, _, rfl, d, hd, rfl⟩
    · rintro _ ⟨_, rfl, c, hc, rfl⟩
      simp only [thenL, bindA]
      refine Ev.bind (cell_ok s _ (by omega)) fun z3 _ => Ev.bind (shuf_ok _ z3 hrl) fun o2 ho2 => ?_
      refine Ev.bind (cell_ok s _ (by omega)) fun z4 _ => ?_
      exact ⟨_, rfl, _, rfl, c, hc, rfl, pair_of ho2, by show 0 ≤ z4 % 6; omega, by show z4 % 6 < 6; omega⟩
  · refine Ev.bind (raw_ok s (by omega)) fun z1 _ => Ev.bind (ord_ok _ z1 hrl) fun o ho => ?_
    obtain ⟨c, hc, e⟩ := wheel_ok ho
    rw [e]
    simp only [okB]
    refine Ev.bind (raw_ok s (by omega)) fun z2 _ => ?_
    rw [range1_ok (by omega) (by omega)]
    simp only [okB]
    refine Ev.loopN (fun _ st => ∃ c, c ∈ Z ∧ st.1 = tab 6 (fc c)) ⟨c, hc, rfl⟩ ?_ ?_
    · rintro i ⟨_, q⟩ hi ⟨c, hc, rfl⟩
      obtain ⟨d, hd, e⟩ := zturned hc (v := q % 6) (by omega) (by omega)
      simp only []
      rw [e]
      exact ⟨_, rfl, _, rfl, d, hd, rfl⟩
    · rintro ⟨_, q⟩ ⟨c, hc, rfl⟩
      refine Ev.bind (raw_ok s (by omega)) fun z3 _ => Ev.bind (ord_ok _ z3 hrl) fun o2 ho2 => ?_
      refine Ev.bind (raw_ok s (by omega)) fun z4 _ => ?_
      exact ⟨_, rfl, _, rfl, c, hc, rfl, pair_of ho2, by show 0 ≤ z4 % 6; omega, by show z4 % 6 < 6; omega⟩
theorem told1_ok {c : Nat} (hc : c ∈ Z) : ∃ t o, t.length ≤ 200 ∧ mir_told_web__cl1 (tab 6 (fc c)) = .ok ⟨"none", t, o⟩ ∧ mir__law_told_right (tab 6 (fc c)) (.n t o) = .ok (some "none") := by
  obtain ⟨t, o, h0, h1, h2⟩ := chk_ok (chk_all hc)
  refine ⟨t, o, h0, ?_, h2⟩
  apply Ev.eq
  unfold mir_told_web__cl1
  simp only [pureB, bindA, tab_len]
  rw [decide_eq_false (by omega)]
  simp only [Bool.false_eq_true, if_false]
  rw [lstM_ok (by simp)]
  simp only [okB]
  refine Ev.run (Ev.bind (word_ok (n := 6) (by omega) (fc_symm c)) ?_)
  rintro r ⟨g1, g2⟩
  cases r with
  | some s =>
    obtain ⟨v, -, hv⟩ := g1 s rfl
    exact absurd ⟨v, hv⟩ (no_word now_ok hc)
  | none =>
    rw [h1]
    exact ⟨_, rfl, _, rfl, rfl⟩
theorem toldZ_ok {c : Nat} (hc : c ∈ Z) : ∃ t o, mir_told_web (tab 6 (fc c)) = .ok (.n t o) ∧ mir__law_told_right (tab 6 (fc c)) (.n t o) = .ok (some "none") := by
  obtain ⟨r, e, h⟩ := told6_ok (fc_Bit c)
  rcases h with ⟨v, -, hv⟩ | ⟨-, t, o, rfl, -, -, h⟩
  · exact absurd ⟨v, hv⟩ (no_word now_ok hc)
  · exact ⟨t, o, e, h⟩
/-- told, and told right: by whether a word is there -/
theorem both_ok {f : Nat → Nat → Int} (hf : Bit f 6) : ∃ r s, mir_told_web (tab 6 f) = .ok r ∧ mir__law_told_right (tab 6 f) r = .ok (some s) ∧ (s = "word" ↔ ∃ v, WF f (List.range 6) v) ∧ (s = "word" ∨ s = "none") := by
  obtain ⟨r, e, h⟩ := told6_ok hf
  rcases h with ⟨v, rfl, hv⟩ | ⟨hno, t, o, rfl, -, -, h⟩
  · exact ⟨_, "word", e, right_w (by omega) hf hv, ⟨fun _ => ⟨v, hv⟩, fun _ => rfl⟩, .inl rfl⟩
  · exact ⟨_, "none", e, h, ⟨fun z => absurd z (by decide +kernel), fun z => absurd z hno⟩, .inr rfl⟩
theorem turn_iff {f : Nat → Nat → Int} {p : Nat} (hf : Bit f 6) (hp : p < 6) : (∃ v, WF f (List.range 6) v) ↔ ∃ v, WF (trnf p f) (List.range 6) v := by
  have key : ∀ g : Nat → Nat → Int, Bit g 6 → (∃ v, WF g (List.range 6) v) → ∃ v, WF (trnf p g) (List.range 6) v := fun g hg ⟨u, hu⟩ =>
    hu.turn (pts_range (by omega)) (List.mem_range.mpr hp) (fun i hi j hj => hg.1 i j (List.mem_range.mp hi) (List.mem_range.mp hj)) fun i hi => hg.2.1 i (List.mem_range.mp hi)
  refine ⟨key f hf, fun h => ?_⟩
  obtain ⟨v, hv⟩ := key _ (trnf_bit hf) h
  exact ⟨v, hv.congrF fun i _ j _ _ => by rw [trnf_two (hf.2.1 p hp)]⟩
theorem copy_ok (f : Nat → Nat → Int) : compM (tab 6 f) (fun _ => (Pure.pure true : M Bool)) (fun r => (Pure.pure r : M (List Int))) = .ok (tab 6 f) := by
  rw [show tab 6 f = row 6 (fun i => row 6 (f i)) from rfl, comp_rows (f := fun a => Pure.pure a) (fun i => row 6 (f i)) (by omega) (fun k hk => rfl)]
theorem law_true (ns : List Int) (hl : ns.length ≤ 63) : mir_law ⟨ns⟩ = .ok true := by
  apply Ev.eq
  unfold mir_law
  simp only [pureB, bindA]
  refine Ev.run (Ev.bind (made_ok ⟨ns⟩) ?_)
  rintro ⟨_, _, p⟩ ⟨c, hc, rfl, ⟨x, y, rfl, hx, hy, hxy⟩, hp0, hp1⟩
  simp only [] at hp0 hp1 ⊢
  rw [copy_ok]
  simp only [okB]
  obtain ⟨t, o, hl, e1, e2⟩ := told1_ok hc
  obtain ⟨t2, o2, e3, e4⟩ := toldZ_ok hc
  have heq : neM (tab 6 (fc c)) (tab 6 (fc c)) = .ok false := by
    rw [neMx (Gf.okL fun _ _ => Gf.okL fun _ _ => rfl) (Gf.okL fun _ _ => Gf.okL fun _ _ => rfl), decide_eq_true rfl]; rfl
  rw [e1, e3, heq]
  simp only [okB, decide_true, gdT, pureB]
  rw [e2, e4]
  simp only [okB, ofOs, bOr, decide_true, Bool.not_true, Bool.false_eq_true, if_false, pureB, bindA]
  unfold appT1M
  simp only [bindA]
  rw [appM_ok (by show t.length ≤ 1000000; omega)]
  simp only [okB, pureB, revT2M, twoM]
  rw [atM_tabN hx]
  simp only [okB]
  rw [atM_rowN hy]
  simp only [okB]
  rw [set2M_tab (by omega) (by omega) (by omega) (by omega)]
  simp only [okB, Int.toNat_natCast]
  rw [atM_tabN hx]
  simp only [okB]
  rw [atM_rowN hy]
  simp only [okB]
  rw [set2M_tab (by omega) (by omega) (by omega) (by omega)]
  simp only [okB, Int.toNat_natCast]
  obtain ⟨g, hgd⟩ : ∃ g : Nat → Nat → Int, g = fun a b => if a = y ∧ b = x then if True ∧ True then 1 - fc c x y else fc c x y else if a = x ∧ b = y then 1 - fc c x y else fc c a b := ⟨_, rfl⟩
  rw [← hgd]
  have hg : Bit g 6 := by
    have hv : 1 - fc c x y = 0 ∨ 1 - fc c x y = 1 := by have := fc_bit c x y; omega
    subst hgd
    refine ⟨fun a b _ _ => ?_, fun a _ => ?_, fun a b => ?_⟩
    · have := fc_bit c a b
      simp only [and_self, if_true]
      repeat' split
      all_goals assumption
    · have := fc_self c a
      simp only
      rw [if_neg (by omega), if_neg (by omega)]
      exact this
    · simp only [and_self, if_true]
      by_cases z1 : a = y ∧ b = x
      · rw [if_pos z1, if_neg (by omega), if_pos (by omega)]
      · by_cases z2 : a = x ∧ b = y
        · rw [if_neg z1, if_pos z2, if_pos (by omega)]
        · rw [if_neg z1, if_neg z2, if_neg (by omega), if_neg (by omega)]
          exact fc_symm c a b
  clear hgd
  rw [copy_ok]
  simp only [okB]
  obtain ⟨r, s, b1, b2, b3, b4⟩ := both_ok hg
  rw [b1]
  simp only [okB]
  rw [b2]
  simp only [okB, Option.isNone_some, Bool.false_eq_true, if_false]
  rw [lturned_ok (by omega) hp0 (by exact hp1) hg]
  simp only [okB]
  rw [copy_ok]
  simp only [okB]
  obtain ⟨r', s', d1, d2, d3, d4⟩ := both_ok (trnf_bit (v := p.toNat) hg)
  rw [d1]
  simp only [okB]
  rw [d2]
  simp only [okB, ofOs]
  refine ⟨_, rfl, _, rfl, ?_⟩
  have hi := turn_iff (p := p.toNat) hg (by omega)
  rw [decide_eq_true_iff]
  by_cases z : ∃ v, WF g (List.range 6) v
  · rw [b3.mpr z, d3.mpr (hi.mp z)]
  · rw [b4.resolve_left fun e => z (b3.mp e), d4.resolve_left fun e => z (hi.mpr (d3.mp e))]
end Law

open PySem PySem.W PySem.Calls PyProof.Rows
set_option maxRecDepth 100000 in
set_option maxHeartbeats 0 in
theorem PySem.Challenge.cw_fourway_k87_whole_no_word_for_the_wheel_holds : PySem.Challenge.rw_fourway_k87_whole_no_word_for_the_wheel.Holds := by
  w_on; o_law
  refine HandSHeadRun.head_any (r := OpenLaw.row PySem.Challenge.rw_fourway_k87_whole_no_word_for_the_wheel) (q := view (OpenLaw.row PySem.Challenge.rw_fourway_k87_whole_no_word_for_the_wheel).prog [26]) (H := Law.hk) (ob := Law.ob) (M := 4000) (loose := (["RoundError", "TooMany", "SMALL", "MOST_POINTS", "turned_web", "is_wheel", "crossed_between", "next_point", "grown_words", "word_from", "wheel_order", "turns_to_wheel", "told_web", "_law_cell", "_law_shuffled", "_law_web", "_law_turned", "_law_wheel_by", "_law_told_right", "_law_wheel", "_law_raw", "_law_ordered", "_law_made"] : List PySem.Str)) (d := HandSHeadRun.topDef (OpenLaw.row PySem.Challenge.rw_fourway_k87_whole_no_word_for_the_wheel).prog 26) (kwd := []) Law.ob_eq
    (by kernel_rfl) (fun s => by kernel_rfl) Law.run (by kernel_rfl) (by kernel_rfl) (by kernel_rfl) (by rfl) (by first | assumption | decide +kernel) (by decide +kernel) ⟨rfl, rfl, rfl, rfl, rfl, by decide +kernel⟩ ?hw ?hc
  case hw => w_witness2
  case hc =>
    refine L2.walk_ofE (l := PySem.Challenge.rw_fourway_k87_whole_no_word_for_the_wheel) (n := 63) (k := 12) (x := "_law_script") (CX := L2.CX0) rfl (by decide) (by kernel_rfl) ⟨rfl, by decide, by decide⟩ ?F (fun _ _ _ _ z => z)
    intro w mg fa h Y G hmg0
    obtain ⟨K, KX, c⟩ := Y
    have hmg : mg ("law" : PySem.Str) = some (.ref fa) := by
      have e : (HandSHeadRun.topDef (OpenLaw.row PySem.Challenge.rw_fourway_k87_whole_no_word_for_the_wheel).prog 26).name = ("law" : PySem.Str) := by kernel_rfl
      rw [← e]
      exact hmg0
    obtain ⟨fd, hb, hF⟩ := Law.facts (P := (PySem.Challenge.rw_fourway_k87_whole_no_word_for_the_wheel).prog) (w := w) KX G hmg c
    exact ⟨K, fd, Law.sp_law K, KX, hb, fun H a ns hl _ hS => Ty.law_start (Law.law_true ns hl) hS, hF⟩

