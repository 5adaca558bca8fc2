import PyProof.Rows.All
import Wide.All
import OpenK.AllK
import Wide.FinOn
import HandS.ForMost
import HandS.IsInst
import HandS.Wide
import HandS.Defaults
import HandS.More
import HandS.WordsExc
import HandS.Conv
import HandS.SortInts
import HandS.NoneIn
import HandS.HeadHook4
import HandS.TupLe
import HandS.Zip
import HandS.WordsDict
import HandS.Rev
import HandS.Exc
import HandS.ExcOwn
import HandS.ExcIs
import HandS.HeadHook1
import HandS.SetFor
import HandS.Strs
import HandS.Deep
import HandS.HotCalls
import HandS.StrMore
import HandS.ExcInit
import HandS.ExcField
import KE.KExcIs
import HandS.Head0
import HandS.Head1
import HandS.Head2
import HandS.HeadEnd
import HandS.HeadHook2
import HandS.HeadNt
import HandS.EndBits
import PyProof.ListStr
import KE.KRevSl
import HandS.Style
import KE.DatumOrd
import HandS.SetKeys
import HandS.RevTup
import PyProof.JoinWalk
import PyProof.Rows.CountFlat
import PyProof.CollectStr
import KE.KDictZip
import HandS.RevRange
import PyProof.FactsAll.range_iterator_1
import KE.KDictList
import KE.KDictSum
import KE.DataMinMax
import KE.SortData
import PyProof.TupleOfSeq
import PyProof.EqAt
import HandS.CallLocal
import HandS.CallSlots
import KE.KDictDisplayH
import KE.KSortTupG
import KE.KSortTupUse
import HandS.TupSets
import KE.GoesMore
import HandS.HeadHook3
import HandS.ExcValue
import KE.KDictKeyed
import HandS.DictComp
import KE.SortKeyHeap
import HandS.Lambda
import HandS.EndTab
import HandS.HeadWalk
import KE.KNestM
import KE.OsArith
import PyProof.StrLawsLast
import PyProof.StrLawsFirst
import PySem.Challenge.RW_fourway_k77_whole_parted_nets
set_option Elab.async false
set_option linter.all false
set_option maxRecDepth 100000
namespace Ty
open PySem L2

/-! ### the mirror's monad -/
inductive Err where
  | no
  | exc (c : Nat) (i : Int) (x : Str)
abbrev M := Except Err
def no {α : Type} : M α := .error .no
def gd (b : Bool) : M Unit := if b then .ok () else .error .no
def ofO {α : Type} : Option α → M α
  | some a => .ok a
  | none => .error .no
theorem bind_ok {α β : Type} {m : M α} {k : α → M β} {b : β} (h : (m >>= k) = .ok b) : ∃ a, m = .ok a ∧ k a = .ok b := by
  cases m with
  | error e => cases h
  | ok a => exact ⟨a, rfl, h⟩
theorem gd_ok {b : Bool} {u : Unit} (h : gd b = .ok u) : b = true := by
  cases b with
  | true => rfl
  | false => cases h
theorem ofO_ok {α : Type} {o : Option α} {a : α} (h : ofO o = .ok a) : o = some a := by
  cases o with
  | none => cases h
  | some x => cases h; rfl
theorem pure_ok {α : Type} {a b : α} (h : (pure a : M α) = .ok b) : a = b := by
  cases h; rfl

/-! ### what stands for a Lean value -/
class Rp (α : Type) where
  sh : PySem.W.Frag → Hp → V → α → Prop
  mono : ∀ {K : PySem.W.Frag} {H H' : Hp} {v : V} {a : α}, Same H H' → sh K H v a → sh K H' v a
/-- a value that needs no heap -/
class Fl (α : Type) extends Rp α where
  enc : α → V
  sh_iff : ∀ {K : PySem.W.Frag} {H : Hp} {v : V} {a : α}, sh K H v a ↔ v = enc a
@[reducible] def flOf {α : Type} (enc : α → V) : Fl α where
  sh _ _ v a := v = enc a
  mono _ h := h
  enc := enc
  sh_iff := Iff.rfl
instance : Fl Int := flOf V.int
instance : Fl Bool := flOf V.bl
instance : Fl Str := flOf V.str
instance : Fl Unit := flOf fun _ => V.non
instance : Fl (Option Int) := flOf fun o => match o with
  | some i => .int i
  | none => .non
instance : Fl (Option Str) := flOf fun o => match o with
  | some i => .str i
  | none => .non

def Fa {α : Type} (R : V → α → Prop) : List V → List α → Prop
  | [], [] => True
  | v :: vs, a :: as => R v a ∧ Fa R vs as
  | _, _ => False
theorem Fa.mono {α : Type} {R R' : V → α → Prop} (h : ∀ v a, R v a → R' v a) : ∀ {vs : List V} {as : List α}, Fa R vs as → Fa R' vs as
  | [], [], _ => True.intro
  | v :: vs, a :: as, ⟨x, y⟩ => ⟨h _ _ x, Fa.mono h y⟩
  | [], _ :: _, x => x.elim
  | _ :: _, [], x => x.elim
theorem Fa.len {α : Type} {R : V → α → Prop} : ∀ {vs : List V} {as : List α}, Fa R vs as → vs.length = as.length
  | [], [], _ => rfl
  | v :: vs, a :: as, ⟨_, y⟩ => congrArg (· + 1) (Fa.len y)
  | [], _ :: _, x => x.elim
  | _ :: _, [], x => x.elim
theorem Fa.get {α : Type} {R : V → α → Prop} : ∀ {vs : List V} {as : List α} {i : Nat} {v : V}, Fa R vs as → vs[i]? = some v → ∃ a, as[i]? = some a ∧ R v a
  | v :: vs, a :: as, 0, w, ⟨x, _⟩, e => by
    have e' : v = w := Option.some.inj e
    exact ⟨a, rfl, e' ▸ x⟩
  | v :: vs, a :: as, i + 1, w, ⟨_, y⟩, e => Fa.get (i := i) y e
  | [], _, _, _, _, e => by simp at e
  | _ :: _, [], _, _, x, _ => x.elim
theorem Fa.get' {α : Type} {R : V → α → Prop} : ∀ {vs : List V} {as : List α} {i : Nat} {a : α}, Fa R vs as → as[i]? = some a → ∃ v, vs[i]? = some v ∧ R v a
  | v :: vs, a :: as, 0, w, ⟨x, _⟩, e => by
    have e' : a = w := Option.some.inj e
    exact ⟨v, rfl, e' ▸ x⟩
  | v :: vs, a :: as, i + 1, w, ⟨_, y⟩, e => Fa.get' (i := i) y e
  | _, [], _, _, _, e => by simp at e
  | [], _ :: _, _, _, x, _ => x.elim
theorem Fa.append {α : Type} {R : V → α → Prop} : ∀ {vs ws : List V} {as bs : List α}, Fa R vs as → Fa R ws bs → Fa R (vs ++ ws) (as ++ bs)
  | [], _, [], _, _, h => h
  | v :: vs, _, a :: as, _, ⟨x, y⟩, h => ⟨x, Fa.append y h⟩
  | [], _, _ :: _, _, x, _ => x.elim
  | _ :: _, _, [], _, x, _ => x.elim
theorem Fa.take {α : Type} {R : V → α → Prop} : ∀ (n : Nat) {vs : List V} {as : List α}, Fa R vs as → Fa R (vs.take n) (as.take n)
  | 0, _, _, _ => by simp only [List.take_zero]; exact True.intro
  | n + 1, [], [], _ => True.intro
  | n + 1, v :: vs, a :: as, ⟨x, y⟩ => ⟨x, Fa.take n y⟩
  | _ + 1, [], _ :: _, x => x.elim
  | _ + 1, _ :: _, [], x => x.elim
theorem Fa.drop {α : Type} {R : V → α → Prop} : ∀ (n : Nat) {vs : List V} {as : List α}, Fa R vs as → Fa R (vs.drop n) (as.drop n)
  | 0, _, _, h => h
  | n + 1, [], [], _ => True.intro
  | n + 1, v :: vs, a :: as, ⟨_, y⟩ => Fa.drop n y
  | _ + 1, [], _ :: _, x => x.elim
  | _ + 1, _ :: _, [], x => x.elim
theorem Fa.set {α : Type} {R : V → α → Prop} {v : V} {a : α} (h : R v a) : ∀ {vs : List V} {as : List α} (i : Nat), Fa R vs as → Fa R (vs.set i v) (as.set i a)
  | [], [], _, _ => True.intro
  | w :: vs, b :: as, 0, ⟨_, y⟩ => ⟨h, y⟩
  | w :: vs, b :: as, i + 1, ⟨x, y⟩ => ⟨x, Fa.set h i y⟩
  | [], _ :: _, _, x => x.elim
  | _ :: _, [], _, x => x.elim
theorem Fa.reverse {α : Type} {R : V → α → Prop} : ∀ {vs : List V} {as : List α}, Fa R vs as → Fa R vs.reverse as.reverse
  | [], [], _ => True.intro
  | v :: vs, a :: as, ⟨x, y⟩ => by
    rw [List.reverse_cons, List.reverse_cons]
    exact Fa.append (Fa.reverse y) ⟨x, True.intro⟩
  | [], _ :: _, x => x.elim
  | _ :: _, [], x => x.elim
theorem Fa.rep {α : Type} {R : V → α → Prop} {vs : List V} {as : List α} (h : Fa R vs as) : ∀ k : Nat, Fa R (List.replicate k vs).flatten (List.replicate k as).flatten
  | 0 => True.intro
  | k + 1 => by
    rw [List.replicate_succ, List.replicate_succ, List.flatten_cons, List.flatten_cons]
    exact Fa.append h (Fa.rep h k)
theorem Fa.flat {α : Type} [Fl α] {K : PySem.W.Frag} {H : Hp} : ∀ {vs : List V} {as : List α}, Fa (Rp.sh K H) vs as ↔ vs = as.map Fl.enc
  | [], [] => ⟨fun _ => rfl, fun _ => True.intro⟩
  | v :: vs, a :: as => by
    show (Rp.sh K H v a ∧ Fa (Rp.sh K H) vs as) ↔ _
    rw [Fl.sh_iff, Fa.flat (vs := vs) (as := as)]
    simp
  | [], _ :: _ => ⟨fun x => x.elim, fun e => by simp at e⟩
  | _ :: _, [] => ⟨fun x => x.elim, fun e => by simp at e⟩

instance rpList {α : Type} [Rp α] : Rp (List α) where
  sh K H v as := ∃ p vs, v = .ref p ∧ H p = some (.lst vs) ∧ Fa (Rp.sh K H) vs as
  mono := fun {K H H' v a} e ⟨p, vs, h1, h2, h3⟩ => ⟨p, vs, h1, e _ _ h2, Fa.mono (fun _ _ h => Rp.mono e h) h3⟩
theorem sqT_mono {K : PySem.W.Frag} {H H' : Hp} {a : Addr} {xs : List V} (e : Same H H') (h : SqT K H a xs) : SqT K H' a xs := by
  rcases h with (h | ⟨o, h⟩) | h
  · exact .inl (.inl (e _ _ h))
  · exact .inl (.inr ⟨o, e _ _ h⟩)
  · exact .inr h
instance rpPair {α β : Type} [Rp α] [Rp β] : Rp (α × β) where
  sh K H v x := ∃ p va vb, v = .ref p ∧ SqT K H p [va, vb] ∧ Rp.sh K H va x.1 ∧ Rp.sh K H vb x.2
  mono := fun {K H H' v a} e ⟨p, va, vb, h1, h2, h3, h4⟩ => ⟨p, va, vb, h1, sqT_mono e h2, Rp.mono e h3, Rp.mono e h4⟩
structure T3 (α β γ : Type) where
  a : α
  b : β
  c : γ
  deriving DecidableEq
instance rpT3 {α β γ : Type} [Rp α] [Rp β] [Rp γ] : Rp (T3 α β γ) where
  sh K H v x := ∃ p va vb vc, v = .ref p ∧ SqT K H p [va, vb, vc] ∧ Rp.sh K H va x.a ∧ Rp.sh K H vb x.b ∧ Rp.sh K H vc x.c
  mono := fun {K H H' v a} e ⟨p, va, vb, vc, h1, h2, h3, h4, h5⟩ => ⟨p, va, vb, vc, h1, sqT_mono e h2, Rp.mono e h3, Rp.mono e h4, Rp.mono e h5⟩
/-- a tuple of things of one kind -/
structure Tu (α : Type) where
  l : List α
  deriving DecidableEq
instance rpTu {α : Type} [Rp α] : Rp (Tu α) where
  sh K H v x := ∃ p vs, v = .ref p ∧ SqT K H p vs ∧ Fa (Rp.sh K H) vs x.l
  mono := fun {K H H' v a} e ⟨p, vs, h1, h2, h3⟩ => ⟨p, vs, h1, sqT_mono e h2, Fa.mono (fun _ _ h => Rp.mono e h) h3⟩
/-- the script: a list of ints that is only read -/
structure Scr where
  l : List Int
instance : Rp Scr where
  sh K H v x := ∃ p, v = .ref p ∧ SqL K H p (x.l.map V.int)
  mono := fun e ⟨p, h1, h2⟩ => ⟨p, h1, e.seq h2⟩

/-! ### what is owned -/
structure Ow (α : Type) [Rp α] where
  rep : PySem.W.Frag → Hp → Hp → V → α → List Addr → Prop
  mono : ∀ {K : PySem.W.Frag} {HF HF' H H' : Hp} {v : V} {a : α} {fp : List Addr}, Same HF HF' → (∀ p ∈ fp, ∀ o, H p = some o → H' p = some o) → rep K HF H v a fp → rep K HF' H' v a fp
  dom : ∀ {K : PySem.W.Frag} {HF H : Hp} {v : V} {a : α} {fp : List Addr}, rep K HF H v a fp → ∀ p ∈ fp, ∃ o, H p = some o
  frz : ∀ {K : PySem.W.Frag} {HF HF' H : Hp} {v : V} {a : α} {fp : List Addr}, Same HF HF' → (∀ p ∈ fp, ∀ o, H p = some o → HF' p = some o) → rep K HF H v a fp → Rp.sh K HF' v a
  out : α → (V → Hp → Prop) → V → Hp → Prop := fun _ R v H => R v H
def Ow.v {α : Type} [Rp α] : Ow α where
  rep K HF _ v a fp := Rp.sh K HF v a ∧ fp = []
  mono := fun e _ ⟨h, f⟩ => ⟨Rp.mono e h, f⟩
  dom := fun ⟨_, f⟩ p hp => by subst f; cases hp
  frz := fun e _ ⟨h, _⟩ => Rp.mono e h
def Rl {α : Type} (R : V → α → List Addr → Prop) : List V → List α → List Addr → Prop
  | [], [], fp => fp = []
  | v :: vs, a :: as, fp => ∃ f1 f2, fp = f1 ++ f2 ∧ R v a f1 ∧ Rl R vs as f2
  | _, _, _ => False
theorem Rl.mono {α : Type} {R R' : V → α → List Addr → Prop} : ∀ {vs : List V} {as : List α} {fp : List Addr}, (∀ v a f, (∀ p ∈ f, p ∈ fp) → R v a f → R' v a f) → Rl R vs as fp → Rl R' vs as fp
  | [], [], _, _, e => e
  | v :: vs, a :: as, fp, h, ⟨f1, f2, e, x, y⟩ => ⟨f1, f2, e, h _ _ _ (fun p hp => by rw [e]; exact List.mem_append_left _ hp) x,
      Rl.mono (fun v a f hf => h v a f fun p hp => by rw [e]; exact List.mem_append_right _ (hf p hp)) y⟩
  | [], _ :: _, _, _, x => x.elim
  | _ :: _, [], _, _, x => x.elim
theorem Rl.fa {α : Type} {R : V → α → List Addr → Prop} {R' : V → α → Prop} : ∀ {vs : List V} {as : List α} {fp : List Addr}, (∀ v a f, (∀ p ∈ f, p ∈ fp) → R v a f → R' v a) → Rl R vs as fp → Fa R' vs as
  | [], [], _, _, _ => True.intro
  | v :: vs, a :: as, fp, h, ⟨f1, f2, e, x, y⟩ => ⟨h _ _ _ (fun p hp => by rw [e]; exact List.mem_append_left _ hp) x,
      Rl.fa (fun v a f hf => h v a f fun p hp => by rw [e]; exact List.mem_append_right _ (hf p hp)) y⟩
  | [], _ :: _, _, _, x => x.elim
  | _ :: _, [], _, _, x => x.elim
theorem Rl.dom {α : Type} {R : V → α → List Addr → Prop} {D : Addr → Prop} (h : ∀ v a f, R v a f → ∀ p ∈ f, D p) : ∀ {vs : List V} {as : List α} {fp : List Addr}, Rl R vs as fp → ∀ p ∈ fp, D p
  | [], [], fp, e, p, hp => by
    have e' : fp = [] := e
    subst e'; cases hp
  | v :: vs, a :: as, fp, ⟨f1, f2, e, x, y⟩, p, hp => by
    rw [e] at hp
    rcases List.mem_append.mp hp with hp | hp
    · exact h _ _ _ x p hp
    · exact Rl.dom h y p hp
  | [], _ :: _, _, x, _, _ => x.elim
  | _ :: _, [], _, x, _, _ => x.elim
theorem Rl.append {α : Type} {R : V → α → List Addr → Prop} : ∀ {vs ws : List V} {as bs : List α} {f g : List Addr}, Rl R vs as f → Rl R ws bs g → Rl R (vs ++ ws) (as ++ bs) (f ++ g)
  | [], _, [], _, f, g, e, h => by
    have e' : f = [] := e
    subst e'; exact h
  | v :: vs, _, a :: as, _, f, g, ⟨f1, f2, e, x, y⟩, h => ⟨f1, f2 ++ g, by rw [e, List.append_assoc], x, Rl.append y h⟩
  | [], _, _ :: _, _, _, _, x, _ => x.elim
  | _ :: _, _, [], _, _, _, x, _ => x.elim
theorem Rl.one {α : Type} {R : V → α → List Addr → Prop} {v : V} {a : α} {f : List Addr} (h : R v a f) : Rl R [v] [a] f := ⟨f, [], by simp, h, rfl⟩
theorem Rl.len {α : Type} {R : V → α → List Addr → Prop} : ∀ {vs : List V} {as : List α} {f : List Addr}, Rl R vs as f → vs.length = as.length
  | [], [], _, _ => rfl
  | v :: vs, a :: as, _, ⟨_, _, _, _, y⟩ => congrArg (· + 1) (Rl.len y)
  | [], _ :: _, _, x => x.elim
  | _ :: _, [], _, x => x.elim
/-- shared items -/
theorem Rl.ofFa {α : Type} [Rp α] {K : PySem.W.Frag} {HF H : Hp} : ∀ {vs : List V} {as : List α}, Fa (Rp.sh K HF) vs as → Rl (Ow.v.rep K HF H) vs as []
  | [], [], _ => rfl
  | v :: vs, a :: as, ⟨x, y⟩ => ⟨[], [], rfl, ⟨x, rfl⟩, Rl.ofFa y⟩
  | [], _ :: _, x => x.elim
  | _ :: _, [], x => x.elim
theorem Rl.toFa {α : Type} [Rp α] {K : PySem.W.Frag} {HF H : Hp} : ∀ {vs : List V} {as : List α} {fp : List Addr}, Rl (Ow.v.rep K HF H) vs as fp → Fa (Rp.sh K HF) vs as ∧ fp = []
  | [], [], _, e => ⟨True.intro, e⟩
  | v :: vs, a :: as, fp, ⟨f1, f2, e, ⟨x, e1⟩, y⟩ => by
    obtain ⟨y1, e2⟩ := Rl.toFa y
    exact ⟨⟨x, y1⟩, by rw [e, e1, e2]; rfl⟩
  | [], _ :: _, _, x => x.elim
  | _ :: _, [], _, x => x.elim
/-- an own list -/
def Ow.l {α : Type} [Rp α] (o : Ow α) : Ow (List α) where
  rep K HF H v as fp := ∃ p vs fq, v = .ref p ∧ fp = p :: fq ∧ H p = some (.lst vs) ∧ Rl (o.rep K HF H) vs as fq
  mono := fun e k ⟨p, vs, fq, h1, h2, h3, h4⟩ => by
    subst h2
    exact ⟨p, vs, fq, h1, rfl, k p (List.mem_cons_self ..) _ h3, Rl.mono (fun v a f hf h => o.mono e (fun q hq => k q (List.mem_cons_of_mem _ (hf q hq))) h) h4⟩
  dom := fun ⟨p, vs, fq, h1, h2, h3, h4⟩ q hq => by
    subst h2
    rcases List.mem_cons.mp hq with e | hq
    · exact ⟨_, e ▸ h3⟩
    · exact Rl.dom (fun v a f h => o.dom h) h4 q hq
  frz := fun e k ⟨p, vs, fq, h1, h2, h3, h4⟩ => by
    subst h2
    exact ⟨p, vs, h1, k p (List.mem_cons_self ..) _ h3, Rl.fa (fun v a f hf h => o.frz e (fun q hq => k q (List.mem_cons_of_mem _ (hf q hq))) h) h4⟩
def Ow.p {α β : Type} [Rp α] [Rp β] (o : Ow α) (u : Ow β) : Ow (α × β) where
  rep K HF H v x fp := ∃ p va vb f1 f2, v = .ref p ∧ fp = p :: (f1 ++ f2) ∧ H p = some (.tup [va, vb]) ∧ o.rep K HF H va x.1 f1 ∧ u.rep K HF H vb x.2 f2
  mono := fun e k ⟨p, va, vb, f1, f2, h1, h2, h3, h4, h5⟩ => by
    subst h2
    exact ⟨p, va, vb, f1, f2, h1, rfl, k p (List.mem_cons_self ..) _ h3, o.mono e (fun q hq => k q (List.mem_cons_of_mem _ (List.mem_append_left _ hq))) h4, u.mono e (fun q hq => k q (List.mem_cons_of_mem _ (List.mem_append_right _ hq))) h5⟩
  dom := fun ⟨p, va, vb, f1, f2, h1, h2, h3, h4, h5⟩ q hq => by
    subst h2
    rcases List.mem_cons.mp hq with e | hq
    · exact ⟨_, e ▸ h3⟩
    · rcases List.mem_append.mp hq with hq | hq
      · exact o.dom h4 q hq
      · exact u.dom h5 q hq
  frz := fun e k ⟨p, va, vb, f1, f2, h1, h2, h3, h4, h5⟩ => by
    subst h2
    exact ⟨p, va, vb, h1, .inl (.inl (k p (List.mem_cons_self ..) _ h3)), o.frz e (fun q hq => k q (List.mem_cons_of_mem _ (List.mem_append_left _ hq))) h4, u.frz e (fun q hq => k q (List.mem_cons_of_mem _ (List.mem_append_right _ hq))) h5⟩
def Ow.t3 {α β γ : Type} [Rp α] [Rp β] [Rp γ] (o : Ow α) (u : Ow β) (w : Ow γ) : Ow (T3 α β γ) where
  rep K HF H v x fp := ∃ p va vb vc f1 f2 f3, v = .ref p ∧ fp = p :: (f1 ++ (f2 ++ f3)) ∧ H p = some (.tup [va, vb, vc]) ∧ o.rep K HF H va x.a f1 ∧ u.rep K HF H vb x.b f2 ∧ w.rep K HF H vc x.c f3
  mono := fun e k ⟨p, va, vb, vc, f1, f2, f3, h1, h2, h3, h4, h5, h6⟩ => by
    subst h2
    exact ⟨p, va, vb, vc, f1, f2, f3, h1, rfl, k p (List.mem_cons_self ..) _ h3, o.mono e (fun q hq => k q (by simp [hq])) h4, u.mono e (fun q hq => k q (by simp [hq])) h5, w.mono e (fun q hq => k q (by simp [hq])) h6⟩
  dom := fun ⟨p, va, vb, vc, f1, f2, f3, h1, h2, h3, h4, h5, h6⟩ q hq => by
    subst h2
    rcases List.mem_cons.mp hq with e | hq
    · exact ⟨_, e ▸ h3⟩
    · rcases List.mem_append.mp hq with hq | hq
      · exact o.dom h4 q hq
      · rcases List.mem_append.mp hq with hq | hq
        · exact u.dom h5 q hq
        · exact w.dom h6 q hq
  frz := fun e k ⟨p, va, vb, vc, f1, f2, f3, h1, h2, h3, h4, h5, h6⟩ => by
    subst h2
    exact ⟨p, va, vb, vc, h1, .inl (.inl (k p (List.mem_cons_self ..) _ h3)), o.frz e (fun q hq => k q (by simp [hq])) h4, u.frz e (fun q hq => k q (by simp [hq])) h5, w.frz e (fun q hq => k q (by simp [hq])) h6⟩
/-- it leans on no shared object -/
class Ind {α : Type} [Rp α] (o : Ow α) : Prop where
  ind : ∀ {K : PySem.W.Frag} {HF HF' H : Hp} {v : V} {a : α} {fp : List Addr}, o.rep K HF H v a fp → o.rep K HF' H v a fp
instance indFl {α : Type} [Fl α] : Ind (Ow.v (α := α)) where
  ind := fun ⟨h, e⟩ => ⟨Fl.sh_iff.mpr (Fl.sh_iff.mp h), e⟩
instance indL {α : Type} [Rp α] {o : Ow α} [Ind o] : Ind o.l where
  ind := fun ⟨p, vs, fq, h1, h2, h3, h4⟩ => ⟨p, vs, fq, h1, h2, h3, Rl.mono (fun v a f _ h => Ind.ind h) h4⟩
instance indP {α β : Type} [Rp α] [Rp β] {o : Ow α} {u : Ow β} [Ind o] [Ind u] : Ind (o.p u) where
  ind := fun ⟨p, va, vb, f1, f2, h1, h2, h3, h4, h5⟩ => ⟨p, va, vb, f1, f2, h1, h2, h3, Ind.ind h4, Ind.ind h5⟩
instance indT3 {α β γ : Type} [Rp α] [Rp β] [Rp γ] {o : Ow α} {u : Ow β} {w : Ow γ} [Ind o] [Ind u] [Ind w] : Ind (o.t3 u w) where
  ind := fun ⟨p, va, vb, vc, f1, f2, f3, h1, h2, h3, h4, h5, h6⟩ => ⟨p, va, vb, vc, f1, f2, f3, h1, h2, h3, Ind.ind h4, Ind.ind h5, Ind.ind h6⟩

/-! ### the names at a place of the text -/
inductive Sl : Type 1 where
  | un
  | mk {α : Type} [i : Rp α] (o : Ow α) (a : α)
abbrev Ctx := List Sl
def look : Ctx → Nat → Sl
  | [], _ => .un
  | s :: _, 0 => s
  | _ :: Γ, i + 1 => look Γ i
def put : Ctx → Nat → Sl → Ctx
  | [], _, _ => []
  | _ :: Γ, 0, s => s :: Γ
  | t :: Γ, i + 1, s => t :: put Γ i s
def vw1 : Sl → Sl
  | .un => .un
  | .mk (α := α) (i := i) _ a => .mk (α := α) (i := i) .v a
def vw : Ctx → Ctx
  | [] => []
  | s :: Γ => vw1 s :: vw Γ
def HoldS (K : PySem.W.Frag) (HF H : Hp) : Sl → Option V → List Addr → Prop
  | .un, _, f => f = []
  | @Sl.mk α i o a, x, f => ∃ v, x = some v ∧ @Ow.rep α i o K HF H v a f
def Holds (K : PySem.W.Frag) (HF H : Hp) : Ctx → L2.St → List Addr → Prop
  | [], [], fs => fs = []
  | s :: Γ, x :: σ, fs => ∃ f1 f2, fs = f1 ++ f2 ∧ HoldS K HF H s x f1 ∧ Holds K HF H Γ σ f2
  | _, _, _ => False
/-- HF: what is shared; H: all; HF0, G: the same at the def's entry (G: what must stay) -/
structure Good (K : PySem.W.Frag) (HF0 G : Hp) (Γ : Ctx) (HF H : Hp) (σ : L2.St) : Prop where
  sub : Same HF H
  f0 : Same HF0 HF
  g0 : Same G H
  nf : ∀ p o, HF p = some o → HF0 p = none → G p = none
  held : ∃ fs, Holds K HF H Γ σ fs ∧ fs.Nodup ∧ ∀ p ∈ fs, HF p = none ∧ G p = none
/-- nothing that was there changes -/
structure Step (HF H HF' H' : Hp) : Prop where
  exF : Same HF HF'
  exH : Same H H'
  sub : Same HF' H'
  new : ∀ p o, HF' p = some o → HF p = none → H p = none
theorem Step.refl {HF H : Hp} (h : Same HF H) : Step HF H HF H := ⟨Same.refl _, Same.refl _, h, fun p o a b => by rw [a] at b; cases b⟩
theorem Step.trans {HF H HF1 H1 HF2 H2 : Hp} (a : Step HF H HF1 H1) (b : Step HF1 H1 HF2 H2) : Step HF H HF2 H2 :=
  ⟨a.exF.trans b.exF, a.exH.trans b.exH, b.sub, fun p o h n => by
    cases q : HF1 p with
    | some u => exact a.new p u q n
    | none => exact a.exH.free (b.new p o h q)⟩
/-- one new own object -/
theorem same_upd {H : Hp} {p : Addr} {o : HO} (h : H p = none) : Same H (upd H p o) := fun b x e => by
  rw [upd_ne (ne_of_none e h)]
  exact e
theorem Step.own {HF H : Hp} {p : Addr} {o : HO} (s : Same HF H) (h : H p = none) : Step HF H HF (upd H p o) :=
  ⟨Same.refl _, same_upd h, s.trans (same_upd h), fun p o a b => by rw [a] at b; cases b⟩
theorem HoldS.mono {K : PySem.W.Frag} {HF HF' H H' : Hp} (e : Same HF HF') : ∀ {s : Sl} {x : Option V} {f : List Addr}, (∀ p ∈ f, ∀ o, H p = some o → H' p = some o) → HoldS K HF H s x f → HoldS K HF' H' s x f
  | .un, _, _, _, h => h
  | @Sl.mk α i o a, _, _, k, ⟨v, h1, h2⟩ => ⟨v, h1, @Ow.mono α i o _ _ _ _ _ _ _ _ e k h2⟩
theorem HoldS.dom {K : PySem.W.Frag} {HF H : Hp} : ∀ {s : Sl} {x : Option V} {f : List Addr}, HoldS K HF H s x f → ∀ p ∈ f, ∃ o, H p = some o
  | .un, _, f, h, p, hp => by
    have e : f = [] := h
    subst e; cases hp
  | @Sl.mk α i o a, _, _, ⟨v, h1, h2⟩, p, hp => @Ow.dom α i o _ _ _ _ _ _ h2 p hp
theorem Holds.mono {K : PySem.W.Frag} {HF HF' H H' : Hp} (e : Same HF HF') : ∀ {Γ : Ctx} {σ : L2.St} {fs : List Addr}, (∀ p ∈ fs, ∀ o, H p = some o → H' p = some o) → Holds K HF H Γ σ fs → Holds K HF' H' Γ σ fs
  | [], [], _, _, h => h
  | s :: Γ, x :: σ, fs, k, ⟨f1, f2, h1, h2, h3⟩ => ⟨f1, f2, h1, HoldS.mono e (fun p hp => k p (by rw [h1]; exact List.mem_append_left _ hp)) h2, Holds.mono e (fun p hp => k p (by rw [h1]; exact List.mem_append_right _ hp)) h3⟩
  | [], _ :: _, _, _, h => h.elim
  | _ :: _, [], _, _, h => h.elim
theorem Holds.dom {K : PySem.W.Frag} {HF H : Hp} : ∀ {Γ : Ctx} {σ : L2.St} {fs : List Addr}, Holds K HF H Γ σ fs → ∀ p ∈ fs, ∃ o, H p = some o
  | [], [], fs, h, p, hp => by
    have e : fs = [] := h
    subst e; cases hp
  | s :: Γ, x :: σ, fs, ⟨f1, f2, h1, h2, h3⟩, p, hp => by
    rw [h1] at hp
    rcases List.mem_append.mp hp with hp | hp
    · exact h2.dom p hp
    · exact Holds.dom h3 p hp
  | [], _ :: _, _, h, _, _ => h.elim
  | _ :: _, [], _, h, _, _ => h.elim
theorem Holds.len {K : PySem.W.Frag} {HF H : Hp} : ∀ {Γ : Ctx} {σ : L2.St} {fs : List Addr}, Holds K HF H Γ σ fs → Γ.length = σ.length
  | [], [], _, _ => rfl
  | s :: Γ, x :: σ, _, ⟨_, _, _, _, h⟩ => congrArg (· + 1) (Holds.len h)
  | [], _ :: _, _, h => h.elim
  | _ :: _, [], _, h => h.elim
theorem Good.step {K : PySem.W.Frag} {HF0 G HF H HF' H' : Hp} {Γ : Ctx} {σ : L2.St} (g : Good K HF0 G Γ HF H σ) (s : Step HF H HF' H') : Good K HF0 G Γ HF' H' σ := by
  obtain ⟨fs, h1, h2, h3⟩ := g.held
  refine ⟨s.sub, g.f0.trans s.exF, g.g0.trans s.exH, fun p o a b => ?_, fs, h1.mono s.exF fun p _ o e => s.exH p o e, h2, fun p hp => ⟨?_, (h3 p hp).2⟩⟩
  · cases q : HF p with
    | some u => exact g.nf p u q b
    | none => exact g.g0.free (s.new p o a q)
  · cases q : HF' p with
    | none => rfl
    | some u =>
      have := s.new p u q (h3 p hp).1
      obtain ⟨o, ho⟩ := h1.dom p hp
      rw [ho] at this; cases this
theorem Holds.get {K : PySem.W.Frag} {HF H : Hp} {α : Type} [Rp α] {o : Ow α} {a : α} : ∀ {Γ : Ctx} {σ : L2.St} {fs : List Addr} {i : Nat}, Holds K HF H Γ σ fs → look Γ i = .mk o a → ∃ v f, σ[i]? = some (some v) ∧ o.rep K HF H v a f ∧ ∀ p ∈ f, p ∈ fs
  | [], [], _, _, _, e => by cases e
  | s :: Γ, x :: σ, fs, 0, ⟨f1, f2, h1, h2, h3⟩, e => by
    have e' : s = .mk o a := e
    subst e'
    obtain ⟨v, hv, r⟩ := h2
    exact ⟨v, f1, by rw [hv]; rfl, r, fun p hp => by rw [h1]; exact List.mem_append_left _ hp⟩
  | s :: Γ, x :: σ, fs, i + 1, ⟨f1, f2, h1, h2, h3⟩, e => by
    obtain ⟨v, f, q1, q2, q3⟩ := Holds.get (i := i) h3 e
    exact ⟨v, f, q1, q2, fun p hp => by rw [h1]; exact List.mem_append_right _ (q3 p hp)⟩
  | [], _ :: _, _, _, h, _ => h.elim
  | _ :: _, [], _, _, h, _ => h.elim
/-- the slot i without its things -/
theorem Holds.put {K : PySem.W.Frag} {HF H : Hp} : ∀ {Γ : Ctx} {σ : L2.St} {fs : List Addr} {i : Nat}, Holds K HF H Γ σ fs → i < Γ.length →
    ∃ fo fr : List Addr, HoldS K HF H (look Γ i) (σ.getD i none) fo ∧ (∀ p, p ∈ fs ↔ p ∈ fo ∨ p ∈ fr) ∧ (fs.Nodup → fr.Nodup ∧ fo.Nodup ∧ ∀ p ∈ fo, p ∉ fr) ∧
      ∀ {HF' H' : Hp} {s : Sl} {x : Option V} {f : List Addr}, (∀ {Γ : Ctx} {σ : L2.St} {f : List Addr}, (∀ p ∈ f, p ∈ fr) → Holds K HF H Γ σ f → Holds K HF' H' Γ σ f) → (∀ {s : Sl} {x : Option V} {f : List Addr}, (∀ p ∈ f, p ∈ fr) → HoldS K HF H s x f → HoldS K HF' H' s x f) → HoldS K HF' H' s x f →
        ∃ fs', Holds K HF' H' (put Γ i s) (σ.set i x) fs' ∧ (∀ p, p ∈ fs' ↔ p ∈ f ∨ p ∈ fr) ∧ (fr.Nodup → f.Nodup → (∀ p ∈ f, p ∉ fr) → fs'.Nodup)
  | [], [], _, i, _, hi => absurd hi (Nat.not_lt_zero _)
  | s :: Γ, x :: σ, fs, 0, ⟨f1, f2, h1, h2, h3⟩, _ => by
    refine ⟨f1, f2, h2, fun p => by rw [h1]; exact List.mem_append, fun nd => ?_, fun k1 k2 h => ?_⟩
    · rw [h1] at nd
      obtain ⟨a, b, c⟩ := List.nodup_append.mp nd
      exact ⟨b, a, fun p hp hq => c p hp p hq rfl⟩
    · rename_i f
      refine ⟨f ++ f2, ⟨f, f2, rfl, h, k1 (fun p hp => hp) h3⟩, fun p => List.mem_append, fun n1 n2 n3 => List.nodup_append.mpr ⟨n2, n1, fun p hp q hq e => n3 p hp (e ▸ hq)⟩⟩
  | s :: Γ, x :: σ, fs, i + 1, ⟨f1, f2, h1, h2, h3⟩, hi => by
    obtain ⟨fo, fr, q1, q2, q3, q4⟩ := Holds.put (i := i) h3 (Nat.lt_of_succ_lt_succ hi)
    refine ⟨fo, f1 ++ fr, q1, fun p => ?_, fun nd => ?_, fun k1 k2 h => ?_⟩
    · rw [h1, List.mem_append, q2, List.mem_append]
      constructor
      · rintro (a | a | a)
        · exact .inr (.inl a)
        · exact .inl a
        · exact .inr (.inr a)
      · rintro (a | a | a)
        · exact .inr (.inl a)
        · exact .inl a
        · exact .inr (.inr a)
    · rw [h1] at nd
      obtain ⟨a, b, c⟩ := List.nodup_append.mp nd
      obtain ⟨r1, r2, r3⟩ := q3 b
      refine ⟨List.nodup_append.mpr ⟨a, r1, fun p hp q hq e => c p hp q ((q2 q).mpr (.inr hq)) e⟩, r2, fun p hp hq => ?_⟩
      rcases List.mem_append.mp hq with hq | hq
      · exact c p hq p ((q2 p).mpr (.inl hp)) rfl
      · exact r3 p hp hq
    · rename_i f
      obtain ⟨fs', w1, w2, w3⟩ := q4 (f := f) (fun hp => k1 fun p z => List.mem_append_right _ (hp p z)) (fun hp => k2 fun p z => List.mem_append_right _ (hp p z)) h
      refine ⟨f1 ++ fs', ⟨f1, fs', rfl, k2 (fun p z => List.mem_append_left _ z) h2, w1⟩, fun p => ?_, fun n1 n2 n3 => ?_⟩
      · rw [List.mem_append, w2, List.mem_append]
        constructor
        · rintro (a | a | a)
          · exact .inr (.inl a)
          · exact .inl a
          · exact .inr (.inr a)
        · rintro (a | a | a)
          · exact .inr (.inl a)
          · exact .inl a
          · exact .inr (.inr a)
      · obtain ⟨a, b, c⟩ := List.nodup_append.mp n1
        refine List.nodup_append.mpr ⟨a, w3 b n2 fun p hp hq => n3 p hp (List.mem_append_right _ hq), fun p hp q hq e => ?_⟩
        subst e
        rcases (w2 p).mp hq with z | z
        · exact n3 p z (List.mem_append_left _ hp)
        · exact c p hp p z rfl
  | [], _ :: _, _, _, h, _ => h.elim
  | _ :: _, [], _, _, h, _ => h.elim
end Ty

namespace Ty
open PySem L2

/-- what a value of c, made of nothing that can change, is wanted to do -/
def RetK {α : Type} [Rp α] (K : PySem.W.Frag) (HF H : Hp) (o : Ow α) (c : α) (Q : VK) : Prop :=
  ∀ v HF' H' fp, Step HF H HF' H' → o.rep K HF' H' v c fp → fp.Nodup → (∀ p ∈ fp, H p = none ∧ HF' p = none) → Q v H'
theorem RetK.flat {α : Type} [Fl α] {K : PySem.W.Frag} {HF H : Hp} {c : α} {Q : VK} (k : RetK K HF H Ow.v c Q) (s : Same HF H) : Q (Fl.enc c) H :=
  k _ HF H [] (Step.refl s) ⟨Fl.sh_iff.mpr rfl, rfl⟩ List.nodup_nil (fun p hp => by cases hp)
theorem RetK.shv {α : Type} [Rp α] {K : PySem.W.Frag} {HF H : Hp} {c : α} {v : V} {Q : VK} (k : RetK K HF H Ow.v c Q) (s : Same HF H) (h : Rp.sh K HF v c) : Q v H :=
  k _ HF H [] (Step.refl s) ⟨h, rfl⟩ List.nodup_nil (fun p hp => by cases hp)
/-- a new list of shared things -/
theorem RetK.lst {α : Type} [Rp α] {K : PySem.W.Frag} {HF H : Hp} {c : List α} {vs : List V} {p : Addr} {Q : VK} (k : RetK K HF H (Ow.l Ow.v) c Q) (s : Same HF H) (h : Fa (Rp.sh K HF) vs c) (hp : H p = none) : Q (.ref p) (upd H p (.lst vs)) :=
  k _ HF _ [p] (Step.own s hp) ⟨p, vs, [], rfl, rfl, upd_same, Rl.ofFa h⟩ (by simp) (fun q hq => by
    have e : q = p := by simpa using hq
    subst e
    exact ⟨hp, s.free hp⟩)
def SemE {α : Type} [Rp α] (K : PySem.W.Frag) (Γ : Ctx) (t : TE) (o : Ow α) (m : M α) : Prop :=
  ∀ HF0 G HF H σ, Good K HF0 G Γ HF H σ → ∀ a, m = .ok a → ∀ Q : VK, RetK K HF H o a Q → t σ H Q
structure EX {α : Type} [Rp α] (X : Cx) (Γ : Ctx) (e : Expr) (o : Ow α) (m : M α) (t : TE) : Prop where
  pe : PE X e t
  sem : SemE X.K Γ t o m
def SemT (K : PySem.W.Frag) (Γ : Ctx) (t : TT) (m : M Bool) : Prop :=
  ∀ HF0 G HF H σ, Good K HF0 G Γ HF H σ → ∀ a, m = .ok a → ∀ Q : Bool → Hp → Prop, (∀ HF' H', Step HF H HF' H' → Q a H') → t σ H Q
structure ET (X : Cx) (Γ : Ctx) (e : Expr) (m : M Bool) (t : TT) : Prop where
  pt : PT X e t
  sem : SemT X.K Γ t m
structure EW (X : Cx) (Γ : Ctx) (e : Expr) (m : M Bool) (t : TT) : Prop where
  pw : PW X e t
  sem : SemT X.K Γ t m

section
variable {X : Cx} {Γ : Ctx} {α β γ : Type}

/-! ### names, constants -/
theorem ex_var [Rp α] (i : Nat) {x : Str} {pos : Pos} {a : α} (hl : look Γ i = .mk Ow.v a := by rfl) (hN : X.N[i]? = some x := by rfl) (hv : Vis X.env.scope x := by first | exact Or.inl rfl | exact Or.inr (Or.inl rfl) | exact Or.inr (Or.inr rfl)) (hd : (x == ("__debug__" : Str)) = false := by decide)
    (hcd : (x == ("__classdict__" : Str)) = false := by decide) : EX X Γ (.Name x pos) Ow.v (pure a) (tVar i) :=
  ⟨pe_var hN hv hd hcd, fun HF0 G HF H σ g c hc Q k => by
    cases pure_ok hc
    obtain ⟨fs, h1, _, _⟩ := g.held
    obtain ⟨v, f, h2, h3, _⟩ := h1.get hl
    exact ⟨v, h2, k.shv g.sub h3.1⟩⟩
theorem ex_int {i : Int} {j pos} : EX X Γ (.Constant (.int i) j pos) Ow.v (pure i) (tC (.int i)) :=
  ⟨pe_int, fun HF0 G HF H σ g c hc Q k => by cases pure_ok hc; exact k.flat g.sub⟩
theorem ex_bl {b : Bool} {j pos} : EX X Γ (.Constant (.bool b) j pos) Ow.v (pure b) (tC (.bl b)) :=
  ⟨pe_bl, fun HF0 G HF H σ g c hc Q k => by cases pure_ok hc; exact k.flat g.sub⟩
/-! ### own things looked at; own things made shared -/
theorem Holds.vw {K : PySem.W.Frag} {HF H : Hp} (s : Same HF H) : ∀ {Γ : Ctx} {σ : L2.St} {fs : List Addr}, Holds K HF H Γ σ fs → Holds K H H (vw Γ) σ []
  | [], [], _, _ => rfl
  | .un :: Γ, x :: σ, fs, ⟨f1, f2, h1, h2, h3⟩ => ⟨[], [], rfl, rfl, Holds.vw s h3⟩
  | @Sl.mk α i o a :: Γ, x :: σ, fs, ⟨f1, f2, h1, ⟨v, e, h2⟩, h3⟩ => ⟨[], [], rfl, ⟨v, e, @Ow.frz α i o _ _ _ _ _ _ _ s (fun p _ o e => e) h2, rfl⟩, Holds.vw s h3⟩
  | [], _ :: _, _, h => h.elim
  | _ :: _, [], _, h => h.elim
theorem Good.vw {K : PySem.W.Frag} {HF0 G HF H : Hp} {σ : L2.St} (g : Good K HF0 G Γ HF H σ) : Good K H H (vw Γ) H H σ := by
  obtain ⟨fs, h1, h2, h3⟩ := g.held
  exact ⟨Same.refl _, Same.refl _, Same.refl _, fun p o a b => b, [], h1.vw g.sub, List.nodup_nil, fun p hp => by cases hp⟩
theorem ex_view [Rp α] {o : Ow α} [Ind o] {e : Expr} {m : M α} {t : TE} (h : EX X (vw Γ) e o m t) : EX X Γ e o m t :=
  ⟨h.pe, fun HF0 G HF H σ g c hc Q k => h.sem H H H H σ g.vw c hc Q fun v HF' H' fp st r n f =>
    k v HF H' fp ⟨Same.refl _, st.exH, g.sub.trans st.exH, fun p o a b => by rw [a] at b; cases b⟩ (Ind.ind r) n fun p hp => ⟨(f p hp).1, g.sub.free (f p hp).1⟩⟩
theorem et_view {e : Expr} {m : M Bool} {t : TT} (h : ET X (vw Γ) e m t) : ET X Γ e m t :=
  ⟨h.pt, fun HF0 G HF H σ g c hc Q k => h.sem H H H H σ g.vw c hc Q fun HF' H' st =>
    k HF H' ⟨Same.refl _, st.exH, g.sub.trans st.exH, fun p o a b => by rw [a] at b; cases b⟩⟩
/-- HF and what stands at fp -/
def plus (HF H : Hp) (fp : List Addr) : Hp := fun p => if p ∈ fp then H p else HF p
theorem plus_same {HF H : Hp} {fp : List Addr} (h : ∀ p ∈ fp, HF p = none) : Same HF (plus HF H fp) := fun p o e => by
  unfold plus
  by_cases hp : p ∈ fp
  · rw [h p hp] at e; cases e
  · rw [if_neg hp]; exact e
theorem plus_sub {HF H : Hp} {fp : List Addr} (s : Same HF H) : Same (plus HF H fp) H := fun p o e => by
  unfold plus at e
  by_cases hp : p ∈ fp
  · rw [if_pos hp] at e; exact e
  · rw [if_neg hp] at e; exact s p o e
theorem plus_at {HF H : Hp} {fp : List Addr} : ∀ p ∈ fp, ∀ o, H p = some o → plus HF H fp p = some o := fun p hp o e => by
  unfold plus
  rw [if_pos hp]; exact e
theorem plus_out {HF H : Hp} {fp : List Addr} {p : Addr} (hp : p ∉ fp) : plus HF H fp p = HF p := by
  unfold plus
  rw [if_neg hp]
theorem ex_frz [Rp α] {o : Ow α} {e : Expr} {m : M α} {t : TE} (h : EX X Γ e o m t) : EX X Γ e Ow.v m t :=
  ⟨h.pe, fun HF0 G HF H σ g c hc Q k => h.sem HF0 G HF H σ g c hc Q fun v HF' H' fp st r n f =>
    k v (plus HF' H' fp) H' [] ⟨st.exF.trans (plus_same fun p hp => (f p hp).2), st.exH, plus_sub st.sub, fun p o a b => by
      by_cases hp : p ∈ fp
      · exact (f p hp).1
      · rw [plus_out hp] at a
        exact st.new p o a b⟩ ⟨o.frz (plus_same fun p hp => (f p hp).2) plus_at r, rfl⟩ List.nodup_nil fun p hp => by cases hp⟩

/-! ### operators on shared things -/
def SemR2 [Rp α] [Rp β] [Rp γ] (K : PySem.W.Frag) (r : R2) (o : Ow γ) (f : α → β → M γ) : Prop :=
  ∀ HF H v w a b c, Same HF H → Rp.sh K HF v a → Rp.sh K HF w b → f a b = .ok c → ∀ Q : VK, RetK K HF H o c Q → r v w H Q
theorem RetK.back [Rp γ] {K : PySem.W.Frag} {HF H HF1 H1 : Hp} {o : Ow γ} {c : γ} {Q : VK} (k : RetK K HF H o c Q) (s : Step HF H HF1 H1) : RetK K HF1 H1 o c Q :=
  fun v HF' H' fp st r n f => k v HF' H' fp (s.trans st) r n fun p hp => ⟨s.exH.free (f p hp).1, (f p hp).2⟩
theorem sem_op [Rp α] [Rp β] [Rp γ] {K : PySem.W.Frag} {r : R2} {o : Ow γ} {f : α → β → M γ} {ta tb : TE} {ma : M α} {mb : M β} (hr : SemR2 K r o f) (ha : SemE K Γ ta Ow.v ma) (hb : SemE K Γ tb Ow.v mb) :
    SemE K Γ (tOp r ta tb) o (do let a ← ma; let b ← mb; f a b) := fun HF0 G HF H σ g c hc Q k => by
  obtain ⟨a, e1, hc⟩ := bind_ok hc
  obtain ⟨b, e2, hc⟩ := bind_ok hc
  refine ha HF0 G HF H σ g a e1 _ fun v HF1 H1 fp s1 r1 _ _ => ?_
  refine hb HF0 G HF1 H1 σ (g.step s1) b e2 _ fun w HF2 H2 fp2 s2 r2 _ _ => ?_
  exact hr HF2 H2 v w a b c s2.sub (Rp.mono s2.exF r1.1) r2.1 hc Q (k.back (s1.trans s2))
theorem ex_op [Rp α] [Rp β] [Rp γ] {op : Operator} {r : R2} {o : Ow γ} {f : α → β → M γ} {a b : Expr} {pos : Pos} {ta tb : TE} {ma : M α} {mb : M β} (ho : OpR X (binaryOp op) r) (hr : SemR2 X.K r o f) (ha : EX X Γ a Ow.v ma ta) (hb : EX X Γ b Ow.v mb tb) :
    EX X Γ (.BinOp a op b pos) o (do let a ← ma; let b ← mb; f a b) (tOp r ta tb) := ⟨pe_op ho ha.pe hb.pe, sem_op hr ha.sem hb.sem⟩
/-- ints -/
theorem sr_I0 [Fl γ] {K : PySem.W.Frag} {g : Int → Int → V} {f : Int → Int → γ} (h : ∀ i j, Fl.enc (f i j) = g i j) : SemR2 K (rI0 g) Ow.v (fun (a b : Int) => pure (f a b)) := fun HF H v w a b c s ra rb hc Q k => by
  cases pure_ok hc
  refine ⟨a, b, ra, rb, ?_⟩
  rw [← h]; exact k.flat s
theorem sr_I [Fl γ] {K : PySem.W.Frag} {C : Int → Int → Prop} {g : Int → Int → V} {f : Int → Int → γ} (B : Int → Int → Bool) (hB : ∀ i j, B i j = true → C i j) (h : ∀ i j, Fl.enc (f i j) = g i j) : SemR2 K (rI C g) Ow.v (fun (a b : Int) => do gd (B a b); pure (f a b)) := fun HF H v w a b c s ra rb hc Q k => by
  obtain ⟨u, e1, hc⟩ := bind_ok hc
  cases pure_ok hc
  refine ⟨a, b, ra, rb, hB _ _ (gd_ok e1), ?_⟩
  rw [← h]; exact k.flat s
def CMul2 (i j : Int) : Prop := CMul i j ∨ CMulW i j
theorem op_mul2 {X : Cx} : OpR X (binaryOp .Mult) (rI CMul2 fun i j => .int (i * j)) := opI fun _ _ _ _ _ _ _ hc q => PyProof.Rows.mul_int q (hc.elim CMul.ok CMulW.ok)
def mulB (i j : Int) : Bool := ((decide (-(2 ^ 64) < i) && decide (i < 2 ^ 64)) || (decide (-(2 ^ 64) < j) && decide (j < 2 ^ 64))) || decide (i.natAbs.log2 + j.natAbs.log2 < 1000000)
def divB (_i j : Int) : Bool := decide (0 < j) && decide (j.natAbs.log2 < 9000)
def posB (_i j : Int) : Bool := decide (0 < j)
def powB (i j : Int) : Bool := decide (0 ≤ j) && decide (j ≤ 1000000) && decide (i.natAbs < 2 ^ 64)
def mulM (a b : Int) : M Int := do gd (mulB a b); pure (a * b)
def divM (a b : Int) : M Int := do gd (divB a b); pure (a / b)
def modM (a b : Int) : M Int := do gd (posB a b); pure (a % b)
def powM (a b : Int) : M Int := do gd (powB a b); pure (a ^ b.toNat)
variable {a b e : Expr} {pos : Pos} {ta tb : TE}
theorem ex_add {ma mb : M Int} (ha : EX X Γ a Ow.v ma ta) (hb : EX X Γ b Ow.v mb tb) : EX X Γ (.BinOp a .Add b pos) Ow.v (do let a ← ma; let b ← mb; pure (a + b)) (tOp (rI0 fun i j => .int (i + j)) ta tb) := ex_op op_add (sr_I0 fun _ _ => rfl) ha hb
theorem ex_sub {ma mb : M Int} (ha : EX X Γ a Ow.v ma ta) (hb : EX X Γ b Ow.v mb tb) : EX X Γ (.BinOp a .Sub b pos) Ow.v (do let a ← ma; let b ← mb; pure (a - b)) (tOp (rI0 fun i j => .int (i - j)) ta tb) := ex_op op_sub (sr_I0 fun _ _ => rfl) ha hb
theorem ex_mul {ma mb : M Int} (ha : EX X Γ a Ow.v ma ta) (hb : EX X Γ b Ow.v mb tb) : EX X Γ (.BinOp a .Mult b pos) Ow.v (do let a ← ma; let b ← mb; mulM a b) (tOp (rI CMul2 fun i j => .int (i * j)) ta tb) :=
  ex_op op_mul2 (sr_I mulB (fun i j h => by simpa [mulB, CMul2, CMul, CMulW] using h) fun _ _ => rfl) ha hb
theorem ex_fdiv {ma mb : M Int} (ha : EX X Γ a Ow.v ma ta) (hb : EX X Γ b Ow.v mb tb) : EX X Γ (.BinOp a .FloorDiv b pos) Ow.v (do let a ← ma; let b ← mb; divM a b) (tOp (rI CDivW fun i j => .int (i / j)) ta tb) :=
  ex_op op_fdivW (sr_I divB (fun i j h => by simpa [divB, CDivW] using h) fun _ _ => rfl) ha hb
theorem ex_mod {ma mb : M Int} (ha : EX X Γ a Ow.v ma ta) (hb : EX X Γ b Ow.v mb tb) : EX X Γ (.BinOp a .Mod b pos) Ow.v (do let a ← ma; let b ← mb; modM a b) (tOp (rI (fun _ j => 0 < j) fun i j => .int (i % j)) ta tb) :=
  ex_op op_mod (sr_I posB (fun i j h => by simpa [posB] using h) fun _ _ => rfl) ha hb
theorem ex_pow {ma mb : M Int} (ha : EX X Γ a Ow.v ma ta) (hb : EX X Γ b Ow.v mb tb) : EX X Γ (.BinOp a .Pow b pos) Ow.v (do let a ← ma; let b ← mb; powM a b) (tOp (rI CPow fun i j => .int (i ^ j.toNat)) ta tb) :=
  ex_op op_pow (sr_I powB (fun i j h => by simpa [powB, CPow, and_assoc] using h) fun _ _ => rfl) ha hb
/-- by a written number: no guard is left -/
theorem sr_Ic [Fl γ] {K : PySem.W.Frag} {C : Int → Int → Prop} {g : Int → Int → V} {f : Int → Int → γ} {n : Int} {ta : TE} {ma : M Int} (hC : ∀ i, C i n) (h : ∀ i j, Fl.enc (f i j) = g i j) (ha : SemE K Γ ta Ow.v ma) :
    SemE K Γ (tOp (rI C g) ta (tC (.int n))) Ow.v (do let a ← ma; pure (f a n)) := fun HF0 G HF H σ gg c hc Q k => by
  obtain ⟨i, e1, hc⟩ := bind_ok hc
  cases pure_ok hc
  refine ha HF0 G HF H σ gg i e1 _ fun v HF1 H1 fp s1 r1 _ _ => ?_
  refine ⟨i, n, r1.1, rfl, hC i, ?_⟩
  rw [← h]; exact (k.back s1).flat s1.sub
theorem ex_mulc {ma : M Int} {n : Int} {j p2} (ha : EX X Γ a Ow.v ma ta) (hn : (decide (-(2 ^ 64) < n) && decide (n < 2 ^ 64)) = true := by rfl) : EX X Γ (.BinOp a .Mult (.Constant (.int n) j p2) pos) Ow.v (do let a ← ma; pure (a * n)) (tOp (rI CMul fun i j => .int (i * j)) ta (tC (.int n))) :=
  ⟨pe_op op_mul ha.pe pe_int, sr_Ic (f := fun i j : Int => i * j) (fun i => .inr (by simpa using hn)) (fun _ _ => rfl) ha.sem⟩
theorem ex_fdivc {ma : M Int} {n : Int} {j p2} (ha : EX X Γ a Ow.v ma ta) (hn : (decide (0 < n) && decide (n < 1073741824)) = true := by rfl) : EX X Γ (.BinOp a .FloorDiv (.Constant (.int n) j p2) pos) Ow.v (do let a ← ma; pure (a / n)) (tOp (rI CDiv fun i j => .int (i / j)) ta (tC (.int n))) :=
  ⟨pe_op op_fdiv ha.pe pe_int, sr_Ic (f := fun i j : Int => i / j) (fun i => by simpa [CDiv] using hn) (fun _ _ => rfl) ha.sem⟩
theorem ex_modc {ma : M Int} {n : Int} {j p2} (ha : EX X Γ a Ow.v ma ta) (hn : decide (0 < n) = true := by rfl) : EX X Γ (.BinOp a .Mod (.Constant (.int n) j p2) pos) Ow.v (do let a ← ma; pure (a % n)) (tOp (rI (fun _ j => 0 < j) fun i j => .int (i % j)) ta (tC (.int n))) :=
  ⟨pe_op op_mod ha.pe pe_int, sr_Ic (f := fun i j : Int => i % j) (fun i => by simpa using hn) (fun _ _ => rfl) ha.sem⟩
theorem ex_cmul {mb : M Int} {n : Int} {j p2} (hb : EX X Γ b Ow.v mb tb) (hn : (decide (-(2 ^ 64) < n) && decide (n < 2 ^ 64)) = true := by rfl) : EX X Γ (.BinOp (.Constant (.int n) j p2) .Mult b pos) Ow.v (do let b ← mb; pure (n * b)) (tOp (rI CMul fun i j => .int (i * j)) (tC (.int n)) tb) :=
  ⟨pe_op op_mul pe_int hb.pe, fun HF0 G HF H σ gg c hc Q k => by
    obtain ⟨i, e1, hc⟩ := bind_ok hc
    cases pure_ok hc
    refine hb.sem HF0 G HF H σ gg i e1 _ fun v HF1 H1 fp s1 r1 _ _ => ?_
    exact ⟨n, i, rfl, r1.1, .inl (by simpa using hn), (k.back s1).flat s1.sub⟩⟩
/-! ### comparisons -/
/-- scalars -/
class Sc (α : Type) [Fl α] [DecidableEq α] : Prop where
  sc : ∀ a b : α, scal (Fl.enc a) (Fl.enc b) = true
  inj : ∀ a b : α, Fl.enc a = Fl.enc b → a = b
instance : Sc Int := ⟨fun _ _ => rfl, fun _ _ h => by cases h; rfl⟩
instance : Sc Bool := ⟨fun _ _ => rfl, fun _ _ h => by cases h; rfl⟩
instance : Sc Str := ⟨fun _ _ => rfl, fun _ _ h => by cases h; rfl⟩
theorem sc_dec [Fl α] [DecidableEq α] [Sc α] (a b : α) : decide (Fl.enc a = Fl.enc b) = decide (a = b) := by
  by_cases h : a = b
  · subst h; simp
  · rw [decide_eq_false h, decide_eq_false fun e => h (Sc.inj a b e)]
theorem sr_eq [Fl α] [DecidableEq α] [Sc α] {K : PySem.W.Frag} : SemR2 K rEq Ow.v (fun (a b : α) => pure (decide (a = b))) := fun HF H v w a b c s ra rb hc Q k => by
  cases pure_ok hc
  rw [Fl.sh_iff.mp ra, Fl.sh_iff.mp rb]
  refine ⟨Sc.sc a b, ?_⟩
  rw [sc_dec]; exact k.flat s
theorem sr_ne [Fl α] [DecidableEq α] [Sc α] {K : PySem.W.Frag} : SemR2 K rNe Ow.v (fun (a b : α) => pure (!decide (a = b))) := fun HF H v w a b c s ra rb hc Q k => by
  cases pure_ok hc
  rw [Fl.sh_iff.mp ra, Fl.sh_iff.mp rb]
  refine ⟨Sc.sc a b, ?_⟩
  rw [sc_dec]; exact k.flat s
end

/-! ### data compared as a whole -/
class Eqv (α : Type) [Rp α] [DecidableEq α] where
  py : α → PyData
  ok : α → Bool
  dep : Nat
  dp : ∀ {K : PySem.W.Frag} {H : Hp} {v : V} {a : α}, Rp.sh K H v a → Dp K H v (py a)
  lay : ∀ a, ok a = true → (py a).canLay0 = true
  deep : ∀ a, (py a).depth ≤ dep
  eqv : ∀ a b, PyData.eqv (py a) (py b) = decide (a = b)
instance : Eqv Int := ⟨fun i => .int i, fun _ => true, 0, fun h => by cases h; exact .int _, fun _ _ => rfl, fun _ => by simp [PyData.depth], fun a b => by simp only [PyData.eqv]; by_cases h : a = b <;> simp [h]⟩
instance : Eqv Bool := ⟨fun i => .bool i, fun _ => true, 0, fun h => by cases h; exact .bl _, fun _ _ => rfl, fun _ => by simp [PyData.depth], fun a b => by simp only [PyData.eqv]; by_cases h : a = b <;> simp [h]⟩
instance : Eqv Str := ⟨fun i => .str i, fun x => PySem.PyData.strOk x, 0, fun h => by cases h; exact .str _, fun _ h => by simpa [PyData.canLay0] using h, fun _ => by simp [PyData.depth], fun a b => by simp only [PyData.eqv]; by_cases h : a = b <;> simp [h]⟩
theorem dpAll_of {α : Type} [Rp α] [DecidableEq α] [Eqv α] {K : PySem.W.Frag} {H : Hp} : ∀ {vs : List V} {as : List α}, Fa (Rp.sh K H) vs as → DpAll K H vs (as.map Eqv.py)
  | [], [], _ => .nil
  | v :: vs, a :: as, ⟨x, y⟩ => .cons (Eqv.dp x) (dpAll_of y)
  | [], _ :: _, x => x.elim
  | _ :: _, [], x => x.elim
theorem layAll_of {α : Type} [Rp α] [DecidableEq α] [Eqv α] : ∀ {as : List α}, as.all Eqv.ok = true → PyData.canLayAll0 (as.map Eqv.py) = true
  | [], _ => by simp [PyData.canLayAll0]
  | a :: as, h => by
    rw [List.all_cons, Bool.and_eq_true] at h
    simp [PyData.canLayAll0, Eqv.lay a h.1, layAll_of h.2]
theorem depAll_of {α : Type} [Rp α] [DecidableEq α] [Eqv α] : ∀ as : List α, PyData.depthAll (as.map Eqv.py) ≤ Eqv.dep α
  | [] => by simp [PyData.depthAll]
  | a :: as => by
    have h1 := Eqv.deep a
    have h2 := depAll_of as
    simp only [List.map_cons, PyData.depthAll]
    omega
theorem eqvAll_of {α : Type} [Rp α] [DecidableEq α] [Eqv α] : ∀ as bs : List α, PyData.eqvAll (as.map Eqv.py) (bs.map Eqv.py) = decide (as = bs)
  | [], [] => by simp [PyData.eqvAll]
  | a :: as, b :: bs => by
    simp only [List.map_cons, PyData.eqvAll, Eqv.eqv, eqvAll_of as bs]
    by_cases h1 : a = b <;> by_cases h2 : as = bs <;> simp [h1, h2]
  | [], b :: bs => by simp [PyData.eqvAll]
  | a :: as, [] => by simp [PyData.eqvAll]
instance eqvList {α : Type} [Rp α] [DecidableEq α] [Eqv α] : Eqv (List α) where
  py as := .list (as.map Eqv.py)
  ok as := as.all Eqv.ok
  dep := Eqv.dep α + 1
  dp := fun ⟨p, vs, h1, h2, h3⟩ => by subst h1; exact .lst (SqL.of h2) (dpAll_of h3)
  lay := fun as h => by simpa [PyData.canLay0] using layAll_of h
  deep := fun as => by simpa [PyData.depth] using depAll_of as
  eqv := fun as bs => by simpa [PyData.eqv] using eqvAll_of as bs
instance eqvTu {α : Type} [Rp α] [DecidableEq α] [Eqv α] : Eqv (Tu α) where
  py as := .tuple (as.l.map Eqv.py)
  ok as := as.l.all Eqv.ok
  dep := Eqv.dep α + 1
  dp := fun ⟨p, vs, h1, h2, h3⟩ => by subst h1; exact .tup h2 (dpAll_of h3)
  lay := fun as h => by simpa [PyData.canLay0] using layAll_of h
  deep := fun as => by simpa [PyData.depth] using depAll_of as.l
  eqv := fun ⟨as⟩ ⟨bs⟩ => by
    simp only [PyData.eqv, eqvAll_of as bs]
    simp
instance eqvPair {α β : Type} [Rp α] [Rp β] [DecidableEq α] [DecidableEq β] [Eqv α] [Eqv β] : Eqv (α × β) where
  py x := .tuple [Eqv.py x.1, Eqv.py x.2]
  ok x := Eqv.ok x.1 && Eqv.ok x.2
  dep := max (Eqv.dep α) (Eqv.dep β) + 1
  dp := fun ⟨p, va, vb, h1, h2, h3, h4⟩ => by subst h1; exact .tup h2 (.cons (Eqv.dp h3) (.cons (Eqv.dp h4) .nil))
  lay := fun x h => by
    rw [Bool.and_eq_true] at h
    simp [PyData.canLay0, PyData.canLayAll0, Eqv.lay x.1 h.1, Eqv.lay x.2 h.2]
  deep := fun x => by
    have h1 := Eqv.deep x.1
    have h2 := Eqv.deep x.2
    simp only [PyData.depth, PyData.depthAll]
    omega
  eqv := fun ⟨a, b⟩ ⟨c, d⟩ => by
    simp only [PyData.eqv, PyData.eqvAll, Eqv.eqv]
    by_cases h1 : a = c <;> by_cases h2 : b = d <;> simp [h1, h2]
def eqM {α : Type} [Rp α] [DecidableEq α] [Eqv α] (a b : α) : M Bool := do gd (Eqv.ok a && Eqv.ok b); pure (decide (a = b))
section
variable {X : Cx} {Γ : Ctx} {α β γ : Type} {a b e : Expr} {pos : Pos} {ta tb : TE}
theorem eqv_shaped [Rp α] [DecidableEq α] [Eqv α] {a : α} (h : Eqv.ok a = true) (hd : Eqv.dep α ≤ 64) : SeqAt.shaped (Eqv.py a) = true := by
  show ((Eqv.py a).canLay0 && decide ((Eqv.py a).depth ≤ 64)) = true
  rw [Bool.and_eq_true]
  exact ⟨Eqv.lay a h, decide_eq_true (Nat.le_trans (Eqv.deep a) hd)⟩
theorem sr_eqD [Rp α] [DecidableEq α] [Eqv α] {K : PySem.W.Frag} (hd : Eqv.dep α ≤ 64) : SemR2 K (rEqD K) Ow.v (fun (a b : α) => eqM a b) := fun HF H v w a b c s ra rb hc Q k => by
  obtain ⟨u, e1, hc⟩ := bind_ok hc
  cases pure_ok hc
  have e2 := gd_ok e1
  rw [Bool.and_eq_true] at e2
  refine ⟨_, _, Eqv.dp (Rp.mono s ra), Eqv.dp (Rp.mono s rb), eqv_shaped e2.1 hd, eqv_shaped e2.2 hd, ?_⟩
  rw [Eqv.eqv]; exact k.flat s
/-! ### truth -/
theorem et_val {m : M Bool} {t : TE} (h : EX X Γ e Ow.v m t) (he : ∀ whole, isTrue e X.env whole = (do let v ← whole; standAt e.pos; holding [v] (truthy v)) := by intro _; rfl) : ET X Γ e m (tB t) :=
  ⟨pt_val h.pe he, fun HF0 G HF H σ g c hc Q k => h.sem HF0 G HF H σ g c hc _ fun v HF' H' fp s r _ _ => ⟨c, r.1, k HF' H' s⟩⟩
def bNot (m : M Bool) : M Bool := do let a ← m; pure (!a)
def bAnd (m n : M Bool) : M Bool := do let a ← m; if a then n else pure false
def bOr (m n : M Bool) : M Bool := do let a ← m; if a then pure true else n
variable {m n : M Bool} {t u : TT} {rest : List Expr}
theorem et_not (h : ET X Γ e m t) : ET X Γ (.UnaryOp .Not e pos) (bNot m) (tNot t) :=
  ⟨pt_not h.pt, fun HF0 G HF H σ g c hc Q k => by
    obtain ⟨x, e1, hc⟩ := bind_ok hc
    cases pure_ok hc
    exact h.sem HF0 G HF H σ g x e1 _ fun HF' H' s => k HF' H' s⟩
theorem ew_pt (h : EW X Γ e m t) : ET X Γ e m t := ⟨h.pw.pt, h.sem⟩
theorem ew_and1 (h : ET X Γ a m t) : EW X Γ (.BoolOp .And [a] pos) m t := ⟨pw_and1 h.pt, h.sem⟩
theorem ew_or1 (h : ET X Γ a m t) : EW X Γ (.BoolOp .Or [a] pos) m t := ⟨pw_or1 h.pt, h.sem⟩
theorem semT_and {K : PySem.W.Frag} (h : SemT K Γ t m) (h' : SemT K Γ u n) : SemT K Γ (tAnd t u) (bAnd m n) := fun HF0 G HF H σ g c hc Q k => by
  obtain ⟨x, e1, hc⟩ := bind_ok hc
  refine h HF0 G HF H σ g x e1 _ fun HF' H' s => ?_
  cases x with
  | true => exact iteT (h' HF0 G HF' H' σ (g.step s) c hc Q fun HF2 H2 s2 => k HF2 H2 (s.trans s2))
  | false =>
    cases pure_ok (show (pure false : M Bool) = .ok c from hc)
    exact iteF (k HF' H' s)
theorem semT_or {K : PySem.W.Frag} (h : SemT K Γ t m) (h' : SemT K Γ u n) : SemT K Γ (tOr t u) (bOr m n) := fun HF0 G HF H σ g c hc Q k => by
  obtain ⟨x, e1, hc⟩ := bind_ok hc
  refine h HF0 G HF H σ g x e1 _ fun HF' H' s => ?_
  cases x with
  | false => exact iteF (h' HF0 G HF' H' σ (g.step s) c hc Q fun HF2 H2 s2 => k HF2 H2 (s.trans s2))
  | true =>
    cases pure_ok (show (pure true : M Bool) = .ok c from hc)
    exact iteT (k HF' H' s)
theorem ew_and (h : ET X Γ a m t) (h' : EW X Γ (.BoolOp .And (b :: rest) pos) n u) : EW X Γ (.BoolOp .And (a :: b :: rest) pos) (bAnd m n) (tAnd t u) := ⟨pw_and h.pt h'.pw, semT_and h.sem h'.sem⟩
theorem ew_or (h : ET X Γ a m t) (h' : EW X Γ (.BoolOp .Or (b :: rest) pos) n u) : EW X Γ (.BoolOp .Or (a :: b :: rest) pos) (bOr m n) (tOr t u) := ⟨pw_or h.pt h'.pw, semT_or h.sem h'.sem⟩
variable {t u : TE}
end
end Ty

namespace Ty
open PySem L2

/-! ### arguments -/
structure As (A : Type) where
  rep : PySem.W.Frag → Hp → List V → A → Prop
  mono : ∀ {K : PySem.W.Frag} {H H' : Hp} {vs : List V} {a : A}, Same H H' → rep K H vs a → rep K H' vs a
  n : Nat
  len : ∀ {K : PySem.W.Frag} {H : Hp} {vs : List V} {a : A}, rep K H vs a → vs.length = n
  ctx : A → Ctx
  held : ∀ {K : PySem.W.Frag} {HF H : Hp} {vs : List V} {a : A} (k : Nat), rep K HF vs a → Holds K HF H (ctx a ++ List.replicate k .un) (vs.map some ++ List.replicate k none) []
theorem held_un {K : PySem.W.Frag} {HF H : Hp} : ∀ k : Nat, Holds K HF H (List.replicate k .un) (List.replicate k none) []
  | 0 => rfl
  | k + 1 => ⟨[], [], rfl, rfl, held_un k⟩
def As.nil : As Unit where
  rep _ _ vs _ := vs = []
  mono _ h := h
  n := 0
  len h := by rw [h]; rfl
  ctx _ := []
  held k h := by rw [h]; exact held_un k
def As.cons {α B : Type} [Rp α] (r : As B) : As (α × B) where
  rep K H vs x := ∃ v ws, vs = v :: ws ∧ Rp.sh K H v x.1 ∧ r.rep K H ws x.2
  mono := fun e ⟨v, ws, h1, h2, h3⟩ => ⟨v, ws, h1, Rp.mono e h2, r.mono e h3⟩
  n := r.n + 1
  len := fun ⟨v, ws, h1, h2, h3⟩ => by rw [h1, List.length_cons, r.len h3]
  ctx x := .mk Ow.v x.1 :: r.ctx x.2
  held := fun k ⟨v, ws, h1, h2, h3⟩ => by
    subst h1
    exact ⟨[], [], rfl, ⟨v, rfl, h2, rfl⟩, r.held k h3⟩
def SemA {A : Type} (K : PySem.W.Frag) (Γ : Ctx) (t : TA) (r : As A) (m : M A) : Prop :=
  ∀ HF0 G HF H σ, Good K HF0 G Γ HF H σ → ∀ a, m = .ok a → ∀ Q : List V → Hp → Prop, (∀ vs HF' H', Step HF H HF' H' → r.rep K HF' vs a → Q vs H') → t σ H Q
structure EA {A : Type} (X : Cx) (Γ : Ctx) (es : List Expr) (r : As A) (m : M A) (t : TA) : Prop where
  pa : PA X es t
  sem : SemA X.K Γ t r m
section
variable {X : Cx} {Γ : Ctx} {α β γ A B : Type} {a b e : Expr} {es : List Expr} {pos p apos : Pos} {ta tb te : TE} {t : TA}
theorem ea_nil : EA X Γ [] As.nil (pure ()) tNil := ⟨pa_nil, fun HF0 G HF H σ g c hc Q k => k [] HF H (Step.refl g.sub) rfl⟩
theorem ea_cons [Rp α] {r : As B} {m : M α} {n : M B} (h : EX X Γ e Ow.v m te) (h' : EA X Γ es r n t) (hs : starEach (e :: es) X.env = (false, eval e X.env) :: starEach es X.env := by rfl) :
    EA X Γ (e :: es) (As.cons (α := α) r) (do let a ← m; let b ← n; pure (a, b)) (tCons te t) :=
  ⟨pa_cons h.pe h'.pa hs, fun HF0 G HF H σ g c hc Q k => by
    obtain ⟨x, e1, hc⟩ := bind_ok hc
    obtain ⟨y, e2, hc⟩ := bind_ok hc
    cases pure_ok hc
    refine h.sem HF0 G HF H σ g x e1 _ fun v HF1 H1 fp s1 r1 _ _ => ?_
    refine h'.sem HF0 G HF1 H1 σ (g.step s1) y e2 _ fun vs HF2 H2 s2 r2 => ?_
    exact k (v :: vs) HF2 H2 (s1.trans s2) ⟨v, vs, rfl, Rp.mono s2.exF r1.1, r2⟩⟩
/-! ### a builtin called -/
def SemC1 [Rp α] [Rp γ] (K : PySem.W.Frag) (r : List V → Hp → VK → Prop) (o : Ow γ) (f : α → M γ) : Prop :=
  ∀ HF H v a c, Same HF H → Rp.sh K HF v a → f a = .ok c → ∀ Q : VK, RetK K HF H o c Q → r [v] H Q
def SemC2 [Rp α] [Rp β] [Rp γ] (K : PySem.W.Frag) (r : List V → Hp → VK → Prop) (o : Ow γ) (f : α → β → M γ) : Prop :=
  ∀ HF H v w a b c, Same HF H → Rp.sh K HF v a → Rp.sh K HF w b → f a b = .ok c → ∀ Q : VK, RetK K HF H o c Q → r [v, w] H Q
theorem semC1_run [Rp α] [Rp γ] {K : PySem.W.Frag} {r : List V → Hp → VK → Prop} {o : Ow γ} {f : α → M γ} {m : M α} (hr : SemC1 K r o f) (ha : SemE K Γ te Ow.v m) : SemE K Γ (tCB r (tCons te tNil)) o (do let a ← m; f a) := fun HF0 G HF H σ g c hc Q k => by
  obtain ⟨x, e1, hc⟩ := bind_ok hc
  exact ha HF0 G HF H σ g x e1 _ fun v HF1 H1 fp s1 r1 _ _ => hr HF1 H1 v x c s1.sub r1.1 hc Q (k.back s1)
theorem semC2_run [Rp α] [Rp β] [Rp γ] {K : PySem.W.Frag} {r : List V → Hp → VK → Prop} {o : Ow γ} {f : α → β → M γ} {m : M α} {n : M β} (hr : SemC2 K r o f) (ha : SemE K Γ ta Ow.v m) (hb : SemE K Γ tb Ow.v n) : SemE K Γ (tCB r (tCons ta (tCons tb tNil))) o (do let a ← m; let b ← n; f a b) := fun HF0 G HF H σ g c hc Q k => by
  obtain ⟨x, e1, hc⟩ := bind_ok hc
  obtain ⟨y, e2, hc⟩ := bind_ok hc
  refine ha HF0 G HF H σ g x e1 _ fun v HF1 H1 fp s1 r1 _ _ => ?_
  refine hb HF0 G HF1 H1 σ (g.step s1) y e2 _ fun w HF2 H2 fp2 s2 r2 _ _ => ?_
  exact hr HF2 H2 v w x y c s2.sub (Rp.mono s2.exF r1.1) r2.1 hc Q (k.back (s1.trans s2))
section
variable {id T : String} {x : Str} {r : List V → Hp → VK → Prop}
theorem ex_b1 [Rp α] [Rp γ] {o : Ow γ} {f : α → M γ} {m : M α} (hc : CallR X (.builtin id) r) (hr : SemC1 X.K r o f) (hv : bootBuiltins x = some (.builtin id)) (hm : X.mg x = none) (ha : EX X Γ a Ow.v m ta) (hg : Gl X x := by rfl) (hn : x ≠ "__name__" := by decide) (hdb : (x == ("__debug__" : Str)) = false := by decide)
    (h1 : starEach [a] X.env = (false, eval a X.env) :: starEach [] X.env := by rfl) (hpl : (backTo pos (starEach [] X.env)).any (·.1) = false := by rfl) : EX X Γ (.Call (.Name x p) [a] [] pos) o (do let a ← m; f a) (tCB r (tCons ta tNil)) :=
  ⟨pe_callB hc hg hm hv (pa_cons ha.pe pa_nil h1) hn hdb h1 hpl, semC1_run hr ha.sem⟩
theorem ex_t1 [Rp α] [Rp γ] {o : Ow γ} {f : α → M γ} {m : M α} (hc : CallR X (.type T) r) (hr : SemC1 X.K r o f) (hv : bootBuiltins x = some (.type T)) (hm : X.mg x = none) (ha : EX X Γ a Ow.v m ta) (hg : Gl X x := by rfl) (hn : x ≠ "__name__" := by decide) (hdb : (x == ("__debug__" : Str)) = false := by decide)
    (h1 : starEach [a] X.env = (false, eval a X.env) :: starEach [] X.env := by rfl) (hpl : (backTo pos (starEach [] X.env)).any (·.1) = false := by rfl) : EX X Γ (.Call (.Name x p) [a] [] pos) o (do let a ← m; f a) (tCB r (tCons ta tNil)) :=
  ⟨pe_callTy hc hg hm hv (pa_cons ha.pe pa_nil h1) hn hdb h1 hpl, semC1_run hr ha.sem⟩
theorem ex_b2 [Rp α] [Rp β] [Rp γ] {o : Ow γ} {f : α → β → M γ} {m : M α} {n : M β} (hc : CallR X (.builtin id) r) (hr : SemC2 X.K r o f) (hv : bootBuiltins x = some (.builtin id)) (hm : X.mg x = none) (ha : EX X Γ a Ow.v m ta) (hb : EX X Γ b Ow.v n tb) (hg : Gl X x := by rfl) (hn : x ≠ "__name__" := by decide) (hdb : (x == ("__debug__" : Str)) = false := by decide)
    (h1 : starEach [a, b] X.env = (false, eval a X.env) :: starEach [b] X.env := by rfl) (h2 : starEach [b] X.env = (false, eval b X.env) :: starEach [] X.env := by rfl) (hpl : (backTo pos (starEach [b] X.env)).any (·.1) = false := by rfl) : EX X Γ (.Call (.Name x p) [a, b] [] pos) o (do let a ← m; let b ← n; f a b) (tCB r (tCons ta (tCons tb tNil))) :=
  ⟨pe_callB hc hg hm hv (pa_cons ha.pe (pa_cons hb.pe pa_nil h2) h1) hn hdb h1 hpl, semC2_run hr ha.sem hb.sem⟩
end
/-! ### len -/
def rLenQ (K : PySem.W.Frag) : List V → Hp → VK → Prop := fun xs H Q => ∃ p ys, xs = [.ref p] ∧ (SqL K H p ys ∨ SqT K H p ys) ∧ Q (.int ys.length) H
theorem cr_lenQ : CallR X (.builtin "len") (rLenQ X.K) := call_len_seq
theorem sc_lenL [Rp α] {K : PySem.W.Frag} : SemC1 K (rLenQ K) Ow.v (fun (x : List α) => pure (x.length : Int)) := fun HF H v a c s ⟨q, us, e, h1, h2⟩ hc Q k => by
  cases pure_ok hc
  subst e
  refine ⟨q, us, rfl, .inl (SqL.of (s _ _ h1)), ?_⟩
  rw [h2.len]; exact k.flat s
theorem sc_lenScr {K : PySem.W.Frag} : SemC1 K (rLenQ K) Ow.v (fun (x : Scr) => pure (x.l.length : Int)) := fun HF H v a c s ⟨q, e, h1⟩ hc Q k => by
  cases pure_ok hc
  subst e
  refine ⟨q, _, rfl, .inl (s.seq h1), ?_⟩
  rw [List.length_map]; exact k.flat s
theorem ex_lenL {K : PySem.W.Frag} [Rp α] {m : M (List α)} (ml : X.mg "len" = none) (h : EX X Γ e Ow.v m te) (hg : Gl X "len" := by rfl) (h1 : starEach [e] X.env = (false, eval e X.env) :: starEach [] X.env := by rfl) (hK : X.K = K := by rfl) : EX X Γ (.Call (.Name "len" p) [e] [] pos) Ow.v (do let a ← m; pure (a.length : Int)) (tCB (rLenQ K) (tCons te tNil)) := by
  subst hK
  exact ex_b1 cr_lenQ sc_lenL PySem.boot_len ml h hg (h1 := h1)
theorem ex_lenScr {K : PySem.W.Frag} {m : M Scr} (ml : X.mg "len" = none) (h : EX X Γ e Ow.v m te) (hg : Gl X "len" := by rfl) (h1 : starEach [e] X.env = (false, eval e X.env) :: starEach [] X.env := by rfl) (hK : X.K = K := by rfl) : EX X Γ (.Call (.Name "len" p) [e] [] pos) Ow.v (do let a ← m; pure (a.l.length : Int)) (tCB (rLenQ K) (tCons te tNil)) := by
  subst hK
  exact ex_b1 cr_lenQ sc_lenScr PySem.boot_len ml h hg (h1 := h1)
/-! ### items -/
def atM {α : Type} (xs : List α) (i : Int) : M α := ofO (atI xs i)
theorem atI_fa {α : Type} {R : V → α → Prop} {vs : List V} {as : List α} {i : Int} {a : α} (h : Fa R vs as) (e : atI as i = some a) : ∃ v, atI vs i = some v ∧ R v a := by
  unfold atI at e ⊢
  rw [h.len]
  cases q : ixN as.length i with
  | none => rw [q] at e; cases e
  | some j =>
    rw [q] at e
    exact Fa.get' h e
theorem sr_ixL [Rp α] {K : PySem.W.Frag} : SemR2 K (rIxL K) Ow.v (fun (x : List α) (i : Int) => atM x i) := fun HF H v w a b c s ⟨q, us, e, h1, h2⟩ rb hc Q k => by
  subst e
  cases rb
  obtain ⟨y, e1, r1⟩ := atI_fa h2 (ofO_ok hc)
  exact ⟨q, us, b, y, rfl, rfl, SqL.of (s _ _ h1), e1, k.shv s r1⟩
theorem sr_ixTu [Rp α] {K : PySem.W.Frag} : SemR2 K (rIxT K) Ow.v (fun (x : Tu α) (i : Int) => atM x.l i) := fun HF H v w a b c s ⟨q, us, e, h1, h2⟩ rb hc Q k => by
  subst e
  cases rb
  obtain ⟨y, e1, r1⟩ := atI_fa h2 (ofO_ok hc)
  exact ⟨q, us, b, y, rfl, rfl, sqT_mono s h1, e1, k.shv s r1⟩
theorem sr_ixScr {K : PySem.W.Frag} : SemR2 K (rIxL K) Ow.v (fun (x : Scr) (i : Int) => atM x.l i) := fun HF H v w a b c s ⟨q, e, h1⟩ rb hc Q k => by
  subst e
  cases rb
  obtain ⟨y, e1, r1⟩ := atI_fa (Fa.flat (K := K) (H := H).mpr rfl) (ofO_ok hc)
  exact ⟨q, _, b, y, rfl, rfl, s.seq h1, e1, by rw [Fl.sh_iff.mp r1]; exact k.flat s⟩
def sgS (c : Nat) : Str := ⟨#[c]⟩
theorem ex_ix [Rp α] [Rp β] [Rp γ] {r : R2} {f : α → β → M γ} {o : Ow γ} {m : M α} {n : M β} (hi : IxR X r) (hr : SemR2 X.K r o f) (ha : EX X Γ a Ow.v m ta) (hb : EX X Γ b Ow.v n tb) (hs : PlainIx b := by intro _ _; rfl) : EX X Γ (.Subscript a b pos) o (do let a ← m; let b ← n; f a b) (tOp r ta tb) := ⟨pe_ix hi ha.pe hb.pe hs, sem_op hr ha.sem hb.sem⟩
theorem ex_ixL {K : PySem.W.Frag} [Rp α] {m : M (List α)} {n : M Int} (ha : EX X Γ a Ow.v m ta) (hb : EX X Γ b Ow.v n tb) (hs : PlainIx b := by intro _ _; rfl) (hK : X.K = K := by rfl) : EX X Γ (.Subscript a b pos) Ow.v (do let a ← m; let b ← n; atM a b) (tOp (rIxL K) ta tb) := by
  subst hK
  exact ex_ix ix_list sr_ixL ha hb hs
theorem ex_ixTu {K : PySem.W.Frag} [Rp α] {m : M (Tu α)} {n : M Int} (ha : EX X Γ a Ow.v m ta) (hb : EX X Γ b Ow.v n tb) (hs : PlainIx b := by intro _ _; rfl) (hK : X.K = K := by rfl) : EX X Γ (.Subscript a b pos) Ow.v (do let a ← m; let b ← n; atM a.l b) (tOp (rIxT K) ta tb) := by
  subst hK
  exact ex_ix ix_tup sr_ixTu ha hb hs
theorem ex_ixScr {K : PySem.W.Frag} {m : M Scr} {n : M Int} (ha : EX X Γ a Ow.v m ta) (hb : EX X Γ b Ow.v n tb) (hs : PlainIx b := by intro _ _; rfl) (hK : X.K = K := by rfl) : EX X Γ (.Subscript a b pos) Ow.v (do let a ← m; let b ← n; atM a.l b) (tOp (rIxL K) ta tb) := by
  subst hK
  exact ex_ix ix_list sr_ixScr ha hb hs
/-- a pair's first and second thing, by a written number -/
theorem ex_ixP0 {K : PySem.W.Frag} [Rp α] [Rp β] {m : M (α × β)} {j p2} (ha : EX X Γ a Ow.v m ta) (hs : PlainIx (.Constant (.int 0) j p2) := by intro _ _; rfl) (hK : X.K = K := by rfl) : EX X Γ (.Subscript a (.Constant (.int 0) j p2) pos) Ow.v (do let a ← m; pure a.1) (tOp (rIxT K) ta (tC (.int 0))) := by
  subst hK
  exact ⟨pe_ix ix_tup ha.pe pe_int hs, fun HF0 G HF H σ g c hc Q k => by
    obtain ⟨x, e1, hc⟩ := bind_ok hc
    cases pure_ok hc
    refine ha.sem HF0 G HF H σ g x e1 _ fun v HF1 H1 fp s1 r1 _ _ => ?_
    obtain ⟨⟨q, va, vb, h1, h2, h3, h4⟩, _⟩ := r1
    exact ⟨q, _, 0, va, h1, rfl, sqT_mono s1.sub h2, rfl, (k.back s1).shv s1.sub h3⟩⟩
theorem ex_ixP1 {K : PySem.W.Frag} [Rp α] [Rp β] {m : M (α × β)} {j p2} (ha : EX X Γ a Ow.v m ta) (hs : PlainIx (.Constant (.int 1) j p2) := by intro _ _; rfl) (hK : X.K = K := by rfl) : EX X Γ (.Subscript a (.Constant (.int 1) j p2) pos) Ow.v (do let a ← m; pure a.2) (tOp (rIxT K) ta (tC (.int 1))) := by
  subst hK
  exact ⟨pe_ix ix_tup ha.pe pe_int hs, fun HF0 G HF H σ g c hc Q k => by
    obtain ⟨x, e1, hc⟩ := bind_ok hc
    cases pure_ok hc
    refine ha.sem HF0 G HF H σ g x e1 _ fun v HF1 H1 fp s1 r1 _ _ => ?_
    obtain ⟨⟨q, va, vb, h1, h2, h3, h4⟩, _⟩ := r1
    exact ⟨q, _, 1, vb, h1, rfl, sqT_mono s1.sub h2, rfl, (k.back s1).shv s1.sub h4⟩⟩
/-! ### slices, +, *, list(..) -/
structure EO (X : Cx) (Γ : Ctx) (e : Option Expr) (m : M (Option Int)) (t : TO) : Prop where
  po : PO X e t
  sem : ∀ HF0 G HF H σ, Good X.K HF0 G Γ HF H σ → ∀ a, m = .ok a → ∀ Q : Option Int → Hp → Prop, (∀ HF' H', Step HF H HF' H' → Q a H') → t σ H Q
theorem eo_none : EO X Γ none (pure none) tNoPart := ⟨po_none, fun HF0 G HF H σ g c hc Q k => by cases pure_ok hc; exact k HF H (Step.refl g.sub)⟩
theorem eo_some {m : M Int} (h : EX X Γ e Ow.v m te) : EO X Γ (some e) (do let i ← m; pure (some i)) (tPart te) :=
  ⟨po_some h.pe, fun HF0 G HF H σ g c hc Q k => by
    obtain ⟨x, e1, hc⟩ := bind_ok hc
    cases pure_ok hc
    exact h.sem HF0 G HF H σ g x e1 _ fun v HF1 H1 fp s1 r1 _ _ => ⟨x, r1.1, k HF1 H1 s1⟩⟩
def cutL {α : Type} (xs : List α) (lo hi : Option Int) : List α := (xs.drop (HT.sIx xs.length 0 lo)).take (HT.sIx xs.length xs.length hi - HT.sIx xs.length 0 lo)
theorem Fa.cut {α : Type} {R : V → α → Prop} {vs : List V} {as : List α} (h : Fa R vs as) (lo hi : Option Int) : Fa R (cutV vs lo hi) (cutL as lo hi) := by
  unfold cutV cutL
  rw [h.len]
  exact Fa.take _ (Fa.drop _ h)
def SemSl [Rp α] [Rp γ] (K : PySem.W.Frag) (r : V → Option Int → Option Int → Hp → VK → Prop) (o : Ow γ) (f : α → Option Int → Option Int → M γ) : Prop :=
  ∀ HF H v a l u c, Same HF H → Rp.sh K HF v a → f a l u = .ok c → ∀ Q : VK, RetK K HF H o c Q → r v l u H Q
theorem ex_slice [Rp α] [Rp γ] {r : V → Option Int → Option Int → Hp → VK → Prop} {o : Ow γ} {f : α → Option Int → Option Int → M γ} {m : M α} {ml mu : M (Option Int)} {lo hi : Option Expr} {tl th : TO} {p2 : Pos} (hr : SlR X r) (hs : SemSl X.K r o f) (h : EX X Γ e Ow.v m te) (hl : EO X Γ lo ml tl) (hu : EO X Γ hi mu th) :
    EX X Γ (.Subscript e (.Slice lo hi none p2) pos) o (do let a ← m; let l ← ml; let u ← mu; f a l u) (tSl r te tl th) :=
  ⟨pe_slice hr h.pe hl.po hu.po, fun HF0 G HF H σ g c hc Q k => by
    obtain ⟨x, e1, hc⟩ := bind_ok hc
    obtain ⟨l, e2, hc⟩ := bind_ok hc
    obtain ⟨u, e3, hc⟩ := bind_ok hc
    refine h.sem HF0 G HF H σ g x e1 _ fun v HF1 H1 fp s1 r1 _ _ => ?_
    have g1 := g.step s1
    refine hl.sem HF0 G HF1 H1 σ g1 l e2 _ fun HF2 H2 s2 => ?_
    have g2 := g1.step s2
    refine hu.sem HF0 G HF2 H2 σ g2 u e3 _ fun HF3 H3 s3 => ?_
    exact hs HF3 H3 v x l u c s3.sub (Rp.mono (s2.exF.trans s3.exF) r1.1) hc Q (k.back ((s1.trans s2).trans s3))⟩
theorem ex_cutL {K : PySem.W.Frag} [Rp α] {m : M (List α)} {ml mu : M (Option Int)} {lo hi : Option Expr} {tl th : TO} {p2 : Pos} (h : EX X Γ e Ow.v m te) (hl : EO X Γ lo ml tl) (hu : EO X Γ hi mu th) (hK : X.K = K := by rfl) :
    EX X Γ (.Subscript e (.Slice lo hi none p2) pos) (Ow.l Ow.v) (do let a ← m; let l ← ml; let u ← mu; pure (cutL a l u)) (tSl (rSlL K) te tl th) := by
  subst hK
  exact ex_slice sl_list (show SemSl X.K (rSlL X.K) (Ow.l Ow.v) (fun (a : List α) l u => pure (cutL a l u)) from fun HF H v a l u c s ⟨q, us, e, h1, h2⟩ hc Q k => by
    cases pure_ok hc
    subst e
    exact ⟨q, us, rfl, SqL.of (s _ _ h1), fun p hp => k.lst s (h2.cut l u) hp⟩) h hl hu
theorem ex_cutScr {K : PySem.W.Frag} {m : M Scr} {ml mu : M (Option Int)} {lo hi : Option Expr} {tl th : TO} {p2 : Pos} (h : EX X Γ e Ow.v m te) (hl : EO X Γ lo ml tl) (hu : EO X Γ hi mu th) (hK : X.K = K := by rfl) :
    EX X Γ (.Subscript e (.Slice lo hi none p2) pos) (Ow.l Ow.v) (do let a ← m; let l ← ml; let u ← mu; pure (cutL a.l l u)) (tSl (rSlL K) te tl th) := by
  subst hK
  exact ex_slice sl_list (show SemSl X.K (rSlL X.K) (Ow.l Ow.v) (fun (a : Scr) l u => pure (cutL a.l l u)) from fun HF H v a l u c s ⟨q, e, h1⟩ hc Q k => by
    cases pure_ok hc
    subst e
    exact ⟨q, _, rfl, s.seq h1, fun p hp => k.lst s ((Fa.flat.mpr rfl : Fa (Rp.sh X.K HF) (a.l.map V.int) a.l).cut l u) hp⟩) h hl hu
def szB (n : Nat) : Bool := decide (n ≤ sizeLine)
def catM {α : Type} (a b : List α) : M (List α) := do gd (szB (a.length + b.length)); pure (a ++ b)
def repM {α : Type} (a : List α) (k : Int) : M (List α) := do gd (decide (-(2 ^ 63) ≤ k) && decide (k < 2 ^ 63) && szB (a.length * k.toNat)); pure (List.replicate k.toNat a).flatten
theorem ex_cat [Rp α] {m n : M (List α)} (ha : EX X Γ a Ow.v m ta) (hb : EX X Γ b Ow.v n tb) : EX X Γ (.BinOp a .Add b pos) (Ow.l Ow.v) (do let a ← m; let b ← n; catM a b) (tOp rCat ta tb) :=
  ex_op op_cat (show SemR2 X.K rCat (Ow.l Ow.v) (fun (a b : List α) => catM a b) from fun HF H v w a b c s ⟨q, us, e, h1, h2⟩ ⟨q', us', e', h1', h2'⟩ hc Q k => by
    obtain ⟨u, e1, hc⟩ := bind_ok hc
    cases pure_ok hc
    subst e e'
    exact ⟨q, q', us, us', rfl, rfl, s _ _ h1, s _ _ h1', by rw [h2.len, h2'.len]; exact of_decide_eq_true (gd_ok e1), fun p hp => k.lst s (h2.append h2') hp⟩) ha hb
theorem ex_rep [Rp α] {m : M (List α)} {n : M Int} (ha : EX X Γ a Ow.v m ta) (hb : EX X Γ b Ow.v n tb) : EX X Γ (.BinOp a .Mult b pos) (Ow.l Ow.v) (do let a ← m; let b ← n; repM a b) (tOp rRep ta tb) :=
  ex_op op_rep (show SemR2 X.K rRep (Ow.l Ow.v) (fun (a : List α) (b : Int) => repM a b) from fun HF H v w a b c s ⟨q, us, e, h1, h2⟩ rb hc Q k => by
    obtain ⟨u, e1, hc⟩ := bind_ok hc
    cases pure_ok hc
    subst e
    have e2 := gd_ok e1
    rw [Bool.and_eq_true, Bool.and_eq_true, decide_eq_true_eq, decide_eq_true_eq] at e2
    refine ⟨q, b, us, rfl, Fl.sh_iff.mp rb, s _ _ h1, e2.1.1, e2.1.2, by rw [h2.len]; exact of_decide_eq_true e2.2, fun p hp => k.lst s (h2.rep b.toNat) hp⟩) ha hb
def rListOf (K : PySem.W.Frag) : List V → Hp → VK → Prop := fun xs H Q => ∃ p ys, xs = [.ref p] ∧ (SqL K H p ys ∨ SqT K H p ys) ∧ ∀ l, H l = none → Q (.ref l) (upd H l (.lst ys))
theorem ex_listL {K : PySem.W.Frag} [Rp α] {m : M (List α)} (ml : X.mg "list" = none) (h : EX X Γ e Ow.v m te) (hg : Gl X "list" := by rfl) (h1 : starEach [e] X.env = (false, eval e X.env) :: starEach [] X.env := by rfl) (hK : X.K = K := by rfl) : EX X Γ (.Call (.Name "list" p) [e] [] pos) (Ow.l Ow.v) (m >>= fun a => pure a) (tCB (rListOf K) (tCons te tNil)) := by
  subst hK
  exact ex_t1 call_list_of (show SemC1 X.K (rListOf X.K) (Ow.l Ow.v) (fun (a : List α) => pure a) from fun HF H v a c s ⟨q, us, e, h1, h2⟩ hc Q k => by
      cases pure_ok hc
      subst e
      exact ⟨q, us, rfl, .inl (SqL.of (s _ _ h1)), fun l hl => k.lst s h2 hl⟩) (by decide +kernel) ml h hg (h1 := h1)
/-! ### displays -/
def SemL [Rp α] (K : PySem.W.Frag) (Γ : Ctx) (t : TA) (o : Ow α) (m : M (List α)) : Prop :=
  ∀ HF0 G HF H σ, Good K HF0 G Γ HF H σ → ∀ a, m = .ok a → ∀ Q : List V → Hp → Prop, (∀ vs HF' H' fp, Step HF H HF' H' → Rl (o.rep K HF' H') vs a fp → fp.Nodup → (∀ p ∈ fp, H p = none ∧ HF' p = none) → Q vs H') → t σ H Q
structure EL [Rp α] (X : Cx) (Γ : Ctx) (es : List Expr) (o : Ow α) (m : M (List α)) (t : TA) : Prop where
  pa : PA X es t
  sem : SemL X.K Γ t o m
theorem el_nil [Rp α] {o : Ow α} : EL X Γ [] o (pure []) tNil := ⟨pa_nil, fun HF0 G HF H σ g c hc Q k => by cases pure_ok hc; exact k [] HF H [] (Step.refl g.sub) rfl List.nodup_nil (fun p hp => by cases hp)⟩
theorem Rl.step [Rp α] {K : PySem.W.Frag} {o : Ow α} {HF H HF' H' : Hp} {vs : List V} {as : List α} {fp : List Addr} (h : Rl (o.rep K HF H) vs as fp) (s : Step HF H HF' H') : Rl (o.rep K HF' H') vs as fp := Rl.mono (fun v a f _ r => o.mono s.exF (fun p _ o e => s.exH p o e) r) h
theorem el_cons [Rp α] {o : Ow α} {m : M α} {n : M (List α)} (h : EX X Γ e o m te) (h' : EL X Γ es o n t) (hs : starEach (e :: es) X.env = (false, eval e X.env) :: starEach es X.env := by rfl) :
    EL X Γ (e :: es) o (do let a ← m; let b ← n; pure (a :: b)) (tCons te t) :=
  ⟨pa_cons h.pe h'.pa hs, fun HF0 G HF H σ g c hc Q k => by
    obtain ⟨x, e1, hc⟩ := bind_ok hc
    obtain ⟨y, e2, hc⟩ := bind_ok hc
    cases pure_ok hc
    refine h.sem HF0 G HF H σ g x e1 _ fun v HF1 H1 fp s1 r1 n1 f1 => ?_
    refine h'.sem HF0 G HF1 H1 σ (g.step s1) y e2 _ fun vs HF2 H2 fq s2 r2 n2 f2 => ?_
    have dm := o.dom r1
    refine k (v :: vs) HF2 H2 (fp ++ fq) (s1.trans s2) ⟨fp, fq, rfl, o.mono s2.exF (fun p _ o e => s2.exH p o e) r1, r2⟩ (List.nodup_append.mpr ⟨n1, n2, fun p hp q hq e => ?_⟩) fun p hp => ?_
    · subst e
      obtain ⟨u, hu⟩ := dm p hp
      rw [(f2 p hq).1] at hu; cases hu
    · rcases List.mem_append.mp hp with hp | hp
      · refine ⟨(f1 p hp).1, ?_⟩
        cases q : HF2 p with
        | none => rfl
        | some u =>
          have := s2.new p u q (f1 p hp).2
          obtain ⟨u', hu⟩ := dm p hp
          rw [this] at hu; cases hu
      · exact ⟨s1.exH.free (f2 p hp).1, (f2 p hp).2⟩⟩
/-- a new object over new things -/
theorem RetK.obj [Rp γ] {K : PySem.W.Frag} {HF0 H0 HF H : Hp} {o : Ow γ} {c : γ} {ho : HO} {p : Addr} {fp : List Addr} {Q : VK} (k : RetK K HF0 H0 o c Q) (s : Step HF0 H0 HF H) (hp : H p = none) (r : o.rep K HF (upd H p ho) (.ref p) c (p :: fp)) (n : fp.Nodup) (f : ∀ q ∈ fp, H0 q = none ∧ HF q = none) (hd : ∀ q ∈ fp, ∃ u, H q = some u) : Q (.ref p) (upd H p ho) :=
  k (.ref p) HF (upd H p ho) (p :: fp) (s.trans (Step.own s.sub hp)) r (List.nodup_cons.mpr ⟨fun hm => (by obtain ⟨u, hu⟩ := hd p hm; rw [hp] at hu; cases hu), n⟩) fun q hq => by
    rcases List.mem_cons.mp hq with e | hq
    · subst e; exact ⟨s.exH.free hp, s.sub.free hp⟩
    · exact f q hq
def lstM {α : Type} (as : List α) : M (List α) := do gd (szB as.length); pure as
theorem upd_keep {H : Hp} {p : Addr} {o : HO} (hp : H p = none) : ∀ q, ∀ u, H q = some u → upd H p o q = some u := fun q u e => by rw [upd_ne (ne_of_none e hp)]; exact e
theorem ex_lst [Rp α] {o : Ow α} {m : M (List α)} (h : EL X Γ es o m t) : EX X Γ (.List es pos) (Ow.l o) (do let a ← m; lstM a) (tLst t) :=
  ⟨pe_lst h.pa, fun HF0 G HF H σ g c hc Q k => by
    obtain ⟨x, e1, hc⟩ := bind_ok hc
    obtain ⟨u, e2, hc⟩ := bind_ok hc
    cases pure_ok hc
    refine h.sem HF0 G HF H σ g _ e1 _ fun vs HF1 H1 fp s1 r1 n1 f1 => ⟨by rw [r1.len]; exact of_decide_eq_true (gd_ok e2), fun p hp => ?_⟩
    exact k.obj s1 hp ⟨p, vs, fp, rfl, rfl, upd_same, Rl.mono (fun v a f _ r => o.mono (Same.refl _) (fun q _ u e => upd_keep hp q u e) r) r1⟩ n1 f1 (Rl.dom (fun v a f r => o.dom r) r1)⟩
theorem ex_pair [Rp α] [Rp β] {o : Ow α} {u : Ow β} {m : M α} {n : M β} {k} (ha : EX X Γ a o m ta) (hb : EX X Γ b u n tb) (h1 : starEach [a, b] X.env = (false, eval a X.env) :: starEach [b] X.env := by rfl) (h2 : starEach [b] X.env = (false, eval b X.env) :: starEach [] X.env := by rfl) :
    EX X Γ (.Tuple [a, b] k pos) (Ow.p o u) (do let a ← m; let b ← n; pure (a, b)) (tTup (tCons ta (tCons tb tNil))) :=
  ⟨pe_tup (pa_cons ha.pe (pa_cons hb.pe pa_nil h2) h1), fun HF0 G HF H σ g c hc Q kk => by
    obtain ⟨x, e1, hc⟩ := bind_ok hc
    obtain ⟨y, e2, hc⟩ := bind_ok hc
    cases pure_ok hc
    refine ha.sem HF0 G HF H σ g x e1 _ fun v HF1 H1 fp s1 r1 n1 f1 => ?_
    refine hb.sem HF0 G HF1 H1 σ (g.step s1) y e2 _ fun w HF2 H2 fq s2 r2 n2 f2 => ⟨by show 2 ≤ sizeLine; decide, fun p hp => ?_⟩
    have dm := o.dom r1
    have du := u.dom r2
    have r1' : o.rep X.K HF2 H2 v x fp := o.mono s2.exF (fun p _ o e => s2.exH p o e) r1
    refine kk.obj (s1.trans s2) hp (fp := fp ++ fq) ⟨p, v, w, fp, fq, rfl, rfl, upd_same, o.mono (Same.refl _) (fun q _ u e => upd_keep hp q u e) r1', u.mono (Same.refl _) (fun q _ u e => upd_keep hp q u e) r2⟩ (List.nodup_append.mpr ⟨n1, n2, fun p hp q hq e => ?_⟩) (fun p hp => ?_) fun p hp => ?_
    · subst e
      obtain ⟨u, hu⟩ := dm p hp
      rw [(f2 p hq).1] at hu; cases hu
    · rcases List.mem_append.mp hp with hp | hp
      · refine ⟨(f1 p hp).1, ?_⟩
        cases q : HF2 p with
        | none => rfl
        | some u =>
          have := s2.new p u q (f1 p hp).2
          obtain ⟨u', hu⟩ := dm p hp
          rw [this] at hu; cases hu
      · exact ⟨s1.exH.free (f2 p hp).1, (f2 p hp).2⟩
    · rcases List.mem_append.mp hp with hp | hp
      · obtain ⟨u, hu⟩ := dm p hp
        exact ⟨u, s2.exH p u hu⟩
      · exact du p hp⟩
end
end Ty

namespace Ty
open PySem L2

theorem of_blt {i n : Nat} (h : Nat.blt i n = true) : i < n := Nat.le_of_ble_eq_true h
/-! ### targets -/
/-- from a thing a, its value v, at Γ: behind the target stands Γ'; only the slots js change -/
def SemG {α : Type} [Rp α] (K : PySem.W.Frag) (Γ : Ctx) (g : TG) (a : α) (Γ' : Ctx) (js : List Nat) : Prop :=
  ∀ HF0 G HF H σ v, Good K HF0 G Γ HF H σ → Rp.sh K HF v a → ∀ Q : L2.St → Hp → Prop, (∀ σ', Good K HF0 G Γ' HF H σ' → σ'.length = σ.length → (∀ k, k ∉ js → σ'[k]? = σ[k]?) → Q σ' H) → g v σ H Q
structure EG {α : Type} [Rp α] (X : Cx) (Γ : Ctx) (tg : Expr) (g : TG) (a : α) (Γ' : Ctx) (js : List Nat) : Prop where
  pg : PG X tg g
  sem : SemG X.K Γ g a Γ' js
theorem Good.putO {α : Type} [Rp α] {K : PySem.W.Frag} {HF0 G HF H : Hp} {Γ : Ctx} {σ : L2.St} {i : Nat} {v : V} {a : α} {o : Ow α} {f : List Addr} (g : Good K HF0 G Γ HF H σ) (hi : i < Γ.length) (r : o.rep K HF H v a f) (nd : f.Nodup) (fr : ∀ fs, Holds K HF H Γ σ fs → ∀ p ∈ f, (HF p = none ∧ G p = none) ∧ p ∉ fs) : Good K HF0 G (put Γ i (.mk o a)) HF H (σ.set i (some v)) := by
  obtain ⟨fs, h1, h2, h3⟩ := g.held
  obtain ⟨fo, fr', q1, q2, q3, q4⟩ := h1.put hi
  obtain ⟨n1, n2, n3⟩ := q3 h2
  obtain ⟨fs', w1, w2, w3⟩ := q4 (HF' := HF) (H' := H) (s := .mk o a) (x := some v) (f := f) (fun _ h => h) (fun _ h => h) ⟨v, rfl, r⟩
  refine ⟨g.sub, g.f0, g.g0, g.nf, fs', w1, w3 n1 nd fun p hp hq => (fr fs h1 p hp).2 ((q2 p).mpr (.inr hq)), fun p hp => ?_⟩
  rcases (w2 p).mp hp with z | z
  · exact (fr fs h1 p z).1
  · exact h3 p ((q2 p).mpr (.inr z))
theorem Good.putv {α : Type} [Rp α] {K : PySem.W.Frag} {HF0 G HF H : Hp} {Γ : Ctx} {σ : L2.St} {i : Nat} {v : V} {a : α} (g : Good K HF0 G Γ HF H σ) (hi : i < Γ.length) (r : Rp.sh K HF v a) : Good K HF0 G (put Γ i (.mk Ow.v a)) HF H (σ.set i (some v)) :=
  g.putO hi (o := Ow.v) ⟨r, rfl⟩ List.nodup_nil fun _ _ p hp => by cases hp
theorem Good.len {K : PySem.W.Frag} {HF0 G HF H : Hp} {Γ : Ctx} {σ : L2.St} (g : Good K HF0 G Γ HF H σ) : Γ.length = σ.length := by
  obtain ⟨fs, h1, _, _⟩ := g.held
  exact h1.len
section
variable {X : Cx} {Γ : Ctx} {α β γ A B : Type} {a b e : Expr} {es : List Expr} {pos p apos : Pos} {ta tb te : TE} {t : TA}
theorem eg_name [Rp α] (i : Nat) {x : Str} {a : α} (hN : X.N.Nodup) (hlt : Nat.blt i Γ.length = true := by rfl) (hi : X.N[i]? = some x := by rfl) (hx : Loc X.env.scope x := by first | exact .inl rfl | exact .inr rfl) (hf : X.fn x = true ∨ X.env.scope.names.lookup x = some .local := by first | exact .inl rfl | exact .inr rfl) : EG X Γ (.Name x pos) (gName i) a (put Γ i (.mk Ow.v a)) [i] :=
  ⟨pg_name hN hi hx hf, fun HF0 G HF H σ v g r Q k => k _ (g.putv (of_blt hlt) r) (by rw [List.length_set]) fun j hj => by
    rw [List.getElem?_set_ne]
    intro e; subst e; exact hj (by simp)⟩
theorem eg_pair {K : PySem.W.Frag} [Rp α] [Rp β] {Γ1 Γ2 : Ctx} {js ks : List Nat} {x y : Expr} {kk : Nat} {g1 g2 : TG} {u : α × β} (hc : X.calm = true) (h1 : EG X Γ x g1 u.1 Γ1 js) (h2 : EG X Γ1 y g2 u.2 Γ2 ks)
    (hs : (assignEach [y] X.env).map (fun x => x.2) = assign y X.env :: (assignEach [] X.env).map (fun x => x.2) := by rfl) (hs2 : (assignEach [x, y] X.env).map (fun x => x.2) = assign x X.env :: (assignEach [y] X.env).map (fun x => x.2) := by rfl)
    (hpg : PGs X [x, y] (gCons g1 (gCons g2 gNil)) → PG X (.Tuple [x, y] kk pos) (gTup X.K 2 (gCons g1 (gCons g2 gNil))) := by exact fun h => pg_tup (by first | rfl | assumption) h) (hK : X.K = K := by rfl) : EG X Γ (.Tuple [x, y] kk pos) (gTup K 2 (gCons g1 (gCons g2 gNil))) u Γ2 (js ++ ks) := by
  subst hK
  exact ⟨hpg (pgs_cons h1.pg (pgs_cons h2.pg pgs_nil hs) hs2), fun HF0 G HF H σ v g ⟨q, va, vb, e1, e2, e3, e4⟩ Q k => by
    refine ⟨q, [va, vb], e1, sqT_mono g.sub e2, rfl, va, [vb], rfl, ?_⟩
    refine h1.sem HF0 G HF H σ va g e3 _ fun σ1 G1 l1 s1 => ⟨vb, [], rfl, ?_⟩
    refine h2.sem HF0 G HF H σ1 vb G1 e4 _ fun σ2 G2 l2 s2 => ⟨rfl, ?_⟩
    exact k σ2 G2 (l2.trans l1) fun j hj => (s2 j fun z => hj (List.mem_append_right _ z)).trans (s1 j fun z => hj (List.mem_append_left _ z))⟩
/-! ### what is walked -/
def Walks {α : Type} [Rp α] (K : PySem.W.Frag) (J : It) (HF1 : Hp) (xs : List α) : Prop :=
  ∀ HF2 H2 i, Same HF1 HF2 → Same HF2 H2 → (∀ x, xs[i]? = some x → J.go i H2 ∧ ∀ v H3, J.yld i H2 v H3 → ∃ HF3, Step HF2 H2 HF3 H3 ∧ Rp.sh K HF3 v x) ∧ (xs.length ≤ i → J.stop i H2)
def SemI {α : Type} [Rp α] (K : PySem.W.Frag) (Γ : Ctx) (wi : TI) (m : M (List α)) : Prop :=
  ∀ HF0 G HF H σ, Good K HF0 G Γ HF H σ → ∀ xs, m = .ok xs → ∀ R : It → Hp → Prop, (∀ J HF' H', Step HF H HF' H' → Walks K J HF' xs → R J H') → wi σ H R
structure EI {α : Type} [Rp α] (X : Cx) (Γ : Ctx) (tg iter : Expr) (m : M (List α)) (wi : TI) : Prop where
  pi : PI X tg iter wi
  sem : SemI X.K Γ wi m
variable {tg : Expr}
theorem ei_list' [Rp α] {K : PySem.W.Frag} {HF2 H2 HF : Hp} {q : Addr} {us : List V} {xs : List α} {i : Nat} (h1 : SqL K H2 q us) (h2 : Fa (Rp.sh K HF) us xs) (s1 : Same HF HF2) (s2 : Same HF2 H2) : (∀ x, xs[i]? = some x → (Itl K q).go i H2 ∧ ∀ v H3, (Itl K q).yld i H2 v H3 → ∃ HF3, Step HF2 H2 HF3 H3 ∧ Rp.sh K HF3 v x) ∧ (xs.length ≤ i → (Itl K q).stop i H2) := by
  refine ⟨fun x hx => ?_, fun hle => ⟨us, h1, by rw [h2.len]; exact hle⟩⟩
  obtain ⟨v, hv, r⟩ := h2.get' hx
  refine ⟨⟨us, v, h1, hv⟩, fun w H3 ⟨e, y⟩ => ?_⟩
  subst e
  have : us[i]? = some w := y us h1
  rw [hv] at this
  cases this
  exact ⟨HF2, Step.refl s2, Rp.mono s1 r⟩
theorem ei_list {K : PySem.W.Frag} [Rp α] {m : M (List α)} (h : EX X Γ e Ow.v m te) (hK : X.K = K := by rfl) : EI X Γ tg e m (iList K te) := by
  subst hK
  exact ⟨pi_list h.pe, fun HF0 G HF H σ g xs hc R k => by
    refine h.sem HF0 G HF H σ g xs hc _ fun v HF1 H1 fp s1 r1 _ _ => ?_
    obtain ⟨⟨q, us, e, h1, h2⟩, _⟩ := r1
    exact ⟨q, e, ⟨us, SqL.of (s1.sub _ _ h1)⟩, k _ HF1 H1 s1 fun HF2 H2 i a b => ei_list' (SqL.of (b _ _ (a _ _ h1))) h2 a b⟩⟩
/-- lo, lo + 1, .. below hi -/
def rangeL (lo hi : Int) : List Int := (List.range (hi - lo).toNat).map fun (k : Nat) => lo + (k : Int)
theorem rangeL_len (lo hi : Int) : (rangeL lo hi).length = (hi - lo).toNat := by unfold rangeL; rw [List.length_map, List.length_range]
theorem rangeL_get {lo hi x : Int} {i : Nat} (h : (rangeL lo hi)[i]? = some x) : i < (hi - lo).toNat ∧ x = lo + i := by
  unfold rangeL at h
  rw [List.getElem?_map] at h
  cases q : (List.range (hi - lo).toNat)[i]? with
  | none => rw [q] at h; cases h
  | some j =>
    rw [q] at h
    obtain ⟨hlt, e⟩ := List.getElem?_eq_some_iff.mp q
    rw [List.getElem_range] at e
    rw [List.length_range] at hlt
    cases h
    subst e
    exact ⟨hlt, rfl⟩
theorem walks_range {K : PySem.W.Frag} {HF : Hp} (lo hi : Int) : Walks K (Itr lo (hi - lo).toNat) HF (rangeL lo hi) := fun HF2 H2 i s1 s2 => by
  refine ⟨fun x hx => ?_, fun hle => by rw [rangeL_len] at hle; exact hle⟩
  obtain ⟨h1, h2⟩ := rangeL_get hx
  refine ⟨h1, fun v H3 ⟨e, y⟩ => ?_⟩
  subst e
  exact ⟨HF2, Step.refl s2, by rw [y, h2]; rfl⟩
def rgB (j : Int) : Bool := decide (-(2 ^ 62) ≤ j) && decide (j < 2 ^ 62)
def range1 (j : Int) : M (List Int) := do gd (rgB j); pure (rangeL 0 j)
theorem ei_range1 {m : M Int} (hm : X.mg "range" = none) (h : EX X Γ a Ow.v m ta) (hg : Gl X "range" := by rfl) (hs : starEach [a] X.env = [(false, eval a X.env)] := by rfl) : EI X Γ tg (.Call (.Name "range" p) [a] [] pos) (do let a ← m; range1 a) (iRng1 (tCons ta tNil)) :=
  ⟨pi_range1 hg hm (pa_cons h.pe pa_nil (by exact hs)) hs, fun HF0 G HF H σ g xs hc R k => by
    obtain ⟨x, e1, hc⟩ := bind_ok hc
    obtain ⟨u, e2, hc⟩ := bind_ok hc
    cases pure_ok hc
    have e3 := gd_ok e2
    unfold rgB at e3
    rw [Bool.and_eq_true, decide_eq_true_eq, decide_eq_true_eq] at e3
    refine h.sem HF0 G HF H σ g x e1 _ fun v HF1 H1 fp s1 r1 _ _ => ⟨x, by rw [Fl.sh_iff.mp r1.1]; rfl, e3.1, e3.2, ?_⟩
    have w := walks_range (K := X.K) (HF := HF1) 0 x
    rw [Int.sub_zero] at w
    exact k _ HF1 H1 s1 w⟩
theorem ei_rev {K : PySem.W.Frag} [Rp α] {m : M (List α)} (hm : X.mg "reversed" = none) (h : EX X Γ a Ow.v m ta) (hg : Gl X "reversed" := by rfl) (hs : starEach [a] X.env = [(false, eval a X.env)] := by rfl) (hK : X.K = K := by rfl) : EI X Γ tg (.Call (.Name "reversed" p) [a] [] pos) (do let a ← m; pure a.reverse) (iRev K (tCons ta tNil)) := by
  subst hK
  exact ⟨pi_reversed hg hm (pa_cons h.pe pa_nil (by exact hs)) hs, fun HF0 G HF H σ g xs hc R k => by
    obtain ⟨x, e1, hc⟩ := bind_ok hc
    cases pure_ok hc
    refine h.sem HF0 G HF H σ g x e1 _ fun v HF1 H1 fp s1 r1 _ _ => ?_
    obtain ⟨⟨q, us, e, h1, h2⟩, _⟩ := r1
    subst e
    refine ⟨q, us, rfl, SqL.of (s1.sub _ _ h1), k _ HF1 H1 s1 fun HF2 H2 i a b => ?_⟩
    have hq : SqL X.K H2 q us := SqL.of (b _ _ (a _ _ h1))
    refine ⟨fun y hy => ?_, fun hle => by rw [List.length_reverse] at hle; show us.length ≤ i; rw [h2.len]; exact hle⟩
    obtain ⟨v, hv, r⟩ := h2.reverse.get' hy
    have hlt : i < us.length := by
      have := (List.getElem?_eq_some_iff.mp hv).1
      rwa [List.length_reverse] at this
    rw [List.getElem?_reverse hlt] at hv
    refine ⟨⟨hlt, us, v, hq, hv⟩, fun w H3 ⟨e, z⟩ => ?_⟩
    subst e
    have := z us hq
    rw [hv] at this
    cases this
    exact ⟨HF2, Step.refl b, Rp.mono a r⟩⟩
/-- a new tuple, shared at once -/
theorem Step.shr {HF H : Hp} {p : Addr} {o : HO} (s : Same HF H) (h : H p = none) : Step HF H (upd HF p o) (upd H p o) := by
  have hF : HF p = none := s.free h
  refine ⟨same_upd hF, same_upd h, fun q u e => ?_, fun q u e1 e2 => ?_⟩
  · by_cases hq : q = p
    · subst hq; rw [upd_same] at e ⊢; exact e
    · rw [upd_ne hq] at e ⊢; exact s q u e
  · by_cases hq : q = p
    · subst hq; exact h
    · rw [upd_ne hq] at e1; rw [e2] at e1; cases e1
def enumL {α : Type} (xs : List α) : List (Int × α) := (xs.zipIdx).map fun x => ((x.2 : Int), x.1)
theorem enumL_get {α : Type} {xs : List α} {i : Nat} {x : Int × α} (h : (enumL xs)[i]? = some x) : x.1 = i ∧ xs[i]? = some x.2 := by
  unfold enumL at h
  rw [List.getElem?_map, List.getElem?_zipIdx] at h
  cases q : xs[i]? with
  | none => rw [q] at h; cases h
  | some y =>
    rw [q] at h
    cases h
    exact ⟨by simp, rfl⟩
theorem enumL_len {α : Type} (xs : List α) : (enumL xs).length = xs.length := by unfold enumL; rw [List.length_map, List.length_zipIdx]
theorem ei_enum {K : PySem.W.Frag} [Rp α] {m : M (List α)} {elts : List Expr} {kk : Nat} {tpos : Pos} (hm : X.mg "enumerate" = none) (h : EX X Γ e Ow.v m te) (hg : Gl X "enumerate" := by rfl) (hs : starEach [e] X.env = [(false, eval e X.env)] := by rfl) (hK : X.K = K := by rfl) : EI X Γ (.Tuple elts kk tpos) (.Call (.Name "enumerate" p) [e] [] pos) (do let a ← m; pure (enumL a)) (iEnum K (tCons te tNil)) := by
  subst hK
  exact ⟨pi_enum hg hm (pa_cons h.pe pa_nil (by exact hs)) hs, fun HF0 G HF H σ g xs hc R k => by
    obtain ⟨x, e1, hc⟩ := bind_ok hc
    cases pure_ok hc
    refine h.sem HF0 G HF H σ g x e1 _ fun v HF1 H1 fp s1 r1 _ _ => ?_
    obtain ⟨⟨q, us, e, h1, h2⟩, _⟩ := r1
    subst e
    refine ⟨q, us, rfl, SqL.of (s1.sub _ _ h1), k _ HF1 H1 s1 fun HF2 H2 i a b => ?_⟩
    have hq : SqL X.K H2 q us := SqL.of (b _ _ (a _ _ h1))
    refine ⟨fun y hy => ?_, fun hle => ⟨us, hq, by rw [enumL_len] at hle; rw [h2.len]; exact hle⟩⟩
    obtain ⟨hy1, hy2⟩ := enumL_get hy
    obtain ⟨v, hv, r⟩ := h2.get' hy2
    refine ⟨⟨us, v, hq, hv⟩, fun w H3 ⟨T, z, e, hT, eH, y⟩ => ?_⟩
    subst e eH
    have : us[i]? = some z := y us hq
    rw [hv] at this
    cases this
    have st := Step.shr (o := .tup [.int (i : Nat), v]) b hT
    exact ⟨_, st, T, .int (i : Nat), v, rfl, SqT.of upd_same, by rw [hy1]; rfl, Rp.mono (a.trans st.exF) r⟩⟩
theorem zipL_get {α β : Type} {xs : List α} {ys : List β} {i : Nat} {x : α × β} (h : (xs.zip ys)[i]? = some x) : xs[i]? = some x.1 ∧ ys[i]? = some x.2 := by
  rw [List.getElem?_zip_eq_some] at h
  exact h
theorem ei_zip {K : PySem.W.Frag} [Rp α] [Rp β] {m : M (List α)} {n : M (List β)} {elts : List Expr} {kk : Nat} {tpos : Pos} (hm : X.mg "zip" = none) (h : EX X Γ a Ow.v m ta) (h' : EX X Γ b Ow.v n tb) (hg : Gl X "zip" := by rfl) (hs : starEach [a, b] X.env = (false, eval a X.env) :: starEach [b] X.env := by rfl) (hs2 : starEach [b] X.env = (false, eval b X.env) :: starEach [] X.env := by rfl)
    (hpi : ∀ {tz : TA}, Gl X "zip" → X.mg "zip" = none → PA X [a, b] tz → PI X (.Tuple elts kk tpos) (.Call (.Name "zip" p) [a, b] [] pos) (iZip X.K tz) := by exact fun h h' h'' => pi_zip h h' h'') (hK : X.K = K := by rfl) : EI X Γ (.Tuple elts kk tpos) (.Call (.Name "zip" p) [a, b] [] pos) (do let a ← m; let b ← n; pure (a.zip b)) (iZip K (tCons ta (tCons tb tNil))) := by
  subst hK
  exact ⟨hpi hg hm (pa_cons h.pe (pa_cons h'.pe pa_nil hs2) hs), fun HF0 G HF H σ g xs hc R k => by
    obtain ⟨x, e1, hc⟩ := bind_ok hc
    obtain ⟨y, e2, hc⟩ := bind_ok hc
    cases pure_ok hc
    refine h.sem HF0 G HF H σ g x e1 _ fun v HF1 H1 fp s1 r1 _ _ => ?_
    refine h'.sem HF0 G HF1 H1 σ (g.step s1) y e2 _ fun w HF2 H2 fp s2 r2 _ _ => ?_
    obtain ⟨⟨q, us, e, h1, h2⟩, _⟩ := r1
    obtain ⟨⟨q', us', e', h1', h2'⟩, _⟩ := r2
    subst e e'
    refine ⟨q, q', us, us', rfl, SqL.of (s2.sub _ _ (s2.exF _ _ h1)), SqL.of (s2.sub _ _ h1'), k _ HF2 H2 (s1.trans s2) fun HF3 H3 i a b => ?_⟩
    have hq : SqL X.K H3 q us := SqL.of (b _ _ (a _ _ (s2.exF _ _ h1)))
    have hq' : SqL X.K H3 q' us' := SqL.of (b _ _ (a _ _ h1'))
    refine ⟨fun z hz => ?_, fun hle => ⟨us, us', hq, hq', by rw [List.length_zip] at hle; rw [h2.len, h2'.len]; omega⟩⟩
    obtain ⟨z1, z2⟩ := zipL_get hz
    obtain ⟨v, hv, r⟩ := h2.get' z1
    obtain ⟨v', hv', r'⟩ := h2'.get' z2
    refine ⟨⟨us, us', v, v', hq, hq', hv, hv'⟩, fun w H4 ⟨T, z, z', e, hT, eH, y, y'⟩ => ?_⟩
    subst e eH
    have q1 : us[i]? = some z := y us hq
    rw [hv] at q1
    cases q1
    have q2 : us'[i]? = some z' := y' us' hq'
    rw [hv'] at q2
    cases q2
    have st := Step.shr (o := .tup [v, v']) b hT
    exact ⟨_, st, T, v, v', rfl, SqT.of upd_same, Rp.mono ((s2.exF.trans a).trans st.exF) r, Rp.mono (a.trans st.exF) r'⟩⟩
/-! ### list comprehensions -/
def compL {α β : Type} (t : α → M Bool) (f : α → M β) : List α → M (List β)
  | [] => pure []
  | x :: xs => do
    let b ← t x
    if b then do
      let y ← f x
      let ys ← compL t f xs
      pure (y :: ys)
    else compL t f xs
def compM {α β : Type} (xs : List α) (t : α → M Bool) (f : α → M β) : M (List β) := do gd (decide (xs.length ≤ sizeLine)); compL t f xs
def wipeC (Γ : Ctx) : List Nat → Ctx
  | [] => Γ
  | v :: vs => put (wipeC Γ vs) v .un
theorem Good.un {K : PySem.W.Frag} {HF0 G HF H : Hp} {Γ : Ctx} {σ : L2.St} (g : Good K HF0 G Γ HF H σ) (i : Nat) (x : Option V) (hi : i < Γ.length) : Good K HF0 G (put Γ i .un) HF H (σ.set i x) := by
  obtain ⟨fs, h1, h2, h3⟩ := g.held
  obtain ⟨fo, fr', q1, q2, q3, q4⟩ := h1.put hi
  obtain ⟨n1, n2, n3⟩ := q3 h2
  obtain ⟨fs', w1, w2, w3⟩ := q4 (HF' := HF) (H' := H) (s := .un) (x := x) (f := []) (fun _ h => h) (fun _ h => h) rfl
  exact ⟨g.sub, g.f0, g.g0, g.nf, fs', w1, w3 n1 List.nodup_nil (fun p hp => by cases hp), fun p hp => by
    rcases (w2 p).mp hp with z | z
    · cases z
    · exact h3 p ((q2 p).mpr (.inr z))⟩
theorem put_len : ∀ (Γ : Ctx) (i : Nat) (s : Sl), (put Γ i s).length = Γ.length
  | [], _, _ => rfl
  | _ :: _, 0, _ => rfl
  | _ :: Γ, i + 1, s => congrArg (· + 1) (put_len Γ i s)
theorem wipeC_len (Γ : Ctx) : ∀ vs : List Nat, (wipeC Γ vs).length = Γ.length
  | [] => rfl
  | v :: vs => by unfold wipeC; rw [put_len, wipeC_len Γ vs]
theorem Good.wipe {K : PySem.W.Frag} {HF0 G HF H : Hp} {Γ : Ctx} {σ : L2.St} (g : Good K HF0 G Γ HF H σ) : ∀ vs : List Nat, (∀ i ∈ vs, i < Γ.length) → Good K HF0 G (wipeC Γ vs) HF H (wipe σ vs)
  | [], _ => g
  | v :: vs, h => (Good.wipe g vs fun i hi => h i (List.mem_cons_of_mem _ hi)).un v none (by rw [wipeC_len]; exact h v (List.mem_cons_self ..))
theorem wipe_out' {σ : L2.St} {i : Nat} : ∀ {vs : List Nat}, i ∉ vs → (L2.wipe σ vs)[i]? = σ[i]?
  | [], _ => rfl
  | v :: vs, h => by
    unfold L2.wipe
    rw [List.getElem?_set_ne (fun e => h (by rw [e]; exact List.mem_cons_self ..))]
    exact wipe_out' fun z => h (List.mem_cons_of_mem _ z)
theorem wipe_in {σ : L2.St} {i : Nat} : ∀ {vs : List Nat}, i ∈ vs → i < σ.length → (L2.wipe σ vs)[i]? = some none
  | v :: vs, h, hl => by
    unfold L2.wipe
    by_cases e : v = i
    · subst e
      rw [List.getElem?_set_self (by rw [L2.wipe_length]; exact hl)]
    · rw [List.getElem?_set_ne e]
      exact wipe_in ((List.mem_cons.mp h).resolve_left fun z => e z.symm) hl
theorem wipe_ext {σ σ' : L2.St} {vs : List Nat} (hl : σ'.length = σ.length) (h : ∀ k, k ∉ vs → σ'[k]? = σ[k]?) : L2.wipe σ' vs = L2.wipe σ vs := by
  apply List.ext_getElem?
  intro i
  by_cases hi : i ∈ vs
  · by_cases hlt : i < σ.length
    · rw [wipe_in hi hlt, wipe_in hi (by rw [hl]; exact hlt)]
    · rw [List.getElem?_eq_none (by rw [L2.wipe_length]; omega), List.getElem?_eq_none (by rw [L2.wipe_length]; omega)]
  · rw [wipe_out' hi, wipe_out' hi, h i hi]
structure EF (X : Cx) (Γ : Ctx) (ifs : List Expr) (m : M Bool) (t : TT) : Prop where
  pts : PTs X ifs t
  sem : SemT X.K Γ t m
theorem ef_nil : EF X Γ [] (pure true) tYes := ⟨pts_nil, fun HF0 G HF H σ g c hc Q k => by cases pure_ok hc; exact k HF H (Step.refl g.sub)⟩
/-- behind some turns: the items made, what is left -/
structure Cmp {α β : Type} [Rp α] [Rp β] (K : PySem.W.Frag) (HF1 H1 : Hp) (o : Ow β) (D : Addr) (tm : α → M Bool) (fm : α → M β) (xs : List α) (ys : List β) (i : Nat) (HF H : Hp) : Prop where
  st : Step HF1 H1 HF H
  fD : H1 D = none
  fF : HF D = none
  ex : ∃ vs fp zs rs, H D = some (.lst vs) ∧ Rl (o.rep K HF H) vs zs fp ∧ fp.Nodup ∧ (∀ p ∈ fp, H1 p = none ∧ HF p = none ∧ p ≠ D) ∧ zs.length ≤ i ∧ i ≤ xs.length ∧ compL tm fm (xs.drop i) = .ok rs ∧ zs ++ rs = ys
theorem Step.nn {HF1 H1 HF H : Hp} (s : Step HF1 H1 HF H) {p : Addr} {u : HO} (h : HF1 p = none) (e : H1 p = some u) : HF p = none := by
  cases q : HF p with
  | none => rfl
  | some w =>
    have := s.new p w q h
    rw [e] at this; cases this
theorem Rl.upd {α : Type} [Rp α] {K : PySem.W.Frag} {o : Ow α} {HF H : Hp} {vs : List V} {as : List α} {fp : List Addr} {p : Addr} {u : HO} (h : Rl (o.rep K HF H) vs as fp) (hp : p ∉ fp) : Rl (o.rep K HF (upd H p u)) vs as fp :=
  Rl.mono (fun v a f hf r => o.mono (Same.refl _) (fun q hq w e => by rw [upd_ne (fun z => hp (by rw [← z]; exact hf q hq))]; exact e) r) h
theorem Step.mutD {HF1 H1 HF H : Hp} {D : Addr} {u : HO} (s : Step HF1 H1 HF H) (h : H1 D = none) (hF : HF D = none) : Step HF1 H1 HF (upd H D u) :=
  ⟨s.exF, fun q w e => by rw [upd_ne (ne_of_none e h)]; exact s.exH q w e, fun q w e => by rw [upd_ne (ne_of_none e hF)]; exact s.sub q w e, s.new⟩
theorem ex_lc [Rp α] [Rp β] [Inhabited α] {o : Ow β} {elt iter : Expr} {ifs : List Expr} {scope : Scope} {own : List (Str × Nat)} {wi : TI} {g : TG} {tt : TT} {m : M (List α)} {tm : α → M Bool} {fm : α → M β} {Γt : α → Ctx} {js : List Nat} (hc : X.calm = true) (hN : X.N.Nodup)
    (hi : EI X Γ tg iter m wi) (ok : blkC X.N X.env.scope scope own = true) (hown : (own.map (·.2)).all (fun i => decide (i < Γ.length)) = true) (hjs : js.all (fun i => (own.map (·.2)).contains i) = true)
    (hg : ∀ (s : Shared) (H : Hp) (C : Addr) (cl : List (Str × Addr)) (fp : List Addr) (x : α), EG (X.blk s H scope (compEnvC scope cl C X.env) fp) (wipeC Γ (own.map (·.2))) tg g x (Γt x) js)
    (ht : ∀ (s : Shared) (H : Hp) (C : Addr) (cl : List (Str × Addr)) (fp : List Addr) (x : α), EF (X.blk s H scope (compEnvC scope cl C X.env) fp) (Γt x) ifs (tm x) tt)
    (he : ∀ (s : Shared) (H : Hp) (C : Addr) (cl : List (Str × Addr)) (fp : List Addr) (x : α), EX (X.blk s H scope (compEnvC scope cl C X.env) fp) (Γt x) elt o (fm x) te)
    (hs : ∀ x, foldedSetIterable iter X.env x = pure x := by intro _; rfl) :
    EX X Γ (.ListComp elt [⟨tg, iter, ifs, 0⟩] scope pos) (Ow.l o) (do let xs ← m; compM xs tm fm) (tLc wi g tt te (own.map (·.2))) :=
  ⟨pe_lc hc hN hi.pi (blkOk_by ok) (fun s H C cl fp => (hg s H C cl fp default).pg) (fun s H C cl fp => (ht s H C cl fp default).pts) (fun s H C cl fp => (he s H C cl fp default).pe) hs, fun HF0 G HF H σ gd' ys hys Q k => by
    obtain ⟨xs, e1, hys⟩ := bind_ok hys
    obtain ⟨u, e2, hys⟩ := bind_ok hys
    have hsz : xs.length ≤ sizeLine := of_decide_eq_true (gd_ok e2)
    have hown' : ∀ i ∈ own.map (·.2), i < Γ.length := fun i hi' => of_decide_eq_true (List.all_eq_true.mp hown i hi')
    have hjs' : ∀ k, k ∉ own.map (·.2) → k ∉ js := fun k hk z => hk (by simpa using List.all_eq_true.mp hjs k z)
    refine hi.sem HF0 G HF H σ gd' xs e1 _ fun J HF1 H1 s1 wk D hD => ?_
    have g1 := gd'.step s1
    refine ⟨fun i n H2 => n = xs.length - i ∧ ∃ HF2, Cmp X.K HF1 H1 o D tm fm xs ys i HF2 H2, ⟨xs.length, rfl, HF1, ?_⟩, ?_⟩
    · exact ⟨Step.own s1.sub hD, hD, s1.sub.free hD, [], [], [], ys, upd_same, rfl, List.nodup_nil, (fun p hp => by cases hp), Nat.le_refl _, Nat.zero_le _, hys, rfl⟩
    · rintro i n H2 ⟨rfl, HF2, st, fD, fF, vs, fp, zs, rs, eD, rl, nd, fr, hz, hix, hrs, hzr⟩
      have g2 := g1.step st
      have wk2 := wk HF2 H2 i st.exF st.sub
      have rdom := Rl.dom (fun v a f r => o.dom r) rl
      by_cases hlt : i < xs.length
      · refine .inr ?_
        have hx : xs[i]? = some xs[i] := List.getElem?_eq_getElem hlt
        obtain ⟨hgo, hy⟩ := wk2.1 _ hx
        rw [List.drop_eq_getElem_cons hlt] at hrs
        obtain ⟨b, eb, hrs⟩ := bind_ok hrs
        refine ⟨hgo, fun H' => ∃ HF', Cmp X.K HF1 H1 o D tm fm xs ys (i + 1) HF' H', fun H' h' => ⟨xs.length - (i + 1), by omega, rfl, h'⟩, fun x H3 hyl => ?_⟩
        obtain ⟨HF3, s3, rx⟩ := hy x H3 hyl
        have g3 := (g2.step s3).wipe (own.map (·.2)) hown'
        have hsem := (hg X.s_0 X.H_0 0 [] [] xs[i]).sem
        refine hsem HF0 G HF3 H3 (L2.wipe σ (own.map (·.2))) x g3 rx _ ?_
        intro σ' g4 hl hsame
        refine ⟨?_, ?_⟩
        · rw [wipe_ext (σ := L2.wipe σ (own.map (·.2))) hl fun k hk => hsame k (hjs' k hk)]
          exact wipe_ext (L2.wipe_length _ _) fun k hk => wipe_out' hk
        · have htsem := (ht X.s_0 X.H_0 0 [] [] xs[i]).sem
          refine htsem HF0 G HF3 H3 σ' g4 b eb _ fun HF4 H4 s4 => ?_
          have s34 := s3.trans s4
          have sT := st.trans s34
          cases b with
          | false =>
            refine iteF ⟨HF4, sT, fD, s34.nn fF eD, vs, fp, zs, rs, s34.exH _ _ eD, rl.step s34, nd, fun p hp => ?_, by omega, hlt, hrs, hzr⟩
            obtain ⟨f1, f2, f3⟩ := fr p hp
            obtain ⟨w, hw⟩ := rdom p hp
            exact ⟨f1, s34.nn f2 hw, f3⟩
          | true =>
            obtain ⟨y, ey, hrs⟩ := bind_ok hrs
            obtain ⟨rs', ers, hrs⟩ := bind_ok hrs
            have hr := pure_ok hrs
            have hesem := (he X.s_0 X.H_0 0 [] [] xs[i]).sem
            refine iteT (hesem HF0 G HF4 H4 σ' (g4.step s4) y ey _ fun v HF5 H5 fq s5 r5 n5 f5 => ?_)
            have s35 := s34.trans s5
            have sT5 := st.trans s35
            have eD5 := s35.exH _ _ eD
            have hDF : HF5 D = none := s35.nn fF eD
            have rl5 := rl.step s35
            have hDp : D ∉ fp := fun z => (fr D z).2.2 rfl
            have hDq : D ∉ fq := fun z => by
              have := (f5 D z).1
              rw [s34.exH _ _ eD] at this; cases this
            refine ⟨vs, eD5, ?_, HF5, sT5.mutD fD hDF, fD, hDF, vs ++ [v], fp ++ fq, zs ++ [y], rs', upd_same, ?_, ?_, fun p hp => ?_, ?_, hlt, ers, ?_⟩
            · rw [rl.len]; exact Nat.lt_of_le_of_lt hz (Nat.lt_of_lt_of_le hlt hsz)
            · exact Rl.append (rl5.upd hDp) (Rl.one (o.mono (Same.refl _) (fun q hq w e => by rw [upd_ne (fun z => hDq (by rw [← z]; exact hq))]; exact e) r5))
            · refine List.nodup_append.mpr ⟨nd, n5, fun p hp q hq e => ?_⟩
              subst e
              obtain ⟨w, hw⟩ := rdom p hp
              have := (f5 p hq).1
              rw [s34.exH _ _ hw] at this; cases this
            · rcases List.mem_append.mp hp with z | z
              · obtain ⟨f1, f2, f3⟩ := fr p z
                obtain ⟨w, hw⟩ := rdom p z
                exact ⟨f1, s35.nn f2 hw, f3⟩
              · exact ⟨(st.trans s34).exH.free (f5 p z).1, (f5 p z).2, fun e => hDq (e ▸ z)⟩
            · rw [List.length_append]; exact Nat.succ_le_succ hz
            · rw [List.append_assoc, ← hzr, ← hr]; rfl
      · refine .inl ⟨wk2.2 (by omega), ?_⟩
        have hnil : xs.drop i = [] := List.drop_eq_nil_of_le (by omega)
        rw [hnil] at hrs
        have hr := pure_ok hrs
        rw [← hr, List.append_nil] at hzr
        subst hzr
        exact k (.ref D) HF2 H2 (D :: fp) (s1.trans st) ⟨D, vs, fp, rfl, rfl, eD, rl⟩ (List.nodup_cons.mpr ⟨fun z => (fr D z).2.2 rfl, nd⟩) fun p hp => by
          rcases List.mem_cons.mp hp with e | z
          · subst e; exact ⟨s1.exH.free fD, fF⟩
          · exact ⟨s1.exH.free (fr p z).1, (fr p z).2.1⟩⟩
end
end Ty

namespace Ty
open PySem PySem.Spec PyProof.Rows L2

/-! ### statements -/
inductive Ctl (S L ρ : Type) where
  | nx (s : S)
  | bk (l : L)
  | ct (l : L)
  | rt (r : ρ)
/-- what is wanted of a block's ends: HFs: what was shared ahead of it -/
def EndsOk {S L ρ : Type} [Rp ρ] (K : PySem.W.Frag) (HF0 G HFs : Hp) (Γo : S → Ctx) (ΓL : L → Ctx) (o : Ow ρ) (D : Ends) : Ctl S L ρ → Prop
  | .nx s => ∀ HF H σ, Same HFs HF → Good K HF0 G (Γo s) HF H σ → D.nx σ H
  | .bk s => ∀ HF H σ, Same HFs HF → Good K HF0 G (ΓL s) HF H σ → D.bk σ H
  | .ct s => ∀ HF H σ, Same HFs HF → Good K HF0 G (ΓL s) HF H σ → D.ct σ H
  | .rt r => ∀ v HF H fp, Same HF H → Same HF0 HF → Same G H → (∀ p u, HF p = some u → HF0 p = none → G p = none) → o.rep K HF H v r fp → fp.Nodup → (∀ p ∈ fp, HF p = none ∧ G p = none) → o.out r D.rt v H
theorem EndsOk.mono {S L ρ : Type} [Rp ρ] {K : PySem.W.Frag} {HF0 G HFs HFt : Hp} {Γo : S → Ctx} {ΓL : L → Ctx} {o : Ow ρ} {D : Ends} {c : Ctl S L ρ} (e : Same HFs HFt) (h : EndsOk K HF0 G HFs Γo ΓL o D c) : EndsOk K HF0 G HFt Γo ΓL o D c := by
  cases c with
  | nx s => exact fun HF H σ a b => h HF H σ (e.trans a) b
  | bk s => exact fun HF H σ a b => h HF H σ (e.trans a) b
  | ct s => exact fun HF H σ a b => h HF H σ (e.trans a) b
  | rt r => exact h
def SemS {S L ρ : Type} [Rp ρ] (K : PySem.W.Frag) (Γ : Ctx) (t : TS) (Γo : S → Ctx) (ΓL : L → Ctx) (o : Ow ρ) (m : M (Ctl S L ρ)) : Prop :=
  ∀ HF0 G HF H σ, Good K HF0 G Γ HF H σ → ∀ c, m = .ok c → ∀ D : Ends, EndsOk K HF0 G HF Γo ΓL o D c → t D σ H
structure SS {S L ρ : Type} [Rp ρ] (X : Cx) (Γ : Ctx) (sts : List Stmt) (Γo : S → Ctx) (ΓL : L → Ctx) (o : Ow ρ) (m : M (Ctl S L ρ)) (t : TS) : Prop where
  pss : PSs X sts t
  sem : SemS X.K Γ t Γo ΓL o m
/-- Δ knows no more than Γ -/
inductive Sub : Ctx → Ctx → Prop where
  | n : Sub [] []
  | k {s : Sl} {Γ Δ : Ctx} : Sub Γ Δ → Sub (s :: Γ) (s :: Δ)
  | w {s : Sl} {Γ Δ : Ctx} : Sub Γ Δ → Sub (s :: Γ) (.un :: Δ)
theorem Sub.held {K : PySem.W.Frag} {HF H : Hp} {Γ Δ : Ctx} (h : Sub Γ Δ) : ∀ {σ : L2.St} {fs : List Addr}, Holds K HF H Γ σ fs → ∃ gs, Holds K HF H Δ σ gs ∧ (∀ p ∈ gs, p ∈ fs) ∧ (fs.Nodup → gs.Nodup) := by
  induction h with
  | n => exact fun {σ fs} h => ⟨fs, h, fun _ h => h, fun h => h⟩
  | @k s Γ Δ _ ih =>
    intro σ fs h
    cases σ with
    | nil => exact h.elim
    | cons x σ =>
      obtain ⟨f1, f2, h1, h2, h3⟩ := h
      obtain ⟨gs, q1, q2, q3⟩ := ih h3
      refine ⟨f1 ++ gs, ⟨f1, gs, rfl, h2, q1⟩, fun p hp => ?_, fun nd => ?_⟩
      · rw [h1]
        rcases List.mem_append.mp hp with z | z
        · exact List.mem_append_left _ z
        · exact List.mem_append_right _ (q2 p z)
      · rw [h1] at nd
        obtain ⟨a, b, c⟩ := List.nodup_append.mp nd
        exact List.nodup_append.mpr ⟨a, q3 b, fun p hp q hq e => c p hp q (q2 q hq) e⟩
  | @w s Γ Δ _ ih =>
    intro σ fs h
    cases σ with
    | nil => exact h.elim
    | cons x σ =>
      obtain ⟨f1, f2, h1, h2, h3⟩ := h
      obtain ⟨gs, q1, q2, q3⟩ := ih h3
      refine ⟨gs, ⟨[], gs, rfl, rfl, q1⟩, fun p hp => by rw [h1]; exact List.mem_append_right _ (q2 p hp), fun nd => ?_⟩
      rw [h1] at nd
      exact q3 (List.nodup_append.mp nd).2.1
theorem Sub.good {K : PySem.W.Frag} {HF0 G HF H : Hp} {Γ Δ : Ctx} {σ : L2.St} (h : Sub Γ Δ) (g : Good K HF0 G Γ HF H σ) : Good K HF0 G Δ HF H σ := by
  obtain ⟨fs, h1, h2, h3⟩ := g.held
  obtain ⟨gs, q1, q2, q3⟩ := h.held h1
  exact ⟨g.sub, g.f0, g.g0, g.nf, gs, q1, q3 h2, fun p hp => h3 p (q2 p hp)⟩
section
variable {X : Cx} {Γ : Ctx} {S L ρ α β γ A B S' : Type} [Rp ρ] {o : Ow ρ} {Γo : S → Ctx} {ΓL : L → Ctx} {a b e : Expr} {es : List Expr} {pos p apos : Pos} {ta tb te : TE} {t : TA} {sts : List Stmt} {tr tr' : TS}
theorem ss_nil (s : S) (h : Sub Γ (Γo s)) : SS X Γ [] Γo ΓL o (pure (.nx s)) tNext := ⟨pss_nil, fun HF0 G HF H σ g c hc D k => by cases pure_ok hc; exact k HF H σ (Same.refl _) (h.good g)⟩
theorem ss_ret {m : M ρ} (h : EX X Γ e o m te) (ho : ∀ r R v H, o.out r R v H → R v H := by exact fun _ _ _ _ h => h) : SS X Γ [.Return (some e) pos] Γo ΓL o (do let r ← m; pure (.rt r)) (tRet te) :=
  ⟨pss_one (ps_ret h.pe), fun HF0 G HF H σ g c hc D k => by
    obtain ⟨r, e1, hc⟩ := bind_ok hc
    cases pure_ok hc
    refine h.sem HF0 G HF H σ g r e1 _ fun v HF' H' fp st rr n f => ?_
    have g' := g.step st
    exact ho _ _ _ _ <| k v HF' H' fp st.sub g'.f0 g'.g0 g'.nf rr n fun p hp => ⟨(f p hp).2, g.g0.free (f p hp).1⟩⟩
/-- an own thing handed back -/
theorem ss_retO (i : Nat) {r : ρ} {x : Str} {pos' : Pos} (hl : look Γ i = .mk o r := by rfl) (hN : X.N[i]? = some x := by rfl) (hv : Vis X.env.scope x := by first | exact Or.inl rfl | exact Or.inr (Or.inl rfl) | exact Or.inr (Or.inr rfl)) (hd : (x == ("__debug__" : Str)) = false := by decide)
    (hcd : (x == ("__classdict__" : Str)) = false := by decide) (ho : ∀ r R v H, o.out r R v H → R v H := by exact fun _ _ _ _ h => h) : SS X Γ [.Return (some (.Name x pos')) pos] Γo ΓL o (pure (.rt r)) (tRet (tVar i)) :=
  ⟨pss_one (ps_ret (pe_var hN hv hd hcd)), fun HF0 G HF H σ g c hc D k => by
    cases pure_ok hc
    obtain ⟨fs, h1, h2, h3⟩ := g.held
    have hi : i < Γ.length := by
      by_cases z : i < Γ.length
      · exact z
      · exfalso
        have q : ∀ (Γ : Ctx) (i : Nat), ¬ i < Γ.length → look Γ i = .un := fun Γ => by
          induction Γ with
          | nil => intro i _; rfl
          | cons s Γ ih =>
            intro i h
            cases i with
            | zero => exact absurd (Nat.zero_lt_succ _) h
            | succ i => exact ih i fun z => h (Nat.succ_lt_succ z)
        rw [q Γ i z] at hl
        cases hl
    obtain ⟨fo, fr', q1, q2, q3, q4⟩ := h1.put hi
    rw [hl] at q1
    obtain ⟨v, e1, r1⟩ := q1
    refine ⟨v, ?_, ho _ _ _ _ <| k v HF H fo g.sub g.f0 g.g0 g.nf r1 (q3 h2).2.1 fun p hp => h3 p ((q2 p).mpr (.inl hp))⟩
    have hlen := h1.len
    rw [List.getElem?_eq_getElem (by omega)]
    rw [List.getD_eq_getElem?_getD, List.getElem?_eq_getElem (by omega)] at e1
    exact congrArg some e1⟩
theorem Good.set {K : PySem.W.Frag} {HF0 G HF H HF' H' : Hp} {σ : L2.St} {i : Nat} {v : V} [Rp α] {a : α} {u : Ow α} {fp : List Addr} (g : Good K HF0 G Γ HF H σ) (hi : i < Γ.length) (st : Step HF H HF' H') (r : u.rep K HF' H' v a fp) (n : fp.Nodup) (f : ∀ p ∈ fp, H p = none ∧ HF' p = none) : Good K HF0 G (put Γ i (.mk u a)) HF' H' (σ.set i (some v)) := by
  obtain ⟨fs, h1, h2, h3⟩ := g.held
  have g' := g.step st
  obtain ⟨fo, fr', q1, q2, q3, q4⟩ := h1.put hi
  obtain ⟨n1, n2, n3⟩ := q3 h2
  obtain ⟨fs', w1, w2, w3⟩ := q4 (HF' := HF') (H' := H') (s := .mk u a) (x := some v) (f := fp) (fun _ h => h.mono st.exF fun p _ o e => st.exH p o e) (fun _ h => h.mono st.exF fun p _ o e => st.exH p o e) ⟨v, rfl, r⟩
  refine ⟨g'.sub, g'.f0, g'.g0, g'.nf, fs', w1, w3 n1 n fun p hp hq => ?_, fun p hp => ?_⟩
  · obtain ⟨w, hw⟩ := h1.dom p ((q2 p).mpr (.inr hq))
    rw [(f p hp).1] at hw; cases hw
  · rcases (w2 p).mp hp with z | z
    · exact ⟨(f p z).2, g.g0.free (f p z).1⟩
    · obtain ⟨w, hw⟩ := h1.dom p ((q2 p).mpr (.inr z))
      exact ⟨st.nn (h3 p ((q2 p).mpr (.inr z))).1 hw, (h3 p ((q2 p).mpr (.inr z))).2⟩
/-- x = e -/
theorem ss_asg [Rp α] [Inhabited α] (i : Nat) {x : Str} {u : Ow α} {m : M α} {k : α → M (Ctl S L ρ)} {pos' : Pos} (hN : X.N.Nodup) (he : EX X Γ e u m te) (hr : ∀ a, SS X (put Γ i (.mk u a)) sts Γo ΓL o (k a) tr) (hlt : Nat.blt i Γ.length = true := by rfl) (hi : X.N[i]? = some x := by rfl) (hx : Loc X.env.scope x := by first | exact .inl rfl | exact .inr rfl)
    (hs : swapsWith e (some (.Name x pos')) pos.line X.env = pure false := by rfl) (hf : X.fn x = true ∨ X.env.scope.names.lookup x = some .local := by first | exact .inl rfl | exact .inr rfl) : SS X Γ (.Assign [.Name x pos'] e pos :: sts) Γo ΓL o (do let a ← m; k a) (tSeq (tAsg te (gName i)) tr) :=
  ⟨pss_cons (ps_set hN hi hx he.pe hs hf) (hr default).pss, fun HF0 G HF H σ g c hc D kk => by
    obtain ⟨y, e1, hc⟩ := bind_ok hc
    refine he.sem HF0 G HF H σ g y e1 _ fun v HF' H' fp st r n f => ?_
    exact (hr y).sem HF0 G HF' H' _ (g.set (of_blt hlt) st r n f) c hc D (kk.mono st.exF)⟩
/-- x = [..], x a local: the text's own way of storing -/
theorem ss_asgLc [Rp α] [Rp β] [Inhabited α] {o' : Ow β} (i : Nat) {y : Str} {py : Pos} {elt tg iter : Expr} {ifs : List Expr} {scope : Scope} {own : List (Str × Nat)} {wi : TI} {g : TG} {tt : TT} {m : M (List α)} {tm : α → M Bool} {fm : α → M β} {Γt : α → Ctx} {js : List Nat} {k : List β → M (Ctl S L ρ)} {cpos : Pos} (hc : X.calm = true) (hN : X.N.Nodup)
    (hi : EI X Γ tg iter m wi) (ok : blkC X.N X.env.scope scope own = true) (hown : (own.map (·.2)).all (fun i => decide (i < Γ.length)) = true) (hjs : js.all (fun i => (own.map (·.2)).contains i) = true)
    (hg : ∀ (s : Shared) (H : Hp) (C : Addr) (cl : List (Str × Addr)) (fp : List Addr) (x : α), EG (X.blk s H scope (compEnvC scope cl C X.env) fp) (wipeC Γ (own.map (·.2))) tg g x (Γt x) js)
    (ht : ∀ (s : Shared) (H : Hp) (C : Addr) (cl : List (Str × Addr)) (fp : List Addr) (x : α), EF (X.blk s H scope (compEnvC scope cl C X.env) fp) (Γt x) ifs (tm x) tt)
    (he : ∀ (s : Shared) (H : Hp) (C : Addr) (cl : List (Str × Addr)) (fp : List Addr) (x : α), EX (X.blk s H scope (compEnvC scope cl C X.env) fp) (Γt x) elt o' (fm x) te)
    (hr : ∀ a, SS X (put Γ i (.mk (Ow.l o') a)) sts Γo ΓL o (k a) tr)
    (hlt : Nat.blt i Γ.length = true := by rfl) (hy : X.N[i]? = some y := by rfl) (hyl : X.env.scope.names.lookup y = some .local := by rfl)
    (hsw : swapsWith (.ListComp elt [⟨tg, iter, ifs, 0⟩] scope cpos) (some (.Name y py)) pos.line X.env = pure true := by exact sw_true rfl rfl rfl (by decide +kernel))
    (hs : ∀ x, foldedSetIterable iter X.env x = pure x := by intro _; rfl) :
    SS X Γ (.Assign [.Name y py] (.ListComp elt [⟨tg, iter, ifs, 0⟩] scope cpos) pos :: sts) Γo ΓL o (do let a ← (do let xs ← m; compM xs tm fm); k a) (tSeq (tAsg (tLc wi g tt te (own.map (·.2))) (gName i)) tr) := by
  have q : EX X Γ (.ListComp elt [⟨tg, iter, ifs, 0⟩] scope cpos) (Ow.l o') (do let xs ← m; compM xs tm fm) (tLc wi g tt te (own.map (·.2))) := ex_lc hc hN hi ok hown hjs hg ht he hs
  exact ⟨pss_cons (ps_setLc hc hN hy hyl hsw hi.pi (blkOk_by ok) (fun s H C cl fp => (hg s H C cl fp default).pg) (fun s H C cl fp => (ht s H C cl fp default).pts) (fun s H C cl fp => (he s H C cl fp default).pe) hs) (hr default).pss, fun HF0 G HF H σ gd c hcc D kk => by
    obtain ⟨z, e1, hcc⟩ := bind_ok hcc
    show tLc wi g tt te (own.map (·.2)) σ H (fun x H1 => tr D (σ.set i (some x)) H1)
    refine q.sem HF0 G HF H σ gd z e1 _ fun v HF' H' fp st r n f => ?_
    exact (hr z).sem HF0 G HF' H' _ (gd.set (of_blt hlt) st r n f) c hcc D (kk.mono st.exF)⟩
/-- if with an else or not, then the rest -/
def thenC {S1 : Type} (c : Ctl S1 L ρ) (k : S1 → M (Ctl S L ρ)) : M (Ctl S L ρ) := match c with
  | .nx s => k s
  | .bk l => pure (.bk l)
  | .ct l => pure (.ct l)
  | .rt r => pure (.rt r)
theorem ss_if {S1 : Type} [Inhabited S1] {c : Expr} {sa sb : List Stmt} {tc : TT} {t1 t2 : TS} {mc : M Bool} {ma mb : M (Ctl S1 L ρ)} {Γ1 : S1 → Ctx} {k : S1 → M (Ctl S L ρ)} (hc : ET X Γ c mc tc) (ha : SS X Γ sa Γ1 ΓL o ma t1) (hb : SS X Γ sb Γ1 ΓL o mb t2) (hr : ∀ s, SS X (Γ1 s) sts Γo ΓL o (k s) tr) :
    SS X Γ (.If c sa sb pos :: sts) Γo ΓL o (do let x ← mc; let y ← (if x then ma else mb); thenC y k) (tSeq (tIfS tc t1 t2) tr) :=
  ⟨pss_cons (ps_if hc.pt ha.pss hb.pss) (hr default).pss, fun HF0 G HF H σ g cc hcc D kk => by
    obtain ⟨x, e1, hcc⟩ := bind_ok hcc
    obtain ⟨y, e2, hcc⟩ := bind_ok hcc
    refine hc.sem HF0 G HF H σ g x e1 _ fun HF' H' st => ?_
    have kk' := kk.mono st.exF
    have fin : EndsOk X.K HF0 G HF' Γ1 ΓL o { D with nx := tr D } y := by
      cases y with
      | nx s => exact fun HF2 H2 σ2 a g2 => (hr s).sem HF0 G HF2 H2 σ2 g2 cc hcc D (kk'.mono a)
      | bk l => cases pure_ok (show (pure (.bk l) : M (Ctl S L ρ)) = .ok cc from hcc); exact kk'
      | ct l => cases pure_ok (show (pure (.ct l) : M (Ctl S L ρ)) = .ok cc from hcc); exact kk'
      | rt r => cases pure_ok (show (pure (.rt r) : M (Ctl S L ρ)) = .ok cc from hcc); exact kk'
    cases x with
    | true => exact iteT (ha.sem HF0 G HF' H' σ (g.step st) y e2 _ fin)
    | false => exact iteF (hb.sem HF0 G HF' H' σ (g.step st) y e2 _ fin)⟩
/-- if whose first branch leaves: nothing is joined -/
theorem ss_ifR {c : Expr} {sa : List Stmt} {tc : TT} {t1 : TS} {mc : M Bool} {ma : M (Ctl Empty L ρ)} {k : M (Ctl S L ρ)} (hc : ET X Γ c mc tc) (ha : SS X Γ sa (fun (_ : Empty) => []) ΓL o ma t1) (hr : SS X Γ sts Γo ΓL o k tr) :
    SS X Γ (.If c sa [] pos :: sts) Γo ΓL o (do let x ← mc; if x then (do let y ← ma; thenC y nofun) else k) (tSeq (tIfS tc t1 tNext) tr) :=
  ⟨pss_cons (ps_if hc.pt ha.pss pss_nil) hr.pss, fun HF0 G HF H σ g cc hcc D kk => by
    obtain ⟨x, e1, hcc⟩ := bind_ok hcc
    refine hc.sem HF0 G HF H σ g x e1 _ fun HF' H' st => ?_
    have kk' := kk.mono st.exF
    cases x with
    | true =>
      obtain ⟨y, e2, hcc⟩ := bind_ok hcc
      refine iteT (ha.sem HF0 G HF' H' σ (g.step st) y e2 _ ?_)
      cases y with
      | nx s => exact nomatch s
      | bk l => cases pure_ok (show (pure (.bk l) : M (Ctl S L ρ)) = .ok cc from hcc); exact kk'
      | ct l => cases pure_ok (show (pure (.ct l) : M (Ctl S L ρ)) = .ok cc from hcc); exact kk'
      | rt r => cases pure_ok (show (pure (.rt r) : M (Ctl S L ρ)) = .ok cc from hcc); exact kk'
    | false => exact iteF (hr.sem HF0 G HF' H' σ (g.step st) cc hcc D kk')⟩
/-- if at a block's end -/
theorem ss_ifE {c : Expr} {sa sb : List Stmt} {tc : TT} {t1 t2 : TS} {mc : M Bool} {ma mb : M (Ctl S L ρ)} (hc : ET X Γ c mc tc) (ha : SS X Γ sa Γo ΓL o ma t1) (hb : SS X Γ sb Γo ΓL o mb t2) :
    SS X Γ [.If c sa sb pos] Γo ΓL o (do let x ← mc; if x then ma else mb) (tIfS tc t1 t2) :=
  ⟨pss_one (ps_if hc.pt ha.pss hb.pss), fun HF0 G HF H σ g cc hcc D kk => by
    obtain ⟨x, e1, hcc⟩ := bind_ok hcc
    refine hc.sem HF0 G HF H σ g x e1 _ fun HF' H' st => ?_
    cases x with
    | true => exact iteT (ha.sem HF0 G HF' H' σ (g.step st) cc hcc _ (kk.mono st.exF))
    | false => exact iteF (hb.sem HF0 G HF' H' σ (g.step st) cc hcc _ (kk.mono st.exF))⟩

/-! ### loops -/
def loopM {α S ρ : Type} (f : α → S → M (Ctl S S ρ)) : List α → S → M (S ⊕ ρ)
  | [], s => pure (.inl s)
  | x :: xs, s => do
    let c ← f x s
    match c with
    | .nx s' => loopM f xs s'
    | .ct s' => loopM f xs s'
    | .bk s' => pure (.inl s')
    | .rt r => pure (.inr r)
def thenL (c : S' ⊕ ρ) (k : S' → M (Ctl S L ρ)) : M (Ctl S L ρ) := match c with
  | .inl s => k s
  | .inr r => pure (.rt r)
theorem ss_for [Rp α] [Inhabited α] {tg iter : Expr} {body : List Stmt} {wi : TI} {g : TG} {tb : TS} {js : List Nat} {m : M (List α)} {Γs : S' → Ctx} {Γt : S' → α → Ctx} {f : α → S' → M (Ctl S' S' ρ)} {k : S' → M (Ctl S L ρ)} (s0 : S') (hc : X.calm = true) (hxe : PassesOwn (model X.prog X.w) X.A X.env X.xe) (hi : EI X Γ tg iter m wi) (h0 : Sub Γ (Γs s0))
    (hg : ∀ s x, EG X (Γs s) tg g x (Γt s x) js) (hb : ∀ s x, SS X (Γt s x) body Γs Γs o (f x s) tb) (hr : ∀ s, SS X (Γs s) sts Γo ΓL o (k s) tr)
    (hs : ∀ x, foldedSetIterable iter X.env x = pure x := by intro _; rfl) : SS X Γ (.For tg iter body [] pos :: sts) Γo ΓL o (do let xs ← m; let c ← loopM f xs s0; thenL c k) (tSeq (tFor wi g tb) tr) :=
  ⟨pss_cons (ps_for hxe hc hi.pi (hg s0 default).pg (hb s0 default).pss hs) (hr s0).pss, fun HF0 G HF H σ gd cc hcc D kk => by
    obtain ⟨xs, e1, hcc⟩ := bind_ok hcc
    obtain ⟨c1, e2, hcc⟩ := bind_ok hcc
    refine hi.sem HF0 G HF H σ gd xs e1 _ fun J HF1 H1 st wk => ?_
    have kk' := kk.mono st.exF
    have nxt : ∀ s HF2 H2 σ2, c1 = .inl s → Same HF1 HF2 → Good X.K HF0 G (Γs s) HF2 H2 σ2 → tr D σ2 H2 := fun s HF2 H2 σ2 e a g2 => by
      subst e
      exact (hr s).sem HF0 G HF2 H2 σ2 g2 cc hcc D (kk'.mono a)
    refine ⟨fun i n σ2 H2 => n = xs.length - i ∧ i ≤ xs.length ∧ ∃ s HF2, Same HF1 HF2 ∧ Good X.K HF0 G (Γs s) HF2 H2 σ2 ∧ loopM f (xs.drop i) s = .ok c1, ⟨xs.length, rfl, Nat.zero_le _, s0, HF1, Same.refl _, h0.good (gd.step st), e2⟩, ?_⟩
    rintro i n σ2 H2 ⟨rfl, hix, s, HF2, a, g2, hl⟩
    have wk2 := wk HF2 H2 i a g2.sub
    by_cases hlt : i < xs.length
    · have hx : xs[i]? = some xs[i] := List.getElem?_eq_getElem hlt
      obtain ⟨hgo, hy⟩ := wk2.1 _ hx
      rw [List.drop_eq_getElem_cons hlt] at hl
      obtain ⟨c2, e3, hl⟩ := bind_ok hl
      refine .inr ⟨hgo, fun σ' H' => ∃ s' HF', Same HF1 HF' ∧ Good X.K HF0 G (Γs s') HF' H' σ' ∧ loopM f (xs.drop (i + 1)) s' = .ok c1, fun σ' H' h' => ⟨xs.length - (i + 1), by omega, rfl, hlt, h'⟩, fun x H3 hyl => ?_⟩
      obtain ⟨HF3, s3, rx⟩ := hy x H3 hyl
      refine (hg s xs[i]).sem HF0 G HF3 H3 σ2 x (g2.step s3) rx _ fun σ' g4 _ _ => ?_
      refine (hb s xs[i]).sem HF0 G HF3 H3 σ' g4 c2 e3 _ ?_
      have a3 := a.trans s3.exF
      cases c2 with
      | nx s' => exact fun HF5 H5 σ5 b g5 => ⟨s', HF5, a3.trans b, g5, hl⟩
      | ct s' => exact fun HF5 H5 σ5 b g5 => ⟨s', HF5, a3.trans b, g5, hl⟩
      | bk s' =>
        have e4 := pure_ok (show (pure (.inl s') : M (S' ⊕ ρ)) = .ok c1 from hl)
        exact fun HF5 H5 σ5 b g5 => nxt s' HF5 H5 σ5 e4.symm (a3.trans b) g5
      | rt r =>
        have e4 := pure_ok (show (pure (.inr r) : M (S' ⊕ ρ)) = .ok c1 from hl)
        subst e4
        cases pure_ok (show (pure (.rt r) : M (Ctl S L ρ)) = .ok cc from hcc)
        exact kk'
    · have hnil : xs.drop i = [] := List.drop_eq_nil_of_le (by omega)
      rw [hnil] at hl
      exact .inl ⟨wk2.2 (by omega), nxt s HF2 H2 σ2 (pure_ok hl).symm a g2⟩⟩
/-- an own thing made shared from here on -/
theorem ss_frz [Rp α] (i : Nat) {u : Ow α} {x : α} {m : M (Ctl S L ρ)} (hl : look Γ i = .mk u x) (h : SS X (put Γ i (.mk Ow.v x)) sts Γo ΓL o m tr) (hlt : Nat.blt i Γ.length = true := by rfl) : SS X Γ sts Γo ΓL o m tr :=
  ⟨h.pss, fun HF0 G HF H σ g c hc D k => by
    obtain ⟨fs, h1, h2, h3⟩ := g.held
    obtain ⟨fo, fr', q1, q2, q3, q4⟩ := h1.put (of_blt hlt)
    obtain ⟨n1, n2, n3⟩ := q3 h2
    rw [hl] at q1
    obtain ⟨v, e1, r1⟩ := q1
    have hF : ∀ p ∈ fo, HF p = none := fun p hp => (h3 p ((q2 p).mpr (.inl hp))).1
    have sF : Same HF (plus HF H fo) := plus_same hF
    obtain ⟨fs', w1, w2, w3⟩ := q4 (HF' := plus HF H fo) (H' := H) (s := .mk Ow.v x) (x := some v) (f := []) (fun _ h => h.mono sF fun p _ o e => e) (fun _ h => h.mono sF fun p _ o e => e) ⟨v, rfl, u.frz sF plus_at r1, rfl⟩
    have eσ : σ.set i (some v) = σ := by
      have hlen := h1.len
      have hlt := of_blt hlt
      apply List.ext_getElem?
      intro j
      by_cases hj : i = j
      · subst hj
        rw [List.getElem?_set_self (by omega), List.getElem?_eq_getElem (by omega)]
        rw [List.getD_eq_getElem?_getD, List.getElem?_eq_getElem (by omega)] at e1
        exact congrArg some e1.symm
      · rw [List.getElem?_set_ne hj]
    refine h.sem HF0 G (plus HF H fo) H σ ⟨plus_sub g.sub, g.f0.trans sF, g.g0, fun p w e en => ?_, fs', by rw [← eσ]; exact w1, w3 n1 List.nodup_nil (fun p hp => by cases hp), fun p hp => ?_⟩ c hc D (k.mono sF)
    · by_cases hp : p ∈ fo
      · exact (h3 p ((q2 p).mpr (.inl hp))).2
      · rw [plus_out hp] at e; exact g.nf p w e en
    · rcases (w2 p).mp hp with z | z
      · cases z
      · rw [plus_out fun z' => n3 p z' z]
        exact h3 p ((q2 p).mpr (.inr z))⟩
end

/-! ### a def -/
def runC {ρ : Type} (m : M (Ctl Unit Empty ρ)) : M ρ := do
  let c ← m
  match c with
  | .rt r => pure r
  | _ => no
def spF {A ρ : Type} [Rp ρ] (K : PySem.W.Frag) (r : As A) (o : Ow ρ) (f : A → M ρ) : Sp := fun vs H Q _ =>
  ∃ HF a c, Same HF H ∧ r.rep K HF vs a ∧ f a = .ok c ∧ RetK K HF H o c Q
section
variable {P : Program} {w : World} {K : PySem.W.Frag} {mg : Str → Option Value} {base : Heap}
end
section
variable {X : Cx} {Γ : Ctx} {A ρ : Type} {e : Expr} {es : List Expr} {p pos : Pos} {t : TA}
theorem ex_call [Rp ρ] {K : PySem.W.Frag} {k : Nat} {f : Addr} {fd : FuncData} {ps : List Str} {x : Str} {r : As A} {o : Ow ρ} {fm : A → M ρ} {m : M A} (F : FnOk X.prog X.w X.K X.mg X.base CX0 k f fd ps (spF K r o fm)) (hr : Room k X.A) (hm : X.mg x = some (.ref f)) (hk : PySem.W.keepIn X.K (.ref f) = true) (hb : Binds X.K fd ps [])
    (ha : EA X Γ (e :: es) r m t) (hg : Gl X x := by rfl) (hdb : (x == ("__debug__" : Str)) = false := by decide) (he : starEach (e :: es) X.env = (false, eval e X.env) :: starEach es X.env := by rfl) (hpl : (backTo pos (starEach es X.env)).any (·.1) = false := by rfl) (hK : X.K = K := by rfl) :
    EX X Γ (.Call (.Name x p) (e :: es) [] pos) o (do let a ← m; fm a) (tCall (spF K r o fm) [] E0 t) := by
  subst hK
  exact ⟨pe_call F hr hg hm hk hb .nil pass0 ha.pa hdb he hpl, fun HF0 G HF H σ g c hc Q kk => by
    obtain ⟨x, e1, hc⟩ := bind_ok hc
    refine ha.sem HF0 G HF H σ g x e1 _ fun vs HF1 H1 s1 r1 => ?_
    show spF X.K r o fm (vs ++ []) H1 Q E0
    rw [List.append_nil]
    exact ⟨HF1, x, c, s1.sub, r1, hc, kk.back s1⟩⟩
end
end Ty

namespace Ty
open PySem PySem.Spec PyProof.Rows L2

instance : Inhabited Str := ⟨Str.empty⟩
instance : Inhabited Scr := ⟨⟨[]⟩⟩
instance {α : Type} : Inhabited (Tu α) := ⟨⟨[]⟩⟩
instance {α β γ : Type} [Inhabited α] [Inhabited β] [Inhabited γ] : Inhabited (T3 α β γ) := ⟨⟨default, default, default⟩⟩
theorem look_lt : ∀ {Γ : Ctx} {i : Nat}, look Γ i ≠ .un → i < Γ.length
  | [], _, h => absurd rfl h
  | _ :: _, 0, _ => Nat.zero_lt_succ _
  | _ :: Γ, i + 1, h => Nat.succ_lt_succ (look_lt (Γ := Γ) (i := i) h)
theorem look_lt' {α : Type} [Rp α] {Γ : Ctx} {i : Nat} {u : Ow α} {a : α} (h : look Γ i = .mk u a) : i < Γ.length := look_lt (by rw [h]; exact fun e => nomatch e)
theorem set_self {σ : L2.St} {i : Nat} {v : V} (h : σ[i]? = some (some v)) : σ.set i (some v) = σ := by
  apply List.ext_getElem?
  intro j
  by_cases hj : i = j
  · subst hj
    rw [List.getElem?_set_self (List.getElem?_eq_some_iff.mp h).1, h]
  · rw [List.getElem?_set_ne hj]
/-- an own thing, taken out and put back changed -/
theorem Good.take {K : PySem.W.Frag} {HF0 G HF H : Hp} {Γ : Ctx} {σ : L2.St} {i : Nat} {α : Type} [Rp α] {u : Ow α} {a : α} (g : Good K HF0 G Γ HF H σ) (hl : look Γ i = .mk u a) :
    ∃ v fo, σ[i]? = some (some v) ∧ u.rep K HF H v a fo ∧ fo.Nodup ∧ (∀ p ∈ fo, HF p = none ∧ G p = none) ∧
      ∀ {HF1 H1 H' : Hp} {β : Type} [Rp β] {u' : Ow β} {b : β} {v' : V} {f' : List Addr}, Step HF H HF1 H1 → (∀ p w, p ∉ fo → H1 p = some w → H' p = some w) → u'.rep K HF1 H' v' b f' → f'.Nodup → (∀ p ∈ f', p ∈ fo ∨ (H p = none ∧ HF1 p = none)) →
        Good K HF0 G (put Γ i (.mk u' b)) HF1 H' (σ.set i (some v')) := by
  have hi := look_lt' hl
  obtain ⟨fs, h1, h2, h3⟩ := g.held
  obtain ⟨fo, fr', q1, q2, q3, q4⟩ := h1.put hi
  obtain ⟨n1, n2, n3⟩ := q3 h2
  rw [hl] at q1
  obtain ⟨v, e1, r1⟩ := q1
  have hlen := h1.len
  have hσ : σ[i]? = some (some v) := by
    rw [List.getElem?_eq_getElem (by omega)]
    rw [List.getD_eq_getElem?_getD, List.getElem?_eq_getElem (by omega)] at e1
    exact congrArg some e1
  have hfo : ∀ p ∈ fo, HF p = none ∧ G p = none := fun p hp => h3 p ((q2 p).mpr (.inl hp))
  have hfr : ∀ p ∈ fr', HF p = none ∧ G p = none := fun p hp => h3 p ((q2 p).mpr (.inr hp))
  refine ⟨v, fo, hσ, r1, n2, hfo, ?_⟩
  intro HF1 H1 H' β _ u' b v' f' st hk hr hnd hf
  have g' := g.step st
  have kp : ∀ {f : List Addr}, (∀ p ∈ f, p ∈ fr') → ∀ p ∈ f, ∀ o, H p = some o → H' p = some o := fun hp p hm o e => hk p o (fun z => n3 p z (hp p hm)) (st.exH p o e)
  obtain ⟨fs', w1, w2, w3⟩ := q4 (HF' := HF1) (H' := H') (s := .mk u' b) (x := some v') (f := f') (fun hp h => h.mono st.exF (kp hp)) (fun hp h => h.mono st.exF (kp hp)) ⟨v', rfl, hr⟩
  have dm := h1.dom
  refine ⟨fun p w e => hk p w (fun z => ?_) (st.sub p w e), g'.f0, fun p w e => hk p w (fun z => ?_) (g'.g0 p w e), g'.nf, fs', w1, w3 n1 hnd fun p hp hq => ?_, fun p hp => ?_⟩
  · obtain ⟨w', hw⟩ := dm p ((q2 p).mpr (.inl z))
    rw [st.nn (hfo p z).1 hw] at e; cases e
  · rw [(hfo p z).2] at e; cases e
  · rcases hf p hp with z | z
    · exact n3 p z hq
    · obtain ⟨w', hw⟩ := dm p ((q2 p).mpr (.inr hq))
      rw [z.1] at hw; cases hw
  · rcases (w2 p).mp hp with z | z
    · rcases hf p z with z | z
      · obtain ⟨w', hw⟩ := dm p ((q2 p).mpr (.inl z))
        exact ⟨st.nn (hfo p z).1 hw, (hfo p z).2⟩
      · exact ⟨z.2, g.g0.free z.1⟩
    · obtain ⟨w', hw⟩ := dm p ((q2 p).mpr (.inr z))
      exact ⟨st.nn (hfr p z).1 hw, (hfr p z).2⟩
def appM {α : Type} (as : List α) (a : α) : M (List α) := do gd (decide (as.length < sizeLine)); pure (as ++ [a])
section
variable {X : Cx} {Γ : Ctx} {S L ρ α β γ A B S' : Type} [Rp ρ] {o : Ow ρ} {Γo : S → Ctx} {ΓL : L → Ctx} {a b e : Expr} {es : List Expr} {pos p apos cpos : Pos} {ta tb te : TE} {t : TA} {sts : List Stmt} {tr tr' : TS}
/-- x.append(e) -/
theorem ss_app [Rp α] (i : Nat) {u : Ow α} {as : List α} {x : Str} {m : M α} {k : List α → M (Ctl S L ρ)} (he : EX X Γ e u m te) (hr : ∀ l, SS X (put Γ i (.mk (Ow.l u) l)) sts Γo ΓL o (k l) tr) (hl : look Γ i = .mk (Ow.l u) as := by rfl) (hN : X.N[i]? = some x := by rfl) (hv : Vis X.env.scope x := by first | exact Or.inl rfl | exact Or.inr (Or.inl rfl) | exact Or.inr (Or.inr rfl)) (hd : (x == ("__debug__" : Str)) = false := by decide)
    (hcd : (x == ("__classdict__" : Str)) = false := by decide)
    (hpe : ∀ {to : TE} {tt : TA}, PE X (.Name x p) to → PA X [e] tt → PE X (.Call (.Attribute (.Name x p) "append" apos) [e] [] cpos) (tBM X.K "list" rAppend to tt) := by exact fun h h' => pe_bm PySem.F.plainAttrs_list PySem.F.slot_list_append PySem.F.type_list_append mt_append h h')
    (h1 : starEach [e] X.env = (false, eval e X.env) :: starEach [] X.env := by rfl)
    (hs : swapsWith (.Call (.Attribute (.Name x p) "append" apos) [e] [] cpos) none pos.line X.env = pure false := by rfl) :
    SS X Γ (.Expr (.Call (.Attribute (.Name x p) "append" apos) [e] [] cpos) pos :: sts) Γo ΓL o (do let a ← m; let l ← appM as a; k l) (tSeq (tDrop (tBM X.K "list" rAppend (tVar i) (tCons te tNil))) tr) :=
  ⟨pss_cons (ps_expr (hpe (pe_var hN hv hd hcd) (pa_cons he.pe pa_nil h1)) hs) (hr []).pss, fun HF0 G HF H σ g c hc D kk => by
    obtain ⟨y, e1, hc⟩ := bind_ok hc
    obtain ⟨l, e2, hc⟩ := bind_ok hc
    obtain ⟨w, e3, e2⟩ := bind_ok e2
    have e4 := pure_ok e2
    subst e4
    obtain ⟨v, fo, hσ, ⟨q, vs, fq, h1, h2, h3, h4⟩, nd, hfo, back⟩ := g.take hl
    subst h1 h2
    refine ⟨.ref q, hσ, .inl ⟨rfl, vs, SqL.of h3⟩, ?_⟩
    refine he.sem HF0 G HF H σ g y e1 _ fun v' HF1 H1 fp st r n f => ?_
    refine ⟨q, vs, v', rfl, rfl, st.exH _ _ h3, by rw [h4.len]; exact of_decide_eq_true (gd_ok e3), ?_⟩
    have hqn : q ∉ fq := (List.nodup_cons.mp nd).1
    have hqp : q ∉ fp := fun z => by
      have := (f q z).1
      rw [h3] at this; cases this
    have gg := back (u' := Ow.l u) (b := as ++ [y]) (v' := .ref q) (f' := q :: (fq ++ fp)) (H' := upd H1 q (.lst (vs ++ [v']))) st (fun p w hp e => by rw [upd_ne (fun z => hp (by rw [z]; exact List.mem_cons_self ..))]; exact e)
      ⟨q, vs ++ [v'], fq ++ fp, rfl, rfl, upd_same, Rl.append ((Rl.step h4 st).upd hqn) (Rl.one (u.mono (Same.refl _) (fun p hp w e => by rw [upd_ne (fun z => hqp (by rw [← z]; exact hp))]; exact e) r))⟩
      (List.nodup_cons.mpr ⟨fun z => (List.mem_append.mp z).elim hqn hqp, List.nodup_append.mpr ⟨(List.nodup_cons.mp nd).2, n, fun p hp p' hp' e => by
        subst e
        obtain ⟨w', hw⟩ := Rl.dom (fun v a f r => u.dom r) h4 p hp
        rw [(f p hp').1] at hw; cases hw⟩⟩)
      (fun p hp => by
        rcases List.mem_cons.mp hp with z | z
        · exact .inl (by rw [z]; exact List.mem_cons_self ..)
        · rcases List.mem_append.mp z with z | z
          · exact .inl (List.mem_cons_of_mem _ z)
          · exact .inr (f p z))
    rw [set_self hσ] at gg
    exact (hr (as ++ [y])).sem HF0 G HF1 _ σ gg c hc D (kk.mono st.exF)⟩
end

/-! ### isinstance by the kind -/
class Kd (α : Type) [Rp α] where
  nm : String
  ok : ∀ {K : PySem.W.Frag} {H : Hp} {v : V} {a : α}, Rp.sh K H v a → TyX K H v (.type nm)
instance : Kd Int := ⟨"int", fun h => by cases h; exact .base (.int _)⟩
instance : Kd Bool := ⟨"bool", fun h => by cases h; exact .base (.bl _)⟩
instance : Kd Str := ⟨"str", fun h => by cases h; exact .base (.str _)⟩
instance : Kd Unit := ⟨"NoneType", fun h => by cases h; exact .base .non⟩
instance kdL {α : Type} [Rp α] : Kd (List α) := ⟨"list", fun ⟨p, vs, e, h, _⟩ => by subst e; exact .base (.lst h)⟩
section
variable {X : Cx} {Γ : Ctx} {S L ρ α β γ A B S' : Type} {a b e : Expr} {es : List Expr} {pos p apos cpos p1 p2 : Pos} {ta tb te : TE} {t : TA}
theorem ex_isi {K : PySem.W.Frag} [Rp α] [Kd α] {m : M α} {T : Str} {n : String} {r : Bool} (hm : X.mg "isinstance" = none) (hmT : X.mg T = none) (hT : bootBuiltins T = some (.type n)) (h : EX X Γ e Ow.v m te) (hk : kitB (Kd.nm α) n = some r) (hg : Gl X "isinstance" := by rfl) (hgT : Gl X T := by rfl) (hn : T ≠ "__name__" := by decide) (hdb : (T == ("__debug__" : Str)) = false := by decide)
    (h1 : starEach [e, .Name T p1] X.env = (false, eval e X.env) :: starEach [.Name T p1] X.env := by rfl) (h2 : starEach [.Name T p1] X.env = (false, eval (.Name T p1) X.env) :: starEach [] X.env := by rfl) (hpl : (backTo pos (starEach [.Name T p1] X.env)).any (·.1) = false := by rfl) (hK : X.K = K := by rfl) :
    EX X Γ (.Call (.Name "isinstance" p) [e, .Name T p1] [] pos) Ow.v (do let _ ← m; pure r) (tCB (rIsi K) (tCons te (tCons (tC (.ty n)) tNil))) := by
  subst hK
  exact ⟨pe_callB call_isi hg hm (by decide +kernel) (pa_cons h.pe (pa_cons (pe_bltn (v := .ty n) hgT hmT hT rfl hn hdb) pa_nil h2) h1) (by decide) (by decide) h1 hpl, fun HF0 G HF H σ g c hc Q k => by
    obtain ⟨x, e1, hc⟩ := bind_ok hc
    cases pure_ok hc
    refine h.sem HF0 G HF H σ g x e1 _ fun v HF1 H1 fp s1 r1 _ _ => ?_
    exact ⟨v, .ty n, .type (Kd.nm α), .type n, r, rfl, .ty n, Kd.ok (Rp.mono s1.sub r1.1), kit_ty hk, (k.back s1).flat s1.sub⟩⟩
theorem ex_max2 {m n : M Int} (hc : X.calm = true) (hm : X.mg "max" = none) (h : EX X Γ a Ow.v m ta) (h' : EX X Γ b Ow.v n tb) (hg : Gl X "max" := by rfl)
    (h1 : starEach [a, b] X.env = (false, eval a X.env) :: starEach [b] X.env := by rfl) (h2 : starEach [b] X.env = (false, eval b X.env) :: starEach [] X.env := by rfl) (hpl : (backTo pos (starEach [b] X.env)).any (·.1) = false := by rfl) :
    EX X Γ (.Call (.Name "max" p) [a, b] [] pos) Ow.v (do let a ← m; let b ← n; pure (if b > a then b else a)) (tCB (fun xs H Q => ∃ i j, xs = [.int i, .int j] ∧ Q (.int (if j > i then j else i)) H) (tCons ta (tCons tb tNil))) :=
  ex_b2 (call_max2 hc) (show SemC2 X.K _ Ow.v (fun (a b : Int) => pure (if b > a then b else a)) from fun HF H v w a b c s ra rb hc Q k => by
    cases pure_ok hc
    cases ra
    cases rb
    exact ⟨a, b, rfl, k.flat s⟩) boot_max hm h h' hg (h1 := h1) (h2 := h2) (hpl := hpl)
theorem ex_min2 {m n : M Int} (hc : X.calm = true) (hm : X.mg "min" = none) (h : EX X Γ a Ow.v m ta) (h' : EX X Γ b Ow.v n tb) (hg : Gl X "min" := by rfl)
    (h1 : starEach [a, b] X.env = (false, eval a X.env) :: starEach [b] X.env := by rfl) (h2 : starEach [b] X.env = (false, eval b X.env) :: starEach [] X.env := by rfl) (hpl : (backTo pos (starEach [b] X.env)).any (·.1) = false := by rfl) :
    EX X Γ (.Call (.Name "min" p) [a, b] [] pos) Ow.v (do let a ← m; let b ← n; pure (if b < a then b else a)) (tCB (fun xs H Q => ∃ i j, xs = [.int i, .int j] ∧ Q (.int (if j < i then j else i)) H) (tCons ta (tCons tb tNil))) :=
  ex_b2 (call_min2 hc) (show SemC2 X.K _ Ow.v (fun (a b : Int) => pure (if b < a then b else a)) from fun HF H v w a b c s ra rb hc Q k => by
    cases pure_ok hc
    cases ra
    cases rb
    exact ⟨a, b, rfl, k.flat s⟩) boot_min hm h h' hg (h1 := h1) (h2 := h2) (hpl := hpl)
end
end Ty

namespace Ty
open PySem PySem.Spec PyProof.Rows L2
section
variable {P : Program} {w : World} {K : PySem.W.Frag} {mg : Str → Option Value} {base : Heap}
theorem fn_okD {A ρ : Type} [Rp ρ] {x qual : Str} {params : Arguments} {bd : List Stmt} {scope : Scope} {dvs : List V} {kws : List (Str × V)} {f : Addr} {fd : FuncData} {N ps : List Str} {k : Nat} {r : As A} {o : Ow ρ} {m : A → M (Ctl Unit Empty ρ)} (F : FunD K x qual params bd scope dvs kws f fd) (S : FnScope N ps scope) (hn : r.n = ps.length) (hN : N.length = r.n + (N.length - r.n))
    (body : ∀ (cdv : Value) (A' : Around) (outer : List Env) (s : Shared) (H : Hp) (E : XK), Room k (A'.deeper (envOfC qual scope s.heap.objs.size f cdv)) → ∀ a : A, ∃ t : TS,
      SS (cxOf CX0 P w K mg base N qual scope f cdv A' outer s H E).nox (r.ctx a ++ List.replicate (N.length - r.n) .un) bd (fun (_ : Unit) => []) (fun (_ : Empty) => []) o (m a) t)
    (ho : ∀ r R v H, R v H → o.out r R v H := by exact fun _ _ _ _ h => h) :
    FnOk P w K mg base CX0 (k + 1) f fd ps (spF K r o fun a => runC (m a)) := by
  refine F.ok S (fun vs H Q E h => ?_) (fun cdv A' outer s H vs Q E hr h => ?_)
  · obtain ⟨HF, a, c, h1, h2, h3, h4⟩ := h
    rw [r.len h2, hn]
  · obtain ⟨HF, a, c, h1, h2, h3, h4⟩ := h
    obtain ⟨t, q⟩ := body cdv A' outer s H E hr a
    refine ⟨t, q.pss.nox, ?_⟩
    obtain ⟨c', e1, h3⟩ := bind_ok h3
    have hl := r.len h2
    have hd := r.held (HF := HF) (H := H) (N.length - r.n) h2
    have es : L2.start N vs = vs.map some ++ List.replicate (N.length - r.n) none := by unfold L2.start; rw [hl]
    refine q.sem HF H HF H (L2.start N vs) ⟨h1, Same.refl _, Same.refl _, (fun p u a b => by rw [a] at b; cases b), [], by rw [es]; exact hd, List.nodup_nil, fun p hp => by cases hp⟩ c' e1 _ ?_
    cases c' with
    | nx s => cases h3
    | bk l => exact nomatch l
    | ct l => exact nomatch l
    | rt r' =>
      cases pure_ok (show (pure r' : M ρ) = .ok c from h3)
      exact fun v HF' H' fp a b c' d rr n ff => ho _ _ _ _ <| h4 v HF' H' fp ⟨b, c', a, d⟩ rr n fun p hp => ⟨(ff p hp).2, (ff p hp).1⟩
/-- a def of the text that keeps its promise -/
def Has (P : Program) (w : World) (K : PySem.W.Frag) (mg : Str → Option Value) (base : Heap) (x : Str) (k : Nat) (ps : List Str) (sp : Sp) : Prop :=
  ∃ f fd, FnOk P w K mg base CX0 k f fd ps sp ∧ mg x = some (.ref f) ∧ PySem.W.keepIn K (.ref f) = true ∧ Binds K fd ps []
end
/-! ### comparisons, as a value or a test -/
structure EC (X : Cx) (Γ : Ctx) (op : CmpOp) (a b : Expr) (m : M Bool) (r : R2) (ta tb : TE) : Prop where
  ho : OpR X (compareOp op) r
  pa : PE X a ta
  pb : PE X b tb
  hm : behindInMarks op b = false
  sem : SemE X.K Γ (tOp r ta tb) Ow.v m
section
variable {X : Cx} {Γ : Ctx} {α β : Type} {a b c e : Expr} {es : List Expr} {pos p : Pos} {ta tb tc te : TE} {op : CmpOp} {r : R2} {m : M Bool} {t : TE}
theorem ex_c (h : EC X Γ op a b m r ta tb) : EX X Γ (.Compare a [op] [b] pos) Ow.v m (tOp r ta tb) := ⟨pe_cmpR h.ho h.pa h.pb h.hm, h.sem⟩
theorem et_c (h : EC X Γ op a b m r ta tb) : ET X Γ (.Compare a [op] [b] pos) m (tTest (tOp r ta tb)) :=
  ⟨pt_cmpR h.ho h.pa h.pb h.hm, fun HF0 G HF H σ g c hc Q k => h.sem HF0 G HF H σ g c hc _ fun v HF' H' fp s r _ _ => ⟨c, r.1, k HF' H' s⟩⟩
theorem ec_of [Rp α] [Rp β] {f : α → β → M Bool} {ma : M α} {mb : M β} (ho : OpR X (compareOp op) r) (hr : SemR2 X.K r Ow.v f) (ha : EX X Γ a Ow.v ma ta) (hb : EX X Γ b Ow.v mb tb) (hm : behindInMarks op b = false) : EC X Γ op a b (do let a ← ma; let b ← mb; f a b) r ta tb :=
  ⟨ho, ha.pe, hb.pe, hm, sem_op hr ha.sem hb.sem⟩
theorem ec_lt {ma mb : M Int} (ha : EX X Γ a Ow.v ma ta) (hb : EX X Γ b Ow.v mb tb) : EC X Γ .Lt a b (do let a ← ma; let b ← mb; pure (decide (a < b))) (rI0 fun i j => .bl (decide (i < j))) ta tb := ec_of op_lt (sr_I0 fun _ _ => rfl) ha hb (nomark _)
theorem ec_gt {ma mb : M Int} (ha : EX X Γ a Ow.v ma ta) (hb : EX X Γ b Ow.v mb tb) : EC X Γ .Gt a b (do let a ← ma; let b ← mb; pure (decide (b < a))) (rI0 fun i j => .bl (decide (j < i))) ta tb := ec_of op_gt (sr_I0 fun _ _ => rfl) ha hb (nomark _)
theorem ec_eq [Fl α] [DecidableEq α] [Sc α] {ma mb : M α} (ha : EX X Γ a Ow.v ma ta) (hb : EX X Γ b Ow.v mb tb) : EC X Γ .Eq a b (do let a ← ma; let b ← mb; pure (decide (a = b))) rEq ta tb := ec_of op_eq sr_eq ha hb (nomark _)
theorem ec_ne [Fl α] [DecidableEq α] [Sc α] {ma mb : M α} (ha : EX X Γ a Ow.v ma ta) (hb : EX X Γ b Ow.v mb tb) : EC X Γ .NotEq a b (do let a ← ma; let b ← mb; pure (!decide (a = b))) rNe ta tb := ec_of op_ne sr_ne ha hb (nomark _)
theorem ec_eqD {K : PySem.W.Frag} [Rp α] [DecidableEq α] [Eqv α] {ma mb : M α} (hu : X.A.units + 64 < cLine) (ha : EX X Γ a Ow.v ma ta) (hb : EX X Γ b Ow.v mb tb) (hd : Eqv.dep α ≤ 64 := by decide) (hK : X.K = K := by rfl) : EC X Γ .Eq a b (do let a ← ma; let b ← mb; eqM a b) (rEqD K) ta tb := by
  subst hK
  exact ec_of (op_eqD hu) (sr_eqD hd) ha hb (nomark _)
def rIsNo : R2 := fun x y H Q => y = .non ∧ Q (.bl (decide (x = .non))) H
class OpN (α : Type) [Fl (Option α)] : Prop where
  no : Fl.enc (none : Option α) = V.non
  so : ∀ a : α, Fl.enc (some a) ≠ V.non
instance : OpN Int := ⟨rfl, fun _ h => nomatch h⟩
instance : OpN Str := ⟨rfl, fun _ h => nomatch h⟩
/-- in, not in -/
class Mem (α : Type) [Fl α] [DecidableEq α] : Prop where
  fl : ∀ a : α, flatV (Fl.enc a) = true
  ev : ∀ a b : α, eqV (Fl.enc a) (Fl.enc b) = decide (a = b)
instance : Mem Int := ⟨fun _ => rfl, fun a b => by
  show (a == b) = decide (a = b)
  by_cases h : a = b <;> simp [h]⟩
instance : Mem Str := ⟨fun _ => rfl, fun a b => by
  show (a == b) = decide (a = b)
  by_cases h : a = b <;> simp [h]⟩
/-! ### sum, any, all, int -/
theorem Has.at {P : Program} {w : World} {K : PySem.W.Frag} {mg : Str → Option Value} {base : Heap} {x : Str} {k : Nat} {ps : List Str} {sp : Sp} {f : Addr} (h : Has P w K mg base x k ps sp) (hm : mg x = some (.ref f)) : ∃ fd, FnOk P w K mg base CX0 k f fd ps sp := by
  obtain ⟨f', fd, F, m, _, _⟩ := h
  rw [hm] at m
  cases m
  exact ⟨fd, F⟩
end
/-! ### stores -/
def setM {α : Type} (as : List α) (k : Int) (a : α) : M (List α) := do let j ← ofO (ixN as.length k); pure (as.set j a)
theorem Rl.get {α : Type} {R : V → α → List Addr → Prop} : ∀ {vs : List V} {as : List α} {fp : List Addr} {j : Nat} {a : α}, Rl R vs as fp → as[j]? = some a → ∃ v f, vs[j]? = some v ∧ R v a f ∧ (∀ p ∈ f, p ∈ fp) ∧
    ∀ {v' : V} {a' : α} {f' : List Addr}, R v' a' f' → (∀ p ∈ f', p ∈ f ∨ p ∉ fp) → f'.Nodup → fp.Nodup → ∃ fp', Rl R (vs.set j v') (as.set j a') fp' ∧ fp'.Nodup ∧ (∀ p ∈ fp', p ∈ fp ∨ p ∈ f') ∧ ∀ p ∈ fp, p ∈ fp' ∨ p ∈ f
  | [], [], _, j, a, _, e => by simp at e
  | v :: vs, b :: as, fp, 0, a, ⟨f1, f2, e1, h1, h2⟩, e => by
    have e' : b = a := Option.some.inj e
    subst e'
    refine ⟨v, f1, rfl, h1, fun p hp => by rw [e1]; exact List.mem_append_left _ hp, fun {v' a' f'} r hf nd nf => ?_⟩
    rw [e1] at nf
    obtain ⟨n1, n2, n3⟩ := List.nodup_append.mp nf
    refine ⟨f' ++ f2, ⟨f', f2, rfl, r, h2⟩, List.nodup_append.mpr ⟨nd, n2, fun p hp q hq e => ?_⟩, fun p hp => ?_, fun p hp => ?_⟩
    · subst e
      rcases hf p hp with z | z
      · exact n3 p z p hq rfl
      · exact z (by rw [e1]; exact List.mem_append_right _ hq)
    · rcases List.mem_append.mp hp with z | z
      · exact .inr z
      · exact .inl (by rw [e1]; exact List.mem_append_right _ z)
    · rw [e1] at hp
      rcases List.mem_append.mp hp with z | z
      · exact .inr z
      · exact .inl (List.mem_append_right _ z)
  | v :: vs, b :: as, fp, j + 1, a, ⟨f1, f2, e1, h1, h2⟩, e => by
    obtain ⟨w, f, q1, q2, q3, q4⟩ := Rl.get (j := j) h2 e
    refine ⟨w, f, q1, q2, fun p hp => by rw [e1]; exact List.mem_append_right _ (q3 p hp), fun {v' a' f'} r hf nd nf => ?_⟩
    have nf' := nf
    rw [e1] at nf'
    obtain ⟨n1, n2, n3⟩ := List.nodup_append.mp nf'
    obtain ⟨fp', w1, w2, w3, w4⟩ := q4 r (fun p hp => (hf p hp).imp id fun z y => z (by rw [e1]; exact List.mem_append_right _ y)) nd n2
    refine ⟨f1 ++ fp', ⟨f1, fp', rfl, h1, w1⟩, List.nodup_append.mpr ⟨n1, w2, fun p hp q hq e => ?_⟩, fun p hp => ?_, fun p hp => ?_⟩
    · subst e
      rcases w3 p hq with z | z
      · exact n3 p hp p z rfl
      · rcases hf p z with y | y
        · exact n3 p hp p (q3 p y) rfl
        · exact y (by rw [e1]; exact List.mem_append_left _ hp)
    · rcases List.mem_append.mp hp with z | z
      · exact .inl (by rw [e1]; exact List.mem_append_left _ z)
      · exact (w3 p z).imp (fun y => by rw [e1]; exact List.mem_append_right _ y) id
    · rw [e1] at hp
      rcases List.mem_append.mp hp with z | z
      · exact .inl (List.mem_append_left _ z)
      · exact (w4 p z).imp (fun y => List.mem_append_right _ y) id
  | [], _ :: _, _, _, _, x, _ => x.elim
  | _ :: _, [], _, _, _, x, _ => x.elim
end Ty

namespace Ty
open PySem
/-! ### plain lemmas about the mirror's words -/
/-- a proof that the simplifier does not take for a definition's own -/
theorem nd {p : Prop} (h : p) : p := h
@[simp] theorem okB {α β : Type} (a : α) (k : α → M β) : ((Except.ok a : M α) >>= k) = k a := nd rfl
@[simp] theorem pureB {α β : Type} (a : α) (k : α → M β) : ((pure a : M α) >>= k) = k a := nd rfl
theorem bindA {α β γ : Type} (m : M α) (f : α → M β) (g : β → M γ) : ((m >>= f) >>= g) = m >>= fun a => f a >>= g := by cases m <;> rfl
theorem pureE {α : Type} (a : α) : (pure a : M α) = .ok a := rfl
@[simp] theorem gdT : gd true = .ok () := nd rfl
@[simp] theorem ofOs {α : Type} (a : α) : ofO (some a) = .ok a := nd rfl
@[simp] theorem runRt {ρ : Type} (r : ρ) : runC (.ok (.rt r) : M (Ctl Unit Empty ρ)) = .ok r := nd rfl
@[simp] theorem runRt' {ρ : Type} (r : ρ) : runC (pure (.rt r) : M (Ctl Unit Empty ρ)) = .ok r := nd rfl
@[simp] theorem thenLi {S' S L ρ : Type} (s : S') (k : S' → M (Ctl S L ρ)) : thenL (.inl s : S' ⊕ ρ) k = k s := nd rfl
@[simp] theorem thenLr {S' S L ρ : Type} (r : ρ) (k : S' → M (Ctl S L ρ)) : thenL (.inr r : S' ⊕ ρ) k = .ok (.rt r) := nd rfl
@[simp] theorem thenCn {S' S L ρ : Type} (s : S') (k : S' → M (Ctl S L ρ)) : thenC (.nx s : Ctl S' L ρ) k = k s := nd rfl
@[simp] theorem thenCr {S' S L ρ : Type} (r : ρ) (k : S' → M (Ctl S L ρ)) : thenC (.rt r : Ctl S' L ρ) k = .ok (.rt r) := nd rfl
@[simp] theorem thenCb {S' S L ρ : Type} (r : L) (k : S' → M (Ctl S L ρ)) : thenC (.bk r : Ctl S' L ρ) k = .ok (.bk r) := nd rfl
@[simp] theorem thenCc {S' S L ρ : Type} (r : L) (k : S' → M (Ctl S L ρ)) : thenC (.ct r : Ctl S' L ρ) k = .ok (.ct r) := nd rfl
/-- a loop that goes through, by an invariant -/
theorem loop_inv {α S ρ : Type} {f : α → S → M (Ctl S S ρ)} (g : S → α → S) (Inv : S → Prop) : ∀ {xs : List α} {s : S}, Inv s → (∀ x ∈ xs, ∀ s, Inv s → f x s = .ok (.nx (g s x)) ∧ Inv (g s x)) → loopM f xs s = .ok (.inl (xs.foldl g s)) ∧ Inv (xs.foldl g s)
  | [], s, h0, _ => ⟨rfl, h0⟩
  | x :: xs, s, h0, h => by
    obtain ⟨e, i⟩ := h x (List.mem_cons_self ..) s h0
    obtain ⟨e2, i2⟩ := loop_inv g Inv (xs := xs) i fun y hy => h y (List.mem_cons_of_mem _ hy)
    refine ⟨?_, i2⟩
    show (f x s >>= _) = _
    rw [e]
    exact e2
theorem loop_all {α S ρ : Type} {f : α → S → M (Ctl S S ρ)} (g : S → α → S) {xs : List α} {s : S} (h : ∀ x ∈ xs, ∀ s, f x s = .ok (.nx (g s x))) : loopM f xs s = .ok (.inl (xs.foldl g s)) :=
  (loop_inv g (fun _ => True) True.intro fun x hx s _ => ⟨h x hx s, True.intro⟩).1
/-- a loop, by what holds behind each turn -/
theorem loop_ind {α S ρ : Type} {f : α → S → M (Ctl S S ρ)} (P : List α → S → Prop) {xs : List α} {s : S} (h0 : P [] s) (h : ∀ pre x post s, xs = pre ++ x :: post → P pre s → ∃ s', f x s = .ok (.nx s') ∧ P (pre ++ [x]) s') : ∃ s', loopM f xs s = .ok (.inl s') ∧ P xs s' := by
  have q : ∀ (post pre : List α) (s : S), xs = pre ++ post → P pre s → ∃ s', loopM f post s = .ok (.inl s') ∧ P xs s' := by
    intro post
    induction post with
    | nil =>
      intro pre s e p
      rw [List.append_nil] at e
      subst e
      exact ⟨s, rfl, p⟩
    | cons x post ih =>
      intro pre s e p
      obtain ⟨s1, e1, p1⟩ := h pre x post s e p
      obtain ⟨s2, e2, p2⟩ := ih (pre ++ [x]) s1 (by rw [e]; simp) p1
      refine ⟨s2, ?_, p2⟩
      show (f x s >>= _) = _
      rw [e1]
      exact e2
  exact q xs [] s rfl h0
/-- comprehensions -/
theorem comp_map {α β : Type} {f : α → M β} (g : α → β) : ∀ {xs : List α}, (∀ x ∈ xs, f x = .ok (g x)) → compL (fun _ => pure true) f xs = .ok (xs.map g)
  | [], _ => rfl
  | x :: xs, h => by
    have ih := comp_map g (xs := xs) fun y hy => h y (List.mem_cons_of_mem _ hy)
    show (f x >>= _) = _
    rw [h x (List.mem_cons_self ..)]
    show (compL (fun _ => pure true) f xs >>= _) = _
    rw [ih]
    rfl
theorem compM_map {α β : Type} {f : α → M β} (g : α → β) {xs : List α} (hl : xs.length ≤ 16777216) (h : ∀ x ∈ xs, f x = .ok (g x)) : compM xs (fun _ => pure true) f = .ok (xs.map g) := by
  unfold compM
  rw [sizeLine_eq, decide_eq_true hl]
  exact comp_map g h
/-- bounds -/
theorem atI_ok {α : Type} {xs : List α} {i : Int} (h0 : 0 ≤ i) (h1 : i < xs.length) : L2.atI xs i = xs[i.toNat]? := by
  unfold L2.atI L2.ixN
  rw [if_pos h0, if_pos h1]
  rfl
theorem atM_ok {α : Type} [Inhabited α] {xs : List α} {i : Int} (h0 : 0 ≤ i) (h1 : i < xs.length) : atM xs i = .ok (xs.getD i.toNat default) := by
  unfold atM
  rw [atI_ok h0 h1, List.getElem?_eq_getElem (by omega), List.getD_eq_getElem?_getD, List.getElem?_eq_getElem (by omega)]
  rfl
theorem mulM_ok {a b : Int} (h : mulB a b = true) : mulM a b = .ok (a * b) := by
  unfold mulM
  rw [h]
  rfl
theorem mulB_r {a b : Int} (h1 : -18446744073709551616 < b) (h2 : b < 18446744073709551616) : mulB a b = true := by simp [mulB, h1, h2]
theorem mulB_l {a b : Int} (h1 : -18446744073709551616 < a) (h2 : a < 18446744073709551616) : mulB a b = true := by simp [mulB, h1, h2]
theorem modM_ok {a b : Int} (h : 0 < b) : modM a b = .ok (a % b) := by simp [modM, posB, h]; rfl
theorem powM_ok {a b : Int} (h : powB a b = true) : powM a b = .ok (a ^ b.toNat) := by simp [powM, h]; rfl
theorem range1_ok {n : Int} (h0 : 0 ≤ n) (h1 : n < 4611686018427387904) : range1 n = .ok (rangeL 0 n) := by
  have e : rgB n = true := by
    unfold rgB
    rw [Bool.and_eq_true, decide_eq_true_eq, decide_eq_true_eq]
    omega
  unfold range1
  rw [e]; rfl
theorem mem_range1 {n x : Int} (h : x ∈ rangeL 0 n) : 0 ≤ x ∧ x < n := by
  unfold rangeL at h
  simp only [List.mem_map, List.mem_range] at h
  obtain ⟨k, hk, e⟩ := h
  omega
theorem lstM_ok {α : Type} {as : List α} (h : as.length ≤ 1000) : lstM as = .ok as := by
  unfold lstM szB
  rw [sizeLine_eq, decide_eq_true (by omega)]
  rfl
theorem appM_ok {α : Type} {as : List α} {a : α} (h : as.length ≤ 1000000) : appM as a = .ok (as ++ [a]) := by
  unfold appM
  rw [sizeLine_eq, decide_eq_true (by omega)]
  rfl
theorem catM_ok {α : Type} {as bs : List α} (h : as.length + bs.length ≤ 1000000) : catM as bs = .ok (as ++ bs) := by
  unfold catM szB
  rw [sizeLine_eq, decide_eq_true (by omega)]
  rfl

/-! ### what a mirror yields -/
def Ev {α : Type} (m : M α) (Q : α → Prop) : Prop := ∃ a, m = .ok a ∧ Q a
theorem Ev.ok {α : Type} {a : α} {Q : α → Prop} (h : Q a) : Ev (.ok a) Q := ⟨a, rfl, h⟩
theorem Ev.pure {α : Type} {a : α} {Q : α → Prop} (h : Q a) : Ev (Pure.pure a) Q := ⟨a, rfl, h⟩
theorem Ev.of {α : Type} {m : M α} {a : α} {Q : α → Prop} (e : m = .ok a) (h : Q a) : Ev m Q := ⟨a, e, h⟩
theorem Ev.eq {α : Type} {m : M α} {a : α} (h : Ev m (· = a)) : m = .ok a := by
  obtain ⟨b, e, h⟩ := h
  rw [e, h]
theorem Ev.mono {α : Type} {m : M α} {P Q : α → Prop} (h : Ev m P) (k : ∀ a, P a → Q a) : Ev m Q := by
  obtain ⟨a, e, h⟩ := h
  exact ⟨a, e, k a h⟩
theorem Ev.bind {α β : Type} {m : M α} {k : α → M β} {P : α → Prop} {Q : β → Prop} (h : Ev m P) (hk : ∀ a, P a → Ev (k a) Q) : Ev (m >>= k) Q := by
  obtain ⟨a, e, h⟩ := h
  rw [e]
  exact hk a h
theorem Ev.run {ρ : Type} {m : M (Ctl Unit Empty ρ)} {Q : ρ → Prop} (h : Ev m fun c => ∃ r, c = .rt r ∧ Q r) : Ev (runC m) Q := by
  obtain ⟨c, e, r, e2, h⟩ := h
  subst e e2
  exact ⟨r, rfl, h⟩
theorem Ev.loop {α S ρ : Type} {f : α → S → M (Ctl S S ρ)} {xs : List α} {s : S} (P : List α → S → Prop) (h0 : P [] s) (h : ∀ pre x post s, xs = pre ++ x :: post → P pre s → Ev (f x s) fun c => ∃ s', c = .nx s' ∧ P (pre ++ [x]) s') : Ev (loopM f xs s) fun c => ∃ s', c = .inl s' ∧ P xs s' := by
  obtain ⟨s', e, p⟩ := loop_ind P h0 fun pre x post s e p => by
    obtain ⟨c, e1, s', e2, q⟩ := h pre x post s e p
    subst e2
    exact ⟨s', e1, q⟩
  exact ⟨_, e, s', rfl, p⟩
/-- a loop, then the rest -/
theorem Ev.loopL {α S S' L ρ : Type} {f : α → S → M (Ctl S S ρ)} {xs : List α} {s : S} {k : S → M (Ctl S' L ρ)} {Q : Ctl S' L ρ → Prop} (P : List α → S → Prop) (h0 : P [] s) (h : ∀ pre x post s, xs = pre ++ x :: post → P pre s → Ev (f x s) fun c => ∃ s', c = .nx s' ∧ P (pre ++ [x]) s') (hk : ∀ s', P xs s' → Ev (k s') Q) : Ev (loopM f xs s >>= fun c => thenL c k) Q :=
  Ev.bind (Ev.loop P h0 h) fun c ⟨s', e, p⟩ => by subst e; exact hk s' p
theorem Ev.ite {α : Type} {c : Prop} [Decidable c] {a b : M α} {Q : α → Prop} (h1 : c → Ev a Q) (h2 : ¬ c → Ev b Q) : Ev (if c then a else b) Q := by
  by_cases h : c
  · rw [if_pos h]; exact h1 h
  · rw [if_neg h]; exact h2 h
theorem Ev.bif {α : Type} {c : Bool} {a b : M α} {Q : α → Prop} (h1 : c = true → Ev a Q) (h2 : c = false → Ev b Q) : Ev (if c then a else b) Q := Ev.ite h1 fun h => h2 (by simpa using h)
theorem pre_lt {α : Type} {xs pre post : List α} {x : α} (e : xs = pre ++ x :: post) : pre.length < xs.length := by
  have := congrArg List.length e
  simp at this; omega
theorem pre_mem {α : Type} {xs pre post : List α} {x : α} (e : xs = pre ++ x :: post) : x ∈ xs := by rw [e]; simp
/-- data without texts can always be compared -/
class EqvT (α : Type) [Rp α] [DecidableEq α] [Eqv α] : Prop where
  all : ∀ a : α, Eqv.ok a = true
instance : EqvT Int := ⟨fun _ => rfl⟩
instance : EqvT Bool := ⟨fun _ => rfl⟩
instance {α : Type} [Rp α] [DecidableEq α] [Eqv α] [EqvT α] : EqvT (List α) := ⟨fun as => List.all_eq_true.mpr fun a _ => EqvT.all a⟩
instance {α : Type} [Rp α] [DecidableEq α] [Eqv α] [EqvT α] : EqvT (Tu α) := ⟨fun as => List.all_eq_true.mpr fun a _ => EqvT.all a⟩
instance {α β : Type} [Rp α] [Rp β] [DecidableEq α] [DecidableEq β] [Eqv α] [Eqv β] [EqvT α] [EqvT β] : EqvT (α × β) := ⟨fun a => by
  show (Eqv.ok a.1 && Eqv.ok a.2) = true
  rw [EqvT.all, EqvT.all]; rfl⟩
theorem eqM_ok {α : Type} [Rp α] [DecidableEq α] [Eqv α] [EqvT α] (a b : α) : eqM a b = .ok (decide (a = b)) := by
  unfold eqM
  rw [EqvT.all, EqvT.all]; rfl
end Ty

namespace Ty
open PySem PySem.Spec PyProof.Rows L2
section
variable {X : Cx} {Γ : Ctx} {S L ρ α β γ A B S' : Type} [Rp ρ] {o : Ow ρ} {Γo : S → Ctx} {ΓL : L → Ctx} {a b e : Expr} {es : List Expr} {pos p p1 p2 apos cpos : Pos} {ta tb tc te : TE} {t : TA} {sts : List Stmt} {tr tr' : TS}
/-- x[i] = e -/
theorem ss_set [Rp α] (i : Nat) {u : Ow α} {as : List α} {x : Str} {m : M α} {mi : M Int} {k : List α → M (Ctl S L ρ)} (he : EX X Γ e u m te) (hi : EX X Γ b Ow.v mi tb) (hr : ∀ l, SS X (put Γ i (.mk (Ow.l u) l)) sts Γo ΓL o (k l) tr) (hl : look Γ i = .mk (Ow.l u) as := by rfl) (hN : X.N[i]? = some x := by rfl) (hv : Vis X.env.scope x := by first | exact Or.inl rfl | exact Or.inr (Or.inl rfl) | exact Or.inr (Or.inr rfl)) (hd : (x == ("__debug__" : Str)) = false := by decide)
    (hcd : (x == ("__classdict__" : Str)) = false := by decide)
    (hps : PE X e te → PG X (.Subscript (.Name x p) b p1) (gSub (tVar i) tb rSetL) → PS X (.Assign [.Subscript (.Name x p) b p1] e pos) (tAsg te (gSub (tVar i) tb rSetL)) := by exact fun h h' => ps_asg h h')
    (hpg : PE X (.Name x p) (tVar i) → PE X b tb → PG X (.Subscript (.Name x p) b p1) (gSub (tVar i) tb rSetL) := by exact fun h h' => pg_sub h h' set_list) :
    SS X Γ (.Assign [.Subscript (.Name x p) b p1] e pos :: sts) Γo ΓL o (do let a ← m; let b ← mi; let l ← setM as b a; k l) (tSeq (tAsg te (gSub (tVar i) tb rSetL)) tr) :=
  ⟨pss_cons (hps he.pe (hpg (pe_var hN hv hd hcd) hi.pe)) (hr []).pss, fun HF0 G HF H σ g c hc D kk => by
    obtain ⟨y, e1, hc⟩ := bind_ok hc
    obtain ⟨ix, e2, hc⟩ := bind_ok hc
    obtain ⟨l, e3, hc⟩ := bind_ok hc
    obtain ⟨j, e4, e3⟩ := bind_ok e3
    have e5 := pure_ok e3
    subst e5
    have e6 := ofO_ok e4
    obtain ⟨v, fo, hσ, ⟨q, vs, fq, h1, h2, h3, h4⟩, nd, hfo, back⟩ := g.take hl
    subst h1 h2
    refine he.sem HF0 G HF H σ g y e1 _ fun v' HF1 H1 fp st r n f => ?_
    refine ⟨.ref q, hσ, ?_⟩
    refine hi.sem HF0 G HF1 H1 σ (g.step st) ix e2 _ fun w HF2 H2 fp2 st2 r2 _ _ => ?_
    have st12 := st.trans st2
    refine ⟨q, vs, ix, j, rfl, r2.1, st12.exH _ _ h3, by rw [h4.len]; exact e6, ?_⟩
    have hqn : q ∉ fq := (List.nodup_cons.mp nd).1
    have hqp : q ∉ fp := fun z => by
      have := (f q z).1
      rw [h3] at this; cases this
    have hj : j < as.length := (ixN_seq e6).2.1
    obtain ⟨v0, f0, _, _, s1, s2⟩ := Rl.get (j := j) (Rl.step h4 st12) (List.getElem?_eq_getElem hj)
    have r' : u.rep X.K HF2 H2 v' y fp := u.mono st2.exF (fun p _ o e => st2.exH p o e) r
    have dmq := Rl.dom (fun v a f r => u.dom r) h4
    obtain ⟨fp', w1, w2, w3, w4⟩ := s2 r' (fun p hp => .inr fun z => by
      obtain ⟨w', hw⟩ := dmq p z
      rw [(f p hp).1] at hw; cases hw) n (List.nodup_cons.mp nd).2
    have hq' : q ∉ fp' := fun z => (w3 q z).elim hqn hqp
    have gg := back (u' := Ow.l u) (b := as.set j y) (v' := .ref q) (f' := q :: fp') (H' := upd H2 q (.lst (vs.set j v'))) st12 (fun p w hp e => by rw [upd_ne (fun z => hp (by rw [z]; exact List.mem_cons_self ..))]; exact e)
      ⟨q, vs.set j v', fp', rfl, rfl, upd_same, w1.upd hq'⟩ (List.nodup_cons.mpr ⟨hq', w2⟩) (fun p hp => by
        rcases List.mem_cons.mp hp with z | z
        · exact .inl (by rw [z]; exact List.mem_cons_self ..)
        · rcases w3 p z with z | z
          · exact .inl (List.mem_cons_of_mem _ z)
          · exact .inr ⟨(f p z).1, by
              obtain ⟨w', hw⟩ := u.dom r p z
              exact st2.nn (f p z).2 hw⟩)
    rw [set_self hσ] at gg
    exact (hr (as.set j y)).sem HF0 G HF2 _ σ gg c hc D (kk.mono st12.exF)⟩
/-- a, b = e -/
theorem ss_asgT [Rp α] [Inhabited α] {tg : Expr} {g : TG} {Γt : α → Ctx} {js : List Nat} {m : M α} {k : α → M (Ctl S L ρ)} (he : EX X Γ e Ow.v m te) (hg : ∀ x, EG X Γ tg g x (Γt x) js) (hr : ∀ x, SS X (Γt x) sts Γo ΓL o (k x) tr) (hs : swapsWithSole [tg] e pos.line X.env = pure false := by rfl) (hw : swappedStores [tg] e X.env = pure none := by rfl)
    (h1 : (assignEach [tg] X.env).map (·.2) = [assign tg X.env] := by rfl) : SS X Γ (.Assign [tg] e pos :: sts) Γo ΓL o (do let a ← m; k a) (tSeq (tAsg te g) tr) :=
  ⟨pss_cons (ps_asg he.pe (hg default).pg hs hw h1) (hr default).pss, fun HF0 G HF H σ gd c hc D kk => by
    obtain ⟨y, e1, hc⟩ := bind_ok hc
    refine he.sem HF0 G HF H σ gd y e1 _ fun v HF1 H1 fp st r n f => ?_
    refine (hg y).sem HF0 G HF1 H1 σ v (gd.step st) r.1 _ fun σ' g' _ _ => ?_
    exact (hr y).sem HF0 G HF1 H1 σ' g' c hc D (kk.mono st.exF)⟩
/-- what is never come to -/
theorem ss_never : SS X Γ sts Γo ΓL o no tNever := ⟨pss_never, fun HF0 G HF H σ g c hc D kk => by cases hc⟩
end
end Ty

namespace Ty
open PySem
/-! ### rows, tables, ranges -/
def row {α : Type} (n : Nat) (g : Nat → α) : List α := (List.range n).map g
theorem row_len {α : Type} (n : Nat) (g : Nat → α) : (row n g).length = n := by simp [row]
theorem row_get {α : Type} {n : Nat} {g : Nat → α} {i : Nat} (h : i < n) : (row n g)[i]? = some (g i) := by
  simp [row, h]
theorem row_congr {α : Type} {n : Nat} {g g' : Nat → α} (h : ∀ i, i < n → g i = g' i) : row n g = row n g' := List.map_congr_left fun i hi => h i (List.mem_range.mp hi)
theorem row_ext {α : Type} {n : Nat} {g : Nat → α} {l : List α} (hl : l.length = n) (h : ∀ i, i < n → l[i]? = some (g i)) : l = row n g := by
  apply List.ext_getElem?
  intro i
  by_cases hi : i < n
  · rw [h i hi, row_get hi]
  · rw [List.getElem?_eq_none (by omega), List.getElem?_eq_none (by rw [row_len]; omega)]
theorem atM_row {α : Type} {n : Nat} {g : Nat → α} {i : Int} (h0 : 0 ≤ i) (h1 : i < n) : atM (row n g) i = .ok (g i.toNat) := by
  unfold atM
  rw [atI_ok h0 (by rw [row_len]; exact h1), row_get (by omega)]
  rfl
theorem atM_rowN {α : Type} {n : Nat} {g : Nat → α} {i : Nat} (h1 : i < n) : atM (row n g) (i : Int) = .ok (g i) := by
  rw [atM_row (by omega) (by omega)]; rfl
theorem row_set {α : Type} {n : Nat} {g : Nat → α} {i : Nat} {v : α} (h : i < n) : (row n g).set i v = row n (fun j => if j = i then v else g j) := by
  apply row_ext (by rw [List.length_set, row_len])
  intro j hj
  by_cases e : j = i
  · subst e
    rw [if_pos rfl, List.getElem?_set_self (by rw [row_len]; exact hj)]
  · rw [if_neg e, List.getElem?_set_ne (fun z => e z.symm), row_get hj]
theorem setM_row {α : Type} {n : Nat} {g : Nat → α} {i : Int} {v : α} (h0 : 0 ≤ i) (h1 : i < n) : setM (row n g) i v = .ok (row n fun j => if j = i.toNat then v else g j) := by
  unfold setM
  rw [show L2.ixN (row n g).length i = some i.toNat from by unfold L2.ixN; rw [if_pos h0, if_pos (by rw [row_len]; exact h1)]]
  show (Except.ok _ : M _) = _
  rw [row_set (by omega)]
def tab (n : Nat) (f : Nat → Nat → Int) : List (List Int) := row n fun i => row n (f i)
theorem range_row (m : Int) : rangeL 0 m = row m.toNat (fun k => (k : Int)) := by
  unfold rangeL row
  rw [Int.sub_zero]
  exact List.map_congr_left fun k _ => by omega
theorem comp_row {α : Type} {m : Int} {f : Int → M α} (g : Nat → α) (hm : m ≤ 1000000) (h : ∀ k : Nat, (k : Int) < m → f k = .ok (g k)) : compM (rangeL 0 m) (fun _ => pure true) f = .ok (row m.toNat g) := by
  rw [range_row, compM_map (fun x : Int => g x.toNat) (by rw [row_len]; omega)]
  · unfold row
    rw [List.map_map]
    rfl
  · intro x hx
    unfold row at hx
    simp only [List.mem_map, List.mem_range] at hx
    obtain ⟨k, hk, rfl⟩ := hx
    exact h k (by omega)
theorem comp_rows {α β : Type} {n : Nat} {r : Nat → α} {f : α → M β} (g : Nat → β) (hn : n ≤ 1000000) (h : ∀ k, k < n → f (r k) = .ok (g k)) : compM (row n r) (fun _ => pure true) f = .ok (row n g) := by
  unfold compM
  rw [sizeLine_eq, decide_eq_true (by rw [row_len]; omega)]
  show compL _ _ _ = _
  unfold row
  have q : ∀ l : List Nat, (∀ k ∈ l, f (r k) = .ok (g k)) → compL (fun _ => pure true) f (l.map r) = .ok (l.map g) := by
    intro l
    induction l with
    | nil => intro _; rfl
    | cons k l ih =>
      intro hl
      show (f (r k) >>= _) = _
      rw [hl k (List.mem_cons_self ..)]
      show (compL _ f (l.map r) >>= _) = _
      rw [ih fun z hz => hl z (List.mem_cons_of_mem _ hz)]
      rfl
  exact q _ fun k hk => h k (List.mem_range.mp hk)
/-- a loop over range(m), by the number of turns -/
theorem Ev.loopN {S S' L ρ : Type} {f : Int → S → M (Ctl S S ρ)} {m : Int} {s : S} {k : S → M (Ctl S' L ρ)} {Q : Ctl S' L ρ → Prop} (P : Nat → S → Prop) (h0 : P 0 s) (h : ∀ (i : Nat) s, (i : Int) < m → P i s → Ev (f (i : Int) s) fun c => ∃ s', c = .nx s' ∧ P (i + 1) s') (hk : ∀ s', P m.toNat s' → Ev (k s') Q) : Ev (loopM f (rangeL 0 m) s >>= fun c => thenL c k) Q := by
  rw [range_row]
  refine Ev.loopL (fun pre s => P pre.length s) h0 ?_ fun s' p => hk s' (by rw [row_len] at p; exact p)
  intro pre x post s e p
  have hl := pre_lt e
  rw [row_len] at hl
  have hx : x = (pre.length : Int) := by
    have := congrArg (·[pre.length]?) e
    simp only [row_get hl] at this
    rw [List.getElem?_append_right (Nat.le_refl _), Nat.sub_self] at this
    exact (Option.some.inj this).symm
  subst hx
  refine (h pre.length s (by omega) p).mono ?_
  rintro c ⟨s', e, p'⟩
  exact ⟨s', e, by rw [List.length_append]; exact p'⟩
theorem ixN_ok {n : Nat} {k : Int} (h0 : 0 ≤ k) (h1 : k < n) : L2.ixN n k = some k.toNat := by unfold L2.ixN; rw [if_pos h0, if_pos h1]
end Ty

namespace Ty
open PySem PySem.Spec PyProof.Rows L2
/-! ### dicts with keys that are ints or texts -/
class Ky (κ : Type) extends Fl κ where
  key : κ → Key
  kv : ∀ k, kV (key k) = Fl.enc k
  inj : ∀ a b, key a = key b → a = b
instance : Ky Int := { toFl := inferInstanceAs (Fl Int), key := Sum.inl, kv := fun _ => rfl, inj := fun _ _ h => Sum.inl.inj h }
instance : Ky Str := { toFl := inferInstanceAs (Fl Str), key := Sum.inr, kv := fun _ => rfl, inj := fun _ _ h => Sum.inr.inj h }
structure Dc (κ β : Type) where
  l : List (κ × β)
instance {κ β : Type} : Inhabited (Dc κ β) := ⟨⟨[]⟩⟩
def Fk {κ β : Type} [Ky κ] (R : V → β → Prop) : List (Key × V) → List (κ × β) → Prop
  | [], [] => True
  | p :: ps, q :: qs => (p.1 = Ky.key q.1 ∧ R p.2 q.2) ∧ Fk R ps qs
  | _, _ => False
theorem Fk.mono {κ β : Type} [Ky κ] {R R' : V → β → Prop} (h : ∀ v b, R v b → R' v b) : ∀ {ps : List (Key × V)} {qs : List (κ × β)}, Fk R ps qs → Fk R' ps qs
  | [], [], _ => True.intro
  | _ :: _, _ :: _, ⟨⟨x, y⟩, z⟩ => ⟨⟨x, h _ _ y⟩, Fk.mono h z⟩
  | [], _ :: _, x => x.elim
  | _ :: _, [], x => x.elim
theorem Fk.len {κ β : Type} [Ky κ] {R : V → β → Prop} : ∀ {ps : List (Key × V)} {qs : List (κ × β)}, Fk R ps qs → ps.length = qs.length
  | [], [], _ => rfl
  | _ :: _, _ :: _, ⟨_, z⟩ => congrArg (· + 1) (Fk.len z)
  | [], _ :: _, x => x.elim
  | _ :: _, [], x => x.elim
instance rpDc {κ β : Type} [Ky κ] [Rp β] : Rp (Dc κ β) where
  sh K H v d := ∃ p kvs, v = .ref p ∧ H p = some (.dK kvs) ∧ Fk (Rp.sh K H) kvs d.l
  mono := fun e ⟨p, kvs, h1, h2, h3⟩ => ⟨p, kvs, h1, e _ _ h2, Fk.mono (fun _ _ h => Rp.mono e h) h3⟩
/-- an own dict, its values shared -/
def Ow.d {κ β : Type} [Ky κ] [Rp β] : Ow (Dc κ β) where
  rep K HF H v d fp := ∃ p kvs, v = .ref p ∧ fp = [p] ∧ H p = some (.dK kvs) ∧ Fk (Rp.sh K HF) kvs d.l
  mono := fun e k ⟨p, kvs, h1, h2, h3, h4⟩ => by
    subst h2
    exact ⟨p, kvs, h1, rfl, k p (List.mem_singleton.mpr rfl) _ h3, Fk.mono (fun _ _ h => Rp.mono e h) h4⟩
  dom := fun ⟨p, kvs, h1, h2, h3, h4⟩ q hq => by
    subst h2
    rw [List.mem_singleton.mp hq]
    exact ⟨_, h3⟩
  frz := fun e k ⟨p, kvs, h1, h2, h3, h4⟩ => by
    subst h2
    exact ⟨p, kvs, h1, k p (List.mem_singleton.mpr rfl) _ h3, Fk.mono (fun _ _ h => Rp.mono e h) h4⟩
instance indD {κ β : Type} [Ky κ] [Fl β] : Ind (Ow.d (κ := κ) (β := β)) where
  ind := fun ⟨p, kvs, h1, h2, h3, h4⟩ => ⟨p, kvs, h1, h2, h3, Fk.mono (fun _ _ h => Fl.sh_iff.mpr (Fl.sh_iff.mp h)) h4⟩
/-- the value of a key; a key's value put; a key dropped -/
def dget {κ β : Type} [DecidableEq κ] (l : List (κ × β)) (k : κ) : Option β := (l.find? fun p => decide (p.1 = k)).map (·.2)
def dput {κ β : Type} [DecidableEq κ] (l : List (κ × β)) (k : κ) (v : β) : List (κ × β) := if (l.any fun p => decide (p.1 = k)) = true then l.map fun p => if p.1 = k then (k, v) else p else l ++ [(k, v)]
def ddrop {κ β : Type} [DecidableEq κ] (l : List (κ × β)) (k : κ) : List (κ × β) := l.filter fun p => decide (p.1 ≠ k)
section
variable {κ β : Type} [Ky κ] [DecidableEq κ] {R : V → β → Prop}
theorem key_dec (a b : κ) : decide (Ky.key a = Ky.key b) = decide (a = b) := by
  by_cases h : a = b
  · subst h; simp
  · rw [decide_eq_false h, decide_eq_false fun e => h (Ky.inj a b e)]
theorem Fk.get (k : κ) : ∀ {ps : List (Key × V)} {qs : List (κ × β)}, Fk R ps qs → (∀ b, dget qs k = some b → ∃ v, valV ps (Ky.key k) = some v ∧ R v b) ∧ (dget qs k = none → valV ps (Ky.key k) = none)
  | [], [], _ => ⟨fun b h => by simp [dget] at h, fun _ => rfl⟩
  | p :: ps, q :: qs, ⟨⟨x, y⟩, z⟩ => by
    have ih := Fk.get k z
    by_cases h : q.1 = k
    · have e1 : dget (q :: qs) k = some q.2 := by simp [dget, h]
      have e2 : valV (p :: ps) (Ky.key k) = some p.2 := valV_pos (by rw [x, h])
      rw [e1, e2]
      exact ⟨fun b e => ⟨p.2, rfl, by rw [← Option.some.inj e]; exact y⟩, fun e => by cases e⟩
    · have e1 : dget (q :: qs) k = dget qs k := by simp [dget, h]
      have e2 : valV (p :: ps) (Ky.key k) = valV ps (Ky.key k) := valV_neg fun e => h (Ky.inj _ _ (by rw [← x, e]))
      rw [e1, e2]
      exact ih
  | [], _ :: _, x => x.elim
  | _ :: _, [], x => x.elim
theorem Fk.any (k : κ) : ∀ {ps : List (Key × V)} {qs : List (κ × β)}, Fk R ps qs → (ps.any fun p => decide (p.1 = Ky.key k)) = qs.any fun p => decide (p.1 = k)
  | [], [], _ => rfl
  | p :: ps, q :: qs, ⟨⟨x, y⟩, z⟩ => by rw [List.any_cons, List.any_cons, Fk.any k z, x, key_dec]
  | [], _ :: _, x => x.elim
  | _ :: _, [], x => x.elim
theorem Fk.app : ∀ {ps ps' : List (Key × V)} {qs qs' : List (κ × β)}, Fk R ps qs → Fk R ps' qs' → Fk R (ps ++ ps') (qs ++ qs')
  | [], _, [], _, _, h => h
  | _ :: _, _, _ :: _, _, ⟨x, y⟩, h => ⟨x, Fk.app y h⟩
  | [], _, _ :: _, _, x, _ => x.elim
  | _ :: _, _, [], _, x, _ => x.elim
theorem Fk.upd (k : κ) {v : V} {b : β} (h : R v b) : ∀ {ps : List (Key × V)} {qs : List (κ × β)}, Fk R ps qs → Fk R (ps.map fun p => if p.1 = Ky.key k then (p.1, v) else p) (qs.map fun p => if p.1 = k then (k, b) else p)
  | [], [], _ => True.intro
  | p :: ps, q :: qs, ⟨⟨x, y⟩, z⟩ => by
    refine ⟨?_, Fk.upd k h z⟩
    show (if p.1 = Ky.key k then (p.1, v) else p).1 = Ky.key (if q.1 = k then (k, b) else q).1 ∧ R (if p.1 = Ky.key k then (p.1, v) else p).2 (if q.1 = k then (k, b) else q).2
    by_cases e : q.1 = k
    · rw [if_pos (by rw [x, e]), if_pos e]
      exact ⟨by rw [x, e], h⟩
    · rw [if_neg (fun w => e (Ky.inj _ _ (by rw [← x, w]))), if_neg e]
      exact ⟨x, y⟩
  | [], _ :: _, x => x.elim
  | _ :: _, [], x => x.elim
theorem Fk.drop (k : κ) : ∀ {ps : List (Key × V)} {qs : List (κ × β)}, Fk R ps qs → Fk R (dropK ps (Ky.key k)) (ddrop qs k)
  | [], [], _ => True.intro
  | p :: ps, q :: qs, ⟨⟨x, y⟩, z⟩ => by
    have ih := Fk.drop k z
    unfold dropK ddrop at ih ⊢
    by_cases e : q.1 = k
    · rw [List.filter_cons_of_neg (by simp [x, e]), List.filter_cons_of_neg (by simp [e])]
      exact ih
    · rw [List.filter_cons_of_pos (by simp [x]; exact fun w => e (Ky.inj _ _ w)), List.filter_cons_of_pos (by simp [e])]
      exact ⟨⟨x, y⟩, ih⟩
  | [], _ :: _, x => x.elim
  | _ :: _, [], x => x.elim
end
theorem Fk.put {κ β : Type} [Ky κ] [DecidableEq κ] {R : V → β → Prop} (k : κ) {v : V} {b : β} (h : R v b) {ps : List (Key × V)} {qs : List (κ × β)} (f : Fk R ps qs) : Fk R (putK ps (Ky.key k) v) (dput qs k b) := by
  unfold putK dput
  rw [f.any k]
  by_cases c : (qs.any fun p => decide (p.1 = k)) = true
  · rw [if_pos c, if_pos c]; exact f.upd k h
  · rw [if_neg c, if_neg c]
    exact f.app ⟨⟨rfl, h⟩, True.intro⟩
section
variable {X : Cx} {Γ : Ctx} {S L ρ α β κ γ A B S' : Type} [Rp ρ] {o : Ow ρ} {Γo : S → Ctx} {ΓL : L → Ctx} {a b c e : Expr} {es : List Expr} {pos p p1 p2 apos cpos : Pos} {ta tb tc te : TE} {t : TA} {sts : List Stmt} {tr tr' : TS}
theorem hu1 {A : Around} (h : A.units + 64 < cLine) : A.units + 1 < cLine := by omega
structure EK (X : Cx) (Γ : Ctx) (op : CmpOp) (a b : Expr) (m : M Bool) (t : TE) : Prop where
  pc : PC X op a b t
  hm : behindInMarks op b = false
  sem : SemE X.K Γ t Ow.v m
def dputM {κ β : Type} [DecidableEq κ] (d : Dc κ β) (k : κ) (v : β) : M (Dc κ β) := do gd (decide (d.l.length < sizeLine)); pure ⟨dput d.l k v⟩
/-- d[k] = e -/
theorem ss_dput [Ky κ] [DecidableEq κ] [Rp β] (i : Nat) {d : Dc κ β} {x : Str} {m : M β} {mk : M κ} {k : Dc κ β → M (Ctl S L ρ)} (hu : X.A.units + 64 < cLine) (he : EX X Γ e Ow.v m te) (hk : EX X Γ b Ow.v mk tb) (hr : ∀ l, SS X (put Γ i (.mk (Ow.d (κ := κ) (β := β)) l)) sts Γo ΓL o (k l) tr) (hl : look Γ i = .mk (Ow.d (κ := κ) (β := β)) d := by rfl) (hN : X.N[i]? = some x := by rfl) (hv : Vis X.env.scope x := by first | exact Or.inl rfl | exact Or.inr (Or.inl rfl) | exact Or.inr (Or.inr rfl)) (hd : (x == ("__debug__" : Str)) = false := by decide)
    (hcd : (x == ("__classdict__" : Str)) = false := by decide) (hs : swapsWith e (some (.Subscript (.Name x p) b p1)) pos.line X.env = pure false := by rfl) :
    SS X Γ (.Assign [.Subscript (.Name x p) b p1] e pos :: sts) Γo ΓL o (do let a ← m; let b ← mk; let l ← dputM d b a; k l) (tSeq (sDPut (tVar i) tb te) tr) :=
  ⟨pss_cons (ps_dput (hu1 hu) (pe_var hN hv hd hcd) hk.pe he.pe hs) (hr default).pss, fun HF0 G HF H σ g c hc D kk => by
    obtain ⟨y, e1, hc⟩ := bind_ok hc
    obtain ⟨ix, e2, hc⟩ := bind_ok hc
    obtain ⟨l, e3, hc⟩ := bind_ok hc
    obtain ⟨w, e4, e3⟩ := bind_ok e3
    have e5 := pure_ok e3
    subst e5
    have e6 := of_decide_eq_true (gd_ok e4)
    obtain ⟨v, fo, hσ, ⟨q, kvs, h1, h2, h3, h4⟩, nd, hfo, back⟩ := g.take hl
    subst h1 h2
    refine he.sem HF0 G HF H σ g y e1 _ fun v' HF1 H1 fp st r n f => ?_
    refine ⟨.ref q, hσ, ?_⟩
    refine hk.sem HF0 G HF1 H1 σ (g.step st) ix e2 _ fun w HF2 H2 fp2 st2 r2 _ _ => ?_
    have st12 := st.trans st2
    have h3' := st12.exH _ _ h3
    refine ⟨q, upd H2 q (.dK (putK kvs (Ky.key ix) v')), rfl, ?_, ?_⟩
    · rw [Fl.sh_iff.mp r2.1, ← Ky.kv]
      exact DPut.k h3' (by rw [h4.len]; exact e6)
    · have gg := back (u' := Ow.d (κ := κ) (β := β)) (b := ⟨dput d.l ix y⟩) (v' := .ref q) (f' := [q]) (H' := upd H2 q (.dK (putK kvs (Ky.key ix) v'))) st12 (fun p w hp e => by rw [upd_ne (fun z => hp (by rw [z]; exact List.mem_singleton.mpr rfl))]; exact e)
        ⟨q, _, rfl, rfl, upd_same, Fk.put ix (Rp.mono st2.exF r.1) (Fk.mono (fun _ _ h => Rp.mono st12.exF h) h4)⟩ (by simp) (fun p hp => .inl hp)
      rw [set_self hσ] at gg
      exact (hr ⟨dput d.l ix y⟩).sem HF0 G HF2 _ σ gg c hc D (kk.mono st12.exF)⟩
end
end Ty

namespace Ty
open PySem
/-! maths lemmas, second part -/
theorem divM_ok {a b : Int} (h : 0 < b) (h2 : b < 2 ^ 8999) : divM a b = .ok (a / b) := by
  have : b.natAbs.log2 < 9000 := by
    have hb : b.natAbs ≠ 0 := by omega
    rw [Nat.log2_lt hb]
    have : (b.natAbs : Int) < 2 ^ 8999 := by omega
    have h3 : b.natAbs < 2 ^ 8999 := by exact_mod_cast this
    exact Nat.lt_trans h3 (Nat.pow_lt_pow_right (by decide) (by decide))
  simp only [divM, divB, decide_eq_true h, decide_eq_true this, Bool.and_self, gdT, okB]
  rfl
theorem divM_s {a b : Int} (h : 0 < b) (h2 : b < 18446744073709551616) : divM a b = .ok (a / b) :=
  divM_ok h (by
    have e : (18446744073709551616 : Int) = 2 ^ 64 := by decide
    have : (2 : Int) ^ 64 ≤ 2 ^ 8999 := by exact_mod_cast Nat.pow_le_pow_right (by decide) (by decide)
    rw [e] at h2
    exact Int.lt_of_lt_of_le h2 this)
theorem cutL_to {α : Type} (xs : List α) (n : Int) (h : 0 ≤ n) : cutL xs none (some n) = xs.take n.toNat := by
  unfold cutL
  show (xs.drop 0).take ((if n < 0 then _ else min n.toNat xs.length) - 0) = _
  rw [if_neg (by omega), List.drop_zero, Nat.sub_zero, ← List.take_eq_take_min]
theorem cutL_from {α : Type} (xs : List α) (n : Int) (h : 0 ≤ n) : cutL xs (some n) none = xs.drop n.toNat := by
  unfold cutL
  show (xs.drop (if n < 0 then _ else min n.toNat xs.length)).take (xs.length - (if n < 0 then _ else min n.toNat xs.length)) = _
  rw [if_neg (by omega)]
  by_cases hk : n.toNat ≤ xs.length
  · rw [Nat.min_eq_left hk, List.take_of_length_le (by simp)]
  · rw [Nat.min_eq_right (by omega), List.drop_of_length_le (by omega : xs.length ≤ n.toNat), List.drop_of_length_le (Nat.le_refl _)]
    simp
theorem row_succ {α : Type} (n : Nat) (g : Nat → α) : row (n + 1) g = row n g ++ [g n] := by
  unfold row
  rw [List.range_succ, List.map_append]
  rfl
theorem row_zip {α β : Type} (n : Nat) (f : Nat → α) (g : Nat → β) : (row n f).zip (row n g) = row n fun k => (f k, g k) := by
  unfold row
  rw [List.zip_map']
/-- the element that a loop over a row has reached -/
theorem row_pre {α : Type} {n : Nat} {g : Nat → α} {pre post : List α} {x : α} (e : row n g = pre ++ x :: post) : pre.length < n ∧ x = g pre.length ∧ pre = row pre.length g := by
  have hlt := pre_lt e
  rw [row_len] at hlt
  have h := row_get (g := g) hlt
  rw [e] at h
  refine ⟨hlt, by simpa using h, row_ext rfl fun i hi => ?_⟩
  have h := row_get (g := g) (show i < n by omega)
  rw [e, List.getElem?_append_left hi] at h
  exact h
end Ty

namespace Ty
open PySem PySem.Spec PyProof.Rows L2
/-! ## Ty13: sorted, list(range), pop, insert -/
def isort (a : List Int) : List Int := a.mergeSort (fun x y => decide (x ≤ y))
theorem isort_eq {a b : List Int} (h : b.Perm a) (hs : b.Pairwise (· ≤ ·)) : b = isort a := by
  have h1 : List.Pairwise (fun a b : Int => decide (a ≤ b) = true) (isort a) := List.pairwise_mergeSort (fun a b c h1 h2 => by simp at *; omega) (fun a b => by simp; omega) a
  have h1 : List.Pairwise (· ≤ ·) (isort a) := h1.imp fun h => by simpa using h
  exact List.Perm.eq_of_pairwise (fun a b _ _ h1 h2 => by omega) hs h1 (h.trans (List.mergeSort_perm a _).symm)
section
variable {X : Cx} {Γ : Ctx} {S L ρ α β γ A B S' : Type} [Rp ρ] {o : Ow ρ} {Γo : S → Ctx} {ΓL : L → Ctx} {a b e f : Expr} {es : List Expr} {pos p apos cpos pos2 : Pos} {ta tb te tf : TE} {t : TA} {sts : List Stmt} {tr tr' : TS} {tg : Expr}
def rgB2 (i j : Int) : Bool := decide (-(2 ^ 62) ≤ i) && decide (i < 2 ^ 62) && decide (-(2 ^ 62) ≤ j) && decide (j < 2 ^ 62) && decide ((j - i).toNat ≤ 2 ^ 24)
def lrange (i j : Int) : M (List Int) := do gd (rgB2 i j); pure (rangeL i j)
theorem rgB2_ok {i j : Int} (h : rgB2 i j = true) : RgOk i j := by
  simp only [rgB2, Bool.and_eq_true, decide_eq_true_eq] at h
  exact ⟨h.1.1.1.1, h.1.1.1.2, h.1.1.2, h.1.2, h.2⟩
theorem rgV_enc (i j : Int) : rgV i j = (rangeL i j).map Fl.enc := by
  unfold rgV rangeL
  rw [List.map_map]
  rfl
theorem ex_listRg1 {m : M Int} (hc : X.calm = true) (ml : X.mg "list" = none) (mr : X.mg "range" = none) (h : EX X Γ e Ow.v m te) (hg : Gl X "list" := by rfl) (hg2 : Gl X "range" := by rfl) (h1 : starEach [e] X.env = (false, eval e X.env) :: starEach [] X.env := by rfl)
    (h2 : starEach [.Call (.Name "range" p) [e] [] pos] X.env = (false, eval (.Call (.Name "range" p) [e] [] pos) X.env) :: starEach [] X.env := by rfl) : EX X Γ (.Call (.Name "list" apos) [.Call (.Name "range" p) [e] [] pos] [] cpos) (Ow.l Ow.v) (do let a ← m; lrange 0 a) (tLstRg (tRg1 te)) :=
  ⟨pe_listRg hc hg ml (prg_1 hg2 mr h.pe h1) h2, fun HF0 G HF H σ g c hc' Q k => by
    obtain ⟨i, e1, hc'⟩ := bind_ok hc'
    obtain ⟨u, e2, hc'⟩ := bind_ok hc'
    cases pure_ok hc'
    refine h.sem HF0 G HF H σ g i e1 _ fun v HF1 H1 fp st r n f => ⟨i, Fl.sh_iff.mp r.1, rgB2_ok (gd_ok e2), fun q hq => ?_⟩
    rw [rgV_enc]
    exact (show RetK X.K HF1 H1 (Ow.l Ow.v) (rangeL 0 i) Q from fun v' HF' H' fp' st' r' n' f' => k v' HF' H' fp' (st.trans st') r' n' (fun p hp => ⟨st.exH.free (f' p hp).1, (f' p hp).2⟩)).lst st.sub (Fa.flat.mpr rfl) hq⟩
/-! ### an expression that takes from a list at slot i -/
structure EP [Rp α] [Rp β] (X : Cx) (Γ : Ctx) (i : Nat) (e : Expr) (m : M (β × List α)) (t : TE) : Prop where
  pe : PE X e t
  sem : ∀ HF0 G HF H σ, Good X.K HF0 G Γ HF H σ → ∀ c l, m = .ok (c, l) → ∀ Q : VK, (∀ v HF1 H1, Same HF HF1 → Rp.sh X.K HF1 v c → Good X.K HF0 G (put Γ i (.mk (Ow.l (Ow.v : Ow α)) l)) HF1 H1 σ → Q v H1) → t σ H Q
def popAtM {α : Type} (as : List α) (i : Int) : M (α × List α) := do gd (decide (-(2 ^ 63) ≤ i) && decide (i < 2 ^ 63)); let k ← ofO (seqIndex? i as.length); let y ← ofO as[k]?; pure (y, as.eraseIdx k)
theorem Fa.eraseIdx' {R : V → α → Prop} : ∀ {vs : List V} {as : List α} (i : Nat), Fa R vs as → Fa R (vs.eraseIdx i) (as.eraseIdx i)
  | [], [], _, h => h
  | v :: vs, a :: as, 0, h => h.2
  | v :: vs, a :: as, i + 1, h => ⟨h.1, Fa.eraseIdx' i h.2⟩
  | [], _ :: _, _, h => h.elim
  | _ :: _, [], _, h => h.elim
theorem ep_popAt [Rp α] (i : Nat) {as : List α} {x : Str} {m : M Int} (he : EX X Γ e Ow.v m te) (hl : look Γ i = .mk (Ow.l (Ow.v : Ow α)) as := by rfl) (hN : X.N[i]? = some x := by rfl) (hv : Vis X.env.scope x := by first | exact Or.inl rfl | exact Or.inr (Or.inl rfl) | exact Or.inr (Or.inr rfl)) (hd : (x == ("__debug__" : Str)) = false := by decide)
    (hcd : (x == ("__classdict__" : Str)) = false := by decide)
    (hpe : ∀ {to : TE} {tt : TA}, PE X (.Name x p) to → PA X [e] tt → PE X (.Call (.Attribute (.Name x p) "pop" apos) [e] [] cpos) (tBM X.K "list" rPopAt to tt) := by exact fun h h' => pe_bm PySem.F.plainAttrs_list PySem.F.slot_list_pop PySem.F.type_list_pop mt_popAt h h')
    (h1 : starEach [e] X.env = (false, eval e X.env) :: starEach [] X.env := by rfl) :
    EP X Γ i (.Call (.Attribute (.Name x p) "pop" apos) [e] [] cpos) (do let j ← m; popAtM as j) (tBM X.K "list" rPopAt (tVar i) (tCons te tNil)) :=
  ⟨hpe (pe_var hN hv hd hcd) (pa_cons he.pe pa_nil h1), fun HF0 G HF H σ g c l hc Q k => by
    obtain ⟨j, e0, hc⟩ := bind_ok hc
    obtain ⟨u, e8, hc⟩ := bind_ok hc
    obtain ⟨n, e9, hc⟩ := bind_ok hc
    obtain ⟨y, e1, hc⟩ := bind_ok hc
    cases pure_ok hc
    obtain ⟨v, fo, hσ, ⟨q, vs, fq, h1, h2, h3, h4⟩, nd, hfo, back⟩ := g.take hl
    subst h1 h2
    obtain ⟨fa, e5⟩ := h4.toFa
    subst e5
    obtain ⟨w, e6, e7⟩ := fa.get' (ofO_ok e1)
    refine ⟨.ref q, hσ, .inl ⟨rfl, vs, SqL.of h3⟩, ?_⟩
    refine he.sem HF0 G HF H σ g j e0 _ fun v' HF1 H1 fp st r n' f => ?_
    have e10 := gd_ok e8
    rw [Bool.and_eq_true, decide_eq_true_eq, decide_eq_true_eq] at e10
    refine ⟨q, vs, j, n, w, rfl, by rw [Fl.sh_iff.mp r.1]; rfl, st.exH _ _ h3, e10.1, e10.2, by rw [fa.len]; exact ofO_ok e9, e6, ?_⟩
    have fa1 := fa.mono (fun v a h => Rp.mono st.exF h)
    have gg := back st (H' := upd H1 q (.lst (vs.eraseIdx n))) (u' := Ow.l (Ow.v : Ow α)) (b := as.eraseIdx n) (v' := .ref q) (f' := [q]) (fun p w hp e => by rw [upd_ne (fun z => hp (by rw [z]; exact List.mem_cons_self ..))]; exact e)
      ⟨q, vs.eraseIdx n, [], rfl, rfl, upd_same, Rl.ofFa (Fa.eraseIdx' n fa1)⟩ (by simp) (fun p hp => .inl hp)
    rw [set_self hσ] at gg
    exact k w HF1 _ st.exF (Rp.mono st.exF e7) gg⟩
/-- z = ..pop.. -/
theorem ss_asgP [Rp α] [Rp β] [Inhabited α] [Inhabited β] (i j : Nat) {x : Str} {m : M (β × List α)} {k : β × List α → M (Ctl S L ρ)} {pos' : Pos} (hN : X.N.Nodup) (he : EP X Γ i e m te) (hr : ∀ q : β × List α, SS X (put (put Γ i (.mk (Ow.l (Ow.v : Ow α)) q.2)) j (.mk (Ow.v : Ow β) q.1)) sts Γo ΓL o (k q) tr) (hlt : Nat.blt j Γ.length = true := by rfl) (hi : X.N[j]? = some x := by rfl) (hx : Loc X.env.scope x := by first | exact .inl rfl | exact .inr rfl)
    (hs : swapsWith e (some (.Name x pos')) pos.line X.env = pure false := by rfl) (hf : X.fn x = true ∨ X.env.scope.names.lookup x = some .local := by first | exact .inl rfl | exact .inr rfl) : SS X Γ (.Assign [.Name x pos'] e pos :: sts) Γo ΓL o (do let a ← m; k a) (tSeq (tAsg te (gName j)) tr) :=
  ⟨pss_cons (ps_set hN hi hx he.pe hs hf) (hr default).pss, fun HF0 G HF H σ g c hc D kk => by
    obtain ⟨⟨y, l⟩, e1, hc⟩ := bind_ok hc
    refine he.sem HF0 G HF H σ g y l e1 _ fun v HF' H' st r gg => ?_
    exact (hr (y, l)).sem HF0 G HF' H' _ (gg.putv (by rw [put_len]; exact of_blt hlt) r) c hc D (kk.mono st)⟩
end
end Ty

namespace Ty
open PySem PySem.Spec PyProof.Rows L2
/-! ## Ty14: divmod, module tuples, dict.get -/
/-- a tuple of ints -/
def intsB (K : PySem.W.Frag) (v : Value) (ns : List Int) : Bool := match v with
  | .ref b => (match K.lookup b with
    | some ⟨.type c, _, .seq its _, _⟩ => decide (c = "tuple") && (decide (its.size ≤ sizeLine) && He.relAll (ns.map V.int) its.toList)
    | _ => false)
  | _ => false
theorem intsB_ok {K : PySem.W.Frag} {v : Value} {ns : List Int} (h : intsB K v ns = true) : ∃ b, v = .ref b ∧ ∀ H, SqT K H b (ns.map V.int) := by
  cases v with
  | ref b =>
    refine ⟨b, rfl, fun H => ?_⟩
    unfold intsB at h
    simp only at h
    cases q : K.lookup b with
    | none => rw [q] at h; cases h
    | some o =>
      obtain ⟨oc, od, dt, osl⟩ := o
      rw [q] at h
      cases oc with
      | type c =>
        cases dt with
        | seq its n =>
          obtain ⟨h1, h2⟩ := He.ba (show (decide (c = "tuple") && (decide (its.size ≤ sizeLine) && He.relAll (ns.map V.int) its.toList)) = true from h)
          obtain ⟨h3, h4⟩ := He.ba h2
          exact .inr ⟨_, its, n, q, congrArg Value.type (of_decide_eq_true h1), rfl, of_decide_eq_true h3, He.relAll_ok h4⟩
        | _ => cases h
      | _ => cases dt <;> cases h
  | _ => cases h
def allB (K : PySem.W.Frag) : List Value → List (List Int) → Bool
  | [], [] => true
  | v :: vs, n :: ns => intsB K v n && allB K vs ns
  | _, _ => false
theorem allB_ok {K : PySem.W.Frag} : ∀ {vs : List Value} {ns : List (List Int)}, allB K vs ns = true → ∃ ps : List Addr, Vals (ps.map V.ref) vs ∧ ∀ H, Fa (fun v n => ∃ p us, v = V.ref p ∧ SqT K H p us ∧ us = n.map V.int) (ps.map V.ref) ns
  | [], [], _ => ⟨[], .nil, fun _ => True.intro⟩
  | v :: vs, n :: ns, h => by
    obtain ⟨h1, h2⟩ := He.ba (show (intsB K v n && allB K vs ns) = true from h)
    obtain ⟨b, rfl, hb⟩ := intsB_ok h1
    obtain ⟨ps, q1, q2⟩ := allB_ok h2
    exact ⟨b :: ps, .cons rfl q1, fun H => ⟨⟨b, _, rfl, hb H, rfl⟩, q2 H⟩⟩
  | [], _ :: _, h => by cases h
  | _ :: _, [], h => by cases h
/-- the module's name x is a tuple of tuples of ints -/
def tup2B (x : Str) (ns : List (List Int)) (K : PySem.W.Frag) : Bool := match K.lookup (He.ga K x) with
  | some ⟨.type c, _, .seq its _, _⟩ => decide (c = "tuple") && (decide (its.size ≤ sizeLine) && allB K its.toList ns)
  | _ => false
theorem tup2B_ok {K : PySem.W.Frag} {x : Str} {ns : List (List Int)} (h : tup2B x ns K = true) (H : Hp) : Rp.sh K H (V.ref (He.ga K x)) (Tu.mk (ns.map Tu.mk)) := by
  unfold tup2B at h
  cases q : K.lookup (He.ga K x) with
  | none => rw [q] at h; cases h
  | some o =>
    obtain ⟨oc, od, dt, osl⟩ := o
    rw [q] at h
    cases oc with
    | type c =>
      cases dt with
      | seq its n =>
        obtain ⟨h1, h2⟩ := He.ba (show (decide (c = "tuple") && (decide (its.size ≤ sizeLine) && allB K its.toList ns)) = true from h)
        obtain ⟨h3, h4⟩ := He.ba h2
        obtain ⟨ps, h5, h6⟩ := allB_ok h4
        refine ⟨_, ps.map V.ref, rfl, .inr ⟨_, its, n, q, congrArg Value.type (of_decide_eq_true h1), rfl, of_decide_eq_true h3, h5⟩, ?_⟩
        have h7 := h6 H
        clear h5 h6 h4 h2 h h3 q
        generalize ps.map V.ref = vs at h7
        induction vs generalizing ns with
        | nil => cases ns with
          | nil => exact True.intro
          | cons _ _ => exact h7.elim
        | cons v vs ih => cases ns with
          | nil => exact h7.elim
          | cons n ns =>
            obtain ⟨⟨p, us, e1, e2, e3⟩, h8⟩ := h7
            exact ⟨⟨p, us, e1, e2, Fa.flat.mpr e3⟩, ih h8⟩
      | _ => cases h
    | _ => cases dt <;> cases h
section
variable {X : Cx} {Γ : Ctx} {S L ρ α β γ A B S' : Type} [Rp ρ] {o : Ow ρ} {Γo : S → Ctx} {ΓL : L → Ctx} {a b e f : Expr} {es : List Expr} {pos p apos cpos pos2 : Pos} {ta tb te tf : TE} {t : TA} {sts : List Stmt} {tr tr' : TS} {tg : Expr}
theorem ex_gtu {K : PySem.W.Frag} [Rp α] {x : Str} {z : α} (hm : X.mg x = some (.ref (He.ga K x)) ∧ ∀ H, Rp.sh K H (V.ref (He.ga K x)) z) (hg : Gl X x := by rfl) (hd : (x == ("__debug__" : Str)) = false := by decide) (hK : X.K = K := by rfl) : EX X Γ (.Name x pos) Ow.v (pure z) (tC (.ref (He.ga K x))) := by
  subst hK
  exact ⟨pe_glob hg hm.1 rfl hd, fun HF0 G HF H σ g c hc Q k => by cases pure_ok hc; exact k.shv g.sub (hm.2 HF)⟩
theorem ex_gint {x : Str} {z : Int} {pos : Pos} (hm : ∃ t, X.mg x = some (.int z t)) (hg : Gl X x := by rfl) (hd : (x == ("__debug__" : Str)) = false := by decide) : EX X Γ (.Name x pos) Ow.v (pure z) (tC (.int z)) := by
  obtain ⟨t, h⟩ := hm
  exact ⟨pe_glob hg h ⟨t, rfl⟩ hd, fun HF0 G HF H σ g c hc Q k => by cases pure_ok hc; exact k.flat g.sub⟩
end
end Ty

namespace Ty
open PySem
/-! ## Ty15: maths: walks that come back, nets -/
theorem len_le_of_lt : ∀ (m : Nat) (l : List Nat), l.Nodup → (∀ x ∈ l, x < m) → l.length ≤ m
  | 0, l, _, h => by
    cases l with
    | nil => simp
    | cons a l => exact absurd (h a (List.mem_cons_self ..)) (by omega)
  | m + 1, l, hn, h => by
    by_cases hm : m ∈ l
    · have := len_le_of_lt m (l.erase m) (hn.erase m) (fun x hx => by
        rw [hn.mem_erase_iff] at hx
        have := h x hx.2
        omega)
      rw [List.length_erase_of_mem hm] at this
      omega
    · have := len_le_of_lt m l hn (fun x hx => by
        have := h x hx
        rcases Nat.lt_or_ge x m with h1 | h1
        · exact h1
        · have : x = m := by omega
          subst this; exact absurd hx hm)
      omega
theorem pigeon (m : Nat) (f : Nat → Nat) (h : ∀ i, i ≤ m → f i < m) : ∃ i j, i < j ∧ j ≤ m ∧ f i = f j := by
  refine Classical.byContradiction fun hc => ?_
  have hn : ((List.range (m + 1)).map f).Nodup := by
    rw [List.nodup_iff_pairwise_ne, List.pairwise_map]
    refine List.Pairwise.imp_of_mem ?_ (List.pairwise_lt_range)
    intro a b ha hb hab e
    exact hc ⟨a, b, hab, by have := List.mem_range.mp hb; omega, e⟩
  have := len_le_of_lt m _ hn (fun x hx => by
    obtain ⟨i, hi, rfl⟩ := List.mem_map.mp hx
    exact h i (by have := List.mem_range.mp hi; omega))
  simp at this
  omega
theorem least_of (P : Nat → Prop) [DecidablePred P] : ∀ n, P n → ∃ k, k ≤ n ∧ P k ∧ ∀ j, j < k → ¬ P j
  | 0, h => ⟨0, Nat.le_refl _, h, fun j hj => absurd hj (by omega)⟩
  | n + 1, h => by
    by_cases h0 : P 0
    · exact ⟨0, by omega, h0, fun j hj => absurd hj (by omega)⟩
    · obtain ⟨k, h1, h2, h3⟩ := least_of (fun i => P (i + 1)) n h
      exact ⟨k + 1, by omega, h2, fun j hj => by
        cases j with
        | zero => exact h0
        | succ j => exact h3 j (by omega)⟩
/-- the walk s e, s (s e), .. -/
def orb (s : Int → Int) (e : Int) : Nat → Int
  | 0 => e
  | k + 1 => s (orb s e k)
theorem orb_in {s : Int → Int} {e : Int} {m : Nat} (h : ∀ x : Int, 0 ≤ x → x < m → 0 ≤ s x ∧ s x < m) (h0 : 0 ≤ e) (h1 : e < m) : ∀ k, 0 ≤ orb s e k ∧ orb s e k < m
  | 0 => ⟨h0, h1⟩
  | k + 1 => h _ (orb_in h h0 h1 k).1 (orb_in h h0 h1 k).2
/-- an injective step comes back -/
theorem orb_back {s : Int → Int} {e : Int} {m : Nat} (h : ∀ x : Int, 0 ≤ x → x < m → 0 ≤ s x ∧ s x < m) (inj : ∀ x y : Int, 0 ≤ x → x < m → 0 ≤ y → y < m → s x = s y → x = y) (h0 : 0 ≤ e) (h1 : e < m) :
    ∃ k, 1 ≤ k ∧ k ≤ m ∧ orb s e k = e ∧ ∀ j, 1 ≤ j → j < k → orb s e j ≠ e := by
  have hin := orb_in h h0 h1
  obtain ⟨i, j, hij, hj, e1⟩ := pigeon m (fun k => (orb s e k).toNat) (fun i _ => by have := hin i; omega)
  have e1 : orb s e i = orb s e j := by
    have a := hin i; have b := hin j
    have e1 : (orb s e i).toNat = (orb s e j).toNat := e1
    omega
  have back : ∀ i d, orb s e i = orb s e (i + d) → orb s e d = e := by
    intro i
    induction i with
    | zero => intro d q; rw [Nat.zero_add] at q; exact q.symm
    | succ i ih =>
      intro d q
      refine ih d ?_
      rw [show i + 1 + d = (i + d) + 1 by omega] at q
      exact inj _ _ (hin i).1 (hin i).2 (hin (i + d)).1 (hin (i + d)).2 q
  have e2 := back i (j - i) (by rw [show i + (j - i) = j by omega]; exact e1)
  obtain ⟨k, hk, hk2, hk3⟩ := least_of (fun k => orb s e (k + 1) = e) (j - i - 1) (by rw [show j - i - 1 + 1 = j - i by omega]; exact e2)
  refine ⟨k + 1, by omega, by omega, hk2, fun j' h1 h2 => ?_⟩
  have := hk3 (j' - 1) (by omega)
  rw [show j' - 1 + 1 = j' by omega] at this
  exact this
theorem popAtM_ok {α : Type} [Inhabited α] {as : List α} {i : Int} (h0 : 0 ≤ i) (h1 : i < as.length) (h2 : i < 9223372036854775808) : popAtM as i = .ok (as.getD i.toNat default, as.eraseIdx i.toNat) := by
  unfold popAtM
  have e1 : (decide (-(2 ^ 63) ≤ i) && decide (i < 2 ^ 63)) = true := by simp; omega
  have e2 : seqIndex? i as.length = some i.toNat := (L2.ixN_seq (ixN_ok h0 h1)).1
  rw [e1, e2]
  simp only [gdT, okB, ofOs]
  rw [List.getD_eq_getElem?_getD, List.getElem?_eq_getElem (by omega)]
  rfl
theorem lrange_ok {n : Int} (h0 : 0 ≤ n) (h1 : n ≤ 16777216) : lrange 0 n = .ok (rangeL 0 n) := by
  unfold lrange rgB2
  have e : (decide (-(2 ^ 62) ≤ (0 : Int)) && decide ((0 : Int) < 2 ^ 62) && decide (-(2 ^ 62) ≤ n) && decide (n < 2 ^ 62) && decide ((n - 0).toNat ≤ 2 ^ 24)) = true := by simp; omega
  rw [e]; rfl
theorem rep1_ok {α : Type} {a : α} {k : Int} (h0 : 0 ≤ k) (h1 : k ≤ 1000) : repM [a] k = .ok (row k.toNat fun _ => a) := by
  unfold repM
  have e : (decide (-(2 ^ 63) ≤ k) && decide (k < 2 ^ 63) && szB ([a].length * k.toNat)) = true := by
    simp [szB, sizeLine_eq]; omega
  rw [e]
  simp only [gdT, okB]
  show Except.ok _ = _
  congr 1
  refine row_ext ?_ fun i hi => ?_
  · simp
  · have : (List.replicate k.toNat [a]).flatten = List.replicate k.toNat a := by
      generalize k.toNat = n
      induction n with
      | zero => rfl
      | succ n ih => simp [List.replicate_succ, ih]
    rw [this, List.getElem?_replicate, if_pos hi]
theorem dputM_ok {κ β : Type} [DecidableEq κ] {d : Dc κ β} {k : κ} {v : β} (h : d.l.length < 1000000) : dputM d k v = .ok ⟨dput d.l k v⟩ := by
  unfold dputM
  rw [decide_eq_true (by rw [sizeLine_eq]; omega)]; rfl
theorem dput_len {κ β : Type} [DecidableEq κ] (l : List (κ × β)) (k : κ) (v : β) : (dput l k v).length ≤ l.length + 1 := by
  unfold dput
  split <;> simp
/-- joining by a way -/
def jn (w s : Int) : Int := if w = 0 then (if s = 0 then 1 else if s = 1 then 0 else if s = 2 then 3 else 2) else if w = 1 then (if s = 0 then 2 else if s = 1 then 3 else if s = 2 then 0 else 1) else 3 - s
theorem jn_in {w s : Int} (h0 : 0 ≤ s) (h1 : s < 4) : 0 ≤ jn w s ∧ jn w s < 4 := by
  unfold jn
  repeat' split
  all_goals omega
theorem jn_jn {w s : Int} (h0 : 0 ≤ s) (h1 : s < 4) : jn w (jn w s) = s := by
  have hs : s = 0 ∨ s = 1 ∨ s = 2 ∨ s = 3 := by omega
  unfold jn
  by_cases h : w = 0
  · rcases hs with rfl | rfl | rfl | rfl <;> simp [h]
  · by_cases h2 : w = 1
    · rcases hs with rfl | rfl | rfl | rfl <;> simp [h2]
    · simp [h, h2]; omega
/-- the end joined with an end -/
def par (c : Nat → Int) (e : Int) : Int := 4 * (e / 4) + jn (c (e / 4).toNat) (e % 4)
theorem par_in {c : Nat → Int} {e : Int} {n : Nat} (h0 : 0 ≤ e) (h1 : e < ((4 * n : Nat) : Int)) : 0 ≤ par c e ∧ par c e < ((4 * n : Nat) : Int) := by
  have := jn_in (w := c (e / 4).toNat) (s := e % 4) (by omega) (by omega)
  unfold par
  omega
theorem par_par {c : Nat → Int} {e : Int} (h0 : 0 ≤ e) : par c (par c e) = e := by
  have h := jn_in (w := c (e / 4).toNat) (s := e % 4) (by omega) (by omega)
  have h2 := jn_jn (w := c (e / 4).toNat) (s := e % 4) (by omega) (by omega)
  have e1 : par c e / 4 = e / 4 := by unfold par; omega
  have e2 : par c e % 4 = jn (c (e / 4).toNat) (e % 4) := by unfold par; omega
  have : par c (par c e) = 4 * (par c e / 4) + jn (c (par c e / 4).toNat) (par c e % 4) := rfl
  rw [this, e1, e2, h2]
  omega
/-- a net of m ends -/
def Net (m : Nat) (f : Nat → Int) : Prop := ∀ i, i < m → 0 ≤ f i ∧ f i < m ∧ f (f i).toNat = i
/-- a round's list after k steps -/
def wl (s p : Int → Int) (e : Int) : Nat → List Int
  | 0 => []
  | k + 1 => wl s p e k ++ [orb s e k, p (orb s e k)]
theorem wl_len (s p : Int → Int) (e : Int) : ∀ k, (wl s p e k).length = 2 * k
  | 0 => rfl
  | k + 1 => by
    show (wl s p e k ++ [_, _]).length = _
    rw [List.length_append, wl_len s p e k]; simp; omega
theorem mem_erase_nodup {α : Type} {x : α} : ∀ {l : List α} {k : Nat} (hn : l.Nodup) (hk : k < l.length), x ∈ l.eraseIdx k ↔ x ∈ l ∧ x ≠ l[k]
  | [], _, _, hk => absurd hk (by simp)
  | a :: l, 0, hn, _ => by
    have ha := (List.nodup_cons.mp hn).1
    rw [List.eraseIdx_cons_zero, List.mem_cons]
    constructor
    · intro h; exact ⟨.inr h, fun e => ha (by have e : x = a := e; rw [← e]; exact h)⟩
    · rintro ⟨h | h, e⟩
      · exact absurd h e
      · exact h
  | a :: l, k + 1, hn, hk => by
    have ha := (List.nodup_cons.mp hn).1
    have hk' : k < l.length := by simpa using hk
    have ih := mem_erase_nodup (x := x) (List.nodup_cons.mp hn).2 hk'
    rw [List.eraseIdx_cons_succ, List.mem_cons, ih, List.mem_cons, List.getElem_cons_succ]
    constructor
    · rintro (h | h)
      · exact ⟨.inl h, fun e => ha (by rw [← h, e]; exact List.getElem_mem _)⟩
      · exact ⟨.inr h.1, h.2⟩
    · rintro ⟨h | h, e⟩
      · exact .inl h
      · exact .inr ⟨h, e⟩
end Ty

namespace Ty
open PySem PySem.Spec PyProof.Rows L2
/-! ## Ty16: lists of two or three unlike things -/
structure H3 (α β γ : Type) where
  a : α
  b : β
  c : γ
deriving DecidableEq
instance {α β γ : Type} [Inhabited α] [Inhabited β] [Inhabited γ] : Inhabited (H3 α β γ) := ⟨⟨default, default, default⟩⟩
instance rpH3 {α β γ : Type} [Rp α] [Rp β] [Rp γ] : Rp (H3 α β γ) where
  sh K H v x := ∃ p va vb vc, v = .ref p ∧ H p = some (.lst [va, vb, vc]) ∧ Rp.sh K H va x.a ∧ Rp.sh K H vb x.b ∧ Rp.sh K H vc x.c
  mono := fun e ⟨p, va, vb, vc, h1, h2, h3, h4, h5⟩ => ⟨p, va, vb, vc, h1, e _ _ h2, Rp.mono e h3, Rp.mono e h4, Rp.mono e h5⟩
/-- an own list of three, its items shared -/
def Ow.h3 {α β γ : Type} [Rp α] [Rp β] [Rp γ] : Ow (H3 α β γ) where
  rep K HF H v x fp := ∃ p va vb vc, v = .ref p ∧ fp = [p] ∧ H p = some (.lst [va, vb, vc]) ∧ Rp.sh K HF va x.a ∧ Rp.sh K HF vb x.b ∧ Rp.sh K HF vc x.c
  mono := fun e k ⟨p, va, vb, vc, h1, h2, h3, h4, h5, h6⟩ => by
    subst h2
    exact ⟨p, va, vb, vc, h1, rfl, k p (List.mem_singleton.mpr rfl) _ h3, Rp.mono e h4, Rp.mono e h5, Rp.mono e h6⟩
  dom := fun ⟨p, va, vb, vc, h1, h2, h3, h4, h5, h6⟩ q hq => by
    subst h2
    rw [List.mem_singleton.mp hq]
    exact ⟨_, h3⟩
  frz := fun e k ⟨p, va, vb, vc, h1, h2, h3, h4, h5, h6⟩ => by
    subst h2
    exact ⟨p, va, vb, vc, h1, k p (List.mem_singleton.mpr rfl) _ h3, Rp.mono e h4, Rp.mono e h5, Rp.mono e h6⟩
instance eqvH3 {α β γ : Type} [Rp α] [Rp β] [Rp γ] [DecidableEq α] [DecidableEq β] [DecidableEq γ] [Eqv α] [Eqv β] [Eqv γ] : Eqv (H3 α β γ) where
  py x := .list [Eqv.py x.a, Eqv.py x.b, Eqv.py x.c]
  ok x := Eqv.ok x.a && (Eqv.ok x.b && Eqv.ok x.c)
  dep := max (Eqv.dep α) (max (Eqv.dep β) (Eqv.dep γ)) + 1
  dp := fun ⟨p, va, vb, vc, h1, h2, h3, h4, h5⟩ => by subst h1; exact .lst (SqL.of h2) (.cons (Eqv.dp h3) (.cons (Eqv.dp h4) (.cons (Eqv.dp h5) .nil)))
  lay := fun x h => by
    rw [Bool.and_eq_true, Bool.and_eq_true] at h
    simp [PyData.canLay0, PyData.canLayAll0, Eqv.lay x.a h.1, Eqv.lay x.b h.2.1, Eqv.lay x.c h.2.2]
  deep := fun x => by
    have h1 := Eqv.deep x.a
    have h2 := Eqv.deep x.b
    have h3 := Eqv.deep x.c
    simp only [PyData.depth, PyData.depthAll]
    omega
  eqv := fun ⟨a, b, c⟩ ⟨d, e, f⟩ => by
    simp only [PyData.eqv, PyData.eqvAll, Eqv.eqv]
    by_cases h1 : a = d <;> by_cases h2 : b = e <;> by_cases h3 : c = f <;> simp [h1, h2, h3]
instance {α β γ : Type} [Rp α] [Rp β] [Rp γ] [DecidableEq α] [DecidableEq β] [DecidableEq γ] [Eqv α] [Eqv β] [Eqv γ] [EqvT α] [EqvT β] [EqvT γ] : EqvT (H3 α β γ) := ⟨fun x => by
  show (Eqv.ok x.a && (Eqv.ok x.b && Eqv.ok x.c)) = true
  rw [EqvT.all, EqvT.all, EqvT.all]; rfl⟩
section
variable {X : Cx} {Γ : Ctx} {α β γ : Type} {a b c e : Expr} {pos p : Pos} {ta tb tc : TE}
end
section
variable {X : Cx} {Γ : Ctx} {S L ρ α β γ A B S' : Type} [Rp ρ] {o : Ow ρ} {Γo : S → Ctx} {ΓL : L → Ctx} {a b e f : Expr} {es : List Expr} {pos p apos cpos pos2 : Pos} {ta tb te tf : TE} {t : TA} {sts : List Stmt} {tr tr' : TS}
end
end Ty

namespace Ty
open PySem
/-! ## Ty17: maths: ends tied two and two -/
/-- the ends of l are left; all others are tied by f -/
structure Prt (m : Nat) (l : List Int) (f : Nat → Int) : Prop where
  nd : l.Nodup
  rg : ∀ x ∈ l, 0 ≤ x ∧ x < (m : Int)
  tied : ∀ i : Nat, i < m → (i : Int) ∉ l → 0 ≤ f i ∧ f i < (m : Int) ∧ f i ∉ l ∧ f (f i).toNat = i ∧ f i ≠ i
def tie (f : Nat → Int) (a b : Int) : Nat → Int := fun i => if i = b.toNat then a else if i = a.toNat then b else f i
theorem prt_start (m : Nat) (f : Nat → Int) : Prt m (rangeL 0 m) f := by
  refine ⟨?_, fun x hx => mem_range1 hx, fun i hi hx => ?_⟩
  · unfold rangeL
    rw [List.nodup_iff_pairwise_ne, List.pairwise_map]
    exact List.pairwise_lt_range.imp fun h e => by omega
  · exfalso
    apply hx
    unfold rangeL
    rw [List.mem_map]
    exact ⟨i, List.mem_range.mpr (by omega), by omega⟩
theorem prt_step {m : Nat} {a : Int} {l : List Int} {f : Nat → Int} {j : Nat} (h : Prt m (a :: l) f) (hj : j < l.length) : 0 ≤ a ∧ a < (m : Int) ∧ 0 ≤ l[j] ∧ l[j] < (m : Int) ∧ Prt m (l.eraseIdx j) (tie f a l[j]) := by
  have hn := List.nodup_cons.mp h.nd
  have ha' := h.rg a (List.mem_cons_self ..)
  have hb : l[j] ∈ l := List.getElem_mem _
  have hb' := h.rg l[j] (List.mem_cons_of_mem _ hb)
  have hmem : ∀ x, x ∈ l.eraseIdx j ↔ x ∈ l ∧ x ≠ l[j] := fun x => mem_erase_nodup hn.2 hj
  refine ⟨ha'.1, ha'.2, hb'.1, hb'.2, hn.2.sublist (List.eraseIdx_sublist ..), fun x hx => h.rg x (List.mem_cons_of_mem _ ((hmem x).mp hx).1), ?_⟩
  generalize l.eraseIdx j = l2 at hmem
  generalize l[j] = b at hb hb' hmem
  have hal := hn.1
  have hab : a ≠ b := fun z => hal (z ▸ hb)
  intro i hi hx
  unfold tie
  by_cases e1 : i = b.toNat
  · subst e1
    rw [if_pos rfl]
    refine ⟨ha'.1, ha'.2, fun z => hal ((hmem a).mp z).1, ?_, by omega⟩
    rw [if_neg (by omega), if_pos rfl]
    omega
  · rw [if_neg e1]
    by_cases e2 : i = a.toNat
    · subst e2
      rw [if_pos rfl]
      refine ⟨hb'.1, hb'.2, fun z => ((hmem b).mp z).2 rfl, ?_, by omega⟩
      rw [if_pos rfl]
      omega
    · rw [if_neg e2]
      have hx2 : (i : Int) ∉ a :: l := fun z => by
        rcases List.mem_cons.mp z with z | z
        · omega
        · exact hx ((hmem _).mpr ⟨z, by omega⟩)
      obtain ⟨q1, q2, q3, q4, q8⟩ := h.tied i hi hx2
      have q5 : f i ≠ a := fun z => q3 (z ▸ List.mem_cons_self ..)
      have q6 : f i ∉ l := fun z => q3 (List.mem_cons_of_mem _ z)
      have q7 : f i ≠ b := fun z => q6 (z ▸ hb)
      refine ⟨q1, q2, fun z => q6 ((hmem _).mp z).1, ?_, q8⟩
      rw [if_neg (by omega), if_neg (by omega)]
      exact q4
theorem prt_end {m : Nat} {f : Nat → Int} (h : Prt m [] f) : Net m f ∧ ∀ i, i < m → f i ≠ i :=
  ⟨fun i hi => by
    have := h.tied i hi (by simp)
    exact ⟨this.1, this.2.1, this.2.2.2.1⟩, fun i hi => (h.tied i hi (by simp)).2.2.2.2⟩
theorem set_tie {m : Nat} {f : Nat → Int} {a b : Int} (h0 : 0 ≤ a) (h1 : a < (m : Int)) (h2 : 0 ≤ b) (h3 : b < (m : Int)) : (setM (row m f) a b >>= fun N => setM N b a) = .ok (row m (tie f a b)) := by
  rw [setM_row h0 h1]
  simp only [okB]
  rw [setM_row h2 h3]
  rfl
end Ty

namespace Ty
open PySem PySem.Spec PyProof.Rows L2
/-! ## Ty18: len(set(..)), len of a dict, dict.get -/
section
variable {X : Cx} {Γ : Ctx} {α β κ : Type} {a b e f : Expr} {pos p p2 q apos cpos : Pos} {ta tb te tf : TE}
end
end Ty

namespace Ty
open PySem
/-! ## Ty19: maths: rounds have each end once; dicts -/
theorem dget_dput {κ β : Type} [DecidableEq κ] (k x : κ) (v : β) : ∀ l : List (κ × β), dget (dput l k v) x = if x = k then some v else dget l x := by
  have any : ∀ l : List (κ × β), (l.any fun p => decide (p.1 = k)) = (dget l k).isSome := by
    intro l
    induction l with
    | nil => rfl
    | cons a l ih =>
      unfold dget at ih ⊢
      rw [List.any_cons, List.find?_cons]
      cases h : decide (a.1 = k) with
      | true => rfl
      | false => rw [Bool.false_or]; exact ih
  have map : ∀ l : List (κ × β), dget (l.map fun p => if p.1 = k then (k, v) else p) x = if x = k then (dget l k).map (fun _ => v) else dget l x := by
    intro l
    induction l with
    | nil => split <;> rfl
    | cons a l ih =>
      unfold dget at ih ⊢
      rw [List.map_cons, List.find?_cons, List.find?_cons, List.find?_cons]
      by_cases h : a.1 = k
      · by_cases h2 : x = k
        · simp [h, h2]
        · have h3 : ¬ k = x := fun z => h2 z.symm
          simp only [h, if_true, decide_eq_false h3, h2, if_false] at ih ⊢
          exact ih
      · by_cases h2 : x = k
        · subst h2
          simp only [h, if_false, decide_false, if_true] at ih ⊢
          exact ih
        · by_cases h3 : a.1 = x
          · subst h3
            simp [h]
          · simp only [h, h2, h3, if_false, decide_false] at ih ⊢
            exact ih
  intro l
  unfold dput
  rw [any l]
  cases h : dget l k with
  | some b =>
    simp only [Option.isSome_some, if_true]
    rw [map l, h]
    rfl
  | none =>
    simp only [Option.isSome_none, Bool.false_eq_true, if_false]
    unfold dget at h ⊢
    rw [List.find?_append]
    by_cases h2 : x = k
    · subst h2
      rw [if_pos rfl]
      have : l.find? (fun p => decide (p.1 = x)) = none := by simpa using h
      rw [this]
      simp
    · rw [if_neg h2]
      have h3 : ¬ k = x := fun z => h2 z.symm
      cases q : l.find? (fun p => decide (p.1 = x)) with
      | some b => rfl
      | none => simp [h3]
theorem jn_ne {w s : Int} (h0 : 0 ≤ s) (h1 : s < 4) : jn w s ≠ s := by
  have hs : s = 0 ∨ s = 1 ∨ s = 2 ∨ s = 3 := by omega
  unfold jn
  rcases hs with rfl | rfl | rfl | rfl <;> repeat' split
  all_goals omega
theorem par_ne {c : Nat → Int} {e : Int} (h0 : 0 ≤ e) : par c e ≠ e := by
  have h := jn_ne (w := c (e / 4).toNat) (s := e % 4) (by omega) (by omega)
  unfold par
  omega
section
variable {s p f : Int → Int} {e : Int} {m : Nat} (hs : ∀ x, s x = f (p x)) (hpi : ∀ x : Int, 0 ≤ x → x < m → 0 ≤ p x ∧ p x < m ∧ p (p x) = x ∧ p x ≠ x) (hfi : ∀ x : Int, 0 ≤ x → x < m → 0 ≤ f x ∧ f x < m ∧ f (f x) = x ∧ f x ≠ x) (h0 : 0 ≤ e) (h1 : e < m)
include hs hpi hfi h0 h1
theorem orb_rng (k : Nat) : 0 ≤ orb s e k ∧ orb s e k < m := orb_in (fun x a b => by
  rw [hs]
  have := hpi x a b
  have := hfi (p x) this.1 this.2.1
  exact ⟨this.1, this.2.1⟩) h0 h1 k
theorem s_inj {x y : Int} (a : 0 ≤ x) (b : x < m) (c : 0 ≤ y) (d : y < m) (h : s x = s y) : x = y := by
  rw [hs, hs] at h
  have a1 := hpi x a b
  have a2 := hpi y c d
  have b1 := hfi (p x) a1.1 a1.2.1
  have b2 := hfi (p y) a2.1 a2.2.1
  have : p x = p y := by rw [← b1.2.2.1, h, b2.2.2.1]
  rw [← a1.2.2.1, this, a2.2.2.1]
theorem orb_sub (i d : Nat) (h : orb s e i = orb s e (i + d)) : orb s e d = e := by
  induction i generalizing d with
  | zero => rw [Nat.zero_add] at h; exact h.symm
  | succ i ih =>
    refine ih d ?_
    rw [show i + 1 + d = (i + d) + 1 by omega] at h
    have a := orb_rng hs hpi hfi h0 h1 i
    have b := orb_rng hs hpi hfi h0 h1 (i + d)
    exact s_inj hs hpi hfi h0 h1 a.1 a.2 b.1 b.2 h
/-- no end of a round is the partner of one at which it comes in -/
theorem orb_par (i d : Nat) : p (orb s e i) ≠ orb s e (i + d) := by
  induction d using Nat.strongRecOn generalizing i with
  | _ d ih =>
    intro h
    have a := orb_rng hs hpi hfi h0 h1 i
    have a1 := hpi _ a.1 a.2
    match d with
    | 0 => exact a1.2.2.2 h
    | 1 =>
      have e1 : orb s e (i + 1) = f (p (orb s e i)) := hs _
      have := (hfi _ a1.1 a1.2.1).2.2.2
      rw [← e1, ← h] at this
      exact this rfl
    | d + 2 =>
      refine ih d (by omega) (i + 1) ?_
      have b := orb_rng hs hpi hfi h0 h1 (i + d + 1)
      have b1 := hpi _ b.1 b.2
      have e1 : orb s e (i + (d + 2)) = f (p (orb s e (i + d + 1))) := hs _
      have e2 : orb s e (i + 1) = f (p (orb s e i)) := hs _
      have e3 : f (orb s e (i + (d + 2))) = p (orb s e (i + d + 1)) := by
        rw [e1]
        exact (hfi _ b1.1 b1.2.1).2.2.1
      rw [h, e3] at e2
      rw [e2, b1.2.2.1, show i + 1 + d = i + d + 1 by omega]
theorem orb_par' (i j : Nat) : p (orb s e i) ≠ orb s e j := by
  rcases Nat.le_total i j with h | h
  · have := orb_par hs hpi hfi h0 h1 i (j - i)
    rwa [show i + (j - i) = j by omega] at this
  · intro z
    have a := orb_rng hs hpi hfi h0 h1 i
    have a1 := hpi _ a.1 a.2
    have := orb_par hs hpi hfi h0 h1 j (i - j)
    rw [show j + (i - j) = i by omega] at this
    apply this
    rw [← z, a1.2.2.1]
omit hs hpi hfi h0 h1 in
theorem mem_wl {x : Int} : ∀ k, x ∈ wl s p e k ↔ ∃ i, i < k ∧ (x = orb s e i ∨ x = p (orb s e i))
  | 0 => by simp [wl]
  | k + 1 => by
    show x ∈ wl s p e k ++ [_, _] ↔ _
    rw [List.mem_append, mem_wl k]
    constructor
    · rintro (⟨i, h, h2⟩ | h)
      · exact ⟨i, by omega, h2⟩
      · simp at h
        exact ⟨k, by omega, h⟩
    · rintro ⟨i, h, h2⟩
      by_cases hk : i < k
      · exact .inl ⟨i, hk, h2⟩
      · have : i = k := by omega
        subst this
        exact .inr (by simpa using h2)
theorem wl_nodup (k : Nat) (hk : ∀ j, 1 ≤ j → j < k → orb s e j ≠ e) : (wl s p e k).Nodup := by
  induction k with
  | zero => exact List.nodup_nil
  | succ k ih =>
    have ih := ih fun j a b => hk j a (by omega)
    have hd : ∀ i, i < k → orb s e k ≠ orb s e i := fun i hi z => by
      have := orb_sub hs hpi hfi h0 h1 i (k - i) (by rw [show i + (k - i) = k by omega]; exact z.symm)
      exact hk (k - i) (by omega) (by omega) this
    have hp := fun i => hpi _ (orb_rng hs hpi hfi h0 h1 i).1 (orb_rng hs hpi hfi h0 h1 i).2
    show (wl s p e k ++ [_, _]).Nodup
    refine List.nodup_append.mpr ⟨ih, by simpa using fun z => orb_par' hs hpi hfi h0 h1 k k z.symm, ?_⟩
    intro x hx y hy z
    subst z
    obtain ⟨i, hi, hx⟩ := (mem_wl k).mp hx
    simp at hy
    rcases hy with rfl | rfl <;> rcases hx with hx | hx
    · exact hd i hi hx
    · exact orb_par' hs hpi hfi h0 h1 i k hx.symm
    · exact orb_par' hs hpi hfi h0 h1 k i hx
    · refine hd i hi ?_
      rw [← (hp k).2.2.1, hx, (hp i).2.2.1]
end
theorem wl_get {s p : Int → Int} {e : Int} : ∀ {k i : Nat}, i < k → (wl s p e k)[2 * i]? = some (orb s e i) ∧ (wl s p e k)[2 * i + 1]? = some (p (orb s e i))
  | 0, _, h => absurd h (by omega)
  | k + 1, i, h => by
    have hl := wl_len s p e k
    show (wl s p e k ++ [_, _])[2 * i]? = _ ∧ (wl s p e k ++ [_, _])[2 * i + 1]? = _
    by_cases hk : i < k
    · rw [List.getElem?_append_left (by omega), List.getElem?_append_left (by omega)]
      exact wl_get hk
    · have : i = k := by omega
      subst this
      rw [List.getElem?_append_right (by omega), List.getElem?_append_right (by omega), hl]
      simp
end Ty

set_option maxHeartbeats 1000000
/-! ## Ty20: list(reversed(x)) -/
namespace RT
open PySem PySem.Spec PyProof.Rows L2
section
variable {prog : Program} {w : World} {A : Around} {E : Value → Shared → Prop} {s : Shared}
theorem call_list_rev {it l : Addr} {items : Array Value} {Q : Value → Shared → Prop} (hh : A.handled = none) (hit : s.heap.IsRevIter it l ((items.size : Int) - 1)) (hl : s.heap.IsList l items) (hne : l ≠ it) (hn : items.size ≤ sizeLine)
    (hQ : ∀ (h' : Heap) (tk : Nat) (acc : Array Value) (c' : Nat), (∀ b o, b ≠ it → s.heap.get? b = some o → h'.get? b = some o) → h'.get? s.heap.objs.size = some { cls := .type "list", dict := none, data := .seq acc c', slots := #[] } → ItemsOf (fun i v => items[items.size - 1 - i]? = some v) acc items.size → Q (.ref s.heap.objs.size) { s with heap := h', toks := tk }) :
    wpAny (model prog w) A (call (.type "list") [.ref it]) Q E s := by
  have W := (Walks.listRev (prog := prog) (w := w) (A := A.in1.in1) hh it l hne items).toS
  obtain ⟨oi, hoi, _⟩ := id hit
  obtain ⟨ol, hol, _⟩ := id hl
  have hSi : s.heap.objs.size ≠ it := Nat.ne_of_gt (Heap.lt_size hoi)
  have hSl : s.heap.objs.size ≠ l := Nat.ne_of_gt (Heap.lt_size hol)
  have hSf : s.heap.objs.size ∉ [it, l] := by simp only [List.mem_cons, List.not_mem_nil, or_false, not_or]; exact ⟨hSi, hSl⟩
  refine callType_codes (Q₁ := fun obj s₁ => obj = .ref s.heap.objs.size ∧ s₁ = { s with heap := s.heap.push { cls := .type "list", data := .seq #[] } }) F.called_list (F.typeCall_list_1 _) F.entry_list_init
    (code_list_new _ ⟨rfl, rfl⟩) fun obj s₁ h₁ => ?_
  obtain ⟨rfl, rfl⟩ := h₁
  have hS₁ : (s.heap.push { cls := .type "list", data := .seq #[] }).get? s.heap.objs.size = some { cls := .type "list", data := .seq #[] } := Heap.get?_push_size _ rfl
  refine ⟨⟨_, hS₁, rfl⟩, F.args_list_init_2 _ _, ?_⟩
  show wpAny _ A.in1.in1 (do let old ← Builtin.List.listItems (.ref s.heap.objs.size); Builtin.List.listUpdate (.ref s.heap.objs.size) (fun _ => #[]); letGo old.toList.reverse; Builtin.List.listExtendWith (.ref s.heap.objs.size) (.ref it) .none) _ _ _
  refine wpAny_bind ?_
  unfold Builtin.List.listItems
  refine wpAny_bind (wpAny_seqItems hS₁ rfl (wpAny_pure ?_))
  show wpAny _ A.in1.in1 (updateSeq s.heap.objs.size (fun _ => #[]) >>= fun _ => letGo (#[] : Array Value).toList.reverse >>= fun _ => Builtin.List.listExtendWith (.ref s.heap.objs.size) (.ref it) .none) _ _ _
  refine wpAny_bind (wpAny_updateSeq hS₁ rfl ?_)
  have hS₂ := Heap.get?_update_self (Obj.mapSeq (fun _ => (#[] : Array Value))) hS₁ rfl
  have oth : ∀ b o, b ≠ s.heap.objs.size → s.heap.get? b = some o → ((s.heap.push { cls := .type "list", data := .seq #[] }).update s.heap.objs.size (Obj.mapSeq (fun _ => (#[] : Array Value)))).get? b = some o :=
    fun b o hb e => (Heap.get?_update_other _ _ (Ne.symm hb)).trans (Heap.get?_push_of_some _ e)
  refine wpAny_bind (wpAny_letGo ?_)
  generalize hh2 : (s.heap.push { cls := .type "list", data := .seq #[] }).update s.heap.objs.size (Obj.mapSeq (fun _ => (#[] : Array Value))) = h2 at *
  have hit1 : h2.IsRevIter it l ((items.size : Int) - 1) := hit.at fun o e => oth _ _ (Ne.symm hSi) e
  have hl1 : h2.IsList l items := hl.at fun o e => oth _ _ (Ne.symm hSl) e
  have hT : ({ s with heap := h2 } : Shared).TypeIs (.ref it) "list_reverseiterator" := Heap.IsRevIter.typeIs (s := { s with heap := h2 }) hit1
  have h1 : Builtin.List.listSameRef (.ref s.heap.objs.size) (.ref it) = false := by simp [Builtin.List.listSameRef, hSi]
  unfold Builtin.List.listExtendWith
  refine wpAny_bind (wpAny_typeOf hT ?_)
  rw [if_neg (by rw [h1]; decide)]
  refine wpAny_bind (wpAny_pyIter_revIter (s := { s with heap := h2 }) hit1 ?_)
  refine wpAny_bind (wpAny_holding ?_)
  unfold Builtin.List.listLengthHint
  refine wpAny_bind (wpAny_specialOf hT nolen_lri ?_)
  show wpAny _ A.in1.in1 (specialOf (Value.ref it) (Str.ofString "__length_hint__") >>= _) _ _ _
  refine wpAny_bind (wpAny_specialOf hT hint_lri ?_)
  generalize hid : ("list_reverseiterator.__length_hint__" : String) = id0
  wp_delta
  rw [show splitId id0 = some ("list_reverseiterator", "__length_hint__") from by subst hid; decide +kernel]
  subst hid
  refine wpAny_bind (wpAny_isInstance (b := true) hT (by rw [isSubtype_type]; kernel_rfl) ?_)
  refine wpAny_pure ?_
  rw [if_neg (by decide)]
  have e0 : ((items.size : Nat) : Int) - 1 - ((0 : Nat) : Int) = (items.size : Int) - 1 := by omega
  refine wpAny_pure ⟨plainId_quiet F.plain_extend_loop _, codeAny_extend_loopS W hn _ hSf _ items.size 0 _ _ _ rfl (Nat.zero_le _) ⟨Nat.zero_le _, by rw [e0]; exact hit1, hl1⟩ hS₂ (ItemsOf.nil _) fun s' acc' c' hm hS' hacc => ?_⟩
  refine ⟨rfl, ?_⟩
  rw [Moved.eq_with hm]
  refine hQ s'.heap s'.toks acc' c' (fun b o hb e => hm.heap b o (fun hmem => ?_) (oth b o (Nat.ne_of_lt (Heap.lt_size e)) e)) hS' hacc
  rcases List.mem_cons.mp hmem with e' | hmem
  · exact absurd (Heap.lt_size e) (by rw [e']; exact Nat.lt_irrefl _)
  · exact hb (List.mem_singleton.mp hmem)
end
section
variable {X : Cx}
def tLstRev (K : PySem.W.Frag) (te : TE) : TE := fun σ H Q => te σ H fun v H1 => ∃ (a : Addr) (xs : List V), v = .ref a ∧ SqL K H1 a xs ∧ ∀ q, H1 q = none → Q (.ref q) (upd H1 q (.lst xs.reverse))
theorem pe_listRev {e : Expr} {te : TE} {p p2 pos pos2 : Pos} (hc : X.calm = true) (hg : Gl X "list") (hm : X.mg "list" = none) (hg2 : Gl X "reversed") (hm2 : X.mg "reversed" = none) (he : PE X e te)
    (hs : starEach [e] X.env = (false, eval e X.env) :: starEach [] X.env := by rfl)
    (hs2 : starEach [.Call (.Name "reversed" p2) [e] [] pos2] X.env = (false, eval (.Call (.Name "reversed" p2) [e] [] pos2) X.env) :: starEach [] X.env := by rfl) :
    PE X (.Call (.Name "list" p) [.Call (.Name "reversed" p2) [e] [] pos2] [] pos) (tLstRev X.K te) := by
  refine ⟨fun pins s σ H Q I h => ?_⟩
  refine Call_ (ld_blt I hg hm boot_list (PyProof.Rows.callWith_type1 (args_cons (Call_ (ld_blt I hg2 hm2 PyProof.Rows.boot_reversed (PyProof.Rows.callWith_type1 (args_cons (thn (he.run pins s σ H _ I h) fun u s1 ⟨v, H1, I1, r1, q1⟩ => args_nil ?_) hs) hs rfl))) hs2) hs2 rfl))
  obtain ⟨a, xs, ev, hq, q⟩ := q1
  subst ev
  obtain rfl : u = Value.ref a := r1
  obtain ⟨its, rv, p', hz⟩ := I1.list hq
  refine call_reversed_list p'.isList (args_nil ?_)
  have k0 : ∀ b o, s1.heap.get? b = some o → (s1.heap.push (revObj a ((its.toArray.size : Int) - 1))).get? b = some o := fun b o e => Heap.get?_push_of_some _ e
  have I2 : Inv X pins σ H1 { s1 with heap := s1.heap.push (revObj a ((its.toArray.size : Int) - 1)) } := I1.kept (t' := s1.toks) k0
  obtain ⟨f0, f1, f2, f3, f4, f5⟩ := I1.fpOk (H' := H1) (b := s1.heap.objs.size) (Nat.le_refl _) (I1.hok.fresh (Nat.le_refl _))
  have hl := p'.isList
  obtain ⟨ol, hol, _⟩ := id hl
  have hne : a ≠ s1.heap.objs.size := Nat.ne_of_lt (Heap.lt_size hol)
  have hn : its.toArray.size ≤ sizeLine := by rw [List.size_toArray, ← rv.length]; exact hz
  refine call_list_rev (s := { s1 with heap := s1.heap.push (revObj a ((its.toArray.size : Int) - 1)) }) (I1.ok.hd hc) ⟨_, Heap.get?_push_size _ rfl, rfl, rfl⟩ (hl.push _) hne hn fun h' tk acc c' hk e' hi => ?_
  have hk1 : ∀ b o, s1.heap.get? b = some o → h'.get? b = some o := fun b o e => hk b o (Nat.ne_of_lt (Heap.lt_size e)) (k0 b o e)
  have sz : s1.heap.objs.size ≤ (s1.heap.push (revObj a ((its.toArray.size : Int) - 1))).objs.size := by show s1.heap.objs.size ≤ (s1.heap.objs.push _).size; rw [Array.size_push]; exact Nat.le_succ _
  refine ⟨.ref _, upd H1 _ (.lst xs.reverse), I1.laid hk1 sz (show ObjOk X.prog X.w _ _ _ (.lst xs.reverse) from ⟨by rw [List.length_reverse]; exact hz, acc.toList, c', vals_rev rv hi, ?_⟩), rfl, q _ (I1.hok.fresh sz)⟩
  rw [Array.toArray_toList]
  exact e'
end
end RT
namespace Ty
open PySem PySem.Spec PyProof.Rows L2
section
variable {X : Cx} {Γ : Ctx} {S L ρ α β γ A B S' : Type} [Rp ρ] {o : Ow ρ} {Γo : S → Ctx} {ΓL : L → Ctx} {a b e f : Expr} {es : List Expr} {pos p apos cpos pos2 : Pos} {ta tb te tf : TE} {t : TA} {sts : List Stmt} {tr tr' : TS} {tg : Expr}
theorem ex_listRev {K : PySem.W.Frag} [Rp α] {m : M (List α)} (hc : X.calm = true) (ml : X.mg "list" = none) (mr : X.mg "reversed" = none) (h : EX X Γ e Ow.v m te) (hg : Gl X "list" := by rfl) (hg2 : Gl X "reversed" := by rfl) (h1 : starEach [e] X.env = (false, eval e X.env) :: starEach [] X.env := by rfl)
    (h2 : starEach [.Call (.Name "reversed" p) [e] [] pos] X.env = (false, eval (.Call (.Name "reversed" p) [e] [] pos) X.env) :: starEach [] X.env := by rfl) (hK : X.K = K := by rfl) : EX X Γ (.Call (.Name "list" apos) [.Call (.Name "reversed" p) [e] [] pos] [] cpos) (Ow.l (Ow.v : Ow α)) (do let a ← m; pure a.reverse) (RT.tLstRev K te) := by
  subst hK
  exact ⟨RT.pe_listRev hc hg ml hg2 mr h.pe h1 h2, fun HF0 G HF H σ g c hc' Q k => by
    obtain ⟨x, e1, hc'⟩ := bind_ok hc'
    cases pure_ok hc'
    refine h.sem HF0 G HF H σ g x e1 _ fun v HF1 H1 fp st r n f => ?_
    obtain ⟨⟨q, us, e2, h3, h4⟩, _⟩ := r
    refine ⟨q, us, e2, SqL.of (st.sub _ _ h3), fun q' hq => ?_⟩
    exact (show RetK X.K HF1 H1 (Ow.l (Ow.v : Ow α)) x.reverse Q from fun v' HF' H' fp' st' r' n' f' => k v' HF' H' fp' (st.trans st') r' n' (fun p hp => ⟨st.exH.free (f' p hp).1, (f' p hp).2⟩)).lst st.sub h4.reverse hq⟩
end
end Ty

/-! ## Ty21: for r in x: r[i] = e -/
namespace Ty
open PySem PySem.Spec PyProof.Rows L2
section
variable {X : Cx} {Γ : Ctx} {S L ρ α β γ A B S' : Type} [Rp ρ] {o : Ow ρ} {Γo : S → Ctx} {ΓL : L → Ctx} {a b e f : Expr} {es : List Expr} {pos p p1 p5 apos cpos pos2 : Pos} {ta tb te tf : TE} {t : TA} {sts : List Stmt} {tr tr' : TS} {tg : Expr}
end
end Ty

/-! ## Ty22: more for the mathematics -/
namespace Ty
open PySem L2
theorem enum_row {α : Type} (n : Nat) (g : Nat → α) : enumL (row n g) = row n fun k => ((k : Int), g k) := by
  unfold enumL row
  apply List.ext_getElem?
  intro i
  simp [List.getElem?_zipIdx]
  by_cases h : i < n
  · simp [h]
  · simp [h]
end Ty

/-! ## Ty23: a thing or None; x.insert(i, x.pop(j)) -/
namespace Ty
open PySem PySem.Spec PyProof.Rows L2
structure Op (α : Type) where
  o : Option α
  deriving DecidableEq
instance {α : Type} : Inhabited (Op α) := ⟨⟨none⟩⟩
instance rpOp {α : Type} [Rp α] : Rp (Op α) where
  sh K H v x := match x.o with
    | none => v = .non
    | some a => Rp.sh K H v a
  mono := fun {K H H' v a} e h => by
    obtain ⟨o⟩ := a
    cases o with
    | none => exact h
    | some a => exact Rp.mono e h
def Ow.op {α : Type} [Rp α] (o : Ow α) : Ow (Op α) where
  rep K HF H v x fp := match x.o with
    | none => v = .non ∧ fp = []
    | some a => o.rep K HF H v a fp
  mono := fun {K HF HF' H H' v a fp} e k h => by
    obtain ⟨x⟩ := a
    cases x with
    | none => exact h
    | some a => exact o.mono e k h
  dom := fun {K HF H v a fp} h => by
    obtain ⟨x⟩ := a
    cases x with
    | none =>
      intro p hp
      have e : fp = [] := h.2
      subst e; cases hp
    | some a => exact o.dom h
  frz := fun {K HF HF' H v a fp} e k h => by
    obtain ⟨x⟩ := a
    cases x with
    | none => exact h.1
    | some a => exact o.frz e k h
instance indOp {α : Type} [Rp α] {o : Ow α} [Ind o] : Ind o.op where
  ind := fun {K HF HF' H v a fp} h => by
    obtain ⟨x⟩ := a
    cases x with
    | none => exact h
    | some a => exact Ind.ind (o := o) h
/-- things that stand in the heap -/
class Ob (α : Type) [Rp α] : Prop where
  ref : ∀ {K : PySem.W.Frag} {H : Hp} {v : V} {a : α}, Rp.sh K H v a → ∃ p, v = .ref p
instance {α : Type} [Rp α] : Ob (List α) := ⟨fun ⟨p, _, e, _⟩ => ⟨p, e⟩⟩
instance {α : Type} [Rp α] : Ob (Tu α) := ⟨fun ⟨p, _, e, _⟩ => ⟨p, e⟩⟩
instance {α β : Type} [Rp α] [Rp β] : Ob (α × β) := ⟨fun ⟨p, _, _, e, _⟩ => ⟨p, e⟩⟩
section
variable {X : Cx} {Γ : Ctx} {S L ρ α β γ A B S' : Type} [Rp ρ] {o : Ow ρ} {Γo : S → Ctx} {ΓL : L → Ctx} {a b e f : Expr} {es : List Expr} {pos p p1 p5 apos cpos pos2 : Pos} {ta tb te tf : TE} {t : TA} {sts : List Stmt} {tr tr' : TS} {tg : Expr}
theorem ex_opS [Rp α] {w : Ow α} {m : M α} (h : EX X Γ e w m te) : EX X Γ e w.op (do let a ← m; pure (⟨some a⟩ : Op α)) te :=
  ⟨h.pe, fun HF0 G HF H σ g c hc Q k => by
    obtain ⟨i, e1, e2⟩ := bind_ok hc
    cases pure_ok e2
    exact h.sem HF0 G HF H σ g i e1 Q fun v HF' H' fp st r n f => k v HF' H' fp st r n f⟩
theorem ex_unOv [Rp α] {m : M (Op α)} (h : EX X Γ e Ow.v m te) : EX X Γ e Ow.v (do let a ← m; ofO a.o) te :=
  ⟨h.pe, fun HF0 G HF H σ g c hc Q k => by
    obtain ⟨⟨i⟩, e1, e2⟩ := bind_ok hc
    have e3 : i = some c := ofO_ok e2
    subst e3
    exact h.sem HF0 G HF H σ g _ e1 Q fun v HF' H' fp st r n f => k v HF' H' fp st r n f⟩
theorem ec_isOp [Rp α] [Ob α] {j p2} {ma : M (Op α)} (ha : EX X Γ a Ow.v ma ta) : EC X Γ .Is a (.Constant .none j p2) (do let a ← ma; pure a.o.isNone) rIsNo ta (tC .non) :=
  ⟨op_isN, ha.pe, pe_non, nomark _, fun HF0 G HF H σ g c hc Q k => by
    obtain ⟨⟨x⟩, e1, hc⟩ := bind_ok hc
    cases pure_ok hc
    refine ha.sem HF0 G HF H σ g _ e1 _ fun v HF1 H1 fp s1 r1 _ _ => ⟨rfl, ?_⟩
    have q : decide (v = V.non) = x.isNone := by
      cases x with
      | none => exact decide_eq_true r1.1
      | some x =>
        obtain ⟨p, e⟩ := Ob.ref (show Rp.sh X.K HF1 v x from r1.1)
        subst e; rfl
    rw [q]
    exact (k.back s1).flat s1.sub⟩
end
end Ty

/-! ## Ty24: {k: v}; max, min of a list; for x in l: d[x] = e -/
namespace Ty
open PySem PySem.Spec PyProof.Rows L2
section
variable {X : Cx} {Γ : Ctx} {S L ρ α β κ γ A B S' : Type} [Rp ρ] {o : Ow ρ} {Γo : S → Ctx} {ΓL : L → Ctx} {a b e f : Expr} {es : List Expr} {pos p p1 p5 apos cpos pos2 : Pos} {ta tb te tf : TE} {t : TA} {sts : List Stmt} {tr tr' : TS} {tg : Expr}
end
end Ty

/-! ## Ty25: abs -/
namespace Ty
open PySem PySem.Spec PyProof.Rows L2
section
variable {X : Cx} {Γ : Ctx} {e : Expr} {pos p : Pos} {te : TE}
end
end Ty

/-! ## Ty26: a loop that looks at own things, which stay own -/
namespace Ty
open PySem PySem.Spec PyProof.Rows L2
/-- a thing, and the value that stands for it -/
structure Pn (α : Type) where
  v : V
  a : α
instance rpPn {α : Type} [Rp α] : Rp (Pn α) where
  sh K H w x := w = x.v ∧ Rp.sh K H w x.a
  mono := fun e ⟨h1, h2⟩ => ⟨h1, Rp.mono e h2⟩
/-- those told by true lean on nothing shared -/
inductive IndC : List Bool → Ctx → Prop where
  | n : IndC [] []
  | p {fl : List Bool} {s : Sl} {Γ : Ctx} : IndC fl Γ → IndC (false :: fl) (s :: Γ)
  | u {fl : List Bool} {Γ : Ctx} : IndC fl Γ → IndC (true :: fl) (.un :: Γ)
  | i {α : Type} [Rp α] {o : Ow α} [Ind o] {a : α} {fl : List Bool} {Γ : Ctx} : IndC fl Γ → IndC (true :: fl) (.mk o a :: Γ)
/-- behind the loop -/
inductive Pe (vs : Nat → V) : Nat → List Bool → Ctx → Ctx → Ctx → Prop where
  | n {i : Nat} : Pe vs i [] [] [] []
  | p {α : Type} [Rp α] {o : Ow α} {a : α} {i : Nat} {fl : List Bool} {Γ Δ Θ : Ctx} : Pe vs (i + 1) fl Γ Δ Θ → Pe vs i (false :: fl) (.mk o a :: Γ) (.mk (α := Pn α) Ow.v ⟨vs i, a⟩ :: Δ) (.mk o a :: Θ)
  | u {f : Bool} {s t : Sl} {i : Nat} {fl : List Bool} {Γ Δ Θ : Ctx} : Pe vs (i + 1) fl Γ Δ Θ → Pe vs i (f :: fl) (s :: Γ) (t :: Δ) (.un :: Θ)
  | i {f : Bool} {α : Type} [Rp α] {o : Ow α} [Ind o] {a : α} {s : Sl} {i : Nat} {fl : List Bool} {Γ Δ Θ : Ctx} : Pe vs (i + 1) fl Γ Δ Θ → Pe vs i (f :: fl) (s :: Γ) (.mk o a :: Δ) (.mk o a :: Θ)
/-- the names told by true own fc, the others fn -/
def SplitH (K : PySem.W.Frag) (HF H : Hp) : List Bool → Ctx → L2.St → List Addr → List Addr → Prop
  | [], [], [], fc, fn => fc = [] ∧ fn = []
  | true :: fl, s :: Γ, x :: σ, fc, fn => ∃ f1 c2, HoldS K HF H s x f1 ∧ SplitH K HF H fl Γ σ c2 fn ∧ fc = f1 ++ c2
  | false :: fl, s :: Γ, x :: σ, fc, fn => ∃ f1 n2, HoldS K HF H s x f1 ∧ SplitH K HF H fl Γ σ fc n2 ∧ fn = f1 ++ n2
  | _, _, _, _, _ => False
theorem IndC.split {K : PySem.W.Frag} {HF H : Hp} : ∀ {fl : List Bool} {Γ : Ctx}, IndC fl Γ → ∀ {σ : L2.St} {fs : List Addr}, Holds K HF H Γ σ fs → fs.Nodup → ∃ fc fn : List Addr, SplitH K HF H fl Γ σ fc fn ∧ (∀ p, p ∈ fs ↔ p ∈ fc ∨ p ∈ fn) ∧ fc.Nodup ∧ fn.Nodup ∧ ∀ p ∈ fc, p ∉ fn := by
  intro fl Γ h
  have cT : ∀ {fl : List Bool} {s : Sl} {Γ : Ctx}, (∀ {σ : L2.St} {fs : List Addr}, Holds K HF H Γ σ fs → fs.Nodup → ∃ fc fn : List Addr, SplitH K HF H fl Γ σ fc fn ∧ (∀ p, p ∈ fs ↔ p ∈ fc ∨ p ∈ fn) ∧ fc.Nodup ∧ fn.Nodup ∧ ∀ p ∈ fc, p ∉ fn) →
      ∀ {σ : L2.St} {fs : List Addr}, Holds K HF H (s :: Γ) σ fs → fs.Nodup → ∃ fc fn : List Addr, SplitH K HF H (true :: fl) (s :: Γ) σ fc fn ∧ (∀ p, p ∈ fs ↔ p ∈ fc ∨ p ∈ fn) ∧ fc.Nodup ∧ fn.Nodup ∧ ∀ p ∈ fc, p ∉ fn := by
    intro fl s Γ ih σ fs h nd
    cases σ with
    | nil => exact h.elim
    | cons x σ =>
      obtain ⟨f1, f2, e, h1, h2⟩ := h
      rw [e] at nd
      obtain ⟨n1, n2, n3⟩ := List.nodup_append.mp nd
      obtain ⟨fc, fn, q0, q1, q2, q3, q4⟩ := ih h2 n2
      refine ⟨f1 ++ fc, fn, ⟨f1, fc, h1, q0, rfl⟩, fun p => ?_, List.nodup_append.mpr ⟨n1, q2, fun p hp q hq => n3 p hp q ((q1 q).mpr (.inl hq))⟩, q3, fun p hp hq => ?_⟩
      · rw [e, List.mem_append, List.mem_append, q1]
        constructor
        · rintro (a | a | a)
          · exact .inl (.inl a)
          · exact .inl (.inr a)
          · exact .inr a
        · rintro ((a | a) | a)
          · exact .inl a
          · exact .inr (.inl a)
          · exact .inr (.inr a)
      · rcases List.mem_append.mp hp with z | z
        · exact n3 p z p ((q1 p).mpr (.inr hq)) rfl
        · exact q4 p z hq
  induction h with
  | n =>
    intro σ fs h nd
    cases σ with
    | nil =>
      have e : fs = [] := h
      subst e
      exact ⟨[], [], ⟨rfl, rfl⟩, fun p => by simp, List.nodup_nil, List.nodup_nil, by simp⟩
    | cons x σ => exact h.elim
  | @p fl s Γ _ ih =>
    intro σ fs h nd
    cases σ with
    | nil => exact h.elim
    | cons x σ =>
      obtain ⟨f1, f2, e, h1, h2⟩ := h
      rw [e] at nd
      obtain ⟨n1, n2, n3⟩ := List.nodup_append.mp nd
      obtain ⟨fc, fn, q0, q1, q2, q3, q4⟩ := ih h2 n2
      refine ⟨fc, f1 ++ fn, ⟨f1, fn, h1, q0, rfl⟩, fun p => ?_, q2, List.nodup_append.mpr ⟨n1, q3, fun p hp q hq => n3 p hp q ((q1 q).mpr (.inr hq))⟩, fun p hp hq => ?_⟩
      · rw [e, List.mem_append, List.mem_append, q1]
        constructor
        · rintro (a | a | a)
          · exact .inr (.inl a)
          · exact .inl a
          · exact .inr (.inr a)
        · rintro (a | a | a)
          · exact .inr (.inl a)
          · exact .inl a
          · exact .inr (.inr a)
      · rcases List.mem_append.mp hq with z | z
        · exact n3 p z p ((q1 p).mpr (.inl hp)) rfl
        · exact q4 p hp z
  | u _ ih => exact fun h nd => cT (fun h nd => ih h nd) h nd
  | i _ ih => exact fun h nd => cT (fun h nd => ih h nd) h nd
theorem Pe.join {K : PySem.W.Frag} {vs : Nat → V} {HF H L' H' : Hp} : ∀ {i : Nat} {fl : List Bool} {Γ Δ Θ : Ctx}, Pe vs i fl Γ Δ Θ → ∀ {σ σ' : L2.St} {fc fn fe : List Addr}, SplitH K HF H fl Γ σ fc fn → Holds K L' H' Δ σ' fe → (∀ j v, σ[j]? = some (some v) → vs (i + j) = v) → (∀ p ∈ fn, ∀ o, H p = some o → H' p = some o) → fn.Nodup → fe.Nodup → (∀ p ∈ fe, p ∉ fn) →
    ∃ fs', Holds K HF H' Θ σ' fs' ∧ fs'.Nodup ∧ ∀ p ∈ fs', p ∈ fe ∨ p ∈ fn := by
  intro i fl Γ Δ Θ h
  -- what of the split stays for the rest
  have rest : ∀ {f : Bool} {fl : List Bool} {s : Sl} {Γ : Ctx} {x : Option V} {σ : L2.St} {fc fn : List Addr}, SplitH K HF H (f :: fl) (s :: Γ) (x :: σ) fc fn → ∃ c2 n2, SplitH K HF H fl Γ σ c2 n2 ∧ (∀ p ∈ n2, p ∈ fn) ∧ (fn.Nodup → n2.Nodup) := by
    intro f fl s Γ x σ fc fn h
    cases f with
    | true =>
      obtain ⟨f1, c2, _, h2, _⟩ := h
      exact ⟨c2, fn, h2, fun p hp => hp, fun h => h⟩
    | false =>
      obtain ⟨f1, n2, _, h2, e⟩ := h
      subst e
      exact ⟨fc, n2, h2, fun p hp => List.mem_append_right _ hp, fun nd => (List.nodup_append.mp nd).2.1⟩
  induction h with
  | n =>
    intro σ σ' fc fn fe h1 h2 hv hk nn ne hd
    cases σ' with
    | nil => exact ⟨[], rfl, List.nodup_nil, by simp⟩
    | cons x σ' => exact h2.elim
  | @p α ir o a i fl Γ Δ Θ _ ih =>
    intro σ σ' fc fn fe h1 h2 hv hk nn ne hd
    cases σ with
    | nil => exact h1.elim
    | cons x σ =>
      cases σ' with
      | nil => exact h2.elim
      | cons x' σ' =>
        obtain ⟨f1, n2, ⟨v, hx, r⟩, h12, e⟩ := h1
        subst e hx
        obtain ⟨g1, g2, e', ⟨v', hx', ⟨e1, _⟩, e2⟩, h22⟩ := h2
        have e2 : g1 = [] := e2
        subst e2
        rw [List.nil_append] at e'
        subst e'
        obtain ⟨m1, m2, m3⟩ := List.nodup_append.mp nn
        obtain ⟨fs', w1, w2, w3⟩ := ih h12 h22 (fun j v hj => by rw [show i + 1 + j = i + (j + 1) by omega]; exact hv (j + 1) v hj) (fun p hp => hk p (List.mem_append_right _ hp)) m2 ne fun p hp hq => hd p hp (List.mem_append_right _ hq)
        have ev : v' = v := e1.trans (hv 0 v rfl)
        refine ⟨f1 ++ fs', ⟨f1, fs', rfl, ⟨v, by rw [hx', ev], @Ow.mono α ir o _ _ _ _ _ _ _ _ (Same.refl _) (fun p hp => hk p (List.mem_append_left _ hp)) r⟩, w1⟩, List.nodup_append.mpr ⟨m1, w2, fun p hp q hq e => ?_⟩, fun p hp => ?_⟩
        · subst e
          rcases w3 p hq with z | z
          · exact hd p z (List.mem_append_left _ hp)
          · exact m3 p hp p z rfl
        · rcases List.mem_append.mp hp with z | z
          · exact .inr (List.mem_append_left _ z)
          · exact (w3 p z).imp id (List.mem_append_right _)
  | @u f s t i fl Γ Δ Θ _ ih =>
    intro σ σ' fc fn fe h1 h2 hv hk nn ne hd
    cases σ with
    | nil => cases f <;> exact h1.elim
    | cons x σ =>
      cases σ' with
      | nil => exact h2.elim
      | cons x' σ' =>
        obtain ⟨c2, n2, h12, hn2, hnn⟩ := rest h1
        obtain ⟨g1, g2, e', _, h22⟩ := h2
        subst e'
        obtain ⟨m1, m2, m3⟩ := List.nodup_append.mp ne
        obtain ⟨fs', w1, w2, w3⟩ := ih h12 h22 (fun j v hj => by rw [show i + 1 + j = i + (j + 1) by omega]; exact hv (j + 1) v hj) (fun p hp => hk p (hn2 p hp)) (hnn nn) m2 fun p hp hq => hd p (List.mem_append_right _ hp) (hn2 p hq)
        exact ⟨fs', ⟨[], fs', rfl, rfl, w1⟩, w2, fun p hp => (w3 p hp).imp (List.mem_append_right _) (hn2 p)⟩
  | @i f α ir o io a s i fl Γ Δ Θ _ ih =>
    intro σ σ' fc fn fe h1 h2 hv hk nn ne hd
    cases σ with
    | nil => cases f <;> exact h1.elim
    | cons x σ =>
      cases σ' with
      | nil => exact h2.elim
      | cons x' σ' =>
        obtain ⟨c2, n2, h12, hn2, hnn⟩ := rest h1
        obtain ⟨g1, g2, e', ⟨v, hx, r⟩, h22⟩ := h2
        subst e'
        obtain ⟨m1, m2, m3⟩ := List.nodup_append.mp ne
        obtain ⟨fs', w1, w2, w3⟩ := ih h12 h22 (fun j v hj => by rw [show i + 1 + j = i + (j + 1) by omega]; exact hv (j + 1) v hj) (fun p hp => hk p (hn2 p hp)) (hnn nn) m2 fun p hp hq => hd p (List.mem_append_right _ hp) (hn2 p hq)
        refine ⟨g1 ++ fs', ⟨g1, fs', rfl, ⟨v, hx, Ind.ind r⟩, w1⟩, List.nodup_append.mpr ⟨m1, w2, fun p hp q hq e => ?_⟩, fun p hp => ?_⟩
        · subst e
          rcases w3 p hq with z | z
          · exact m3 p hp p z rfl
          · exact hd p (List.mem_append_left _ hp) (hn2 p z)
        · rcases List.mem_append.mp hp with z | z
          · exact .inl (List.mem_append_left _ z)
          · exact (w3 p z).imp (List.mem_append_right _) (hn2 p)
theorem Sub.rfl' : ∀ Γ : Ctx, Sub Γ Γ
  | [] => .n
  | _ :: Γ => .k (Sub.rfl' Γ)
section
variable {X : Cx} {Γ : Ctx} {S L ρ α β κ γ A B S' : Type} [Rp ρ] {o : Ow ρ} {Γo : S → Ctx} {ΓL : L → Ctx} {a b e f : Expr} {es : List Expr} {pos p p1 p5 apos cpos pos2 : Pos} {ta tb te tf : TE} {t : TA} {sts : List Stmt} {tr tr' : TS} {tg : Expr}
end
end Ty

/-! ## Ty27: x.pop() of own things -/
namespace Ty
open PySem PySem.Spec PyProof.Rows L2
section
variable {X : Cx} {Γ : Ctx} {S L ρ α β κ γ A B S' : Type} [Rp ρ] {o : Ow ρ} {Γo : S → Ctx} {ΓL : L → Ctx} {a b e f : Expr} {es : List Expr} {pos p p1 p5 apos cpos pos2 : Pos} {ta tb te tf : TE} {t : TA} {sts : List Stmt} {tr tr' : TS} {tg : Expr}
end
end Ty

/-! ## Ty28: own exceptions without own __init__: raised, let through, caught -/
namespace Ty
open PySem PySem.Spec PyProof.Rows L2
/-- the class of a name -/
abbrev clv (K : PySem.W.Frag) (c : Str) : Value := .ref (He.ga K c)
def vOf (K : PySem.W.Frag) (D : Str) : Value := if D = ("ValueError" : Str) then .type "ValueError" else clv K D
/-- what is told of the classes: c under D or not -/
abbrev CTab := List (Str × Str × Bool)
structure ExF (K : PySem.W.Frag) (names : List Str) (tb : CTab) : Prop where
  ok : ∀ c ∈ names, PySem.W.excIn K (He.ga K c) He.veBase "ValueError.__new__" = true ∧ PySem.W.keepIn K (clv K c) = true ∧ PySem.W.subIn K (clv K c) (.type "BaseException") = some true ∧ PySem.W.typeIn K (clv K c) = some (.type "type") ∧ PySem.W.nsIn K mainGlobals c = some (some (clv K c))
  cls : ∀ c ∈ names, ExcC K (He.ga K c)
  kit : ∀ {c D b}, (c, D, b) ∈ tb → PySem.W.kitOne K (clv K c) (vOf K D) = some b
  exm : ∀ {c D b}, (c, D, b) ∈ tb → PySem.W.exmOne K (clv K c) (vOf K D) = some b
theorem ExF.raises {X : Cx} {names : List Str} {tb : CTab} (T : ExF X.K names tb) {c : Str} (hc : c ∈ names) : Raises X (clv X.K c) := raises_own (T.ok c hc).2.2.1 (T.ok c hc).2.2.2.1
/-- a value, or the name of the class of what is raised -/
instance rpRs {ρ : Type} [Rp ρ] : Rp (ρ ⊕ Str) where
  sh K H v x := match x with
    | .inl r => Rp.sh K H v r
    | .inr _ => True
  mono := fun {K H H' v a} e h => by
    cases a with
    | inl r => exact Rp.mono e h
    | inr _ => trivial
def Ow.x {ρ : Type} [Rp ρ] (o : Ow ρ) (cl : Str → Value) (E : XK) : Ow (ρ ⊕ Str) where
  rep K HF H v x fp := match x with
    | .inl r => o.rep K HF H v r fp
    | .inr _ => fp = []
  mono := fun {K HF HF' H H' v a fp} e k h => by
    cases a with
    | inl r => exact o.mono e k h
    | inr _ => exact h
  dom := fun {K HF H v a fp} h p hp => by
    cases a with
    | inl r => exact o.dom h p hp
    | inr _ =>
      have h : fp = [] := h
      subst h; cases hp
  frz := fun {K HF HF' H v a fp} e k h => by
    cases a with
    | inl r => exact o.frz e k h
    | inr _ => trivial
  out x R v H := match x with
    | .inl r => o.out r R v H
    | .inr c => E (cl c) none H
section
variable {P : Program} {w : World} {K : PySem.W.Frag} {mg : Str → Option Value} {base : Heap}
end
section
variable {X : Cx} {Γ : Ctx} {S L ρ α β A S' : Type} [Rp ρ] {o : Ow ρ} {Γo : S → Ctx} {ΓL : L → Ctx} {a b e f : Expr} {es : List Expr} {pos p p1 p2 pos2 : Pos} {ta tb te tf : TE} {t : TA} {sts : List Stmt} {tr tr' : TS}
/-- an expression that may raise -/
structure EXr [Rp ρ] (X : Cx) (W : WX) (Γ : Ctx) (e : Expr) (o : Ow ρ) (m : M (ρ ⊕ Str)) (t : TE) : Prop where
  pe : PE X e t
  sem : ∀ HF0 G HF H σ, Good X.K HF0 G Γ HF H σ → ∀ c, m = .ok c → ∀ Q : VK, (match c with
    | .inl r => RetK X.K HF H o r Q
    | .inr x => ∀ HF' H', Step HF H HF' H' → W (clv X.K x) none σ H') → t σ H Q
section
variable {K : PySem.W.Frag} {E : XK}
end
/-! ### try -/
structure BX (X : Cx) (W : WX) (Γ : Ctx) (sts : List Stmt) (Γb : α → Ctx) (m : M (α ⊕ Str)) (t : TS) : Prop where
  pss : PSs X sts t
  sem : ∀ HF0 G HF H σ, Good X.K HF0 G Γ HF H σ → ∀ c, m = .ok c → ∀ D : Ends, (match c with
    | .inl a => ∀ HF' H' σ', Same HF HF' → Good X.K HF0 G (Γb a) HF' H' σ' → D.nx σ' H'
    | .inr x => ∀ HF' H', Step HF H HF' H' → W (clv X.K x) none σ H') → t D σ H
/-- the exception that a suite holds -/
structure ExO where
  a : Addr
instance : Rp ExO where
  sh _ _ v x := v = .ref x.a
  mono := fun _ h => h
end
end Ty

/-! ## Ty29: sorted(set(..)) of a list of whole numbers -/
namespace Ty
open PySem PySem.Spec PyProof.Rows L2
section
variable {P : Program} {w : World} {A : Around} {E : Value → Shared → Prop} {s : Shared}
end
/-- each once -/
def once (l : List Int) : List Int := l.foldr (fun x r => if x ∈ r then r else x :: r) []
theorem once_cons (x : Int) (l : List Int) : once (x :: l) = if x ∈ once l then once l else x :: once l := rfl
theorem mem_once {x : Int} : ∀ {l : List Int}, x ∈ once l ↔ x ∈ l
  | [] => Iff.rfl
  | y :: l => by
    rw [once_cons]
    have ih := mem_once (x := x) (l := l)
    split
    · rename_i h
      rw [ih, List.mem_cons]
      constructor
      · exact .inr
      · rintro (z | z)
        · rw [z]; exact mem_once.mp h
        · exact z
    · rw [List.mem_cons, List.mem_cons, ih]
theorem nodup_once : ∀ {l : List Int}, (once l).Nodup
  | [] => List.nodup_nil
  | y :: l => by
    rw [once_cons]
    split
    · exact nodup_once
    · exact List.nodup_cons.mpr ⟨‹_›, nodup_once⟩
/-- rising, each once -/
def sset (l : List Int) : List Int := isort (once l)
theorem isort_perm (l : List Int) : (isort l).Perm l := List.mergeSort_perm _ _
theorem isort_up (l : List Int) : (isort l).Pairwise (· ≤ ·) := by
  have h1 : List.Pairwise (fun a b : Int => decide (a ≤ b) = true) (isort l) := List.pairwise_mergeSort (fun a b c h1 h2 => by simp at *; omega) (fun a b => by simp; omega) l
  exact h1.imp fun h => by simpa using h
theorem mem_sset {x : Int} {l : List Int} : x ∈ sset l ↔ x ∈ l := (isort_perm _).mem_iff.trans mem_once
theorem sset_up (l : List Int) : (sset l).Pairwise (· < ·) := by
  have h1 := isort_up (once l)
  have h2 : (sset l).Nodup := (isort_perm _).nodup_iff.mpr nodup_once
  rw [List.nodup_iff_pairwise_ne] at h2
  exact (List.pairwise_and_iff.mpr ⟨h1, h2⟩).imp fun ⟨a, b⟩ => by omega
section
variable {X : Cx} {Γ : Ctx} {a : Expr} {p p2 q : Pos} {ta : TE}
end
end Ty

/-! ## Ty30: defs without a return; lists that may be another's -/
namespace Ty
open PySem PySem.Spec PyProof.Rows L2
section
variable {P : Program} {w : World} {K : PySem.W.Frag} {mg : Str → Option Value} {base : Heap}
end
/-- a thing that is own, or another's -/
structure Al (α : Type) where
  sh : Bool
  a : α
instance {α : Type} [Inhabited α] : Inhabited (Al α) := ⟨⟨true, default⟩⟩
instance rpAl {α : Type} [Rp α] : Rp (Al α) where
  sh K H v x := Rp.sh K H v x.a
  mono := fun e h => Rp.mono e h
def Ow.al {α : Type} [Rp α] (u : Ow α) : Ow (Al α) where
  rep K HF H v x fp := if x.sh then (Rp.sh K HF v x.a ∧ fp = []) else u.rep K HF H v x.a fp
  mono := fun {K HF HF' H H' v x fp} e k h => by
    cases q : x.sh with
    | true =>
      rw [q, if_pos rfl] at h
      rw [if_pos rfl]
      exact ⟨Rp.mono e h.1, h.2⟩
    | false =>
      rw [q, if_neg (by simp)] at h
      rw [if_neg (by simp)]
      exact u.mono e k h
  dom := fun {K HF H v x fp} h p hp => by
    cases q : x.sh with
    | true =>
      rw [q, if_pos rfl] at h
      rw [h.2] at hp; cases hp
    | false =>
      rw [q, if_neg (by simp)] at h
      exact u.dom h p hp
  frz := fun {K HF HF' H v x fp} e k h => by
    cases q : x.sh with
    | true =>
      rw [q, if_pos rfl] at h
      exact Rp.mono e h.1
    | false =>
      rw [q, if_neg (by simp)] at h
      exact u.frz e k h
section
variable {X : Cx} {Γ : Ctx} {S L ρ α β A S' : Type} [Rp ρ] {o : Ow ρ} {Γo : S → Ctx} {ΓL : L → Ctx} {a b e f : Expr} {es : List Expr} {pos p p1 p2 pos2 : Pos} {ta tb te tf : TE} {t : TA} {sts : List Stmt} {tr tr' : TS}
end
end Ty

/-! ## Ty31: things in lists of data; x.clear(); calls that could raise but don't -/
namespace Ty
open PySem PySem.Spec PyProof.Rows L2
theorem un65 {k : Nat} {A : Around} (r : Room k A) : A.units + 65 < cLine := by have := r.un; omega
section
variable {X : Cx} {Γ : Ctx} {S L ρ α β γ A B S' : Type} {o : Expr} {a b e : Expr} {es : List Expr} {pos p apos cpos p1 p2 : Pos} {ta tb te : TE} {t : TA} {sts : List Stmt} {tr : TS}
end
/-! ### x.clear() -/
section
variable {X : Cx} {Γ : Ctx} {S L ρ α : Type} [Rp ρ] {o : Ow ρ} {Γo : S → Ctx} {ΓL : L → Ctx} {pos p apos cpos : Pos} {sts : List Stmt} {tr : TS}
end
end Ty

/-! ## Ty32: a def that is handed the exception which an except suite holds -/
namespace Ty
open PySem PySem.Spec PyProof.Rows L2
/-- what is known of the exception at hand: its class is c -/
structure ExP (K : PySem.W.Frag) (c : Str) (p : Addr × Obj) : Prop where
  C : ExcC K (He.ga K c)
  hz : Zc (clv K c) none p.2
  hf : ∃ vs, p.2.data = .fields vs
def spE {ρ : Type} [Rp ρ] (K : PySem.W.Frag) (o : Ow ρ) (fm : Str → M ρ) (c : Str) (H : Hp) (Q : VK) : Prop := ∃ HF r, Same HF H ∧ fm c = .ok r ∧ RetK K HF H o r Q
structure FnE (P : Program) (w : World) (K : PySem.W.Frag) (mg : Str → Option Value) (base : Heap) (k : Nat) (f : Addr) (fd : FuncData) (y : Str) {ρ : Type} [Rp ρ] (o : Ow ρ) (fm : Str → M ρ) : Prop where
  run : ∀ (A : Around) (outer : List Env) (s : Shared) (H : Hp) (args : Args) (Q : VK) (E : XK) (p : Addr × Obj) (c : Str), L2H.RoomH k A → ExP K c p → L2H.PinOk outer H s p → Env0 P w K mg base A outer s H → BindsTo s fd args [(y, .ref p.1)] → spE K o fm c H Q →
    codeAny (model P w) A (.call (.ref f) args) (CR CX0 outer P w H s Q E) s
section
variable {P : Program} {w : World} {K : PySem.W.Frag} {mg : Str → Option Value} {base : Heap}
end
section
variable {X : Cx} {Γ : Ctx} {ρ : Type} [Rp ρ] {o : Ow ρ} {a b e f : Expr} {es : List Expr} {pos p p1 p2 pos2 : Pos} {ta tb te tf : TE} {t : TA}
end
/-! ### x.pop(i) of own things -/
theorem Rl.eraseIdx {α : Type} {R : V → α → List Addr → Prop} : ∀ {vs : List V} {as : List α} {fp : List Addr} (i : Nat), Rl R vs as fp → ∃ fp', Rl R (vs.eraseIdx i) (as.eraseIdx i) fp' ∧ (∀ p ∈ fp', p ∈ fp) ∧ (fp.Nodup → fp'.Nodup)
  | [], [], fp, _, h => ⟨fp, h, fun _ h => h, fun h => h⟩
  | v :: vs, a :: as, fp, 0, ⟨f1, f2, e, h1, h2⟩ => ⟨f2, h2, fun p hp => by rw [e]; exact List.mem_append_right _ hp, fun nd => by rw [e] at nd; exact (List.nodup_append.mp nd).2.1⟩
  | v :: vs, a :: as, fp, i + 1, ⟨f1, f2, e, h1, h2⟩ => by
    obtain ⟨f', q1, q2, q3⟩ := Rl.eraseIdx i h2
    refine ⟨f1 ++ f', ⟨f1, f', rfl, h1, q1⟩, fun p hp => ?_, fun nd => ?_⟩
    · rw [e]
      rcases List.mem_append.mp hp with z | z
      · exact List.mem_append_left _ z
      · exact List.mem_append_right _ (q2 p z)
    · rw [e] at nd
      obtain ⟨a1, a2, a3⟩ := List.nodup_append.mp nd
      exact List.nodup_append.mpr ⟨a1, q3 a2, fun p hp q hq e => a3 p hp q (q2 q hq) e⟩
  | [], _ :: _, _, _, h => h.elim
  | _ :: _, [], _, _, h => h.elim
section
variable {X : Cx} {Γ : Ctx} {S L ρ α β κ γ A B S' : Type} [Rp ρ] {o : Ow ρ} {Γo : S → Ctx} {ΓL : L → Ctx} {a b e f : Expr} {es : List Expr} {pos p p1 p5 apos cpos pos2 : Pos} {ta tb te tf : TE} {t : TA} {sts : List Stmt} {tr tr' : TS} {tg : Expr}
end
end Ty

/-! ## Ty33: methods of texts; join; extend; enumerate of a text -/
namespace Ty
open PySem PySem.Spec PyProof.Rows L2
section
variable {X : Cx} {Γ : Ctx} {S L ρ α β γ A B S' : Type} {a b e o : Expr} {es : List Expr} {pos p p1 p2 apos cpos : Pos} {ta tb te to : TE} {t : TA} {sts : List Stmt} {tr : TS}
theorem as1 {α : Type} [Rp α] {K : PySem.W.Frag} {HF : Hp} {vs : List V} {y : α × Unit} (h : (As.cons (α := α) As.nil).rep K HF vs y) : ∃ v, vs = [v] ∧ Rp.sh K HF v y.1 := by
  obtain ⟨v, ws, h1, h2, h3⟩ := h
  have h3 : ws = [] := h3
  subst h3
  exact ⟨v, h1, h2⟩
def indexM (x y : Str) : M Int := do let k ← ofO (Txt.index0 x y); pure (k : Int)
end
end Ty

/-! ## Ty34: sorted(set(text)) -/
namespace Ty
open PySem PySem.Spec PyProof.Rows L2
def keyS (e : Int × Value) : Str := match e.2 with | .str k _ => k | _ => ⟨#[]⟩
def GoodS (w : World) (e : Int × Value) : Prop := ∃ k tk, e.2 = Value.str k tk ∧ e.1 = hashStr w k
/-- the set of texts at a -/
def SetX (w : World) (h : Heap) (a : Addr) (S : Str → Bool) (n : Nat) : Prop :=
  ∃ o es ep t, h.get? a = some o ∧ o.ExactSet ∧ o.data = .set es ep t ∧ (∀ e ∈ es.toList, GoodS w e) ∧ (es.toList.map keyS).Nodup ∧ (∀ k, S k = true ↔ k ∈ es.toList.map keyS) ∧
    es.size < scanBound ∧ t.fits es.size = true ∧ es.size = n ∧ Ris t.place.toList ∧ (w.params.followText "set-order" = true ∨ t.led = true)
section
variable {P : Program} {w : World} {h h' : Heap} {a : Addr} {S : Str → Bool} {n : Nat}
theorem SetX.at (R : SetX w h a S n) (k : ∀ o, h.get? a = some o → h'.get? a = some o) : SetX w h' a S n := by
  obtain ⟨o, es, ep, t, ho, r⟩ := R
  exact ⟨o, es, ep, t, k o ho, r⟩
theorem SetX.congr {S' : Str → Bool} (R : SetX w h a S n) (e : ∀ k, S' k = S k) : SetX w h a S' n := by
  have q : S' = S := funext e
  rw [q]; exact R
end
section
variable {P : Program} {w : World} {A : Around} {E : Value → Shared → Prop} {s : Shared} {a : Addr} {S : Str → Bool} {n : Nat}
end
/-! ### the law of what is told -/
/-- the signs of a text, rising, each once -/
def csort (x : Str) : List Nat := (sset (x.cps.toList.map Int.ofNat)).map Int.toNat
theorem mem_csort {x : Str} {c : Nat} : c ∈ csort x ↔ c ∈ x.cps.toList := by
  unfold csort
  rw [List.mem_map]
  constructor
  · rintro ⟨i, h, rfl⟩
    obtain ⟨n, h2, rfl⟩ := List.mem_map.mp (mem_sset.mp h)
    exact h2
  · intro h
    exact ⟨Int.ofNat c, mem_sset.mpr (List.mem_map.mpr ⟨c, h, rfl⟩), rfl⟩
theorem csort_up (x : Str) : (csort x).Pairwise (· < ·) := by
  unfold csort
  rw [List.pairwise_map]
  refine (sset_up _).imp_of_mem ?_
  intro a b ha hb h
  obtain ⟨n, _, rfl⟩ := List.mem_map.mp (mem_sset.mp ha)
  obtain ⟨m, _, rfl⟩ := List.mem_map.mp (mem_sset.mp hb)
  have h : (n : Int) < (m : Int) := h
  show n < m
  omega
theorem nup_uniq {a b : List Nat} (ha : a.Pairwise (· < ·)) (hb : b.Pairwise (· < ·)) (h : ∀ x, x ∈ a ↔ x ∈ b) : a = b := by
  have na : a.Nodup := by rw [List.nodup_iff_pairwise_ne]; exact ha.imp fun h => by omega
  have nb : b.Nodup := by rw [List.nodup_iff_pairwise_ne]; exact hb.imp fun h => by omega
  exact List.Perm.eq_of_pairwise (le := fun (x y : Nat) => x ≤ y) (fun a b _ _ h1 h2 => by omega) (ha.imp fun h => by omega) (hb.imp fun h => by omega) ((List.perm_ext_iff_of_nodup na nb).mpr h)
section
variable {X : Cx} {Γ : Ctx} {a : Expr} {p p2 q : Pos} {ta : TE}
end
end Ty

/-! ## Ty35: x.extend(a new list) -/
namespace Ty
open PySem PySem.Spec PyProof.Rows L2
section
variable {X : Cx} {Γ : Ctx} {S L ρ α β γ A B S' : Type} [Rp ρ] {o : Ow ρ} {Γo : S → Ctx} {ΓL : L → Ctx} {a b e : Expr} {es : List Expr} {pos p apos cpos : Pos} {ta tb te : TE} {t : TA} {sts : List Stmt} {tr tr' : TS}
end
end Ty

/-! ## Ty36: enumerate of a text; count and index in lists -/
namespace Ty
open PySem PySem.Spec PyProof.Rows L2
section
variable {X : Cx} {Γ : Ctx} {S L ρ α β γ A B S' : Type} {a b e o : Expr} {es : List Expr} {pos p p1 p2 apos cpos : Pos} {ta tb te to : TE} {t : TA} {sts : List Stmt} {tr : TS}
/-- list.name(args) -/
theorem ex_lm {A γ α : Type} [Rp γ] [Rp α] {w : Ow γ} {name : Str} {id : String} {K : PySem.W.Frag} {r : V → List V → Hp → VK → Prop} {r0 : As A} {f : List α → A → M γ} {mo : M (List α)} {ma : M A}
    (slot : Slot "list" name id) (hty : typeOf (.builtin id) = pure (.type "method_descriptor")) (hm : MtR X id r)
    (hr : ∀ HF H v (x : List α) vs (y : A) (c : γ), Same HF H → Rp.sh K HF v x → r0.rep K HF vs y → f x y = .ok c → ∀ Q : VK, RetK K HF H w c Q → r v vs H Q)
    (ho : EX X Γ o Ow.v mo to) (ha : EA X Γ (e :: es) r0 ma t)
    (hbase : attributeBase o name X.env (eval o X.env) = eval o X.env := by rfl)
    (hfew : ((backTo cpos (starEach (e :: es) X.env)).all (fun x => !x.1) && (backToKw cpos (keywordEach [] X.env)).all (fun x => x.1.isSome)
      && decide ((e :: es).length + ([] : List Keyword).length + (if ([] : List Keyword).isEmpty then 0 else 1) < 30)) = true := by rfl)
    (hline : (apos.endLine == cpos.line) = true := by rfl) (hs : starEach (e :: es) X.env = (false, eval e X.env) :: starEach es X.env := by rfl) (hplain : (backTo cpos (starEach es X.env)).any (·.1) = false := by rfl) (hK : X.K = K := by rfl) :
    EX X Γ (.Call (.Attribute o name apos) (e :: es) [] cpos) w (do let x ← mo; let y ← ma; f x y) (tBM K "list" r to t) := by
  subst hK
  exact ⟨pe_bm PySem.F.plainAttrs_list slot hty hm ho.pe ha.pa hbase hfew hline hs hplain, fun HF0 G HF H σ g c hc Q k => by
    obtain ⟨x, e1, hc⟩ := bind_ok hc
    obtain ⟨y, e2, hc⟩ := bind_ok hc
    refine ho.sem HF0 G HF H σ g x e1 _ fun v HF1 H1 fp s1 r1 _ _ => ?_
    have r1 := r1.1
    obtain ⟨q, us, e, h1, h2⟩ := _root_.id r1
    subst e
    refine ⟨.inl ⟨rfl, us, SqL.of (s1.sub _ _ h1)⟩, ?_⟩
    refine ha.sem HF0 G HF1 H1 σ (g.step s1) y e2 _ fun vs HF2 H2 s2 r2 => ?_
    exact hr HF2 H2 (.ref q) x vs y c s2.sub (Rp.mono s2.exF r1) r2 hc Q (k.back (s1.trans s2))⟩
def lidxM {α : Type} [Rp α] [DecidableEq α] [Eqv α] (as : List α) (a : α) : M Int := do gd (Eqv.ok a && Eqv.ok as); let k ← ofO (as.findIdx? fun z => decide (z = a)); pure (k : Int)
theorem ex_lindex {α : Type} [Rp α] [DecidableEq α] [Eqv α] {K : PySem.W.Frag} {mo : M (List α)} {ma : M (α × Unit)} (hu : X.A.units + 65 < cLine) (ho : EX X Γ o Ow.v mo to) (ha : EA X Γ [e] (As.cons (α := α) As.nil) ma t) (hdp : Eqv.dep α + 1 ≤ 64 := by decide) (hbase : attributeBase o "index" X.env (eval o X.env) = eval o X.env := by rfl)
    (hfew : ((backTo cpos (starEach [e] X.env)).all (fun x => !x.1) && (backToKw cpos (keywordEach [] X.env)).all (fun x => x.1.isSome)
      && decide ([e].length + ([] : List Keyword).length + (if ([] : List Keyword).isEmpty then 0 else 1) < 30)) = true := by rfl)
    (hline : (apos.endLine == cpos.line) = true := by rfl) (hs : starEach [e] X.env = (false, eval e X.env) :: starEach [] X.env := by rfl) (hplain : (backTo cpos (starEach [] X.env)).any (·.1) = false := by rfl) (hK : X.K = K := by rfl) :
    EX X Γ (.Call (.Attribute o "index" apos) [e] [] cpos) Ow.v (do let x ← mo; let y ← ma; lidxM x y.1) (tBM K "list" (rIndexD K) to t) := by
  subst hK
  exact ex_lm (r := rIndexD X.K) (α := α) (A := α × Unit) (γ := Int) (w := Ow.v) (f := fun (x : List α) (y : α × Unit) => lidxM x y.1) PySem.F.slot_list_index PySem.F.type_list_index (mt_indexD hu) (fun HF H v x vs y c s hx h hc Q k => by
    obtain ⟨u, rfl, z⟩ := as1 h
    obtain ⟨_, e1, hc⟩ := bind_ok hc
    obtain ⟨j, e2, hc⟩ := bind_ok hc
    cases pure_ok hc
    have e1 := gd_ok e1
    rw [Bool.and_eq_true] at e1
    have e2 := ofO_ok e2
    obtain ⟨q, us, e3, h1, h2⟩ := _root_.id hx
    subst e3
    obtain ⟨hj, pj, mj⟩ := List.findIdx?_eq_some_iff_getElem.mp e2
    refine ⟨q, u, Eqv.py y.1, x.map Eqv.py, j, Eqv.py x[j], rfl, rfl, Eqv.dp (α := List α) (Rp.mono s hx), Eqv.dp (Rp.mono s z), eqv_shaped (α := List α) e1.2 hdp, eqv_shaped e1.1 (by omega), by rw [List.getElem?_map, List.getElem?_eq_getElem hj]; rfl, ?_, fun m z' hm hz => ?_, k.flat s⟩
    · rw [Eqv.eqv]; exact pj
    · rw [List.getElem?_map, List.getElem?_eq_getElem (by omega)] at hz
      cases hz
      rw [Eqv.eqv]
      simpa using mj m hm) ho ha hbase hfew hline hs hplain rfl
end
end Ty

/-! ## Ty37: own exceptions with an own __init__ that keeps one field: made, raised, caught, kept behind the suite -/
namespace PySem.W
open PySem PySem.Spec PySem.Calls PyProof.Rows
end PySem.W
namespace Ty
open PySem PySem.Spec PyProof.Rows L2
structure OexF (K : PySem.W.Frag) (c f : Str) (fI : Addr) : Prop where
  T : OexC K (He.ga K c)
  no : PySem.W.findIn K (clv K c) f = some none
  init : PySem.W.findIn K (clv K c) "__init__" = some (some (.ref fI))
  ty : PySem.W.typeIn K (.ref fI) = some (.type "function")
section
variable {X : Cx} {o e : Expr} {es : List Expr} {to te : TE} {ta : TA} {f c : Str} {p p' p1 p2 pos : Pos}
end
section
variable {P : Program} {w : World} {K : PySem.W.Frag} {mg : Str → Option Value} {base : Heap}
end
/-! ### values that exceptions bear -/
inductive PV where
  | i (n : Int)
  | s (x : Str)
  deriving DecidableEq
def PV.enc : PV → V
  | .i n => .int n
  | .s x => .str x
/-- what is raised: the class's name, the field -/
structure Exn where
  c : Str
  p : Option (Str × PV)
def vD : Option Addr → V
  | some dd => .ref dd
  | none => .non
def XD (HF : Hp) (d : Option Addr) (x : Exn) : Prop := match x.p with
  | none => d = none
  | some (f, v) => ∃ dd, d = some dd ∧ HF dd = some (.xd [(f, v.enc)])
theorem XD.mono {HF HF' : Hp} {d : Option Addr} {x : Exn} (s : Same HF HF') (h : XD HF d x) : XD HF' d x := by
  unfold XD at *
  split at h
  · exact h
  · obtain ⟨dd, h1, h2⟩ := h
    exact ⟨dd, h1, s _ _ h2⟩
instance rpRy {ρ : Type} [Rp ρ] : Rp (ρ ⊕ Exn) where
  sh K H v x := match x with
    | .inl r => Rp.sh K H v r
    | .inr _ => True
  mono := fun {K H H' v a} e h => by
    cases a with
    | inl r => exact Rp.mono e h
    | inr _ => trivial
def Ow.y {ρ : Type} [Rp ρ] (o : Ow ρ) (cl : Str → Value) (E : XK) : Ow (ρ ⊕ Exn) where
  rep K HF H v x fp := match x with
    | .inl r => o.rep K HF H v r fp
    | .inr x => fp = [] ∧ ∃ d, v = vD d ∧ XD HF d x
  mono := fun {K HF HF' H H' v a fp} e k h => by
    cases a with
    | inl r => exact o.mono e k h
    | inr x =>
      obtain ⟨h1, d, h2, h3⟩ := h
      exact ⟨h1, d, h2, h3.mono e⟩
  dom := fun {K HF H v a fp} h p hp => by
    cases a with
    | inl r => exact o.dom h p hp
    | inr _ =>
      have h : fp = [] := h.1
      subst h; cases hp
  frz := fun {K HF HF' H v a fp} e k h => by
    cases a with
    | inl r => exact o.frz e k h
    | inr _ => trivial
  out x R v H := match x with
    | .inl r => o.out r R v H
    | .inr x => ∃ d, v = vD d ∧ E (cl x.c) d H

section
variable {P : Program} {w : World} {K : PySem.W.Frag} {mg : Str → Option Value} {base : Heap}
end
section
variable {X : Cx} {Γ : Ctx} {S L ρ α β A S' : Type} [Rp ρ] {o : Ow ρ} {Γo : S → Ctx} {ΓL : L → Ctx} {a b e f : Expr} {es : List Expr} {pos p p1 p2 pos2 : Pos} {ta tb te tf : TE} {t : TA} {sts : List Stmt} {tr tr' : TS}
/-- an expression that may raise -/
structure EXs [Rp ρ] (X : Cx) (W : WX) (Γ : Ctx) (e : Expr) (o : Ow ρ) (m : M (ρ ⊕ Exn)) (t : TE) : Prop where
  pe : PE X e t
  sem : ∀ HF0 G HF H σ, Good X.K HF0 G Γ HF H σ → ∀ c, m = .ok c → ∀ Q : VK, (match c with
    | .inl r => RetK X.K HF H o r Q
    | .inr x => ∀ HF' H' d, Step HF H HF' H' → XD HF' d x → W (clv X.K x.c) d σ H') → t σ H Q
section
variable {K : PySem.W.Frag} {E : XK}
end
end
end Ty

/-! ## Ty38: try: f(..) / except C as e: kept = e; what follows knows the exception -/
namespace L2
open PySem PySem.Spec PyProof.Rows
abbrev Cx.kp (X : Cx) (q : Addr × Obj) : Cx := { X with pn := q :: X.pn }
section
variable {X : Cx} {x n kx : Str} {c : Value} {i ik : Nat} {body rest : List Stmt} {np pos pos' p1 p2 p3 : Pos} {tb : WX → TS} {t0 : TS} {t1 : Addr → Value → Option Addr → TS} {Wout : WX}
theorem Cx.Ok.kp (ok : X.Ok) (q : Addr × Obj) : (X.kp q).Ok := { ok with }
end
end L2

/-! ## Ty39: the kept exception: its class, its field -/
namespace Ty
open PySem PySem.Spec PyProof.Rows L2
/-- an exception at hand -/
structure ExY where
  a : Addr
  d : Option Addr
  x : Exn
instance : Rp ExY where
  sh _ HF v e := v = .ref e.a ∧ XD HF e.d e.x
  mono := fun s h => ⟨h.1, h.2.mono s⟩
/-- what is known of the pinned exception -/
structure PinY (X : Cx) (c : Str) (d : Option Addr) (p : Addr × Obj) : Prop where
  C : ExcC X.K (He.ga X.K c)
  hz : Zc (clv X.K c) d p.2
  hf : ∃ vs, p.2.data = .fields vs
  hp : p ∈ X.pn
section
variable {X : Cx} {Γ : Ctx} {S L ρ α β A S' : Type} [Rp ρ] {o : Ow ρ} {Γo : S → Ctx} {ΓL : L → Ctx} {a b e f : Expr} {es : List Expr} {pos p p1 p2 pos2 : Pos} {ta tb te tf : TE} {t : TA} {sts : List Stmt} {tr tr' : TS}
/-- names of classes, one behind another -/
structure CN (X : Cx) (es : List Expr) (Ds : List Str) (t : TA) : Prop where
  pa : PA X es t
  sem : ∀ σ H (Q : List V → Hp → Prop), Q (Ds.map fun D => V.ref (He.ga X.K D)) H → t σ H Q
  nv : ∀ D ∈ Ds, D ≠ ("ValueError" : Str)
/-! ### try -/
structure BXs (X : Cx) (W : WX) (Γ : Ctx) (sts : List Stmt) (Γb : α → Ctx) (m : M (α ⊕ Exn)) (t : TS) : Prop where
  pss : PSs X sts t
  sem : ∀ HF0 G HF H σ, Good X.K HF0 G Γ HF H σ → ∀ c, m = .ok c → ∀ D : Ends, (match c with
    | .inl a => ∀ HF' H' σ', Same HF HF' → Good X.K HF0 G (Γb a) HF' H' σ' → D.nx σ' H'
    | .inr x => ∀ HF' H' d, Step HF H HF' H' → XD HF' d x → W (clv X.K x.c) d σ H') → t D σ H
end

/-! ### for the printer -/
end Ty

namespace Ty
open PySem PySem.W PySem.Calls PyProof.Rows He
/-! ### a hook that holds the statics' list, too -/
structure SaysZ (fa : List He.Fa) (fn : List He.DefD) (ex : PySem.W.Frag → Bool) (K : PySem.W.Frag) : Prop where
  d : He.SaysD fa fn K
  more : ex K = true
end Ty
namespace Ty
open PySem PySem.Spec PyProof.Rows L2
/-! ### great factors, of together less than 100 million bits -/
def CMulX (i j : Int) : Prop := i.natAbs.log2 + j.natAbs.log2 < 100000000
theorem CMulX.ok {i j : Int} (h : CMulX i j) : IntMulOk i j := by
  have b : ∀ x : Int, Builtin.Int.intBits x ≤ x.natAbs.log2 + 1 := fun x => by
    unfold Builtin.Int.intBits
    split <;> omega
  have h1 := b i
  have h2 := b j
  have h3 : i.natAbs.log2 + j.natAbs.log2 < 100000000 := h
  have e : bitsLine = 134217728 := by decide
  unfold IntMulOk
  intro z
  rw [Bool.and_eq_true] at z
  have z2 := z.2
  unfold Builtin.Int.intTooBig at z2
  have z3 := of_decide_eq_true z2
  rw [e] at z3
  omega
section
variable {X : Cx} {Γ : Ctx} {a b : Expr} {pos : Pos} {ta tb : TE}
end
end Ty
namespace L2
open PySem PySem.Spec PyProof.Rows
end L2

/-! ## Ty41: list(text) -/
namespace L2
open PySem PySem.Spec PyProof.Rows
end L2
namespace Ty
open PySem PySem.Spec PyProof.Rows L2
section
variable {X : Cx} {Γ : Ctx} {a : Expr} {ta : TE} {p pos : Pos}
end
end Ty

/-! ## Ty42: text.upper(), text[::-1], list[::k] -/
namespace L2
open PySem PySem.Spec PyProof.Rows
section
variable {X : Cx} {e : Expr} {te : TE}
/-! ### list[::k] -/
end
end L2
namespace Ty
open PySem PySem.Spec PyProof.Rows L2
section
variable {X : Cx} {Γ : Ctx} {a e o : Expr} {ta te to : TE} {p p1 p2 p3 pos apos cpos : Pos}
instance kdTu {α : Type} [Rp α] : Kd (Tu α) := ⟨"tuple", fun ⟨p, vs, e, h, _⟩ => by
  subst e
  rcases h with (h | ⟨o, h⟩) | ⟨o, its, n, e, c, _⟩
  · exact .base (.tup h)
  · exact .fTuple h
  · exact .kTuple e c⟩
end
end Ty

/-! ## Ty43: an except suite that hands its exception, field and all, to a def; calls in that def -/
namespace Ty
open PySem PySem.Spec PyProof.Rows L2
/-- a def called while an exception is handled -/
structure FnHt (P : Program) (w : World) (K : PySem.W.Frag) (mg : Str → Option Value) (base : Heap) (k : Nat) (f : Addr) (fd : FuncData) (ps : List Str) (sp : Sp) : Prop where
  len : ∀ vs H Q E, sp vs H Q E → vs.length = ps.length
  run : ∀ (A : Around) (outer : List Env) (s : Shared) (H : Hp) (args : Args) (us : List Value) (vs : List V) (Q : VK) (E : XK) (p : Addr × Obj), L2H.RoomH k A → L2H.PinOk outer H s p → Env0 P w K mg base A outer s H → BindsTo s fd args (ps.zip us) → Vals vs us → sp vs H Q E →
    codeAny (model P w) A (.call (.ref f) args) (CR CX0 outer P w H s Q E) s
/-- a def that is handed the exception -/
structure PinZ (K : PySem.W.Frag) (c : Str) (d : Option Addr) (p : Addr × Obj) : Prop where
  C : ExcC K (He.ga K c)
  hz : Zc (clv K c) d p.2
  hf : ∃ vs, p.2.data = .fields vs
def spZ {ρ : Type} [Rp ρ] (K : PySem.W.Frag) (o : Ow ρ) (fm : Exn → M ρ) (d : Option Addr) (x : Exn) (H : Hp) (Q : VK) : Prop := ∃ HF r, Same HF H ∧ XD HF d x ∧ fm x = .ok r ∧ RetK K HF H o r Q
structure FnZ (P : Program) (w : World) (K : PySem.W.Frag) (mg : Str → Option Value) (base : Heap) (k : Nat) (f : Addr) (fd : FuncData) (y : Str) {ρ : Type} [Rp ρ] (o : Ow ρ) (fm : Exn → M ρ) : Prop where
  run : ∀ (A : Around) (outer : List Env) (s : Shared) (H : Hp) (args : Args) (Q : VK) (E : XK) (p : Addr × Obj) (d : Option Addr) (x : Exn), L2H.RoomH k A → PinZ K x.c d p → L2H.PinOk outer H s p → Env0 P w K mg base A outer s H → BindsTo s fd args [(y, .ref p.1)] → spZ K o fm d x H Q →
    codeAny (model P w) A (.call (.ref f) args) (CR CX0 outer P w H s Q E) s
section
variable {P : Program} {w : World} {K : PySem.W.Frag} {mg : Str → Option Value} {base : Heap}
end
section
variable {X : Cx} {Γ : Ctx} {ρ α : Type} [Rp ρ] {o : Ow ρ} {a b e f : Expr} {es : List Expr} {pos p p1 p2 pos2 : Pos} {ta tb te tf : TE} {t : TA}
end
section
variable {X : Cx} {Γ : Ctx} {S L ρ α : Type} [Rp ρ] {o : Ow ρ} {Γo : S → Ctx} {ΓL : L → Ctx} {pos : Pos} {sts : List Stmt} {tr : TS}
end
end Ty

/-! ## Ty44: sorted(list of texts), min(list of texts), x = d.setdefault(k, e) -/
namespace L2
open PySem PySem.Spec PyProof.Rows
end L2
namespace Ty
open PySem PySem.Spec PyProof.Rows L2
section
variable {X : Cx} {Γ : Ctx} {S L ρ α β : Type} [Rp ρ] {o : Ow ρ} {Γo : S → Ctx} {ΓL : L → Ctx} {a b e : Expr} {pos p p1 apos cpos : Pos} {ta tb te : TE} {sts : List Stmt} {tr : TS}
/-! ### x = d.setdefault(k, e) -/
end
end Ty

set_option maxHeartbeats 1000000
/-! ## Ty45: reversed(text), at the library's level -/
namespace RS
open PySem PySem.Spec PyProof.Rows RT
def IsRs (h : Heap) (a : Addr) (x : Str) (t : Tok) (i : Int) : Prop := ∃ o, h.get? a = some o ∧ o.cls = .type "reversed" ∧ o.data = .fields #[.str x t, rawInt i]
theorem IsRs.at {h h' : Heap} {a : Addr} {x : Str} {t : Tok} {i : Int} (q : IsRs h a x t i) (e : ∀ o, h.get? a = some o → h'.get? a = some o) : IsRs h' a x t i := let ⟨o, ho, r⟩ := q; ⟨o, e _ ho, r⟩
section
variable {prog : Program} {w : World} {A : Around} {E : Value → Shared → Prop} {s : Shared} {x : Str} {t : Tok}
theorem IsRs.typeIs {a : Addr} {i : Int} (q : IsRs s.heap a x t i) : s.TypeIs (.ref a) "reversed" := let ⟨o, ho, hc, _⟩ := q; ⟨o, ho, hc⟩
end
section
variable {prog : Program} {w : World} {A : Around} {E : Value → Shared → Prop} {s : Shared} {x : Str} {t : Tok}
end
section
variable {prog : Program} {w : World} {A : Around} {s : Shared} {R : Result → Shared → Prop} {x : Str} {t : Tok}
end
end RS

set_option maxHeartbeats 1000000
/-! ## Ty46: sep.join(reversed(text)), list(reversed(text)) -/
namespace RS
open PySem PySem.Spec PyProof.Rows RT Builtin Builtin.Str
section
variable {prog : Program} {w : World} {A : Around} {E : Value → Shared → Prop} {s : Shared} {x sep : Str} {t u : Tok}
end
end RS
namespace RS
open PySem PySem.Spec PyProof.Rows L2
section
variable {X : Cx}
end
end RS
namespace Ty
open PySem PySem.Spec PyProof.Rows L2
section
variable {X : Cx} {Γ : Ctx} {e o : Expr} {te to : TE} {p p2 pos pos2 apos cpos : Pos}
end
end Ty

set_option maxHeartbeats 1000000
/-! ## Ty47: instances of own classes, fields set by __init__, methods told by the class -/
namespace L2
open PySem PySem.Spec PyProof.Rows
theorem PE.or {X : Cx} {e : Expr} {t1 t2 : TE} (h1 : PE X e t1) (h2 : PE X e t2) : PE X e (fun σ H Q => t1 σ H Q ∨ t2 σ H Q) := ⟨fun pins s σ H Q I h => h.elim (h1.run pins s σ H Q I) (h2.run pins s σ H Q I)⟩
end L2
namespace Ty
open PySem PySem.Spec PyProof.Rows L2
/-- an instance: its class's name, its fields -/
structure Ins where
  c : Str
  fs : List (Str × PV)
def fenc (fs : List (Str × PV)) : List (Str × V) := fs.map fun p => (p.1, p.2.enc)
instance : Rp Ins where
  sh K HF v x := ∃ a dx, v = .ref a ∧ HF a = some (.ins (He.ga K x.c) dx (fenc x.fs))
  mono := fun s ⟨a, dx, h1, h2⟩ => ⟨a, dx, h1, s _ _ h2⟩
instance : Inhabited Ins := ⟨⟨"", []⟩⟩
/-- what is known of a class -/
structure OCls (K : PySem.W.Frag) (c : Str) : Prop where
  cl : Cls K (He.ga K c)
  ha : PySem.W.findIn K (clv K c) "__class__" = some (some (.builtin "object.__class__"))
  hn : PySem.W.specialIn K (.builtin "object.__class__") "__get__" = some (some (.builtin "getset_descriptor.__get__"))
  ht : PySem.W.takesIn K (.builtin "object.__class__") = some true
  hm : PySem.W.mroIn K (He.ga K c) (.type "object") = some true
class Pvl (α : Type) [Rp α] where
  pv : α → PV
  ok : ∀ {K : PySem.W.Frag} {HF : Hp} {v : V} {a : α}, Rp.sh K HF v a → v = (pv a).enc
instance : Pvl Int := ⟨.i, fun h => Fl.sh_iff.mp h⟩
instance : Pvl Str := ⟨.s, fun h => Fl.sh_iff.mp h⟩
section
variable {P : Program} {w : World} {K : PySem.W.Frag} {mg : Str → Option Value} {base : Heap}
/-- a class that has no __init__ -/
structure MkN (K : PySem.W.Frag) (c : Str) : Prop where
  makes : PySem.W.makesIn K (He.ga K c) = true
  init : PySem.W.findIn K (clv K c) "__init__" = some (some (.builtin "object.__init__"))
  kp : PySem.W.keepIn K (clv K c) = true
end
section
variable {X : Cx} {Γ : Ctx} {α β γ A : Type} [Rp γ] {w : Ow γ} {a b e o : Expr} {es : List Expr} {pos p p1 apos cpos : Pos} {ta tb te to : TE} {t : TA}
/-! ### C(..) -/
end
end Ty

set_option maxHeartbeats 1000000
/-! ## Ty48: methods of own classes that may raise -/
namespace L2
open PySem PySem.Spec PyProof.Rows
/-! ### list.count of a text -/
end L2
namespace Ty
open PySem PySem.Spec PyProof.Rows L2
section
variable {X : Cx} {Γ : Ctx} {α ρ A : Type} [Rp ρ] {o : Ow ρ} {a b e e0 : Expr} {es : List Expr} {pos p p1 apos cpos : Pos} {ta tb te to : TE} {t : TA}
end
section
variable {X : Cx} {Γ : Ctx} {S L ρ α β : Type} [Rp ρ] {o : Ow ρ} {Γo : S → Ctx} {ΓL : L → Ctx} {e f : Expr} {pos : Pos} {te tf : TE} {sts : List Stmt} {tr : TS}
end
end Ty

/-! ## Ty49: rfind -/
namespace Ty
open PySem PySem.Spec PyProof.Rows L2
section
variable {X : Cx} {Γ : Ctx} {o e : Expr} {apos cpos : Pos} {to : TE} {t : TA}
end
end Ty

/-! ## Ty50: values of one of several flat kinds -/
namespace Ty
open PySem PySem.Spec PyProof.Rows L2
/-- a number, a text or a truth value -/
inductive Uv where
  | i (n : Int)
  | s (x : Str)
  | b (x : Bool)
  deriving DecidableEq
def Uv.enc : Uv → V
  | .i n => .int n
  | .s x => .str x
  | .b x => .bl x
instance : Inhabited Uv := ⟨.i 0⟩
instance : Fl Uv := flOf Uv.enc
instance : Inhabited PV := ⟨.i 0⟩
instance : Fl PV := flOf PV.enc
def PV.py : PV → PyData
  | .i n => .int n
  | .s x => .str x
instance : Eqv PV := ⟨PV.py, fun u => match u with
    | .i _ => true
    | .s x => PySem.PyData.strOk x, 0, fun {K H v a} h => by
    cases a with
    | i n => cases h; exact .int _
    | s x => cases h; exact .str _, fun a h => by
    cases a with
    | i n => rfl
    | s x => simpa [PV.py, PyData.canLay0] using h, fun a => by cases a <;> simp [PV.py, PyData.depth], fun a b => by
    cases a <;> cases b <;> simp only [PV.py, PyData.eqv]
    · rename_i x y; by_cases h : x = y <;> simp [h]
    · simp
    · simp
    · rename_i x y; by_cases h : x = y <;> simp [h]⟩
section
variable {X : Cx} {Γ : Ctx} {e : Expr} {te : TE}
end
end Ty

/-! ## Ty51: sorted(text) -/
namespace L2
open PySem PySem.Spec PyProof.Rows
section
variable {X : Cx}
end
end L2
namespace Ty
open PySem PySem.Spec PyProof.Rows L2
section
variable {X : Cx} {Γ : Ctx} {e : Expr} {te : TE} {p pos : Pos}
end
end Ty
/-! ### range with a step -/
namespace Ty
open PySem PySem.Spec PyProof.Rows L2
section
variable {X : Cx} {Γ : Ctx} {a b c tg : Expr} {ta tb tc : TE} {p pos : Pos}
end
end Ty
/-! ### a name that a loop may have bound -/
namespace Ty
open PySem PySem.Spec PyProof.Rows L2
section
variable {X : Cx} {Γ : Ctx} {S L ρ α : Type} [Rp ρ] {o : Ow ρ} {Γo : S → Ctx} {ΓL : L → Ctx} {sts : List Stmt} {tr : TS}
end
end Ty

/-! ## Ty52: dict(enumerate(list)), dict(d), x = d.pop(k), d.pop(k), defs that call themselves, a default None -/
namespace L2
open PySem PySem.Spec PyProof.Rows
def enumK (xs : List V) : List (Key × V) := xs.zipIdx.map fun x => (Sum.inl (x.2 : Int), x.1)
theorem enumK_len (xs : List V) : (enumK xs).length = xs.length := by unfold enumK; rw [List.length_map, List.length_zipIdx]
theorem mergeK_new : ∀ (more acc : List (Key × V)), (more.map (·.1)).Nodup → (∀ p ∈ more, ∀ q ∈ acc, q.1 ≠ p.1) → mergeK acc more = acc ++ more
  | [], acc, _, _ => (List.append_nil acc).symm
  | p :: r, acc, hn, hd => by
    have h1 : putK acc p.1 p.2 = acc ++ [p] := by
      unfold putK
      rw [if_neg]
      intro h
      obtain ⟨q, hq, e⟩ := List.any_eq_true.mp h
      exact hd p List.mem_cons_self q hq (of_decide_eq_true e)
    have hn := List.nodup_cons.mp hn
    show mergeK (putK acc p.1 p.2) r = _
    rw [h1, mergeK_new r _ hn.2 fun p' hp' q hq e => ?_, List.append_assoc]
    · rfl
    · rcases List.mem_append.mp hq with z | z
      · exact hd p' (List.mem_cons_of_mem _ hp') q z e
      · rw [List.mem_singleton.mp z] at e
        exact hn.1 (List.mem_map.mpr ⟨p', hp', e.symm⟩)
theorem enumK_keys (xs : List V) : ((enumK xs).map (·.1)).Nodup := by
  unfold enumK
  rw [List.map_map, List.nodup_iff_pairwise_ne, List.pairwise_map, List.pairwise_iff_getElem]
  intro i j hi hj hij e
  rw [List.getElem_zipIdx, List.getElem_zipIdx] at e
  simp at e
  omega
theorem enumK_rel : ∀ (k : Nat) {xs : List V} {us : List Value}, Vals xs us → KV ((xs.zipIdx k).map fun x => ((Sum.inl (x.2 : Int) : Key), x.1)) ((us.zipIdx k).map fun x => ((Sum.inl (x.2 : Int) : Key), x.1)) := by
  intro k xs us r
  induction r generalizing k with
  | nil => exact .nil
  | cons h t ih => exact .cons ⟨rfl, h⟩ (ih (k + 1))
def tDEnum (K : PySem.W.Frag) (ta : TE) : TE := fun σ H Q => ta σ H fun x H1 => ∃ (a : Addr) (xs : List V), x = .ref a ∧ SqL K H1 a xs ∧ ∀ p, H1 p = none → Q (.ref p) (upd H1 p (.dK (enumK xs)))
section
variable {X : Cx} {a : Expr} {p p2 q pos : Pos} {ta : TE}
theorem pe_dEnum (hg : Gl X "dict") (hm : X.mg "dict" = none) (hg2 : Gl X "enumerate") (hm2 : X.mg "enumerate" = none) (ha : PE X a ta) (hc : X.calm = true := by rfl)
    (na : starEach [a] X.env = (false, eval a X.env) :: starEach [] X.env := by rfl) : PE X (.Call (.Name "dict" p) [.Call (.Name "enumerate" p2) [a] [] q] [] pos) (tDEnum X.K ta) := by
  refine ⟨fun pins s σ H Q I h => ?_⟩
  refine Call_ (ld_blt (u := .type "dict") I hg hm (by decide +kernel) ?_)
  refine PyProof.Rows.callWith_type1 (PyProof.Rows.args_cons ?_ rfl) rfl rfl
  refine Call_ (ld_blt (u := .type "enumerate") I hg2 hm2 (by decide +kernel) ?_)
  refine PyProof.Rows.callWith_type1 (PyProof.Rows.args_cons (thn (ha.run pins s σ H _ I h) fun v s1 ⟨x, H1, I1, r1, q1⟩ => PyProof.Rows.args_nil ?_) na) na rfl
  obtain ⟨l, xs, rfl, hq, q1⟩ := q1
  cases r1
  obtain ⟨its, r, pl, hz⟩ := I1.list hq
  have hll : l < s1.heap.objs.size := pl.lt
  have hzl : its.length = xs.length := r.length.symm
  refine call_enumerate_list pl.isList fun h' he hit hsz hk => PyProof.Rows.args_nil ?_
  have I2 : Inv X pins σ H1 { s1 with heap := h' } := I1.kept (t' := s1.toks) hk
  have pl2 : h'.IsList l its.toArray := pl.isList.at fun o e => hk _ o e
  refine PySem.call_dict_pairs (knd := mixKind X.prog X.w) (kvs := its.zipIdx.map fun x => ((Sum.inl (x.2 : Int) : Key), x.1)) (PairArg.enumerate (s1.heap.objs.size + 1) s1.heap.objs.size l (Nat.succ_ne_self _) (Nat.ne_of_lt (Nat.lt_succ_of_lt hll)) (Nat.ne_of_lt hll) its.toArray) (I2.ok.hd hc) ⟨⟨.none, he⟩, hit, pl2⟩
    ⟨by simp, fun i key v ⟨⟨t, e1⟩, e2⟩ => ⟨Sum.inl (i : Int), by
      rw [List.getElem?_map, List.getElem?_zipIdx]
      rw [List.getElem?_toArray] at e2
      rw [e2]
      simp, by rw [e1]; exact kV_is (k := Sum.inl (i : Int)) ⟨t, rfl⟩⟩⟩ (by rw [List.size_toArray]; omega) fun h2 tk hd hk2 => ?_
  have hm0 : (h'.objs.size == sysModules) = false := beq_eq_false_iff_ne.mpr (Nat.ne_of_gt (Nat.lt_of_lt_of_le I1.big (by rw [hsz]; omega)))
  have e0 : mergeK [] (enumK xs) = enumK xs := by
    rw [mergeK_new _ _ (enumK_keys xs) fun p _ q hq => absurd hq List.not_mem_nil]; rfl
  have kv := KV.merge (enumK_rel 0 r) (show KV [] [] from .nil)
  rw [show mergeK [] ((xs.zipIdx 0).map fun x => ((Sum.inl (x.2 : Int) : Key), x.1)) = enumK xs from e0] at kv
  have J : Inv X pins σ H1 { s1 with heap := h2, toks := tk } := I1.kept (t' := tk) fun b o e => hk2 b o (fun z => by
    have := Heap.lt_size e
    simp only [List.mem_cons, List.not_mem_nil, or_false] at z
    rcases z with z | z
    · rw [z] at this; exact absurd this (Nat.not_lt.mpr (Nat.le_succ _))
    · rw [z] at this; exact Nat.lt_irrefl _ this) (hk b o e)
  refine ⟨.ref h'.objs.size, upd H1 h'.objs.size (.dK (enumK xs)), ?_, rfl, q1 _ (I2.hok.fresh (Nat.le_refl _))⟩
  exact I1.laid (s := s1) (t' := tk) (h' := h2) (fun b o e => hk2 b o (fun z => by
    have := Heap.lt_size e
    simp only [List.mem_cons, List.not_mem_nil, or_false] at z
    rcases z with z | z
    · rw [z] at this; exact absurd this (Nat.not_lt.mpr (Nat.le_succ _))
    · rw [z] at this; exact Nat.lt_irrefl _ this) (hk b o e)) (by rw [hsz]; omega) (show ObjOk X.prog X.w _ _ _ (.dK (enumK xs)) from ⟨by rw [enumK_len]; omega, hm0, _, kv, hd⟩)
end
end L2
namespace Ty
open PySem PySem.Spec PyProof.Rows L2
section
variable {X : Cx} {Γ : Ctx} {S L ρ α β κ : Type} [Rp ρ] {o : Ow ρ} {Γo : S → Ctx} {ΓL : L → Ctx} {a b e : Expr} {pos p p1 p2 q apos cpos : Pos} {ta tb te : TE} {sts : List Stmt} {tr : TS}
theorem enumFk [Rp α] {R : V → α → Prop} : ∀ (k : Nat) {us : List V} {as : List α}, Fa R us as → Fk (κ := Int) R ((us.zipIdx k).map fun x => ((Sum.inl (x.2 : Int) : Key), x.1)) ((as.zipIdx k).map fun x => ((x.2 : Int), x.1))
  | _, [], [], _ => trivial
  | k, u :: us, a :: as, ⟨x, y⟩ => ⟨⟨rfl, x⟩, enumFk (k + 1) y⟩
  | _, [], _ :: _, h => h.elim
  | _, _ :: _, [], h => h.elim
theorem ex_dEnum {K : PySem.W.Frag} [Rp α] {m : M (List α)} (hc : X.calm = true) (hm : X.mg "dict" = none) (hm2 : X.mg "enumerate" = none) (h : EX X Γ a Ow.v m ta) (hg : Gl X "dict" := by rfl) (hg2 : Gl X "enumerate" := by rfl) (na : starEach [a] X.env = (false, eval a X.env) :: starEach [] X.env := by rfl) (hK : X.K = K := by rfl) :
    EX X Γ (.Call (.Name "dict" p) [.Call (.Name "enumerate" p2) [a] [] q] [] pos) (Ow.d (κ := Int) (β := α)) (do let a ← m; pure (⟨enumL a⟩ : Dc Int α)) (tDEnum K ta) := by
  subst hK
  exact ⟨pe_dEnum hg hm hg2 hm2 h.pe hc na, fun HF0 G HF H σ g c hcc Q k => by
    obtain ⟨x, e1, hcc⟩ := bind_ok hcc
    cases pure_ok hcc
    refine h.sem HF0 G HF H σ g x e1 _ fun v HF1 H1 fp s1 r1 _ _ => ?_
    obtain ⟨⟨q, us, e, h1, h2⟩, _⟩ := r1
    subst e
    refine ⟨q, us, rfl, SqL.of (s1.sub _ _ h1), fun p hp => ?_⟩
    have hp0 : ∀ (M : Hp), Same M H1 → M p = none := fun M sm => by
      cases z : M p with
      | none => rfl
      | some u =>
        have := sm _ _ z
        rw [hp] at this; cases this
    exact k (.ref p) HF1 _ [p] (s1.trans (Step.own s1.sub hp)) ⟨p, _, rfl, rfl, upd_same, enumFk 0 h2⟩ (by simp) fun b hb => by
      rw [List.mem_singleton.mp hb]
      exact ⟨hp0 H s1.exH, hp0 HF1 s1.sub⟩⟩
def rDictD : List V → Hp → VK → Prop := fun xs H Q => ∃ (a : Addr) (kvs : List (Key × V)), xs = [.ref a] ∧ Rd H a (.dK kvs) ∧ ∀ p, H p = none → Q (.ref p) (upd H p (.dK kvs))
theorem ex_dCopy [Ky κ] [DecidableEq κ] [Rp β] {m : M (Dc κ β)} (hm : X.mg "dict" = none) (h : EX X Γ a Ow.v m ta) (hg : Gl X "dict" := by rfl) (na : starEach [a] X.env = (false, eval a X.env) :: starEach [] X.env := by rfl) (hpl : (backTo pos (starEach [] X.env)).any (·.1) = false := by rfl) :
    EX X Γ (.Call (.Name "dict" p) [a] [] pos) (Ow.d (κ := κ) (β := β)) (m >>= fun a => pure a) (tCB rDictD (tCons ta tNil)) :=
  ⟨pe_callTy call_dictD hg hm (by decide +kernel) (pa_cons h.pe pa_nil na) (by decide) (by decide) na hpl, fun HF0 G HF H σ g c hcc Q k => by
    obtain ⟨x, e1, hcc⟩ := bind_ok hcc
    cases pure_ok hcc
    refine h.sem HF0 G HF H σ g _ e1 _ fun v HF1 H1 fp s1 r1 _ _ => ?_
    obtain ⟨⟨q, kvs, e, h1, h2⟩, _⟩ := r1
    subst e
    refine ⟨q, kvs, rfl, .inl (s1.sub _ _ h1), fun p hp => ?_⟩
    have hp0 : ∀ (M : Hp), Same M H1 → M p = none := fun M sm => by
      cases z : M p with
      | none => rfl
      | some u =>
        have := sm _ _ z
        rw [hp] at this; cases this
    exact k (.ref p) HF1 _ [p] (s1.trans (Step.own s1.sub hp)) ⟨p, kvs, rfl, rfl, upd_same, h2⟩ (by simp) fun b hb => by
      rw [List.mem_singleton.mp hb]
      exact ⟨hp0 H s1.exH, hp0 HF1 s1.sub⟩⟩
def dpopM [DecidableEq κ] (d : Dc κ β) (k : κ) : M (β × Dc κ β) := match dget d.l k with
  | some v => pure (v, ⟨ddrop d.l k⟩)
  | none => no
theorem ss_asgDpop [Ky κ] [DecidableEq κ] [Rp β] [Inhabited β] (i j : Nat) {d : Dc κ β} {dn x : Str} {mk : M κ} {k : β × Dc κ β → M (Ctl S L ρ)} {pos' : Pos} (hN : X.N.Nodup) (hk : EX X Γ b Ow.v mk tb)
    (hr : ∀ q : β × Dc κ β, SS X (put (put Γ i (.mk (Ow.d (κ := κ) (β := β)) q.2)) j (.mk (Ow.v : Ow β) q.1)) sts Γo ΓL o (k q) tr)
    (hl : look Γ i = .mk (Ow.d (κ := κ) (β := β)) d := by rfl) (hNi : X.N[i]? = some dn := by rfl) (hv : Vis X.env.scope dn := by first | exact Or.inl rfl | exact Or.inr (Or.inl rfl) | exact Or.inr (Or.inr rfl)) (hd : (dn == ("__debug__" : Str)) = false := by decide) (hcd : (dn == ("__classdict__" : Str)) = false := by decide)
    (hlt : Nat.blt j Γ.length = true := by rfl) (hi : X.N[j]? = some x := by rfl) (hx : Loc X.env.scope x := by first | exact .inl rfl | exact .inr rfl)
    (hm : M1 X (.Name dn p) "pop" apos b cpos := by exact ⟨rfl, rfl, rfl, rfl⟩)
    (hs : swapsWith (.Call (.Attribute (.Name dn p) "pop" apos) [b] [] cpos) (some (.Name x pos')) pos.line X.env = pure false := by rfl) (hf : X.fn x = true ∨ X.env.scope.names.lookup x = some .local := by first | exact .inl rfl | exact .inr rfl) :
    SS X Γ (.Assign [.Name x pos'] (.Call (.Attribute (.Name dn p) "pop" apos) [b] [] cpos) pos :: sts) Γo ΓL o (do let y ← mk; let q ← dpopM d y; k q) (tSeq (tAsg (tDPop1 (tVar i) tb) (gName j)) tr) :=
  ⟨pss_cons (ps_set hN hi hx (pe_dpop1 (pe_var hNi hv hd hcd) hk.pe hm) hs hf) (hr default).pss, fun HF0 G HF H σ g c hc D kk => by
    obtain ⟨ix, e1, hc⟩ := bind_ok hc
    obtain ⟨qq, e3, hc⟩ := bind_ok hc
    obtain ⟨v, fo, hσ, ⟨q, kvs, h1, h2, h3, h4⟩, nd, hfo, back⟩ := g.take hl
    subst h1 h2
    refine ⟨.ref q, hσ, q, rfl, .inl ⟨kvs, .inl h3⟩, ?_⟩
    refine hk.sem HF0 G HF H σ g ix e1 _ fun v1 HF1 H1 fp st r _ _ => ?_
    have h3' := st.exH _ _ h3
    unfold dpopM at e3
    cases hy : dget d.l ix with
    | none => rw [hy] at e3; cases e3
    | some y =>
      rw [hy] at e3
      cases pure_ok (show (pure (y, (⟨ddrop d.l ix⟩ : Dc κ β)) : M _) = .ok qq from e3)
      obtain ⟨v'', hv'', ry⟩ := (h4.get ix).1 y hy
      refine ⟨kvs, Ky.key ix, v'', h3', by rw [Fl.sh_iff.mp r.1, ← Ky.kv], hv'', ?_⟩
      have gg := back (u' := Ow.d (κ := κ) (β := β)) (b := ⟨ddrop d.l ix⟩) (v' := .ref q) (f' := [q]) (H' := upd H1 q (.dK (dropK kvs (Ky.key ix)))) st (fun p w hp e => by rw [upd_ne (fun z => hp (by rw [z]; exact List.mem_singleton.mpr rfl))]; exact e)
        ⟨q, _, rfl, rfl, upd_same, Fk.drop ix (Fk.mono (fun _ _ h => Rp.mono st.exF h) h4)⟩ (by simp) (fun p hp => .inl hp)
      rw [set_self hσ] at gg
      exact (hr (y, ⟨ddrop d.l ix⟩)).sem HF0 G HF1 _ _ (gg.putv (by rw [put_len]; exact of_blt hlt) (Rp.mono st.exF ry)) c hc D (kk.mono st.exF)⟩
theorem ss_dpop [Ky κ] [DecidableEq κ] [Rp β] [Inhabited β] (i : Nat) {d : Dc κ β} {dn : Str} {mk : M κ} {k : β × Dc κ β → M (Ctl S L ρ)} (hk : EX X Γ b Ow.v mk tb)
    (hr : ∀ q : β × Dc κ β, SS X (put Γ i (.mk (Ow.d (κ := κ) (β := β)) q.2)) sts Γo ΓL o (k q) tr)
    (hl : look Γ i = .mk (Ow.d (κ := κ) (β := β)) d := by rfl) (hNi : X.N[i]? = some dn := by rfl) (hv : Vis X.env.scope dn := by first | exact Or.inl rfl | exact Or.inr (Or.inl rfl) | exact Or.inr (Or.inr rfl)) (hd : (dn == ("__debug__" : Str)) = false := by decide) (hcd : (dn == ("__classdict__" : Str)) = false := by decide)
    (hm : M1 X (.Name dn p) "pop" apos b cpos := by exact ⟨rfl, rfl, rfl, rfl⟩)
    (hs : swapsWith (.Call (.Attribute (.Name dn p) "pop" apos) [b] [] cpos) none pos.line X.env = pure false := by rfl) :
    SS X Γ (.Expr (.Call (.Attribute (.Name dn p) "pop" apos) [b] [] cpos) pos :: sts) Γo ΓL o (do let y ← mk; let q ← dpopM d y; k q) (tSeq (tDrop (tDPop1 (tVar i) tb)) tr) :=
  ⟨pss_cons (ps_expr (pe_dpop1 (pe_var hNi hv hd hcd) hk.pe hm) hs) (hr (default, d)).pss, fun HF0 G HF H σ g c hc D kk => by
    obtain ⟨ix, e1, hc⟩ := bind_ok hc
    obtain ⟨qq, e3, hc⟩ := bind_ok hc
    obtain ⟨v, fo, hσ, ⟨q, kvs, h1, h2, h3, h4⟩, nd, hfo, back⟩ := g.take hl
    subst h1 h2
    refine ⟨.ref q, hσ, q, rfl, .inl ⟨kvs, .inl h3⟩, ?_⟩
    refine hk.sem HF0 G HF H σ g ix e1 _ fun v1 HF1 H1 fp st r _ _ => ?_
    have h3' := st.exH _ _ h3
    unfold dpopM at e3
    cases hy : dget d.l ix with
    | none => rw [hy] at e3; cases e3
    | some y =>
      rw [hy] at e3
      cases pure_ok (show (pure (y, (⟨ddrop d.l ix⟩ : Dc κ β)) : M _) = .ok qq from e3)
      obtain ⟨v'', hv'', ry⟩ := (h4.get ix).1 y hy
      refine ⟨kvs, Ky.key ix, v'', h3', by rw [Fl.sh_iff.mp r.1, ← Ky.kv], hv'', ?_⟩
      have gg := back (u' := Ow.d (κ := κ) (β := β)) (b := ⟨ddrop d.l ix⟩) (v' := .ref q) (f' := [q]) (H' := upd H1 q (.dK (dropK kvs (Ky.key ix)))) st (fun p w hp e => by rw [upd_ne (fun z => hp (by rw [z]; exact List.mem_singleton.mpr rfl))]; exact e)
        ⟨q, _, rfl, rfl, upd_same, Fk.drop ix (Fk.mono (fun _ _ h => Rp.mono st.exF h) h4)⟩ (by simp) (fun p hp => .inl hp)
      rw [set_self hσ] at gg
      exact (hr (y, ⟨ddrop d.l ix⟩)).sem HF0 G HF1 _ _ gg c hc D (kk.mono st.exF)⟩
end
/-! ### a def that calls itself, its turns told -/
section
variable {P : Program} {w : World} {K : PySem.W.Frag} {mg : Str → Option Value} {base : Heap}
theorem fn_none {A ρ : Type} [Rp ρ] {CX : CXT} {k : Nat} {f : Addr} {fd : FuncData} {ps : List Str} {r : As A} {o : Ow ρ} {fm : A → M ρ} (h : ∀ a, fm a = no) : FnOk P w K mg base CX k f fd ps (spF K r o fm) := by
  refine ⟨fun vs H Q E hs => ?_, fun A outer s H args us vs Q E hr he hb hv hs => ?_⟩
  · obtain ⟨HF, a, c, h1, h2, h3, h4⟩ := hs
    rw [h a] at h3
    cases h3
  · obtain ⟨HF, a, c, h1, h2, h3, h4⟩ := hs
    rw [h a] at h3
    cases h3
end
/-! ### a default None -/
section
variable {X : Cx} {Γ : Ctx} {A A' ρ : Type} {e : Expr} {es : List Expr} {p pos : Pos} {t : TA}
theorem ex_callD [Rp ρ] {K : PySem.W.Frag} {k : Nat} {f : Addr} {fd : FuncData} {ps : List Str} {x : Str} {r : As A} {r' : As A'} {o : Ow ρ} {fm : A → M ρ} {g : A' → M ρ} {m : M A'} (app : A' → A) (happ : ∀ HF vs a, r'.rep K HF vs a → r.rep K HF (vs ++ [.non]) (app a)) (F : FnOk X.prog X.w X.K X.mg X.base CX0 k f fd ps (spF K r o fm)) (hr : Room k X.A) (hm : X.mg x = some (.ref f)) (hk : PySem.W.keepIn X.K (.ref f) = true) (hb : Binds X.K fd ps [.none])
    (ha : EA X Γ (e :: es) r' m t) (hg : Gl X x := by rfl) (hdb : (x == ("__debug__" : Str)) = false := by decide) (he : starEach (e :: es) X.env = (false, eval e X.env) :: starEach es X.env := by rfl) (hpl : (backTo pos (starEach es X.env)).any (·.1) = false := by rfl) (hgg : ∀ a, g a = fm (app a) := by intro _; rfl) (hK : X.K = K := by rfl) :
    EX X Γ (.Call (.Name x p) (e :: es) [] pos) o (do let a ← m; g a) (tCall (spF K r o fm) [.non] E0 t) := by
  subst hK
  exact ⟨pe_call F hr hg hm hk hb (.cons rfl .nil) pass0 ha.pa hdb he hpl, fun HF0 G HF H σ gd c hc Q kk => by
    obtain ⟨x, e1, hc⟩ := bind_ok hc
    refine ha.sem HF0 G HF H σ gd x e1 _ fun vs HF1 H1 s1 r1 => ?_
    exact ⟨HF1, app x, c, s1.sub, happ _ _ _ r1, (hgg x) ▸ hc, kk.back s1⟩⟩
end
end Ty
namespace Ty
open PySem PySem.Spec PyProof.Rows L2
theorem happD1 {K : PySem.W.Frag} {α β : Type} [Rp α] [Rp β] : ∀ HF vs (a : α × Unit), (As.cons (α := α) As.nil).rep K HF vs a → (As.cons (α := α) (As.cons (α := Op β) As.nil)).rep K HF (vs ++ [.non]) (a.1, ((⟨none⟩ : Op β), ())) := by
  intro HF vs a ⟨v, ws, e, h1, h2⟩
  have h2 : ws = [] := h2
  subst e h2
  exact ⟨v, [.non], rfl, h1, .non, [], rfl, rfl, rfl⟩
end Ty

set_option maxHeartbeats 1000000
/-! ## Ty53: list(reversed(range(..))) -/
namespace RT
open PySem PySem.Spec PyProof.Rows L2
section
variable {prog : Program} {w : World} {A : Around} {E : Value → Shared → Prop} {s : Shared}
end
section
variable {X : Cx}
end
end RT
namespace Ty
open PySem PySem.Spec PyProof.Rows L2
section
variable {X : Cx} {Γ : Ctx} {e : Expr} {p p2 pos pos2 apos cpos : Pos} {te : TE}
end
end Ty

/-! ## Ty54: a loop that takes the own things of a list no one else has -/
namespace Ty
open PySem PySem.Spec PyProof.Rows L2
theorem Good.less {K : PySem.W.Frag} {HF0 G G' HF H : Hp} {Γ : Ctx} {σ : L2.St} (g : Good K HF0 G Γ HF H σ) (h : Same G' G) : Good K HF0 G' Γ HF H σ := by
  have hn : ∀ p, G p = none → G' p = none := fun p e => by
    cases q : G' p with
    | none => rfl
    | some u => rw [h p u q] at e; cases e
  obtain ⟨fs, h1, h2, h3⟩ := g.held
  exact ⟨g.sub, g.f0, h.trans g.g0, fun p o a b => hn p (g.nf p o a b), fs, h1, h2, fun p hp => ⟨(h3 p hp).1, hn p (h3 p hp).2⟩⟩
section
variable {X : Cx} {Γ : Ctx} {S L ρ α S' : Type} [Rp ρ] {o : Ow ρ} {Γo : S → Ctx} {ΓL : L → Ctx} {e : Expr} {pos p1 : Pos} {te : TE} {sts : List Stmt} {tr : TS}
end
end Ty

/-! ## Ty55: sorted(d.values()), texts; d[k] = ..pop.. -/
namespace L2
open PySem PySem.Spec PyProof.Rows
section
variable {X : Cx}
variable {o : Expr} {p pos apos mpos : Pos} {td : TE}
end
end L2
namespace Ty
open PySem PySem.Spec PyProof.Rows L2
section
variable {X : Cx} {Γ : Ctx} {S L ρ α β γ κ : Type} [Rp ρ] {o : Ow ρ} {Γo : S → Ctx} {ΓL : L → Ctx} {a b e f : Expr} {pos p p1 apos cpos mpos : Pos} {ta tb te tf : TE} {t : TA} {sts : List Stmt} {tr : TS}
end
end Ty

/-! ## Ty56: text.split(sep), max(d), int(text) -/
namespace L2
open PySem PySem.Spec PyProof.Rows
section
variable {X : Cx}
end
end L2
namespace Ty
open PySem PySem.Spec PyProof.Rows L2
section
variable {X : Cx} {Γ : Ctx} {S L ρ α β γ κ : Type} [Rp ρ] {o : Expr} {a b e f : Expr} {pos p p1 apos cpos mpos : Pos} {ta tb te tf to : TE} {t : TA} {sts : List Stmt} {tr : TS}
end
end Ty

/-! ## Ty57: sorted(d), int keys -/
namespace Ty
open PySem PySem.Spec PyProof.Rows L2
section
variable {X : Cx} {Γ : Ctx} {α β : Type} {e : Expr} {pos p : Pos} {te : TE}
end
end Ty

/-! ## Ty58: statements that are not come to -/
namespace Ty
open PySem PySem.Spec PyProof.Rows L2
end Ty

/-! ## Ty59: sorted(tuple), min of two tuples, tuple + tuple, list[a:b:c] -/
namespace PySem.W
open PySem PySem.Calls PyProof.Rows PyProof.V PySem.Spec
section
variable {prog : Program} {w : World} {A : Around} {E : Value → Shared → Prop} {s : Shared}
end
end PySem.W
namespace L2
open PySem PySem.Spec PyProof.Rows
section
variable {X : Cx}
end
end L2
namespace L2
open PySem PySem.Spec PyProof.Rows
section
variable {X : Cx}
end
end L2
namespace Ty
open PySem PySem.Spec PyProof.Rows L2
section
variable {X : Cx} {Γ : Ctx} {S L ρ α β γ : Type} [Rp ρ] {o : Ow ρ} {Γo : S → Ctx} {ΓL : L → Ctx} {a b e f : Expr} {pos p p1 p2 p3 apos cpos mpos pos2 : Pos} {ta tb te tf to : TE} {t : TA} {sts : List Stmt} {tr : TS}
end
end Ty
namespace L2
open PySem PySem.Spec PyProof.Rows
section
variable {X : Cx} {e : Expr} {te : TE}
end
end L2
namespace Ty
open PySem PySem.Spec PyProof.Rows L2
section
variable {X : Cx} {Γ : Ctx} {S L ρ α β γ : Type} [Rp ρ] {o : Ow ρ} {Γo : S → Ctx} {ΓL : L → Ctx} {a b e f : Expr} {pos p p1 p2 p3 p4 apos cpos mpos pos2 : Pos} {ta tb te tf to : TE} {t : TA} {sts : List Stmt} {tr : TS}
end
end Ty

/-! ## Ty60: a value that is None, a text or a list of truth values -/
namespace Ty
open PySem PySem.Spec PyProof.Rows L2
inductive Jv where
  | n
  | s (x : Str)
  | l (xs : List Bool)
instance : Inhabited Jv := ⟨.n⟩
instance : Rp Jv where
  sh K H v j := match j with
    | .n => v = .non
    | .s x => v = .str x
    | .l xs => Rp.sh K H v xs
  mono {K H H' v a} e h := by
    cases a with
    | n => exact h
    | s x => exact h
    | l xs => exact Rp.mono (α := List Bool) e h
section
variable {X : Cx} {Γ : Ctx} {e : Expr} {te : TE}
end
end Ty

/-! ## Ty61: lists whose items are the same objects -/
namespace L2
open PySem PySem.Spec PyProof.Rows
end L2
namespace Ty
open PySem PySem.Spec PyProof.Rows L2
/-- a list of instances whose items are known as they lie -/
structure Zr (vs : List V) where
  xs : List Ins
instance {vs : List V} : Rp (Zr vs) where
  sh K H v z := ∃ p, v = .ref p ∧ H p = some (.lst vs) ∧ Fa (Rp.sh K H) vs z.xs
  mono := fun {K H H' v a} e ⟨p, h1, h2, h3⟩ => ⟨p, h1, e _ _ h2, Fa.mono (fun _ _ h => Rp.mono e h) h3⟩
instance {vs : List V} : Inhabited (Zr vs) := ⟨⟨[]⟩⟩
section
variable {X : Cx} {Γ : Ctx} {e a b : Expr} {te ta tb : TE} {vs : List V}
end
section
variable {X : Cx} {Γ : Ctx} {S L ρ : Type} [Rp ρ] {o : Ow ρ} {Γo : S → Ctx} {ΓL : L → Ctx} {sts : List Stmt} {tr : TS}
end
section
variable {X : Cx} {Γ : Ctx} {γ : Type} [Rp γ] {w : Ow γ} {o : Expr} {pos apos : Pos} {to : TE}
end
end Ty

/-! ## Ty62: a def that changes its first argument, an own thing of the caller -/
namespace Ty
open PySem PySem.Spec PyProof.Rows L2
/-- the very thing at a place -/
def Ow.at {α : Type} [Rp α] (a0 : V) (o : Ow α) : Ow α where
  rep K HF H v a fp := v = a0 ∧ o.rep K HF H v a fp
  mono := fun e k ⟨h0, h⟩ => ⟨h0, o.mono e k h⟩
  dom := fun ⟨_, h⟩ => o.dom h
  frz := fun e k ⟨_, h⟩ => o.frz e k h
section
variable {X : Cx} {Γ : Ctx} {S L ρ α β : Type} [Rp ρ] {o : Ow ρ} {Γo : S → Ctx} {ΓL : L → Ctx} {a b e : Expr} {pos p p1 p2 : Pos} {ta tb te : TE} {sts : List Stmt} {tr : TS}
end
section
variable {P : Program} {w : World} {K : PySem.W.Frag} {mg : Str → Option Value} {base : Heap}
end
section
variable {X : Cx} {Γ : Ctx} {S L ρ α A : Type} [Rp ρ] {o : Ow ρ} {Γo : S → Ctx} {ΓL : L → Ctx} {e : Expr} {es : List Expr} {pos p p1 p2 : Pos} {t : TA} {sts : List Stmt} {tr : TS}
end
end Ty

/-! ## Ty63: a def of the program handed to another one; a test at a suite's only place; a default in a call that may raise -/
namespace Ty
open PySem PySem.Spec PyProof.Rows L2
inductive Fv where
  | mk
instance : Inhabited Fv := ⟨.mk⟩
instance : Rp Fv where
  sh K H v a := ∃ f, v = .ref f
  mono := fun _ h => h
section
variable {X : Cx} {Γ : Ctx} {S L ρ α β A A' B : Type} [Rp ρ] {o : Ow ρ} {Γo : S → Ctx} {ΓL : L → Ctx} {a b e : Expr} {es : List Expr} {pos p p1 p2 : Pos} {ta tb te : TE} {t : TA} {sts : List Stmt} {tr : TS}
end
end Ty

/-! ## Ty64: lists of two unlike things -/
namespace Ty
open PySem PySem.Spec PyProof.Rows L2
structure H2 (α β : Type) where
  a : α
  b : β
deriving DecidableEq
instance {α β : Type} [Inhabited α] [Inhabited β] : Inhabited (H2 α β) := ⟨⟨default, default⟩⟩
instance rpH2 {α β : Type} [Rp α] [Rp β] : Rp (H2 α β) where
  sh K H v x := ∃ p va vb, v = .ref p ∧ H p = some (.lst [va, vb]) ∧ Rp.sh K H va x.a ∧ Rp.sh K H vb x.b
  mono := fun e ⟨p, va, vb, h1, h2, h3, h4⟩ => ⟨p, va, vb, h1, e _ _ h2, Rp.mono e h3, Rp.mono e h4⟩
/-- an own list of two, its items shared -/
def Ow.h2 {α β : Type} [Rp α] [Rp β] : Ow (H2 α β) where
  rep K HF H v x fp := ∃ p va vb, v = .ref p ∧ fp = [p] ∧ H p = some (.lst [va, vb]) ∧ Rp.sh K HF va x.a ∧ Rp.sh K HF vb x.b
  mono := fun e k ⟨p, va, vb, h1, h2, h3, h4, h5⟩ => by
    subst h2
    exact ⟨p, va, vb, h1, rfl, k p (List.mem_singleton.mpr rfl) _ h3, Rp.mono e h4, Rp.mono e h5⟩
  dom := fun ⟨p, va, vb, h1, h2, h3, h4, h5⟩ q hq => by
    subst h2
    rw [List.mem_singleton.mp hq]
    exact ⟨_, h3⟩
  frz := fun e k ⟨p, va, vb, h1, h2, h3, h4, h5⟩ => by
    subst h2
    exact ⟨p, va, vb, h1, k p (List.mem_singleton.mpr rfl) _ h3, Rp.mono e h4, Rp.mono e h5⟩
instance eqvH2 {α β : Type} [Rp α] [Rp β] [DecidableEq α] [DecidableEq β] [Eqv α] [Eqv β] : Eqv (H2 α β) where
  py x := .list [Eqv.py x.a, Eqv.py x.b]
  ok x := Eqv.ok x.a && Eqv.ok x.b
  dep := max (Eqv.dep α) (Eqv.dep β) + 1
  dp := fun ⟨p, va, vb, h1, h2, h3, h4⟩ => by subst h1; exact .lst (SqL.of h2) (.cons (Eqv.dp h3) (.cons (Eqv.dp h4) .nil))
  lay := fun x h => by
    rw [Bool.and_eq_true] at h
    simp [PyData.canLay0, PyData.canLayAll0, Eqv.lay x.a h.1, Eqv.lay x.b h.2]
  deep := fun x => by
    have h1 := Eqv.deep x.a
    have h2 := Eqv.deep x.b
    simp only [PyData.depth, PyData.depthAll]
    omega
  eqv := fun ⟨a, b⟩ ⟨d, e⟩ => by
    simp only [PyData.eqv, PyData.eqvAll, Eqv.eqv]
    by_cases h1 : a = d <;> by_cases h2 : b = e <;> simp [h1, h2]
instance {α β : Type} [Rp α] [Rp β] [DecidableEq α] [DecidableEq β] [Eqv α] [Eqv β] [EqvT α] [EqvT β] : EqvT (H2 α β) := ⟨fun x => by
  show (Eqv.ok x.a && Eqv.ok x.b) = true
  rw [EqvT.all, EqvT.all]; rfl⟩
end Ty
namespace Ty
open PySem PySem.Spec PyProof.Rows L2
/-! ### a call one of whose arguments may raise -/
structure EAs {A : Type} (X : Cx) (W : WX) (Γ : Ctx) (es : List Expr) (r : As A) (m : M (A ⊕ Exn)) (t : TA) : Prop where
  pa : PA X es t
  sem : ∀ HF0 G HF H σ, Good X.K HF0 G Γ HF H σ → ∀ c, m = .ok c → ∀ Q : List V → Hp → Prop, (match c with
    | .inl a => ∀ vs HF' H', Step HF H HF' H' → r.rep X.K HF' vs a → Q vs H'
    | .inr x => ∀ HF' H' d, Step HF H HF' H' → XD HF' d x → W (clv X.K x.c) d σ H') → t σ H Q
section
variable {X : Cx} {Γ : Ctx} {α A B ρ : Type} [Rp ρ] {e : Expr} {es : List Expr} {p pos : Pos} {te : TE} {t : TA}
end
end Ty

namespace Ty
open PySem PySem.Spec PyProof.Rows L2
/-! ### tuples of ints and texts as keys of dicts -/
class Kt (κ : Type) where
  keys : κ → List Key
  inj : ∀ a b, keys a = keys b → a = b
theorem inl_inj : ∀ a b : List Int, a.map (Sum.inl : Int → Key) = b.map Sum.inl → a = b
  | [], [], _ => rfl
  | [], _ :: _, h => by simp at h
  | _ :: _, [], h => by simp at h
  | x :: a, y :: b, h => by
    rw [List.map_cons, List.map_cons] at h
    obtain ⟨h1, h2⟩ := List.cons.inj h
    rw [Sum.inl.inj h1, inl_inj a b h2]
instance ktL : Kt (List Int) := ⟨fun l => l.map Sum.inl, inl_inj⟩
instance ktP {α β : Type} [Ky α] [Ky β] : Kt (α × β) := ⟨fun p => [Ky.key p.1, Ky.key p.2], fun a b h => by
  obtain ⟨h1, h2⟩ := List.cons.inj h
  obtain ⟨h3, -⟩ := List.cons.inj h2
  exact Prod.ext (Ky.inj _ _ h1) (Ky.inj _ _ h3)⟩
structure Tq (κ : Type) where
  a : κ
  deriving DecidableEq
instance {κ : Type} [Inhabited κ] : Inhabited (Tq κ) := ⟨⟨default⟩⟩
instance rpTq {κ : Type} [Kt κ] : Rp (Tq κ) where
  sh K H v x := ∃ b, v = .ref b ∧ H b = some (.tup ((Kt.keys x.a).map kV))
  mono := fun e ⟨b, h1, h2⟩ => ⟨b, h1, e _ _ h2⟩
structure Dt (κ β : Type) where
  l : List (κ × β)
instance {κ β : Type} : Inhabited (Dt κ β) := ⟨⟨[]⟩⟩
def Ft {κ β : Type} [Kt κ] (R : V → β → Prop) : List (List Key × V) → List (κ × β) → Prop
  | [], [] => True
  | p :: ps, q :: qs => (p.1 = Kt.keys q.1 ∧ R p.2 q.2) ∧ Ft R ps qs
  | _, _ => False
theorem Ft.mono {κ β : Type} [Kt κ] {R R' : V → β → Prop} (h : ∀ v b, R v b → R' v b) : ∀ {ps : List (List Key × V)} {qs : List (κ × β)}, Ft R ps qs → Ft R' ps qs
  | [], [], _ => True.intro
  | _ :: _, _ :: _, ⟨⟨x, y⟩, z⟩ => ⟨⟨x, h _ _ y⟩, Ft.mono h z⟩
  | [], _ :: _, x => x.elim
  | _ :: _, [], x => x.elim
theorem Ft.len {κ β : Type} [Kt κ] {R : V → β → Prop} : ∀ {ps : List (List Key × V)} {qs : List (κ × β)}, Ft R ps qs → ps.length = qs.length
  | [], [], _ => rfl
  | _ :: _, _ :: _, ⟨_, z⟩ => congrArg (· + 1) (Ft.len z)
  | [], _ :: _, x => x.elim
  | _ :: _, [], x => x.elim
instance rpDt {κ β : Type} [Kt κ] [Rp β] : Rp (Dt κ β) where
  sh K H v d := ∃ p kvs, v = .ref p ∧ H p = some (.dT kvs) ∧ Ft (Rp.sh K H) kvs d.l
  mono := fun e ⟨p, kvs, h1, h2, h3⟩ => ⟨p, kvs, h1, e _ _ h2, Ft.mono (fun _ _ h => Rp.mono e h) h3⟩
def Rt {κ β : Type} [Kt κ] (R : V → β → List Addr → Prop) : List (List Key × V) → List (κ × β) → List Addr → Prop
  | [], [], fp => fp = []
  | p :: ps, q :: qs, fp => p.1 = Kt.keys q.1 ∧ ∃ f1 f2, fp = f1 ++ f2 ∧ R p.2 q.2 f1 ∧ Rt R ps qs f2
  | _, _, _ => False
theorem Rt.mono {κ β : Type} [Kt κ] {R R' : V → β → List Addr → Prop} : ∀ {ps : List (List Key × V)} {qs : List (κ × β)} {fp : List Addr}, (∀ v b f, (∀ p ∈ f, p ∈ fp) → R v b f → R' v b f) → Rt R ps qs fp → Rt R' ps qs fp
  | [], [], _, _, e => e
  | p :: ps, q :: qs, fp, h, ⟨x, f1, f2, e, y, z⟩ => ⟨x, f1, f2, e, h _ _ _ (fun p hp => by rw [e]; exact List.mem_append_left _ hp) y,
      Rt.mono (fun v a f hf => h v a f fun p hp => by rw [e]; exact List.mem_append_right _ (hf p hp)) z⟩
  | [], _ :: _, _, _, x => x.elim
  | _ :: _, [], _, _, x => x.elim
theorem Rt.ft {κ β : Type} [Kt κ] {R : V → β → List Addr → Prop} {R' : V → β → Prop} : ∀ {ps : List (List Key × V)} {qs : List (κ × β)} {fp : List Addr}, (∀ v b f, (∀ p ∈ f, p ∈ fp) → R v b f → R' v b) → Rt R ps qs fp → Ft R' ps qs
  | [], [], _, _, _ => True.intro
  | p :: ps, q :: qs, fp, h, ⟨x, f1, f2, e, y, z⟩ => ⟨⟨x, h _ _ _ (fun p hp => by rw [e]; exact List.mem_append_left _ hp) y⟩,
      Rt.ft (fun v a f hf => h v a f fun p hp => by rw [e]; exact List.mem_append_right _ (hf p hp)) z⟩
  | [], _ :: _, _, _, x => x.elim
  | _ :: _, [], _, _, x => x.elim
theorem Rt.dom {κ β : Type} [Kt κ] {R : V → β → List Addr → Prop} {D : Addr → Prop} (h : ∀ v b f, R v b f → ∀ p ∈ f, D p) : ∀ {ps : List (List Key × V)} {qs : List (κ × β)} {fp : List Addr}, Rt R ps qs fp → ∀ p ∈ fp, D p
  | [], [], fp, e, p, hp => by
    have e' : fp = [] := e
    subst e'; cases hp
  | _ :: ps, q :: qs, fp, ⟨x, f1, f2, e, y, z⟩, p, hp => by
    rw [e] at hp
    rcases List.mem_append.mp hp with hp | hp
    · exact h _ _ _ y p hp
    · exact Rt.dom h z p hp
  | [], _ :: _, _, x, _, _ => x.elim
  | _ :: _, [], _, x, _, _ => x.elim
theorem Rt.snoc {κ β : Type} [Kt κ] {R : V → β → List Addr → Prop} {k : κ} {v : V} {b : β} {g : List Addr} (h : R v b g) : ∀ {ps : List (List Key × V)} {qs : List (κ × β)} {fp : List Addr}, Rt R ps qs fp → Rt R (ps ++ [(Kt.keys k, v)]) (qs ++ [(k, b)]) (fp ++ g)
  | [], [], fp, e => by
    have e' : fp = [] := e
    subst e'
    exact ⟨rfl, g, [], by simp, h, rfl⟩
  | p :: ps, q :: qs, fp, ⟨x, f1, f2, e, y, z⟩ => ⟨x, f1, f2 ++ g, by rw [e, List.append_assoc], y, Rt.snoc h z⟩
  | [], _ :: _, _, x => x.elim
  | _ :: _, [], _, x => x.elim
theorem Rt.len {κ β : Type} [Kt κ] {R : V → β → List Addr → Prop} : ∀ {ps : List (List Key × V)} {qs : List (κ × β)} {fp : List Addr}, Rt R ps qs fp → ps.length = qs.length
  | [], [], _, _ => rfl
  | _ :: _, _ :: _, _, ⟨_, _, _, _, _, z⟩ => congrArg (· + 1) (Rt.len z)
  | [], _ :: _, _, x => x.elim
  | _ :: _, [], _, x => x.elim
theorem Rt.toFt {κ β : Type} [Kt κ] [Rp β] {K : PySem.W.Frag} {HF H : Hp} : ∀ {ps : List (List Key × V)} {qs : List (κ × β)} {fp : List Addr}, Rt (Ow.v.rep K HF H) ps qs fp → Ft (Rp.sh K HF) ps qs ∧ fp = []
  | [], [], _, e => ⟨True.intro, e⟩
  | p :: ps, q :: qs, fp, ⟨x, f1, f2, e, ⟨y, e1⟩, z⟩ => by
    obtain ⟨z1, e2⟩ := Rt.toFt z
    exact ⟨⟨⟨x, y⟩, z1⟩, by rw [e, e1, e2]; rfl⟩
  | [], _ :: _, _, x => x.elim
  | _ :: _, [], _, x => x.elim
/-- an own dict whose keys are tuples -/
def Ow.dt {κ β : Type} [Kt κ] [Rp β] (o : Ow β) : Ow (Dt κ β) where
  rep K HF H v d fp := ∃ p kvs fq, v = .ref p ∧ fp = p :: fq ∧ H p = some (.dT kvs) ∧ Rt (o.rep K HF H) kvs d.l fq
  mono := fun e k ⟨p, kvs, fq, h1, h2, h3, h4⟩ => by
    subst h2
    exact ⟨p, kvs, fq, h1, rfl, k p (List.mem_cons_self ..) _ h3, Rt.mono (fun v a f hf h => o.mono e (fun q hq => k q (List.mem_cons_of_mem _ (hf q hq))) h) h4⟩
  dom := fun ⟨p, kvs, fq, h1, h2, h3, h4⟩ q hq => by
    subst h2
    rcases List.mem_cons.mp hq with e | hq
    · exact ⟨_, e ▸ h3⟩
    · exact Rt.dom (fun v a f h => o.dom h) h4 q hq
  frz := fun e k ⟨p, kvs, fq, h1, h2, h3, h4⟩ => by
    subst h2
    exact ⟨p, kvs, h1, k p (List.mem_cons_self ..) _ h3, Rt.ft (fun v a f hf h => o.frz e (fun q hq => k q (List.mem_cons_of_mem _ (hf q hq))) h) h4⟩
instance indDt {κ β : Type} [Kt κ] [Rp β] {o : Ow β} [Ind o] : Ind (Ow.dt (κ := κ) o) where
  ind := fun ⟨p, kvs, fq, h1, h2, h3, h4⟩ => ⟨p, kvs, fq, h1, h2, h3, Rt.mono (fun v a f _ h => Ind.ind h) h4⟩
section
variable {κ β : Type} [Kt κ] [DecidableEq κ] {R : V → β → Prop}
theorem keys_dec (a b : κ) : decide (Kt.keys a = Kt.keys b) = decide (a = b) := by
  by_cases h : a = b
  · subst h; simp
  · rw [decide_eq_false h, decide_eq_false fun e => h (Kt.inj a b e)]
theorem Ft.get (k : κ) : ∀ {ps : List (List Key × V)} {qs : List (κ × β)}, Ft R ps qs → (∀ b, dget qs k = some b → ∃ v, valV ps (Kt.keys k) = some v ∧ R v b) ∧ (dget qs k = none → valV ps (Kt.keys k) = none)
  | [], [], _ => ⟨fun b h => by simp [dget] at h, fun _ => rfl⟩
  | p :: ps, q :: qs, ⟨⟨x, y⟩, z⟩ => by
    have ih := Ft.get k z
    by_cases h : q.1 = k
    · have e1 : dget (q :: qs) k = some q.2 := by simp [dget, h]
      have e2 : valV (p :: ps) (Kt.keys k) = some p.2 := valV_pos (by rw [x, h])
      rw [e1, e2]
      exact ⟨fun b e => ⟨p.2, rfl, by rw [← Option.some.inj e]; exact y⟩, fun e => by cases e⟩
    · have e1 : dget (q :: qs) k = dget qs k := by simp [dget, h]
      have e2 : valV (p :: ps) (Kt.keys k) = valV ps (Kt.keys k) := valV_neg fun e => h (Kt.inj _ _ (by rw [← x, e]))
      rw [e1, e2]
      exact ih
  | [], _ :: _, x => x.elim
  | _ :: _, [], x => x.elim
/-- the own value of a key -/
theorem Rt.get {R : V → β → List Addr → Prop} (k : κ) {b : β} : ∀ {ps : List (List Key × V)} {qs : List (κ × β)} {fp : List Addr}, Rt R ps qs fp → dget qs k = some b → ∃ v f, valV ps (Kt.keys k) = some v ∧ R v b f ∧ (∀ p ∈ f, p ∈ fp) ∧ (fp.Nodup → f.Nodup)
  | [], [], _, _, h => by simp [dget] at h
  | p :: ps, q :: qs, fp, ⟨x, f1, f2, e, y, z⟩, hb => by
    by_cases h : q.1 = k
    · have e1 : dget (q :: qs) k = some q.2 := by simp [dget, h]
      have e2 : valV (p :: ps) (Kt.keys k) = some p.2 := valV_pos (by rw [x, h])
      rw [e1] at hb
      rw [← Option.some.inj hb]
      exact ⟨p.2, f1, e2, y, fun p hp => by rw [e]; exact List.mem_append_left _ hp, fun n => by rw [e] at n; exact (List.nodup_append.mp n).1⟩
    · have e1 : dget (q :: qs) k = dget qs k := by simp [dget, h]
      have e2 : valV (p :: ps) (Kt.keys k) = valV ps (Kt.keys k) := valV_neg fun e => h (Kt.inj _ _ (by rw [← x, e]))
      rw [e1] at hb
      obtain ⟨v, f, a1, a2, a3, a4⟩ := Rt.get k z hb
      exact ⟨v, f, by rw [e2]; exact a1, a2, fun p hp => by rw [e]; exact List.mem_append_right _ (a3 p hp), fun n => by rw [e] at n; exact a4 (List.nodup_append.mp n).2.1⟩
  | [], _ :: _, _, x, _ => x.elim
  | _ :: _, [], _, x, _ => x.elim
theorem Rt.put {R : V → β → List Addr → Prop} (k : κ) {v : V} {b : β} {g fp : List Addr} (h : R v b g) {ps : List (List Key × V)} {qs : List (κ × β)} (f : Rt R ps qs fp) (hn : dget qs k = none) : Rt R (putK ps (Kt.keys k) v) (qs ++ [(k, b)]) (fp ++ g) := by
  have : (ps.any fun p => decide (p.1 = Kt.keys k)) = false := by
    induction ps generalizing qs fp with
    | nil => rfl
    | cons p ps ih =>
      cases qs with
      | nil => exact f.elim
      | cons q qs =>
        obtain ⟨x, f1, f2, e, y, z⟩ := f
        have hq : q.1 ≠ k := fun e => by simp [dget, e] at hn
        have e1 : dget (q :: qs) k = dget qs k := by simp [dget, hq]
        rw [List.any_cons, ih z (by rw [← e1]; exact hn), x, keys_dec, decide_eq_false hq]; rfl
  unfold putK
  rw [this, if_neg (by decide)]
  exact Rt.snoc h f
theorem Ft.any (k : κ) : ∀ {ps : List (List Key × V)} {qs : List (κ × β)}, Ft R ps qs → (ps.any fun p => decide (p.1 = Kt.keys k)) = qs.any fun p => decide (p.1 = k)
  | [], [], _ => rfl
  | p :: ps, q :: qs, ⟨⟨x, y⟩, z⟩ => by rw [List.any_cons, List.any_cons, Ft.any k z, x, keys_dec]
  | [], _ :: _, x => x.elim
  | _ :: _, [], x => x.elim
theorem Ft.app : ∀ {ps ps' : List (List Key × V)} {qs qs' : List (κ × β)}, Ft R ps qs → Ft R ps' qs' → Ft R (ps ++ ps') (qs ++ qs')
  | [], _, [], _, _, h => h
  | _ :: _, _, _ :: _, _, ⟨x, y⟩, h => ⟨x, Ft.app y h⟩
  | [], _, _ :: _, _, x, _ => x.elim
  | _ :: _, _, [], _, x, _ => x.elim
theorem Ft.upd (k : κ) {v : V} {b : β} (h : R v b) : ∀ {ps : List (List Key × V)} {qs : List (κ × β)}, Ft R ps qs → Ft R (ps.map fun p => if p.1 = Kt.keys k then (p.1, v) else p) (qs.map fun p => if p.1 = k then (k, b) else p)
  | [], [], _ => True.intro
  | p :: ps, q :: qs, ⟨⟨x, y⟩, z⟩ => by
    refine ⟨?_, Ft.upd k h z⟩
    show (if p.1 = Kt.keys k then (p.1, v) else p).1 = Kt.keys (if q.1 = k then (k, b) else q).1 ∧ R (if p.1 = Kt.keys k then (p.1, v) else p).2 (if q.1 = k then (k, b) else q).2
    by_cases e : q.1 = k
    · rw [if_pos (by rw [x, e]), if_pos e]
      exact ⟨by rw [x, e], h⟩
    · rw [if_neg (fun w => e (Kt.inj _ _ (by rw [← x, w]))), if_neg e]
      exact ⟨x, y⟩
  | [], _ :: _, x => x.elim
  | _ :: _, [], x => x.elim
theorem Ft.put (k : κ) {v : V} {b : β} (h : R v b) {ps : List (List Key × V)} {qs : List (κ × β)} (f : Ft R ps qs) : Ft R (putK ps (Kt.keys k) v) (dput qs k b) := by
  unfold putK dput
  rw [f.any k]
  by_cases c : (qs.any fun p => decide (p.1 = k)) = true
  · rw [if_pos c, if_pos c]; exact f.upd k h
  · rw [if_neg c, if_neg c]
    exact f.app ⟨⟨rfl, h⟩, True.intro⟩
end
/-! ### {tuple: value} -/
section
variable {X : Cx} {Γ : Ctx} {S L ρ α β κ γ A B S' : Type} [Rp ρ] {o : Ow ρ} {Γo : S → Ctx} {ΓL : L → Ctx} {a b c e f : Expr} {es : List Expr} {pos p p1 p2 apos cpos : Pos} {ta tb tc te tf : TE} {t : TA} {sts : List Stmt} {tr tr' : TS}
end
end Ty

namespace Ty
open PySem PySem.Spec PyProof.Rows L2
section
variable {X : Cx} {Γ : Ctx} {S L ρ α β κ γ A B S' : Type} [Rp ρ] {o : Ow ρ} {Γo : S → Ctx} {ΓL : L → Ctx} {a b c e f : Expr} {es : List Expr} {pos p p1 p2 apos cpos : Pos} {ta tb tc te tf : TE} {t : TA} {sts : List Stmt} {tr tr' : TS}
end
end Ty

/-! ## Ty67: some statements that look at own things, which stay own -/
namespace Ty
open PySem PySem.Spec PyProof.Rows L2
section
variable {X : Cx} {Γ : Ctx} {S L ρ α β κ γ A B S' : Type} [Rp ρ] {o : Ow ρ} {Γo : S → Ctx} {ΓL : L → Ctx} {a b c e f : Expr} {es : List Expr} {pos p p1 p2 apos cpos : Pos} {ta tb tc te tf : TE} {t : TA} {sts : List Stmt} {tr tr' : TS}
end
end Ty

/-! ## Ty68: None, a list of whatever things, or a text and a number -/
namespace Ty
open PySem PySem.Spec PyProof.Rows L2
inductive Opq where
  | o
  deriving DecidableEq
instance : Inhabited Opq := ⟨.o⟩
instance : Rp Opq where
  sh _ _ _ _ := True
  mono _ h := h
inductive Xv where
  | n
  | l (as : List Opq)
  | p (x : Str × Int)
instance : Inhabited Xv := ⟨.n⟩
instance : Rp Xv where
  sh K H v j := match j with
    | .n => v = .non
    | .l xs => Rp.sh K H v xs
    | .p x => Rp.sh K H v x
  mono {K H H' v a} e h := by
    cases a with
    | n => exact h
    | l xs => exact Rp.mono (α := List Opq) e h
    | p x => exact Rp.mono (α := Str × Int) e h
section
variable {X : Cx} {Γ : Ctx} {α A B ρ : Type} [Rp ρ] {e : Expr} {es : List Expr} {p pos : Pos} {te : TE} {t : TA}
end
end Ty

/-! ## Ty69: a def that may raise and tells nothing -/
namespace Ty
open PySem PySem.Spec PyProof.Rows L2
section
variable {P : Program} {w : World} {K : PySem.W.Frag} {mg : Str → Option Value} {base : Heap}
end
end Ty

/-! ## Ty70: the keys of a dict of tuples as a list; tuples of ints sorted -/
namespace Ty
open PySem PySem.Spec PyProof.Rows L2
/-! ### the order of lists of ints -/
/-! ### sorted -/
section
variable {X : Cx} {pins : List (Addr × Obj)} {σ : L2.St} {H : Hp} {s : Shared}
end
section
variable {X : Cx} {Γ : Ctx} {α β κ : Type} {e : Expr} {p pos : Pos} {te : TE}
end
end Ty

/-! ## Ty71: three things told as one; list[::-1] -/
namespace L2
open PySem PySem.Spec PyProof.Rows
section
variable {X : Cx} {e : Expr} {te : TE}
end
end L2
namespace Ty
open PySem PySem.Spec PyProof.Rows L2
/-- a list of whatever -/
inductive Lsv where
  | l
  deriving DecidableEq
instance : Inhabited Lsv := ⟨.l⟩
instance : Rp Lsv where
  sh K H v _ := ∃ p vs, v = .ref p ∧ H p = some (.lst vs)
  mono := fun {K H H' v a} e ⟨p, vs, h1, h2⟩ => ⟨p, vs, h1, e _ _ h2⟩
instance : Kd Lsv := ⟨"list", fun ⟨p, vs, e, h⟩ => by subst e; exact .base (.lst h)⟩
instance kdT3 {α β γ : Type} [Rp α] [Rp β] [Rp γ] : Kd (T3 α β γ) := ⟨"tuple", fun ⟨p, va, vb, vc, e, h, _⟩ => by
  subst e
  rcases h with (h | ⟨o, h⟩) | ⟨o, its, n, e, c, _⟩
  · exact .base (.tup h)
  · exact .fTuple h
  · exact .kTuple e c⟩
instance eqvT3 {α β γ : Type} [Rp α] [Rp β] [Rp γ] [DecidableEq α] [DecidableEq β] [DecidableEq γ] [Eqv α] [Eqv β] [Eqv γ] : Eqv (T3 α β γ) where
  py x := .tuple [Eqv.py x.a, Eqv.py x.b, Eqv.py x.c]
  ok x := Eqv.ok x.a && (Eqv.ok x.b && Eqv.ok x.c)
  dep := max (Eqv.dep α) (max (Eqv.dep β) (Eqv.dep γ)) + 1
  dp := fun ⟨p, va, vb, vc, h1, h2, h3, h4, h5⟩ => by subst h1; exact .tup h2 (.cons (Eqv.dp h3) (.cons (Eqv.dp h4) (.cons (Eqv.dp h5) .nil)))
  lay := fun x h => by
    rw [Bool.and_eq_true, Bool.and_eq_true] at h
    simp [PyData.canLay0, PyData.canLayAll0, Eqv.lay x.a h.1, Eqv.lay x.b h.2.1, Eqv.lay x.c h.2.2]
  deep := fun x => by
    have h1 := Eqv.deep x.a
    have h2 := Eqv.deep x.b
    have h3 := Eqv.deep x.c
    simp only [PyData.depth, PyData.depthAll]
    omega
  eqv := fun ⟨a, b, c⟩ ⟨d, e, f⟩ => by
    simp only [PyData.eqv, PyData.eqvAll, Eqv.eqv, T3.mk.injEq]
    by_cases h1 : a = d <;> by_cases h2 : b = e <;> by_cases h3 : c = f <;> simp [h1, h2, h3]
instance {α β γ : Type} [Rp α] [Rp β] [Rp γ] [DecidableEq α] [DecidableEq β] [DecidableEq γ] [Eqv α] [Eqv β] [Eqv γ] [EqvT α] [EqvT β] [EqvT γ] : EqvT (T3 α β γ) := ⟨fun a => by
  show (Eqv.ok a.a && (Eqv.ok a.b && Eqv.ok a.c)) = true
  rw [EqvT.all, EqvT.all, EqvT.all]; rfl⟩
instance eqvOpL {α : Type} [Rp α] [DecidableEq α] [Eqv α] : Eqv (Op (List α)) where
  py x := match x.o with | none => .none | some a => Eqv.py a
  ok x := match x.o with | none => true | some a => Eqv.ok a
  dep := Eqv.dep (List α)
  dp := fun {K H v a} h => by
    obtain ⟨o⟩ := a
    cases o with
    | none => have h : v = .non := h; subst h; exact .non
    | some a => exact Eqv.dp (α := List α) h
  lay := fun x h => by
    obtain ⟨o⟩ := x
    cases o with
    | none => simp [PyData.canLay0]
    | some a => exact Eqv.lay (α := List α) a h
  deep := fun x => by
    obtain ⟨o⟩ := x
    cases o with
    | none => simp [PyData.depth]
    | some a => exact Eqv.deep (α := List α) a
  eqv := fun ⟨a⟩ ⟨b⟩ => by
    cases a with
    | none =>
      cases b with
      | none => simp [PyData.eqv]
      | some b =>
        show PyData.eqv .none (.list (b.map Eqv.py)) = _
        simp [PyData.eqv]
    | some a =>
      cases b with
      | none =>
        show PyData.eqv (.list (a.map Eqv.py)) .none = _
        simp [PyData.eqv]
      | some b =>
        show PyData.eqv (Eqv.py a) (Eqv.py b) = _
        rw [Eqv.eqv]
        by_cases h : a = b <;> simp [h]
instance {α : Type} [Rp α] [DecidableEq α] [Eqv α] [EqvT α] : EqvT (Op (List α)) := ⟨fun ⟨a⟩ => by
  cases a with
  | none => rfl
  | some a => exact EqvT.all a⟩
section
variable {X : Cx} {Γ : Ctx} {S L ρ α β γ A B S' : Type} {a b c e : Expr} {es : List Expr} {pos p apos cpos p1 p2 : Pos} {ta tb te : TE} {t : TA} [Rp ρ] {o : Ow ρ} {Γo : S → Ctx} {ΓL : L → Ctx} {sts : List Stmt} {tr tr' : TS}
end
end Ty

/-! ## Ty72: three own things handed back as one; own parts of a tuple changed -/
namespace Ty
open PySem PySem.Spec PyProof.Rows L2
theorem Holds.pull {K : PySem.W.Frag} {HF H : Hp} {Γ : Ctx} {σ : L2.St} {fs : List Addr} {i : Nat} {α : Type} [Rp α] {u : Ow α} {x : α} (h1 : Holds K HF H Γ σ fs) (nd : fs.Nodup) (hl : look Γ i = .mk u x) :
    ∃ v fo fr, σ[i]? = some (some v) ∧ u.rep K HF H v x fo ∧ fo.Nodup ∧ Holds K HF H (Ty.put Γ i .un) σ fr ∧ fr.Nodup ∧ (∀ p ∈ fo, p ∈ fs) ∧ (∀ p ∈ fr, p ∈ fs) ∧ ∀ p ∈ fo, p ∉ fr := by
  have hjl := look_lt' hl
  obtain ⟨fo, fr', q1, q2, q3, q4⟩ := h1.put hjl
  obtain ⟨n1, n2, n3⟩ := q3 nd
  rw [hl] at q1
  obtain ⟨v, e1, r1⟩ := q1
  have hlen := h1.len
  have hσ : σ[i]? = some (some v) := by
    rw [List.getElem?_eq_getElem (by omega)]
    rw [List.getD_eq_getElem?_getD, List.getElem?_eq_getElem (by omega)] at e1
    exact congrArg some e1
  obtain ⟨fs', w1, w2, w3⟩ := q4 (HF' := HF) (H' := H) (s := .un) (x := some v) (f := []) (fun _ h => h) (fun _ h => h) rfl
  rw [set_self hσ] at w1
  have inr : ∀ p, p ∈ fs' → p ∈ fr' := fun p hp => ((w2 p).mp hp).elim (fun z => by cases z) id
  exact ⟨v, fo, fs', hσ, r1, n2, w1, w3 n1 List.nodup_nil (fun p hp => by cases hp), fun p hp => (q2 p).mpr (.inl hp), fun p hp => (q2 p).mpr (.inr (inr p hp)), fun p hp z => n3 p hp (inr p z)⟩
section
variable {X : Cx} {Γ : Ctx} {S L ρ α β γ A B S' : Type} {a b c e : Expr} {es : List Expr} {pos p apos cpos p1 p2 : Pos} {ta tb te : TE} {t : TA} {sts : List Stmt} {tr tr' : TS}
end
end Ty

/-! ## Ty73: sorted of lists of whole numbers -/
namespace Ty
open PySem PySem.Spec PyProof.Rows L2
section
variable {X : Cx} {pins : List (Addr × Obj)} {σ : L2.St} {H : Hp} {s : Shared}
end
/-- a thing and its own value -/
structure Idr (α : Type) where
  v : V
  a : α
instance {α : Type} [Inhabited α] : Inhabited (Idr α) := ⟨⟨.non, default⟩⟩
instance {α : Type} [Rp α] : Rp (Idr α) where
  sh K H v x := v = x.v ∧ Rp.sh K H v x.a
  mono := fun e h => ⟨h.1, Rp.mono e h.2⟩
abbrev Rw := Addr × List Int
def idr (q : Rw) : Idr (List Int) := ⟨.ref q.1, q.2⟩
section
variable {X : Cx} {Γ : Ctx} {S L ρ α β γ A S' : Type} {a b e f : Expr} {es : List Expr} {pos p p1 p2 q1 : Pos} {ta tb te tf : TE} {t : TA} {sts : List Stmt} {tr tr' : TS}
/-- x = x + e, an own list and a new one: the items go over -/
theorem ss_catO [Rp ρ] [Rp α] {o : Ow ρ} {Γo : S → Ctx} {ΓL : L → Ctx} (i : Nat) {u : Ow α} [Ind u] {as : List α} {x : Str} {m : M (List α)} {k : List α → M (Ctl S L ρ)} {px pb pos' : Pos} (hN' : X.N.Nodup) (he : EX X (vw Γ) e (Ow.l u) m te) (hr : ∀ l, SS X (put Γ i (.mk (Ow.l u) l)) sts Γo ΓL o (k l) tr) (hl : look Γ i = .mk (Ow.l u) as := by rfl) (hN : X.N[i]? = some x := by rfl) (hv : Vis X.env.scope x := by first | exact Or.inl rfl | exact Or.inr (Or.inl rfl) | exact Or.inr (Or.inr rfl)) (hd : (x == ("__debug__" : Str)) = false := by decide)
    (hcd : (x == ("__classdict__" : Str)) = false := by decide) (hx : Loc X.env.scope x := by first | exact .inl rfl | exact .inr rfl)
    (hs : swapsWith (.BinOp (.Name x px) .Add e pb) (some (.Name x pos')) pos.line X.env = pure false := by rfl) (hf : X.fn x = true ∨ X.env.scope.names.lookup x = some .local := by first | exact .inl rfl | exact .inr rfl) :
    SS X Γ (.Assign [.Name x pos'] (.BinOp (.Name x px) .Add e pb) pos :: sts) Γo ΓL o (do let l ← m; let r ← catM as l; k r) (tSeq (tAsg (tOp rCat (tVar i) te) (gName i)) tr) :=
  ⟨pss_cons (ps_set hN' hN hx (pe_op op_cat (pe_var hN hv hd hcd) he.pe) hs hf) (hr []).pss, fun HF0 G HF H σ g c hc D kk => by
    obtain ⟨l, e1, hc⟩ := bind_ok hc
    obtain ⟨r, e2, hc⟩ := bind_ok hc
    obtain ⟨w, e3, e2⟩ := bind_ok e2
    cases pure_ok e2
    obtain ⟨v, fo, hσ, ⟨q, us, fq, t1, t2, t3, t4⟩, nd, hfo, back⟩ := g.take hl
    subst t1 t2
    refine ⟨.ref q, hσ, ?_⟩
    refine he.sem H H H H σ g.vw l e1 _ fun v HF1 H1 fp st r n f => ?_
    obtain ⟨q', us', fp2, r1, r2, r3, r4⟩ := r
    subst r1 r2
    refine ⟨q, q', us, us', rfl, rfl, st.exH _ _ t3, r3, by rw [t4.len, r4.len]; exact of_decide_eq_true (gd_ok e3), fun p hp => ?_⟩
    have stH : Step HF H HF H1 := ⟨Same.refl _, st.exH, g.sub.trans st.exH, fun p o a b => by rw [a] at b; cases b⟩
    have hpH : H p = none := by
      cases z : H p with
      | none => rfl
      | some o => rw [st.exH _ _ z] at hp; cases hp
    have d1 := Rl.dom (fun v a f r => u.dom r) t4
    have d2 := Rl.dom (fun v a f r => u.dom r) r4
    have a1 : Rl (u.rep X.K HF (upd H1 p (.lst (us ++ us')))) us as fq := Rl.mono (fun v a f0 h0 r0 => u.mono (Same.refl _) (fun z hz w e => upd_keep hp _ _ (st.exH _ _ e)) r0) t4
    have a2 : Rl (u.rep X.K HF (upd H1 p (.lst (us ++ us')))) us' l fp2 := Rl.mono (fun v a f0 h0 r0 => u.mono (Same.refl _) (fun z hz w e => upd_keep hp _ _ e) (Ind.ind r0)) r4
    have gg := back (u' := Ow.l u) (b := as ++ l) (v' := .ref p) (f' := p :: (fq ++ fp2)) (H' := upd H1 p (.lst (us ++ us'))) stH (fun p' w _ e => upd_keep hp _ _ e)
      ⟨p, us ++ us', fq ++ fp2, rfl, rfl, upd_same, Rl.append a1 a2⟩
      (List.nodup_cons.mpr ⟨(fun z => by
        rcases List.mem_append.mp z with z | z
        · obtain ⟨w, hw⟩ := d1 p z
          rw [hpH] at hw; cases hw
        · obtain ⟨w, hw⟩ := d2 p z
          rw [hp] at hw; cases hw), List.nodup_append.mpr ⟨(List.nodup_cons.mp nd).2, (List.nodup_cons.mp n).2, fun z hz z' hz' e => by
        subst e
        obtain ⟨w, hw⟩ := d1 z hz
        rw [(f z (List.mem_cons_of_mem _ hz')).1] at hw; cases hw⟩⟩)
      (fun z hz => by
        rcases List.mem_cons.mp hz with y | y
        · rw [y]; exact .inr ⟨hpH, g.sub.free hpH⟩
        · rcases List.mem_append.mp y with y | y
          · exact .inl (List.mem_cons_of_mem _ y)
          · exact .inr ⟨(f z (List.mem_cons_of_mem _ y)).1, g.sub.free (f z (List.mem_cons_of_mem _ y)).1⟩)
    exact (hr (as ++ l)).sem HF0 G HF _ _ gg c hc D kk⟩
end
end Ty

/-! ## Ty74: len(set(text)), len(set(list of texts)) -/
namespace Ty
open PySem PySem.Spec PyProof.Rows L2
/-- each once -/
def dd : List Str → List Str
  | [] => []
  | x :: l => if x ∈ dd l then dd l else x :: dd l
section
variable {P : Program} {w : World} {A : Around} {E : Value → Shared → Prop} {s : Shared} {a : Addr} {S : Str → Bool} {n : Nat}
end
section
variable {X : Cx} {Γ : Ctx} {a : Expr} {pos p p2 q : Pos} {ta : TE}
end
end Ty

/-! ## Ty75: zip of two texts -/
namespace RZ
open PySem
open PySem.Sem (wp)
set_option maxHeartbeats 1000000
section
variable {prog : Program} {w : World} {A : Around} {E : Value → Shared → Prop} {s : Shared}
theorem nextOf_ascii_end {it : Addr} {x : Str} {t : Tok} {i : Nat} {Q : Value → Shared → Prop} (hh : A.handled = none)
    (hit : s.heap.IsStrIter it "str_ascii_iterator" x t i) (hx : x.cps[i]? = none)
    (hE : ∀ h' e, Heap.ExtBut it s.heap h' → (∃ o, h'.get? e = some o ∧ o.cls = .type "StopIteration") → E (.ref e) { s with heap := h' }) :
    wpAny (model prog w) A (Builtin.SmallTypes.nextOf (.ref it)) Q E s := by
  obtain ⟨o, ho, hc, hd⟩ := id hit
  unfold Builtin.SmallTypes.nextOf
  refine wpAny_bind (wpAny_callSpecial?_slot (name := Str.ofString "__next__") hit.typeIs F.slot_str_ascii_iterator_next
    (wpAny_call_entry F.slot_str_ascii_iterator_next hit.typeIs F.entry_str_ascii_iterator_next ?_ (F.args_str_ascii_iterator_next_1 _)))
  show wpAny _ _ (field (.ref it) 0 >>= _) _ _ s
  refine wpAny_bind (wpAny_field ho hd (x := .str x t) rfl ?_)
  show wpAny _ _ (field (.ref it) 1 >>= _) _ _ s
  refine wpAny_bind (wpAny_field ho hd (x := .int i 0) rfl ?_)
  simp only [Int.toNat_natCast, hx]
  refine wpAny_bind (wpAny_rule (wpAny_bind (wpAny_setField ho hd (by simp) (wpAny_bind (wpAny_letGo ?_)))))
  show wpAny _ _ (newExc (.type "StopIteration") [] >>= _) _ _ _
  refine wpAny_bind ?_
  simp only [newExc, newTuple]
  refine wpAny_bind (wpAny_newObj_type ?_ (by size_fits))
  refine wpAny_bind (m := firstArgMember _ _) (wpAny_of_eq (a := Value.none) (by first | rfl | (simp only [firstArgMember]; rfl)) ?_)
  refine wpAny_newObj_type ?_ (by size_fits)
  simp only [raiseNew]
  refine wpAny_bind (wpAny_handled ?_)
  first | rw [show A.in1.handled = none from hh] | rw [hh]
  refine wpAny_bind (wpAny_pure (wpAny_throw ?_))
  exact hE _ _ (((Heap.SameBut.update ..).extBut.push _).push _) ⟨_, Heap.get?_push_size _ rfl, rfl⟩
theorem nextOf_wide_end {it : Addr} {x : Str} {t : Tok} {i : Nat} {Q : Value → Shared → Prop} (hh : A.handled = none)
    (hit : s.heap.IsStrIter it "str_iterator" x t i) (hx : x.cps[i]? = none)
    (hE : ∀ h' e, Heap.ExtBut it s.heap h' → (∃ o, h'.get? e = some o ∧ o.cls = .type "StopIteration") → E (.ref e) { s with heap := h' }) :
    wpAny (model prog w) A (Builtin.SmallTypes.nextOf (.ref it)) Q E s := by
  obtain ⟨o, ho, hc, hd⟩ := id hit
  unfold Builtin.SmallTypes.nextOf
  refine wpAny_bind (wpAny_callSpecial?_slot (name := Str.ofString "__next__") hit.typeIs F.slot_str_iterator_next
    (wpAny_call_entry F.slot_str_iterator_next hit.typeIs F.entry_str_iterator_next ?_ (F.args_str_iterator_next_1 _)))
  show wpAny _ _ (field (.ref it) 0 >>= _) _ _ s
  refine wpAny_bind (wpAny_field ho hd (x := .str x t) rfl ?_)
  show wpAny _ _ (field (.ref it) 1 >>= _) _ _ s
  refine wpAny_bind (wpAny_field ho hd (x := .int i 0) rfl ?_)
  simp only [Int.toNat_natCast, hx]
  refine wpAny_bind (wpAny_rule (wpAny_bind (wpAny_setField ho hd (by simp) (wpAny_bind (wpAny_letGo ?_)))))
  show wpAny _ _ (newExc (.type "StopIteration") [] >>= _) _ _ _
  refine wpAny_bind ?_
  simp only [newExc, newTuple]
  refine wpAny_bind (wpAny_newObj_type ?_ (by size_fits))
  refine wpAny_bind (m := firstArgMember _ _) (wpAny_of_eq (a := Value.none) (by first | rfl | (simp only [firstArgMember]; rfl)) ?_)
  refine wpAny_newObj_type ?_ (by size_fits)
  simp only [raiseNew]
  refine wpAny_bind (wpAny_handled ?_)
  first | rw [show A.in1.handled = none from hh] | rw [hh]
  refine wpAny_bind (wpAny_pure (wpAny_throw ?_))
  exact hE _ _ (((Heap.SameBut.update ..).extBut.push _).push _) ⟨_, Heap.get?_push_size _ rfl, rfl⟩

def TyS (ty : String) : Prop := ty = "str_ascii_iterator" ∨ ty = "str_iterator"
theorem nextOf_str_end {it : Addr} {ty : String} {x : Str} {t : Tok} {i : Nat} {Q : Value → Shared → Prop} (hh : A.handled = none) (hty : TyS ty)
    (hit : s.heap.IsStrIter it ty x t i) (hx : x.cps[i]? = none)
    (hE : ∀ h' e, Heap.ExtBut it s.heap h' → (∃ o, h'.get? e = some o ∧ o.cls = .type "StopIteration") → E (.ref e) { s with heap := h' }) :
    wpAny (model prog w) A (Builtin.SmallTypes.nextOf (.ref it)) Q E s := by
  rcases hty with e | e
  · subst e; exact nextOf_ascii_end hh hit hx hE
  · subst e; exact nextOf_wide_end hh hit hx hE
end
section
variable {prog : Program} {w : World} {A : Around} {E : Value → Shared → Prop} {s : Shared}
end
end RZ
namespace RZ
open PySem PySem.Spec PyProof.Rows L2
end RZ
namespace Ty
open PySem PySem.Spec PyProof.Rows L2
section
variable {X : Cx} {Γ : Ctx} {a b : Expr} {pos p : Pos} {ta tb : TE}
end
end Ty

/-! ## Vdesk (under way): an own instance with a text and an own list of texts, whose fields change -/
namespace Ty
open PySem PySem.Spec PyProof.Rows L2
/-- a desk: its class's name, its word, the words ahead -/
structure Dsk where
  c : Str
  word : Str
  ahead : List Str
instance : Inhabited Dsk := ⟨⟨"", "", []⟩⟩
instance : Rp Dsk where
  sh K H v d := ∃ a dx al, v = .ref a ∧ H a = some (.ins (He.ga K d.c) dx [("word", .str d.word), ("ahead", .ref al)]) ∧ H al = some (.lst (d.ahead.map V.str))
  mono := fun s ⟨a, dx, al, h1, h2, h3⟩ => ⟨a, dx, al, h1, s _ _ h2, s _ _ h3⟩
def Ow.dsk : Ow Dsk where
  rep K HF H v d fp := ∃ a dx al, v = .ref a ∧ fp = [a, dx, al] ∧ H a = some (.ins (He.ga K d.c) dx [("word", .str d.word), ("ahead", .ref al)]) ∧ H dx = some (.own a) ∧ H al = some (.lst (d.ahead.map V.str))
  mono := fun e k ⟨a, dx, al, h1, h2, h3, h4, h5⟩ => by
    subst h2
    exact ⟨a, dx, al, h1, rfl, k a (by simp) _ h3, k dx (by simp) _ h4, k al (by simp) _ h5⟩
  dom := fun ⟨a, dx, al, h1, h2, h3, h4, h5⟩ q hq => by
    subst h2
    rcases List.mem_cons.mp hq with e | hq
    · exact ⟨_, e ▸ h3⟩
    · rcases List.mem_cons.mp hq with e | hq
      · exact ⟨_, e ▸ h4⟩
      · rw [List.mem_singleton.mp hq]; exact ⟨_, h5⟩
  frz := fun e k ⟨a, dx, al, h1, h2, h3, h4, h5⟩ => by
    subst h2
    exact ⟨a, dx, al, h1, k a (by simp) _ h3, k al (by simp) _ h5⟩
instance : Ind Ow.dsk where
  ind := fun h => h
/-- what is known of the class -/
structure DskC (K : PySem.W.Frag) (c : Str) : Prop where
  cl : Cls K (He.ga K c)
  nw : NoAttr K (He.ga K c) "word"
  na : NoAttr K (He.ga K c) "ahead"
section
variable {X : Cx} {Γ : Ctx} {S L ρ α : Type} [Rp ρ] {o : Ow ρ} {Γo : S → Ctx} {ΓL : L → Ctx} {e : Expr} {pos p apos cpos p2 : Pos} {te : TE} {sts : List Stmt} {tr : TS}
end
section
variable {P : Program} {w : World} {K : PySem.W.Frag} {mg : Str → Option Value} {base : Heap}
end
section
variable {X : Cx} {Γ : Ctx} {pos p : Pos}
end
/-! ### methods that change the desk and tell a text -/
structure Rs where
  d : Dsk
  s : Str
instance : Inhabited Rs := ⟨⟨default, ""⟩⟩
instance : Rp Rs where
  sh _ _ v x := v = .str x.s
  mono := fun _ h => h
/-- a text told, and the desk at a0 as it is now -/
def Ow.rs (a0 : V) : Ow Rs where
  rep K HF H v x fp := v = .str x.s ∧ Ow.dsk.rep K HF H a0 x.d fp
  mono := fun e k ⟨h0, h⟩ => ⟨h0, Ow.dsk.mono e k h⟩
  dom := fun ⟨_, h⟩ => Ow.dsk.dom h
  frz := fun _ _ ⟨h0, _⟩ => h0
section
variable {X : Cx} {Γ : Ctx} {S L : Type} {Γo : S → Ctx} {ΓL : L → Ctx} {e : Expr} {pos : Pos} {te : TE}
end
section
variable {P : Program} {w : World} {K : PySem.W.Frag} {mg : Str → Option Value} {base : Heap}
end
section
variable {X : Cx} {Γ : Ctx} {S L ρ A : Type} [Rp ρ] {o : Ow ρ} {Γo : S → Ctx} {ΓL : L → Ctx} {e : Expr} {es : List Expr} {pos cpos apos px py : Pos} {t : TA} {sts : List Stmt} {tr : TS}
end
end Ty
/-! ## Vdesk2 (under way): a method that changes the desk and tells a text, or raises -/
namespace Ty
open PySem PySem.Spec PyProof.Rows L2
/-- a text told, with the desk as it is now; or the class of what is raised, with the desk -/
inductive Rx where
  | told (r : Rs)
  | bad (d : Dsk) (x : Exn)
instance : Inhabited Rx := ⟨.told default⟩
def Rx.d : Rx → Dsk
  | .told r => r.d
  | .bad d _ => d
def Rx.fin (K : PySem.W.Frag) (Q : VK) (E : XK) (HF H : Hp) : Rx → Prop
  | .told r => Q (.str r.s) H
  | .bad _ x => ∀ dd, XD HF dd x → E (clv K x.c) dd H
instance : Rp Rx where
  sh _ _ v x := match x with
    | .told r => v = .str r.s
    | .bad _ _ => True
  mono := fun {K H H' v a} e h => by
    cases a with
    | told r => exact h
    | bad d c => trivial
def Ow.rx (a0 : V) (cl : Str → Value) (E : XK) : Ow Rx where
  rep K HF H v x fp := match x with
    | .told r => (Ow.rs a0).rep K HF H v r fp
    | .bad d x => Ow.dsk.rep K HF H a0 d fp ∧ ∃ dd, v = vD dd ∧ XD HF dd x
  mono := fun {K HF HF' H H' v a fp} e k h => by
    cases a with
    | told r => exact (Ow.rs a0).mono e k h
    | bad d c =>
      obtain ⟨h1, dd, h2, h3⟩ := h
      exact ⟨Ow.dsk.mono e k h1, dd, h2, h3.mono e⟩
  dom := fun {K HF H v a fp} h p hp => by
    cases a with
    | told r => exact (Ow.rs a0).dom h p hp
    | bad d c => exact Ow.dsk.dom h.1 p hp
  frz := fun {K HF HF' H v a fp} e k h => by
    cases a with
    | told r => exact (Ow.rs a0).frz e k h
    | bad d c => trivial
  out x R v H := match x with
    | .told _ => R v H
    | .bad _ x => ∃ dd, v = vD dd ∧ E (cl x.c) dd H
section
variable {X : Cx} {Γ : Ctx} {S L : Type} {Γo : S → Ctx} {ΓL : L → Ctx} {e : Expr} {pos p p2 pos2 : Pos} {te : TE} {E : XK}
end
section
variable {P : Program} {w : World} {K : PySem.W.Frag} {mg : Str → Option Value} {base : Heap}
end
end Ty

/-! ## Vdesk3 (under way): the call of a method that changes the desk and tells a text, or raises -/
namespace Ty
open PySem PySem.Spec PyProof.Rows L2
def Rx.finW (K : PySem.W.Frag) (W : WX) (Q : VK) (σ : L2.St) (HF H : Hp) : Rx → Prop
  | .told r => Q (.str r.s) H
  | .bad _ x => ∀ dd, XD HF dd x → W (clv K x.c) dd σ H
/-- an expression that changes the desk in slot i, and tells a text or raises -/
structure EXd (X : Cx) (W : WX) (Γ : Ctx) (e : Expr) (i : Nat) (m : M Rx) (t : TE) : Prop where
  pe : PE X e t
  sem : ∀ HF0 G HF H σ, Good X.K HF0 G Γ HF H σ → ∀ c, m = .ok c → ∀ Q : VK, (∀ HF' H', Good X.K HF0 G (put Γ i (.mk Ow.dsk c.d)) HF' H' σ → Same HF HF' → c.finW X.K W Q σ HF' H') → t σ H Q
section
variable {X : Cx} {Γ : Ctx} {S L ρ A : Type} [Rp ρ] {o : Ow ρ} {Γo : S → Ctx} {ΓL : L → Ctx} {e : Expr} {es : List Expr} {pos cpos apos px py : Pos} {t : TA} {sts : List Stmt} {tr : TS}
end
end Ty
/-! ## return x.m(e) in a method of the desk, where e may raise and m changes the desk -/
namespace Ty
open PySem PySem.Spec PyProof.Rows L2
section
variable {X : Cx} {Γ : Ctx} {S L A : Type} {Γo : S → Ctx} {ΓL : L → Ctx} {e : Expr} {pos cpos apos px : Pos} {te : TE} {E : XK}
end
end Ty
/-! ## Vdesk5 (under way): expressions that may raise, in a method of the desk: `return e`, `x = e` -/
namespace Ty
open PySem PySem.Spec PyProof.Rows L2
section
variable {X : Cx} {Γ : Ctx} {S L α : Type} {Γo : S → Ctx} {ΓL : L → Ctx} {e : Expr} {pos : Pos} {te : TE} {tr : TS} {sts : List Stmt} {E : XK}
end
end Ty
/-! ## Vdesk6 (under way): return x.m(e, ..) in a method of the desk, where m may change the desk, tell or raise -/
namespace Ty
open PySem PySem.Spec PyProof.Rows L2
section
variable {X : Cx} {Γ : Ctx} {S L A : Type} {Γo : S → Ctx} {ΓL : L → Ctx} {e : Expr} {es : List Expr} {pos cpos apos px : Pos} {t : TA} {E : XK}
end
end Ty

/-! ## Ty78: expressions and tests that may change own desks; defs that are handed a desk and hand back a flat value -/
namespace Ty
open PySem PySem.Spec PyProof.Rows L2
/-- a flat value told, with the desk as it is now -/
structure Rg (ρ : Type) where
  d : Dsk
  s : ρ
instance {ρ : Type} [Inhabited ρ] : Inhabited (Rg ρ) := ⟨⟨default, default⟩⟩
instance {ρ : Type} [Fl ρ] : Rp (Rg ρ) where
  sh _ _ v x := v = Fl.enc x.s
  mono := fun _ h => h
def Ow.rg {ρ : Type} [Fl ρ] (a0 : V) : Ow (Rg ρ) where
  rep K HF H v x fp := v = Fl.enc x.s ∧ Ow.dsk.rep K HF H a0 x.d fp
  mono := fun e k ⟨h0, h⟩ => ⟨h0, Ow.dsk.mono e k h⟩
  dom := fun ⟨_, h⟩ => Ow.dsk.dom h
  frz := fun _ _ ⟨h0, _⟩ => h0
section
variable {X : Cx} {Γ : Ctx} {S L ρ : Type} [Fl ρ] {Γo : S → Ctx} {ΓL : L → Ctx} {e : Expr} {pos : Pos} {te : TE}
end
section
variable {P : Program} {w : World} {K : PySem.W.Frag} {mg : Str → Option Value} {base : Heap}
/-- what the callee did to the desk, told in the caller -/
theorem Good.called {Γ : Ctx} {HF0 G HF1 H1 : Hp} {σ : L2.St} {i : Nat} {xv : Dsk} {v : V} (g1 : Good K HF0 G Γ HF1 H1 σ) (hl : look Γ i = .mk Ow.dsk xv) (hlt : i < Γ.length) (hσ : σ[i]? = some (some v)) :
    ∃ fo, Ow.dsk.rep K HF1 H1 v xv fo ∧ fo.Nodup ∧ (∀ p ∈ fo, HF1 p = none) ∧ ∀ (d' : Dsk) HF' H' fp', Same HF1 HF' → Same HF' H' → (∀ p u, H1 p = some u → p ∉ fo → H' p = some u) → (∀ p u, HF' p = some u → HF1 p = none → H1 p = none ∨ p ∈ fo) → Ow.dsk.rep K HF' H' v d' fp' → fp'.Nodup → (∀ p ∈ fp', HF' p = none ∧ (H1 p = none ∨ p ∈ fo)) →
      Good K HF0 G (put Γ i (.mk Ow.dsk d')) HF' H' σ := by
  obtain ⟨fs, h1, h2, h3⟩ := g1.held
  obtain ⟨fo, fr, q1, q2, q3, q4⟩ := h1.put hlt
  obtain ⟨n1, n2, n3⟩ := q3 h2
  rw [hl] at q1
  obtain ⟨v', e3, rr⟩ := q1
  have hv' : v' = v := by
    rw [List.getD_eq_getElem?_getD, hσ] at e3
    injection e3 with e3
    exact e3.symm
  subst hv'
  have hfo : ∀ p ∈ fo, HF1 p = none ∧ G p = none := fun p hp => h3 p ((q2 p).mpr (.inl hp))
  have hfr : ∀ p ∈ fr, HF1 p = none ∧ G p = none := fun p hp => h3 p ((q2 p).mpr (.inr hp))
  have dfr : ∀ p ∈ fr, ∃ o, H1 p = some o := fun p hp => h1.dom p ((q2 p).mpr (.inr hp))
  refine ⟨fo, rr, n2, fun p hp => (hfo p hp).1, fun d' HF' H' fp' k1 k2 k3 k4 k5 k6 k7 => ?_⟩
  have nfr : ∀ p ∈ fr, p ∉ fo := fun p hp hq => n3 p hq hp
  have keep : ∀ p ∈ fr, ∀ o, H1 p = some o → H' p = some o := fun p hp o e => k3 p o e (nfr p hp)
  obtain ⟨fs', w1, w2, w3⟩ := q4 (HF' := HF') (H' := H') (s := .mk Ow.dsk d') (x := some v') (f := fp') (fun hp h => h.mono k1 fun p z => keep p (hp p z)) (fun hp h => h.mono k1 fun p z => keep p (hp p z)) ⟨v', rfl, k5⟩
  have eσ : σ.set i (some v') = σ := by
    apply List.ext_getElem?
    intro j
    by_cases hj : i = j
    · subst hj
      rw [List.getElem?_set_self (by have := h1.len; omega), hσ]
    · rw [List.getElem?_set_ne hj]
  rw [eσ] at w1
  have gG : ∀ p, (H1 p = none ∨ p ∈ fo) → G p = none := fun p h => by
    rcases h with h | h
    · exact g1.g0.free h
    · exact (hfo p h).2
  refine ⟨k2, g1.f0.trans k1, fun p o e => k3 p o (g1.g0 p o e) (fun z => by rw [(hfo p z).2] at e; cases e), fun p o e en => ?_, fs', w1, w3 n1 k6 fun p hp hq => ?_, fun p hp => ?_⟩
  · cases q : HF1 p with
    | some u' => exact g1.nf p u' q en
    | none => exact gG p (k4 p o e q)
  · rcases (k7 p hp).2 with z | z
    · obtain ⟨o, e⟩ := dfr p hq
      rw [z] at e; cases e
    · exact n3 p z hq
  · rcases (w2 p).mp hp with z | z
    · exact ⟨(k7 p z).1, gG p (k7 p z).2⟩
    · refine ⟨?_, (hfr p z).2⟩
      cases q : HF' p with
      | none => rfl
      | some u' =>
        rcases k4 p u' q (hfr p z).1 with y | y
        · obtain ⟨o, e⟩ := dfr p z
          rw [y] at e; cases e
        · exact absurd z (fun z => nfr p z y)
end
/-! ### expressions, tests that may change the desks told by s -/
structure EZ {S α : Type} [Fl α] (X : Cx) (Γs : S → Ctx) (s : S) (e : Expr) (m : M (S × α)) (t : TE) : Prop where
  pe : PE X e t
  sem : ∀ HF0 G HF H σ, Good X.K HF0 G (Γs s) HF H σ → ∀ c, m = .ok c → ∀ Q : VK, (∀ HF' H', Good X.K HF0 G (Γs c.1) HF' H' σ → Same HF HF' → Q (Fl.enc c.2) H') → t σ H Q
structure TZ {S : Type} (X : Cx) (Γs : S → Ctx) (s : S) (e : Expr) (m : M (S × Bool)) (t : TT) : Prop where
  pt : PT X e t
  sem : ∀ HF0 G HF H σ, Good X.K HF0 G (Γs s) HF H σ → ∀ c, m = .ok c → ∀ Q : Bool → Hp → Prop, (∀ HF' H', Good X.K HF0 G (Γs c.1) HF' H' σ → Same HF HF' → Q c.2 H') → t σ H Q
structure WZ {S : Type} (X : Cx) (Γs : S → Ctx) (s : S) (e : Expr) (m : M (S × Bool)) (t : TT) : Prop where
  pw : PW X e t
  sem : ∀ HF0 G HF H σ, Good X.K HF0 G (Γs s) HF H σ → ∀ c, m = .ok c → ∀ Q : Bool → Hp → Prop, (∀ HF' H', Good X.K HF0 G (Γs c.1) HF' H' σ → Same HF HF' → Q c.2 H') → t σ H Q
section
variable {X : Cx} {S α A : Type} [Fl α] {Γs : S → Ctx} {s : S} {a b e : Expr} {es rest : List Expr} {pos p p1 : Pos} {t ta tb te : TE} {tt tu : TT} {tas : TA}
end
section
variable {X : Cx} {S S1 L ρ α : Type} [Fl α] [Rp ρ] {o : Ow ρ} {Γs : S → Ctx} {Γo : S1 → Ctx} {ΓL : L → Ctx} {s : S} {c e : Expr} {pos py : Pos} {te : TE} {tc : TT} {t1 tr : TS} {sa sts : List Stmt}
end
/-! ### try: d.told(e) / except C as e: kept = e -/
structure BXd (X : Cx) (W : WX) (Γ : Ctx) (sts : List Stmt) (i : Nat) (u : Ow Dsk) (m : M Rx) (t : TS) : Prop where
  pss : PSs X sts t
  sem : ∀ HF0 G HF H σ, Good X.K HF0 G Γ HF H σ → ∀ c, m = .ok c → ∀ D : Ends, (match c with
    | .told l => ∀ HF' H' σ', Same HF HF' → Good X.K HF0 G (put Γ i (.mk u l.d)) HF' H' σ' → D.nx σ' H'
    | .bad d x => ∀ HF' H' dd, Same HF HF' → Good X.K HF0 G (put Γ i (.mk u d)) HF' H' σ → XD HF' dd x → W (clv X.K x.c) dd σ H') → t D σ H
section
variable {X : Cx} {Γ : Ctx} {S L ρ : Type} [Rp ρ] {o : Ow ρ} {Γo : S → Ctx} {ΓL : L → Ctx} {e : Expr} {pos p1 p2 : Pos} {te : TE} {sts : List Stmt}
end
end Ty

/-! ## Ty79: zip of two things, each a list, a tuple or a text -/
namespace RZ
open PySem
open PySem.Sem (wp)
set_option maxHeartbeats 1000000
inductive Zc where
  | l (a : Addr) (its : Array Value)
  | t (a : Addr) (its : Array Value)
  | s (x : Str) (tk : Tok)
def Zc.it : Zc → Heap → Addr → Nat → Prop
  | .l a _, h, it, i => h.IsListIter it a i
  | .t a _, h, it, i => h.IsTupleIter it a i
  | .s x tk, h, it, i => h.IsStrIter it (strIterType x) x tk i
def Zc.on : Zc → Heap → Prop
  | .l a its, h => h.IsList a its
  | .t a its, h => h.IsTuple a its
  | .s _ _, _ => True
def Zc.ad : Zc → List Addr
  | .l a _ => [a]
  | .t a _ => [a]
  | .s _ _ => []
def Zc.at (c : Zc) (i : Nat) (v : Value) : Prop := match c with
  | .l _ its => its[i]? = some v
  | .t _ its => its[i]? = some v
  | .s x _ => ∃ d tk, x.cps[i]? = some d ∧ v = .str ⟨#[d]⟩ tk
def Zc.len : Zc → Nat
  | .l _ its => its.size
  | .t _ its => its.size
  | .s x _ => x.cps.size
def Zc.val : Zc → Value
  | .l a _ => .ref a
  | .t a _ => .ref a
  | .s x tk => .str x tk
def Zc.obj : Zc → Obj
  | .l a _ => { cls := .type "list_iterator", data := .fields #[.ref a, .int 0 0] }
  | .t a _ => { cls := .type "tuple_iterator", data := .fields #[.ref a, .int 0 0] }
  | .s x tk => { cls := .type (strIterType x), data := .fields #[.str x tk, .int 0 0] }
theorem Zc.begins : ∀ c : Zc, Begins c.val c.obj c.on
  | .l a its => begins_list a its
  | .t a its => begins_tuple a its
  | .s x tk => begins_text x tk
theorem strT (x : Str) : TyS (strIterType x) := by
  unfold strIterType TyS
  split
  · first | exact .inl rfl | exact .inr rfl
  · first | exact .inr rfl | exact .inl rfl
section
variable {prog : Program} {w : World} {A : Around} {E : Value → Shared → Prop} {s : Shared}
theorem Zc.fin (c : Zc) {it : Addr} {i : Nat} {Q : Value → Shared → Prop} (hh : A.handled = none) (hi : c.len ≤ i) (hit : c.it s.heap it i) (on : c.on s.heap)
    (hE : ∀ h' e, Heap.ExtBut it s.heap h' → (∃ o, h'.get? e = some o ∧ o.cls = .type "StopIteration") → E (.ref e) { s with heap := h' }) : wpAny (model prog w) A (Builtin.SmallTypes.nextOf (.ref it)) Q E s := by
  cases c with
  | l a its => exact wpAny_nextOf_list_end hh hit on (Array.getElem?_eq_none hi) hE
  | t a its => exact nextOf_tuple_end hh hit on (Array.getElem?_eq_none hi) hE
  | s x tk => exact nextOf_str_end hh (strT x) hit (Array.getElem?_eq_none hi) hE
/-- the source stands apart from what zip makes -/
def Zc.off (c : Zc) (z TI TO i1 i2 : Addr) : Prop := ∀ b ∈ c.ad, b ≠ z ∧ b ≠ TO ∧ b ≠ i1 ∧ b ≠ i2
end
end RZ
namespace RZ
open PySem PySem.Spec PyProof.Rows L2
/-- a source: a list, a tuple, a text -/
inductive Zk where
  | l (a : Addr)
  | t (a : Addr)
  | s (x : Str)
def Zk.v : Zk → V
  | .l a => .ref a
  | .t a => .ref a
  | .s x => .str x
def Zk.has (K : PySem.W.Frag) (H : Hp) (k : Zk) (xs : List V) : Prop := match k with
  | .l a => SqL K H a xs
  | .t a => SqT K H a xs
  | .s x => xs = x.cps.toList.map fun c => V.str ⟨#[c]⟩
def Zk.it : Zk → Heap → Addr → Nat → Prop
  | .l a, h, it, i => h.IsListIter it a i
  | .t a, h, it, i => h.IsTupleIter it a i
  | .s x, h, it, i => ∃ tk, h.IsStrIter it (strIterType x) x tk i
def Zk.ad : Zk → List Addr
  | .l a => [a]
  | .t a => [a]
  | .s _ => []
def Zk.off (c : Zk) (z TI TO i1 i2 : Addr) : Prop := ∀ b ∈ c.ad, b ≠ z ∧ b ≠ TO ∧ b ≠ i1 ∧ b ≠ i2
theorem Zk.inj {X : Cx} {pins : List (Addr × Obj)} {σ : L2.St} {H : Hp} {s : Shared} (I : Inv X pins σ H s) {k : Zk} {xs ys : List V} (h : k.has X.K H xs) (h' : k.has X.K H ys) : xs = ys := by
  cases k with
  | l a => exact I.list_inj h h'
  | t a => exact I.tuple_inj h h'
  | s x => exact Eq.trans h (Eq.symm h')
/-- the source as it stands now -/
theorem Zk.now {X : Cx} {pins : List (Addr × Obj)} {σ : L2.St} {H : Hp} {s : Shared} (I : Inv X pins σ H s) {k : Zk} {xs : List V} (hs : k.has X.K H xs) {it : Addr} {i : Nat} (hi : k.it s.heap it i) :
    ∃ c : Zc, c.it s.heap it i ∧ c.on s.heap ∧ c.len = xs.length ∧ c.ad = k.ad ∧ (∀ j v, c.at j v → ∃ x, xs[j]? = some x ∧ RelV x v) ∧ ∀ h a j, c.it h a j → k.it h a j := by
  cases k with
  | l a =>
    obtain ⟨its, rv, p, _⟩ := I.list hs
    refine ⟨.l a its.toArray, hi, p.isList, by show its.toArray.size = _; rw [List.size_toArray, rv.length], rfl, fun j v h => ?_, fun h a j x => x⟩
    have h' : its[j]? = some v := by simpa [Zc.at] using h
    have hlen := rv.length
    have hj : j < its.length := (List.getElem?_eq_some_iff.mp h').1
    have hx : xs[j]? = some (xs[j]'(by omega)) := List.getElem?_eq_getElem (by omega)
    obtain ⟨u, hu, ru⟩ := rv.get hx
    rw [h'] at hu
    cases hu
    exact ⟨_, hx, ru⟩
  | t a =>
    obtain ⟨its, rv, p, _⟩ := I.tuple hs
    refine ⟨.t a its.toArray, hi, p, by show its.toArray.size = _; rw [List.size_toArray, rv.length], rfl, fun j v h => ?_, fun h a j x => x⟩
    have h' : its[j]? = some v := by simpa [Zc.at] using h
    have hlen := rv.length
    have hj : j < its.length := (List.getElem?_eq_some_iff.mp h').1
    have hx : xs[j]? = some (xs[j]'(by omega)) := List.getElem?_eq_getElem (by omega)
    obtain ⟨u, hu, ru⟩ := rv.get hx
    rw [h'] at hu
    cases hu
    exact ⟨_, hx, ru⟩
  | s x =>
    obtain ⟨tk, hi⟩ := hi
    have hs : xs = x.cps.toList.map fun c => V.str ⟨#[c]⟩ := hs
    refine ⟨.s x tk, hi, True.intro, by show x.cps.size = _; rw [hs, List.length_map, Array.length_toList], rfl, fun j v h => ?_, fun h a j y => ⟨tk, y⟩⟩
    obtain ⟨d, tk', h1, h2⟩ := h
    subst h2
    refine ⟨.str ⟨#[d]⟩, ?_, tk', rfl⟩
    rw [hs, List.getElem?_map]
    have : x.cps.toList[j]? = some d := by simpa using h1
    rw [this]
    rfl
theorem Zk.start {X : Cx} {pins : List (Addr × Obj)} {σ : L2.St} {H : Hp} {s : Shared} (I : Inv X pins σ H s) {k : Zk} {xs : List V} (hs : k.has X.K H xs) {u : Value} (ru : RelV k.v u) :
    ∃ c : Zc, c.val = u ∧ c.on s.heap ∧ c.ad = k.ad ∧ (∀ b ∈ k.ad, b < s.heap.objs.size) ∧ ∀ h a, c.it h a 0 → k.it h a 0 := by
  cases k with
  | l a =>
    obtain ⟨its, rv, p, _⟩ := I.list hs
    obtain rfl : u = Value.ref a := ru
    exact ⟨.l a its.toArray, rfl, p.isList, rfl, fun b hb => by
      have : b = a := by simpa [Zk.ad] using hb
      rw [this]; exact p.lt, fun h a x => x⟩
  | t a =>
    obtain ⟨its, rv, p, _⟩ := I.tuple hs
    obtain rfl : u = Value.ref a := ru
    obtain ⟨o1, ho1, _⟩ := id p
    exact ⟨.t a its.toArray, rfl, p, rfl, fun b hb => by
      have : b = a := by simpa [Zk.ad] using hb
      rw [this]; exact Heap.lt_size ho1, fun h a x => x⟩
  | s x =>
    obtain ⟨tk, rfl⟩ := ru
    exact ⟨.s x tk, rfl, True.intro, rfl, (fun b hb => by cases hb), fun h a y => ⟨tk, y⟩⟩
end RZ
namespace Ty
open PySem PySem.Spec PyProof.Rows L2
/-- what zip goes through -/
class Zs (α : Type) (β : outParam Type) [Rp α] [Rp β] where
  its : α → List β
  ok : ∀ {K : PySem.W.Frag} {HF H : Hp} {v : V} {a : α}, Same HF H → Rp.sh K HF v a → ∃ (k : RZ.Zk) (vs : List V), k.v = v ∧ (∀ H', Same HF H' → k.has K H' vs) ∧ Fa (Rp.sh K HF) vs (its a)
instance zsL {α : Type} [Rp α] : Zs (List α) α where
  its a := a
  ok := fun s ⟨q, us, e, h1, h2⟩ => ⟨.l q, us, e.symm, fun H' s' => SqL.of (s' _ _ h1), h2⟩
instance zsT {α : Type} [Rp α] : Zs (Tu α) α where
  its a := a.l
  ok := fun s ⟨q, us, e, h1, h2⟩ => ⟨.t q, us, e.symm, fun H' s' => sqT_mono s' h1, h2⟩
theorem fa_signs {K : PySem.W.Frag} {H : Hp} : ∀ l : List Nat, Fa (Rp.sh K H) (l.map fun c => V.str ⟨#[c]⟩) (l.map sgS)
  | [] => True.intro
  | _ :: l => ⟨rfl, fa_signs l⟩
instance zsS : Zs Str Str where
  its x := x.cps.toList.map sgS
  ok := fun {K HF H v a} s h => ⟨.s a, _, (Fl.sh_iff.mp h).symm, fun _ _ => rfl, fa_signs _⟩
section
variable {X : Cx} {Γ : Ctx} {α β γ δ : Type} {a b : Expr} {pos p : Pos} {ta tb : TE}
end
end Ty

/-! ## Ty80: a module's table (texts -> tuples of texts), its hook; str of whole numbers -/
namespace Ty
open PySem PySem.Spec PyProof.Rows L2
/-- the module's name x is a table of tuples of texts, by texts -/
structure KdT (K : PySem.W.Frag) (w : World) (x : Str) (kvs : List (Str × List Str)) : Prop where
  D : ∃ es n, KDict K w (He.ga K x) es n
  at_ : ∀ z, ∃ r, PySem.W.nsIn K (He.ga K x) z = some r ∧ r.isSome = (kvs.lookup z).isSome ∧ ∀ l, kvs.lookup z = some l → ∃ b, r = some (.ref b) ∧ ∀ H, SqT K H b (l.map V.str)
/-! ### a hook that holds tables, too -/
structure SaysW (fa : List He.Fa) (fn : List He.DefD) (ts : List (Str × List Str)) (ex : PySem.W.Frag → Bool) (w : World) (K : PySem.W.Frag) : Prop where
  d : He.SaysD fa fn K
  more : ex K = true
  tab : (ts.map fun t => He.dicW K (He.ga K t.1)) = ts.map fun t => some (He.keysIn w.params t.2)
theorem SaysW.at {fa : List He.Fa} {fn : List He.DefD} {ts : List (Str × List Str)} {ex : PySem.W.Frag → Bool} {w : World} {K : PySem.W.Frag} (c : SaysW fa fn ts ex w K) (i : Nat) {x : Str} {ks : List Str} (h : ts[i]? = some (x, ks) := by rfl) : He.dicW K (He.ga K x) = some (He.keysIn w.params ks) := by
  have e : (ts.map fun t => He.dicW K (He.ga K t.1))[i]? = (ts.map fun t => some (He.keysIn w.params t.2))[i]? := by rw [c.tab]
  rw [List.getElem?_map, List.getElem?_map, h] at e
  exact Option.some.inj e
section
variable {X : Cx} {Γ : Ctx} {a b e : Expr} {pos p pb : Pos} {ta tb te : TE}
/-! ### str of a whole number -/
end
end Ty
namespace Ty
open PySem PySem.Spec PyProof.Rows L2
end Ty
namespace Ty
open PySem PySem.Spec PyProof.Rows L2
instance : Ob Ins := ⟨fun ⟨p, _, e, _⟩ => ⟨p, e⟩⟩
section
variable {X : Cx} {Γ : Ctx} {S L ρ : Type} [Rp ρ] {o : Ow ρ} {Γo : S → Ctx} {ΓL : L → Ctx} {e : Expr} {pos p apos cpos p2 : Pos} {te : TE} {sts : List Stmt} {tr : TS}
end
end Ty

/-! ## a dict with tuple keys walked (locked until its def tells) -/
namespace L2
open PySem PySem.Spec PyProof.Rows
/-- the address of the i-th key -/
def keyA (od : Obj) (i : Nat) : Option Addr := match od.data with
  | .dict es _ => (es[i]?).bind fun en => match en.key with
    | .ref q => some q
    | _ => none
  | _ => none
section
variable {P : Program} {w : World} {K : PySem.W.Frag} {tg : Expr} {d : Addr} {o : Obj} {es : Array DictEntry} {ep : Nat}
end
end L2
namespace Ty
open PySem PySem.Spec PyProof.Rows L2
/-- a locked dict with tuple keys -/
structure Ld (κ β : Type) where
  l : List (κ × β)
instance {κ β : Type} : Inhabited (Ld κ β) := ⟨⟨[]⟩⟩
instance rpLd {κ β : Type} [Kt κ] [Rp β] : Rp (Ld κ β) where
  sh K H v x := ∃ p od kvs, v = .ref p ∧ H p = some (.frz od (.dT kvs)) ∧ Ft (Rp.sh K H) kvs x.l ∧ ∀ i k w, kvs[i]? = some (k, w) → ∃ q, keyA od i = some q ∧ H q = some (.tup (k.map kV))
  mono := fun e ⟨p, od, kvs, h1, h2, h3, h4⟩ => ⟨p, od, kvs, h1, e _ _ h2, Ft.mono (fun _ _ h => Rp.mono e h) h3, fun i k w hk => by
    obtain ⟨q, a, b⟩ := h4 i k w hk
    exact ⟨q, a, e _ _ b⟩⟩
theorem Ft.at {κ β : Type} [Kt κ] {R : V → β → Prop} : ∀ {ps : List (List Key × V)} {qs : List (κ × β)} {i : Nat} {q : κ × β}, Ft R ps qs → qs[i]? = some q → ∃ v, ps[i]? = some (Kt.keys q.1, v)
  | p :: ps, q :: qs, 0, r, ⟨⟨x, _⟩, _⟩, e => by
    cases Option.some.inj e
    exact ⟨p.2, by rw [← x]; rfl⟩
  | p :: ps, q :: qs, i + 1, r, ⟨_, z⟩, e => by
    obtain ⟨v, hv⟩ := Ft.at (i := i) z e
    exact ⟨v, hv⟩
  | [], [], i, r, _, e => by cases i <;> cases e
  | [], _ :: _, _, _, x, _ => x.elim
  | _ :: _, [], _, _, x, _ => x.elim
/-- own things that are no tuples -/
class NoTup {α : Type} [Rp α] (o : Ow α) : Prop where
  nt : ∀ {K : PySem.W.Frag} {HF H : Hp} {v : V} {a : α} {fp : List Addr}, o.rep K HF H v a fp → ∀ p ∈ fp, ∀ xs, H p ≠ some (.tup xs)
instance {α : Type} [Rp α] : NoTup (Ow.v : Ow α) := ⟨fun ⟨_, e⟩ p hp => by subst e; cases hp⟩
instance {κ β : Type} [Kt κ] [Rp β] : NoTup (Ow.dt (κ := κ) (Ow.v : Ow β)) := ⟨fun ⟨p, kvs, fq, h1, h2, h3, h4⟩ q hq xs e => by
  obtain ⟨_, e2⟩ := Rt.toFt h4
  subst h2 e2
  rw [List.mem_singleton.mp hq, h3] at e
  cases e⟩
instance {κ β : Type} [Ky κ] [Rp β] : NoTup (Ow.d (κ := κ) (β := β)) := ⟨fun ⟨p, kvs, h1, h2, h3, h4⟩ q hq xs e => by
  subst h2
  rw [List.mem_singleton.mp hq, h3] at e
  cases e⟩
instance {α : Type} [Rp α] : NoTup (Ow.l (Ow.v : Ow α)) := ⟨fun ⟨p, vs, fq, h1, h2, h3, h4⟩ q hq xs e => by
  obtain ⟨_, e2⟩ := Rl.toFa h4
  subst h2 e2
  rw [List.mem_singleton.mp hq, h3] at e
  cases e⟩
inductive NTs : Ctx → Prop where
  | n : NTs []
  | u {Γ : Ctx} : NTs Γ → NTs (.un :: Γ)
  | o {Γ : Ctx} {α : Type} [Rp α] {o : Ow α} [NoTup o] {a : α} : NTs Γ → NTs (.mk o a :: Γ)
theorem NTs.no {Γ : Ctx} (h : NTs Γ) {K : PySem.W.Frag} {HF H : Hp} : ∀ {σ : L2.St} {fs : List Addr}, Holds K HF H Γ σ fs → ∀ p ∈ fs, ∀ xs, H p ≠ some (.tup xs) := by
  induction h with
  | n =>
    intro σ fs hh p hp
    cases σ with
    | nil => rw [show fs = [] from hh] at hp; cases hp
    | cons _ _ => exact hh.elim
  | u _ ih =>
    intro σ fs hh p hp
    cases σ with
    | nil => exact hh.elim
    | cons x σ =>
      obtain ⟨f1, f2, h1, h2, h3⟩ := hh
      rw [h1] at hp
      rcases List.mem_append.mp hp with hp | hp
      · rw [show f1 = [] from h2] at hp; cases hp
      · exact ih h3 p hp
  | o _ ih =>
    intro σ fs hh p hp
    cases σ with
    | nil => exact hh.elim
    | cons x σ =>
      obtain ⟨f1, f2, h1, ⟨v, _, h2⟩, h3⟩ := hh
      rw [h1] at hp
      rcases List.mem_append.mp hp with hp | hp
      · exact NoTup.nt h2 p hp
      · exact ih h3 p hp
section
variable {X : Cx} {Γ : Ctx} {S L ρ α β κ : Type} {Γo : S → Ctx} {ΓL : L → Ctx} {e a b tg : Expr} {sts : List Stmt} {pos : Pos} {te ta tb : TE} {t : TS}
end
end Ty

/-! ## for a, b in lists of two -/
namespace Ty
open PySem PySem.Spec PyProof.Rows L2
/-- a list of two things -/
structure Lw (α : Type) where
  a : α
  b : α
instance {α : Type} [Inhabited α] : Inhabited (Lw α) := ⟨⟨default, default⟩⟩
instance rpLw {α : Type} [Rp α] : Rp (Lw α) where
  sh K H v x := Rp.sh K H v [x.a, x.b]
  mono := fun e h => Rp.mono e h
section
variable {X : Cx} {Γ : Ctx} {α : Type} {e x y : Expr} {wi : TI} {tg : Expr} {pos2 : Pos}
end
end Ty

/-! ## Ty83: a pair as a tuple of whatever (its length) -/
namespace Ty
open PySem PySem.Spec PyProof.Rows L2
instance kdPair {α β : Type} [Rp α] [Rp β] : Kd (α × β) := ⟨"tuple", fun ⟨p, va, vb, e, h, _⟩ => by
  subst e
  rcases h with (h | ⟨o, h⟩) | ⟨o, its, n, e, c, _⟩
  · exact .base (.tup h)
  · exact .fTuple h
  · exact .kTuple e c⟩
section
variable {X : Cx} {Γ : Ctx} {α β : Type} {e : Expr} {te : TE}
end
end Ty

/-! ## Ty84: ranges as values; ("word", w) or ("none", turns, order); x.remove(e); [a, x.pop(b)]; x[2].reverse() -/
namespace L2
open PySem PySem.Spec PyProof.Rows
section
variable {X : Cx}
def rRg1 : List V → Hp → VK → Prop := fun xs H Q => ∃ n : Int, xs = [.int n] ∧ ∀ p, H p = none → Q (.ref p) (upd H p (.rng 0 n))
theorem cr_rg1 : CallR X (.type "range") rRg1 := by
  intro pins s σ H xs us Q I r h
  obtain ⟨n, rfl, q⟩ := h
  obtain ⟨u, rfl, ru⟩ := r.one
  obtain ⟨t, rfl⟩ := ru
  refine call_range_1 ⟨.ref s.heap.objs.size, upd H s.heap.objs.size (.rng 0 n), I.laid (t' := s.toks + 1 + 1) (fun b o e => Heap.get?_push_of_some _ e) (Nat.le_refl _) ?_, rfl, q _ (I.hok.fresh (Nat.le_refl _))⟩
  exact ⟨_, t, _, Heap.get?_push_size _ rfl⟩
end
end L2
namespace Ty
open PySem PySem.Spec PyProof.Rows L2
structure Rgv where
  lo : Int
  hi : Int
instance : Inhabited Rgv := ⟨⟨0, 0⟩⟩
instance : Rp Rgv where
  sh _ H v x := ∃ p, v = .ref p ∧ H p = some (.rng x.lo x.hi)
  mono e h := by
    obtain ⟨p, h1, h2⟩ := h
    exact ⟨p, h1, e _ _ h2⟩
/-- what told_web tells -/
inductive Tw where
  | w (s : Str)
  | n (t o : List Int)
instance : Inhabited Tw := ⟨.w default⟩
instance : Rp Tw where
  sh K H v x := match x with
    | .w s => Rp.sh K H v (("word" : Str), s)
    | .n t o => Rp.sh K H v (⟨("none" : Str), t, o⟩ : T3 Str (List Int) (List Int))
  mono {K H H' v a} e h := by
    cases a with
    | w s => exact Rp.mono (α := Str × Str) e h
    | n t o => exact Rp.mono (α := T3 Str (List Int) (List Int)) e h
instance : Kd Tw := ⟨"tuple", fun {K H v a} h => by
  cases a with
  | w s => exact (kdPair (α := Str) (β := Str)).ok h
  | n t o => exact (kdT3 (α := Str) (β := List Int) (γ := List Int)).ok h⟩
section
variable {X : Cx} {Γ : Ctx} {S L ρ α β γ : Type} {a b e : Expr} {p p1 p2 pos apos cpos : Pos} {ta tb te : TE} {sts : List Stmt} {tr : TS}
theorem ex_rg1 {m : M Int} (hm : X.mg "range" = none) (h : EX X Γ e Ow.v m te) (hg : Gl X "range" := by rfl) (h1 : starEach [e] X.env = (false, eval e X.env) :: starEach [] X.env := by rfl) (hpl : (backTo pos (starEach [] X.env)).any (·.1) = false := by rfl) : EX X Γ (.Call (.Name "range" p) [e] [] pos) Ow.v (do let n ← m; pure (⟨0, n⟩ : Rgv)) (tCB rRg1 (tCons te tNil)) :=
  ex_t1 cr_rg1 (show SemC1 X.K rRg1 Ow.v (fun (n : Int) => pure (⟨0, n⟩ : Rgv)) from fun HF H v n c s ra hc Q k => by
    cases pure_ok hc
    rw [Fl.sh_iff.mp ra]
    refine ⟨n, rfl, fun r hr => ?_⟩
    exact k (.ref r) _ _ [] (Step.shr (o := .rng 0 n) s hr) ⟨⟨r, rfl, upd_same⟩, rfl⟩ List.nodup_nil fun p hp => by cases hp) (by decide +kernel) hm h hg (h1 := h1) (hpl := hpl)
end
end Ty

/-! ## Ty85: own things given away: return (x, ..), (x[e], y); unpacked own tuples -/
namespace Ty
open PySem PySem.Spec PyProof.Rows L2
/-- Good, and what is held stands apart from A -/
structure GA (K : PySem.W.Frag) (HF0 G : Hp) (Γ : Ctx) (HF H : Hp) (σ : L2.St) (A : Addr → Prop) : Prop where
  sub : Same HF H
  f0 : Same HF0 HF
  g0 : Same G H
  nf : ∀ p o, HF p = some o → HF0 p = none → G p = none
  held : ∃ fs, Holds K HF H Γ σ fs ∧ fs.Nodup ∧ (∀ p ∈ fs, HF p = none ∧ G p = none) ∧ ∀ p ∈ fs, ¬ A p
section
variable {K : PySem.W.Frag} {HF0 G HF H HF' H' : Hp} {Γ : Ctx} {σ : L2.St} {A B : Addr → Prop}
theorem GA.good (g : GA K HF0 G Γ HF H σ A) : Good K HF0 G Γ HF H σ := ⟨g.sub, g.f0, g.g0, g.nf, let ⟨fs, a, b, c, _⟩ := g.held; ⟨fs, a, b, c⟩⟩
theorem GA.of (g : Good K HF0 G Γ HF H σ) : GA K HF0 G Γ HF H σ fun _ => False := ⟨g.sub, g.f0, g.g0, g.nf, let ⟨fs, a, b, c⟩ := g.held; ⟨fs, a, b, c, fun _ _ h => h⟩⟩
theorem GA.step (g : GA K HF0 G Γ HF H σ A) (s : Step HF H HF' H') : GA K HF0 G Γ HF' H' σ A := by
  obtain ⟨fs, h1, h2, h3, h4⟩ := g.held
  have gg := g.good.step s
  refine ⟨gg.sub, gg.f0, gg.g0, gg.nf, fs, h1.mono s.exF fun p _ o e => s.exH p o e, h2, fun p hp => ⟨?_, (h3 p hp).2⟩, h4⟩
  cases q : HF' p with
  | none => rfl
  | some u =>
    have := s.new p u q (h3 p hp).1
    obtain ⟨o, ho⟩ := h1.dom p hp
    rw [ho] at this; cases this
/-- what wasn't there ahead stands apart -/
theorem GA.fresh {fp : List Addr} (g : GA K HF0 G Γ HF H σ A) (s : Step HF H HF' H') (f : ∀ p ∈ fp, H p = none) : GA K HF0 G Γ HF' H' σ fun p => A p ∨ p ∈ fp := by
  obtain ⟨fs, h1, h2, h3, h4⟩ := g.held
  have gg := g.step s
  refine ⟨gg.sub, gg.f0, gg.g0, gg.nf, ?_⟩
  refine ⟨fs, h1.mono s.exF fun p _ o e => s.exH p o e, h2, fun p hp => ⟨?_, (h3 p hp).2⟩, fun p hp z => ?_⟩
  · cases q : HF' p with
    | none => rfl
    | some u =>
      have := s.new p u q (h3 p hp).1
      obtain ⟨o, ho⟩ := h1.dom p hp
      rw [ho] at this; cases this
  · rcases z with z | z
    · exact h4 p hp z
    · obtain ⟨o, ho⟩ := h1.dom p hp
      rw [f p z] at ho; cases ho
/-- an own thing is taken out -/
theorem GA.take {i : Nat} {α : Type} [Rp α] {u : Ow α} {x : α} (g : GA K HF0 G Γ HF H σ A) (hl : look Γ i = .mk u x) :
    ∃ v fo, σ[i]? = some (some v) ∧ u.rep K HF H v x fo ∧ fo.Nodup ∧ (∀ p ∈ fo, HF p = none ∧ G p = none) ∧ (∀ p ∈ fo, ¬ A p) ∧ GA K HF0 G (put Γ i .un) HF H σ fun p => A p ∨ p ∈ fo := by
  obtain ⟨fs, h1, h2, h3, h4⟩ := g.held
  obtain ⟨v, fo, fr, q1, q2, q3, q4, q5, q6, q7, q8⟩ := h1.pull h2 hl
  exact ⟨v, fo, q1, q2, q3, fun p hp => h3 p (q6 p hp), fun p hp => h4 p (q6 p hp), g.sub, g.f0, g.g0, g.nf, fr, q4, q5, fun p hp => h3 p (q7 p hp), fun p hp z => z.elim (h4 p (q7 p hp)) fun z => q8 p z hp⟩
/-- a part of what stands apart is held -/
theorem GA.put {i : Nat} {v : V} {α : Type} [Rp α] {u : Ow α} {a : α} {fp : List Addr} (g : GA K HF0 G Γ HF H σ A) (hi : i < Γ.length) (r : u.rep K HF H v a fp) (nd : fp.Nodup) (fr : ∀ p ∈ fp, HF p = none ∧ G p = none) (hA : ∀ p ∈ fp, A p) (hB : ∀ p, B p → A p ∧ p ∉ fp) :
    GA K HF0 G (put Γ i (.mk u a)) HF H (σ.set i (some v)) B := by
  obtain ⟨fs, h1, h2, h3, h4⟩ := g.held
  obtain ⟨fo, fr', q1, q2, q3, q4⟩ := h1.put hi
  obtain ⟨n1, n2, n3⟩ := q3 h2
  obtain ⟨fs', w1, w2, w3⟩ := q4 (HF' := HF) (H' := H) (s := .mk u a) (x := some v) (f := fp) (fun _ h => h) (fun _ h => h) ⟨v, rfl, r⟩
  refine ⟨g.sub, g.f0, g.g0, g.nf, fs', w1, w3 n1 nd fun p hp hq => h4 p ((q2 p).mpr (.inr hq)) (hA p hp), fun p hp => ?_, fun p hp z => ?_⟩
  · rcases (w2 p).mp hp with z | z
    · exact fr p z
    · exact h3 p ((q2 p).mpr (.inr z))
  · have hb := hB p z
    rcases (w2 p).mp hp with y | y
    · exact hb.2 y
    · exact h4 p ((q2 p).mpr (.inr y)) hb.1
end
theorem Step.apart {HF H HF' H' G : Hp} {fs : List Addr} (s : Step HF H HF' H') (hd : ∀ p ∈ fs, ∃ o, H p = some o) (hf : ∀ p ∈ fs, HF p = none ∧ G p = none) : ∀ p ∈ fs, HF' p = none ∧ G p = none := fun p hp => by
  refine ⟨?_, (hf p hp).2⟩
  cases z : HF' p with
  | none => rfl
  | some o =>
    have := s.new p o z (hf p hp).1
    obtain ⟨w', hw⟩ := hd p hp
    rw [this] at hw
    cases hw
/-- an expression that gives an own thing away: behind it Γ' -/
structure EV {α : Type} [Rp α] (X : Cx) (Γ : Ctx) (e : Expr) (u : Ow α) (m : M α) (t : TE) (Γ' : Ctx) : Prop where
  pe : PE X e t
  sem : ∀ HF0 G HF H σ A, GA X.K HF0 G Γ HF H σ A → (∀ p, A p → ∃ w, H p = some w) → ∀ c, m = .ok c → ∀ Q : VK, (∀ v HF1 H1 fp, Step HF H HF1 H1 → u.rep X.K HF1 H1 v c fp → fp.Nodup → (∀ p ∈ fp, HF1 p = none ∧ G p = none) → (∀ p ∈ fp, ¬ A p) → GA X.K HF0 G Γ' HF1 H1 σ (fun p => A p ∨ p ∈ fp) → Q v H1) → t σ H Q
section
variable {X : Cx} {Γ Γ1 Γ2 Γ3 : Ctx} {S L ρ α β γ : Type} {Γo : S → Ctx} {ΓL : L → Ctx} {a b c e : Expr} {p p1 p2 pos apos cpos : Pos} {ta tb tc te : TE} {sts : List Stmt} {tr : TS}
end
end Ty

/-! ## Ty86: text * number; None, a number or a text; a def that is handed a desk and hands back shared things -/
namespace L2
open PySem PySem.Spec PyProof.Rows
section
variable {X : Cx}
end
end L2
namespace Ty
open PySem PySem.Spec PyProof.Rows L2
/-- None, a number or a text -/
inductive Nv where
  | n
  | i (x : Int)
  | s (x : Str)
  deriving DecidableEq
def Nv.enc : Nv → V
  | .n => .non
  | .i k => .int k
  | .s x => .str x
instance : Inhabited Nv := ⟨.n⟩
instance : Fl Nv := flOf Nv.enc
def Nv.py : Nv → PyData
  | .n => .none
  | .i k => .int k
  | .s x => .str x
instance : Eqv Nv := ⟨Nv.py, fun u => match u with
    | .n => true
    | .i _ => true
    | .s x => PySem.PyData.strOk x, 0, fun {K H v a} h => by
    cases a with
    | n => cases h; exact .non
    | i n => cases h; exact .int _
    | s x => cases h; exact .str _, fun a h => by
    cases a with
    | n => rfl
    | i n => rfl
    | s x => simpa [Nv.py, PyData.canLay0] using h, fun a => by cases a <;> simp [Nv.py, PyData.depth], fun a b => by
    cases a <;> cases b <;> simp only [Nv.py, PyData.eqv]
    · simp
    · simp
    · simp
    · simp
    · rename_i x y; by_cases h : x = y <;> simp [h]
    · simp
    · simp
    · simp
    · rename_i x y; by_cases h : x = y <;> simp [h]⟩
instance : Ob ExY := ⟨fun ⟨e, _⟩ => ⟨_, e⟩⟩
section
variable {X : Cx} {Γ : Ctx} {a b e : Expr} {p p1 pos : Pos} {ta tb te : TE}
end
/-! ### a def that is handed a desk and hands back shared things -/
structure Rgp (ρ : Type) where
  d : Dsk
  s : ρ
instance {ρ : Type} [Inhabited ρ] : Inhabited (Rgp ρ) := ⟨⟨default, default⟩⟩
instance {ρ : Type} [Rp ρ] : Rp (Rgp ρ) where
  sh K H v x := Rp.sh K H v x.s
  mono := fun e h => Rp.mono e h
section
variable {X : Cx} {Γ : Ctx} {S L ρ : Type} [Rp ρ] {Γo : S → Ctx} {ΓL : L → Ctx} {e : Expr} {pos : Pos} {te : TE}
end
section
variable {P : Program} {w : World} {K : PySem.W.Frag} {mg : Str → Option Value} {base : Heap}
end
/-- an expression that may change the desks told by s and is a shared thing -/
structure EZp {S α : Type} [Rp α] (X : Cx) (Γs : S → Ctx) (s : S) (e : Expr) (m : M (S × α)) (t : TE) : Prop where
  pe : PE X e t
  sem : ∀ HF0 G HF H σ, Good X.K HF0 G (Γs s) HF H σ → ∀ c, m = .ok c → ∀ Q : VK, (∀ v HF' H', Good X.K HF0 G (Γs c.1) HF' H' σ → Same HF HF' → Rp.sh X.K HF' v c.2 → Q v H') → t σ H Q
section
variable {X : Cx} {S α A : Type} [Rp α] {Γs : S → Ctx} {s : S} {a b e : Expr} {es rest : List Expr} {pos p p1 : Pos} {t ta tb te : TE} {tt tu : TT} {tas : TA}
end
section
variable {X : Cx} {S S1 L ρ α : Type} [Rp α] [Rp ρ] {o : Ow ρ} {Γs : S → Ctx} {Γo : S1 → Ctx} {ΓL : L → Ctx} {s : S} {c e : Expr} {pos py : Pos} {te : TE} {tc : TT} {t1 tr : TS} {sa sts : List Stmt}
end
end Ty

/-! ## Ty87: expressions that always raise -/
namespace Ty
open PySem PySem.Spec PyProof.Rows L2
/-- an expression that raises -/
structure EQ (X : Cx) (W : WX) (Γ : Ctx) (e : Expr) (m : M Exn) (t : TE) : Prop where
  pe : PE X e t
  sem : ∀ HF0 G HF H σ, Good X.K HF0 G Γ HF H σ → ∀ x, m = .ok x → ∀ Q : VK, (∀ HF' H' d, Step HF H HF' H' → XD HF' d x → W (clv X.K x.c) d σ H') → t σ H Q
/-- arguments of which one raises -/
structure EAQ (X : Cx) (W : WX) (Γ : Ctx) (es : List Expr) (m : M Exn) (t : TA) : Prop where
  pa : PA X es t
  sem : ∀ HF0 G HF H σ, Good X.K HF0 G Γ HF H σ → ∀ x, m = .ok x → ∀ Q : List V → Hp → Prop, (∀ HF' H' d, Step HF H HF' H' → XD HF' d x → W (clv X.K x.c) d σ H') → t σ H Q
structure TQ (X : Cx) (W : WX) (Γ : Ctx) (e : Expr) (m : M Exn) (t : TT) : Prop where
  pt : PT X e t
  sem : ∀ HF0 G HF H σ, Good X.K HF0 G Γ HF H σ → ∀ x, m = .ok x → ∀ Q : Bool → Hp → Prop, (∀ HF' H' d, Step HF H HF' H' → XD HF' d x → W (clv X.K x.c) d σ H') → t σ H Q
structure IQ (X : Cx) (W : WX) (Γ : Ctx) (tg e : Expr) (m : M Exn) (t : TI) : Prop where
  pi : PI X tg e t
  sem : ∀ HF0 G HF H σ, Good X.K HF0 G Γ HF H σ → ∀ x, m = .ok x → ∀ R, (∀ HF' H' d, Step HF H HF' H' → XD HF' d x → W (clv X.K x.c) d σ H') → t σ H R
section
variable {X : Cx} {W : WX} {Γ : Ctx} {S L α β ρ A : Type} {a b e o : Expr} {es : List Expr} {p p1 p2 pos cpos apos : Pos} {ta tb te to : TE} {t tas : TA} {sts sa sb : List Stmt} {tr : TS} {tg : Expr}
end
section
variable {X : Cx} {Γ : Ctx} {S L : Type} {Γo : S → Ctx} {ΓL : L → Ctx} {c e : Expr} {pos : Pos} {te : TE} {tc : TT} {sts sa sb : List Stmt} {E : XK}
end
end Ty

/-! ## Ty88: a def that is handed a kept exception, called where none is handled -/
namespace Ty
open PySem PySem.Spec PyProof.Rows L2
structure FnZc (P : Program) (w : World) (K : PySem.W.Frag) (mg : Str → Option Value) (base : Heap) (k : Nat) (f : Addr) (fd : FuncData) (y : Str) {ρ : Type} [Rp ρ] (o : Ow ρ) (fm : Exn → M ρ) : Prop where
  run : ∀ (A : Around) (outer : List Env) (s : Shared) (H : Hp) (args : Args) (Q : VK) (E : XK) (p : Addr × Obj) (d : Option Addr) (x : Exn), Room k A → PinZ K x.c d p → L2H.PinOk outer H s p → Env0 P w K mg base A outer s H → BindsTo s fd args [(y, .ref p.1)] → spZ K o fm d x H Q →
    codeAny (model P w) A (.call (.ref f) args) (CR CX0 outer P w H s Q E) s
section
variable {P : Program} {w : World} {K : PySem.W.Frag} {mg : Str → Option Value} {base : Heap}
end
section
variable {X : Cx} {Γ : Ctx} {ρ α : Type} [Rp ρ] {o : Ow ρ} {a b e f : Expr} {es : List Expr} {pos p p1 p2 pos2 : Pos} {ta tb te tf : TE} {t : TA}
end
end Ty

/-! ## Ty89: exceptions made by hand and kept as values -/
namespace Ty
open PySem PySem.Spec PyProof.Rows L2
/-- an exception object: its class, what it keeps -/
structure Xo where
  x : Exn
instance : Inhabited Xo := ⟨⟨⟨"", none⟩⟩⟩
def ExoH (H : Hp) (a C : Addr) (x : Exn) : Prop := match x.p with
  | none => H a = some (L2.ExO (.ref C) a)
  | some (f, y) => ∃ dx, H a = some (exo a C (some dx)) ∧ H dx = some (exd dx [(f, y.enc)])
theorem ExoH.mono {H H' : Hp} {a C : Addr} {x : Exn} (s : Same H H') (h : ExoH H a C x) : ExoH H' a C x := by
  unfold ExoH at *
  split at h
  · exact s _ _ h
  · obtain ⟨dx, h1, h2⟩ := h
    exact ⟨dx, s _ _ h1, s _ _ h2⟩
instance : Rp Xo where
  sh K H v e := ∃ a, v = .ref a ∧ ExoH H a (He.ga K e.x.c) e.x
  mono := fun s h => by
    obtain ⟨a, h1, h2⟩ := h
    exact ⟨a, h1, h2.mono s⟩
/-! ### isinstance -/
section
variable {X : Cx} {Γ : Ctx} {S L ρ α β A S' : Type} [Rp ρ] {o : Ow ρ} {Γo : S → Ctx} {ΓL : L → Ctx} {a b e f : Expr} {es : List Expr} {pos p p1 p2 pos2 : Pos} {ta tb te tf : TE} {t : TA} {sts : List Stmt} {tr tr' : TS}
/-! ### a field -/
/-! ### made by hand -/
end
end Ty

/-! ## Ty90: an own dict whose keys are (whole number, truth value), each told True -/
namespace Ty
open PySem PySem.Spec PyProof.Rows L2
def entB (x : (Int × Bool) × Addr) : DictEntry := ⟨reduceHash (Builtin.Tuple.tupleHashOf [hashInt x.1.1, hashInt (if x.1.2 = true then 1 else 0)]), .ref x.2, .bool true⟩
/-- such a dict at d -/
def bdO (d : Addr) (xs : List ((Int × Bool) × Addr)) : HO := .ext fun h => (d == sysModules) = false ∧ ∃ o es ep, h.get? d = some o ∧ o.ExactDict ∧ o.data = .dict es ep ∧ es.toList = xs.map entB
def tB (k : Int × Bool) : HO := .tup [.int k.1, .bl k.2]
section
variable {P : Program} {w : World} {H : Hp} {h : Heap} {d b : Addr} {k : Int × Bool} {xs : List ((Int × Bool) × Addr)}
end
/-! ### types -/
structure Kb where
  k : Int × Bool
  deriving DecidableEq
instance : Inhabited Kb := ⟨⟨default⟩⟩
instance : Rp Kb where
  sh _ H v x := ∃ b, v = .ref b ∧ H b = some (tB x.k)
  mono := fun e ⟨b, h1, h2⟩ => ⟨b, h1, e _ _ h2⟩
structure Sb where
  l : List (Int × Bool)
instance : Inhabited Sb := ⟨⟨[]⟩⟩
instance : Rp Sb where
  sh _ H v x := ∃ d xs, v = .ref d ∧ H d = some (bdO d xs) ∧ xs.map (·.1) = x.l ∧ x.l.Nodup ∧ ∀ q ∈ xs, H q.2 = some (tB q.1)
  mono := fun e ⟨d, xs, h1, h2, h3, h4, h5⟩ => ⟨d, xs, h1, e _ _ h2, h3, h4, fun q hq => e _ _ (h5 q hq)⟩
def Ow.sb : Ow Sb where
  rep K HF H v x fp := ∃ d xs, v = .ref d ∧ fp = [d] ∧ H d = some (bdO d xs) ∧ xs.map (·.1) = x.l ∧ x.l.Nodup ∧ ∀ q ∈ xs, HF q.2 = some (tB q.1)
  mono := fun e k ⟨d, xs, h1, h2, h3, h4, h5, h6⟩ => by
    subst h2
    exact ⟨d, xs, h1, rfl, k d (List.mem_cons_self ..) _ h3, h4, h5, fun q hq => e _ _ (h6 q hq)⟩
  dom := fun ⟨d, xs, h1, h2, h3, h4⟩ q hq => by
    subst h2
    rw [List.mem_singleton.mp hq]
    exact ⟨_, h3⟩
  frz := fun e k ⟨d, xs, h1, h2, h3, h4, h5, h6⟩ => by
    subst h2
    exact ⟨d, xs, h1, k d (List.mem_cons_self ..) _ h3, h4, h5, fun q hq => e _ _ (h6 q hq)⟩
/-! ### rules -/
section
variable {X : Cx} {o i value : Expr} {pos pos' : Pos} {td ty tv : TE}
end
section
variable {X : Cx} {Γ : Ctx} {S L ρ α β A S' : Type} [Rp ρ] {o : Ow ρ} {Γo : S → Ctx} {ΓL : L → Ctx} {a b e f : Expr} {es : List Expr} {pos p p1 p2 pos2 : Pos} {ta tb te tf : TE} {t : TA} {sts : List Stmt} {tr tr' : TS}
end
end Ty

/-! ## Ty91: things of mixed kinds: None, a number, a truth value, a text, a list, a tuple, an empty dict -/
namespace Ty
open PySem PySem.Spec PyProof.Rows L2
inductive Dl (α : Type) where
  | n
  | i (k : Int)
  | b (x : Bool)
  | s (x : Str)
  | l (xs : List α)
  | t (xs : List α)
  | d
  deriving DecidableEq
instance {α : Type} : Inhabited (Dl α) := ⟨.n⟩
instance : Rp Empty := ⟨fun _ _ _ x => x.elim, fun {K H H' v a} _ _ => a.elim⟩
instance rpDl {α : Type} [Rp α] : Rp (Dl α) where
  sh K H v x := match x with
    | .n => v = .non
    | .i k => v = .int k
    | .b y => v = .bl y
    | .s y => v = .str y
    | .l xs => Rp.sh (α := List α) K H v xs
    | .t xs => Rp.sh (α := Tu α) K H v ⟨xs⟩
    | .d => ∃ p, v = .ref p ∧ H p = some (.dK [])
  mono := fun {K H H' v a} e h => by
    cases a with
    | n => exact h
    | i k => exact h
    | b y => exact h
    | s y => exact h
    | l xs => exact Rp.mono (α := List α) e h
    | t xs => exact Rp.mono (α := Tu α) e h
    | d =>
      obtain ⟨p, h1, h2⟩ := h
      exact ⟨p, h1, e _ _ h2⟩
/-! ### equality -/
class Dq (α : Type) [Rp α] [DecidableEq α] where
  py : α → PyData
  ok : α → Bool
  nb : α → Bool
  dep : Nat
  dp : ∀ {K : PySem.W.Frag} {H : Hp} {v : V} {a : α}, ok a = true → Rp.sh K H v a → Dp K H v (py a)
  lay : ∀ a, ok a = true → (py a).canLay0 = true
  deep : ∀ a, (py a).depth ≤ dep
  eqv : ∀ a b, nb a = true → nb b = true → PyData.eqv (py a) (py b) = decide (a = b)
  rfl' : ∀ a, PyData.eqv (py a) (py a) = true
instance : Dq Empty := ⟨fun x => x.elim, fun x => x.elim, fun x => x.elim, 0, fun {_ _ _ a} _ _ => a.elim, fun x => x.elim, fun x => x.elim, fun x => x.elim, fun x => x.elim⟩
section
variable {α : Type} [Rp α] [DecidableEq α] [Dq α]
theorem dqDp {K : PySem.W.Frag} {H : Hp} : ∀ {vs : List V} {as : List α}, as.all Dq.ok = true → Fa (Rp.sh K H) vs as → DpAll K H vs (as.map Dq.py)
  | [], [], _, _ => .nil
  | v :: vs, a :: as, h, ⟨x, y⟩ => by
    rw [List.all_cons, Bool.and_eq_true] at h
    exact .cons (Dq.dp h.1 x) (dqDp h.2 y)
  | [], _ :: _, _, x => x.elim
  | _ :: _, [], _, x => x.elim
theorem dqLay : ∀ {as : List α}, as.all Dq.ok = true → PyData.canLayAll0 (as.map Dq.py) = true
  | [], _ => by simp [PyData.canLayAll0]
  | a :: as, h => by
    rw [List.all_cons, Bool.and_eq_true] at h
    simp [PyData.canLayAll0, Dq.lay a h.1, dqLay h.2]
theorem dqDep : ∀ as : List α, PyData.depthAll (as.map Dq.py) ≤ Dq.dep α
  | [] => by simp [PyData.depthAll]
  | a :: as => by
    have h1 := Dq.deep a
    have h2 := dqDep as
    simp only [List.map_cons, PyData.depthAll]
    omega
theorem dqEqv : ∀ as bs : List α, as.all Dq.nb = true → bs.all Dq.nb = true → PyData.eqvAll (as.map Dq.py) (bs.map Dq.py) = decide (as = bs)
  | [], [], _, _ => by simp [PyData.eqvAll]
  | a :: as, b :: bs, h, h' => by
    rw [List.all_cons, Bool.and_eq_true] at h h'
    simp only [List.map_cons, PyData.eqvAll, Dq.eqv a b h.1 h'.1, dqEqv as bs h.2 h'.2]
    by_cases h1 : a = b <;> by_cases h2 : as = bs <;> simp [h1, h2]
  | [], b :: bs, _, _ => by simp [PyData.eqvAll]
  | a :: as, [], _, _ => by simp [PyData.eqvAll]
theorem dqRfl : ∀ as : List α, PyData.eqvAll (as.map Dq.py) (as.map Dq.py) = true
  | [] => by simp [PyData.eqvAll]
  | a :: as => by simp only [List.map_cons, PyData.eqvAll, Dq.rfl' a, dqRfl as, Bool.and_self]
def Dl.py : Dl α → PyData
  | .n => .none
  | .i k => .int k
  | .b y => .bool y
  | .s y => .str y
  | .l xs => .list (xs.map Dq.py)
  | .t xs => .tuple (xs.map Dq.py)
  | .d => .none
def Dl.ok : Dl α → Bool
  | .s y => PySem.PyData.strOk y
  | .l xs => xs.all Dq.ok
  | .t xs => xs.all Dq.ok
  | .d => false
  | _ => true
def Dl.nb : Dl α → Bool
  | .b _ => false
  | .l xs => xs.all Dq.nb
  | .t xs => xs.all Dq.nb
  | .d => false
  | _ => true
instance dqDl : Dq (Dl α) where
  py := Dl.py
  ok := Dl.ok
  nb := Dl.nb
  dep := Dq.dep α + 1
  dp := fun {K H v a} h r => by
    cases a with
    | n => cases r; exact .non
    | i k => cases r; exact .int _
    | b k => cases r; exact .bl _
    | s k => cases r; exact .str _
    | l xs =>
      obtain ⟨p, vs, h1, h2, h3⟩ := r
      subst h1
      exact .lst (SqL.of h2) (dqDp h h3)
    | t xs =>
      obtain ⟨p, vs, h1, h2, h3⟩ := r
      subst h1
      exact .tup h2 (dqDp h h3)
    | d => cases h
  lay := fun a h => by
    cases a with
    | n => rfl
    | i k => rfl
    | b k => rfl
    | s k =>
      have h : PySem.PyData.strOk k = true := h
      simpa [Dl.py, PyData.canLay0] using h
    | l xs => simpa [Dl.py, PyData.canLay0] using dqLay h
    | t xs => simpa [Dl.py, PyData.canLay0] using dqLay h
    | d => cases h
  deep := fun a => by
    cases a with
    | l xs => simpa [Dl.py, PyData.depth] using dqDep xs
    | t xs => simpa [Dl.py, PyData.depth] using dqDep xs
    | _ => simp [Dl.py, PyData.depth]
  eqv := fun a b h h' => by
    cases a with
    | l xs =>
      cases b with
      | l ys => simp only [Dl.py, PyData.eqv, dqEqv xs ys h h']; by_cases q : xs = ys <;> simp [q]
      | _ => first | exact (Bool.false_ne_true h').elim | simp [Dl.py, PyData.eqv]
    | t xs =>
      cases b with
      | t ys => simp only [Dl.py, PyData.eqv, dqEqv xs ys h h']; by_cases q : xs = ys <;> simp [q]
      | _ => first | exact (Bool.false_ne_true h').elim | simp [Dl.py, PyData.eqv]
    | i k =>
      cases b with
      | i m => simp only [Dl.py, PyData.eqv]; by_cases q : k = m <;> simp [q]
      | _ => first | exact (Bool.false_ne_true h').elim | simp [Dl.py, PyData.eqv]
    | s k =>
      cases b with
      | s m => simp only [Dl.py, PyData.eqv]; by_cases q : k = m <;> simp [q]
      | _ => first | exact (Bool.false_ne_true h').elim | simp [Dl.py, PyData.eqv]
    | n => cases b <;> first | exact (Bool.false_ne_true h').elim | simp [Dl.py, PyData.eqv]
    | b k => cases h
    | d => cases h
  rfl' := fun a => by
    cases a with
    | l xs => simp only [Dl.py, PyData.eqv, dqRfl xs]
    | t xs => simp only [Dl.py, PyData.eqv, dqRfl xs]
    | _ => simp [Dl.py, PyData.eqv]
end
section
variable {X : Cx} {Γ : Ctx} {α β γ : Type} {a b e : Expr} {es : List Expr} {pos p p1 : Pos} {ta tb te : TE}
/-! ### told as a mixed thing; taken for what it is -/
/-! ### isinstance -/
end
end Ty

/-! ## Ty92: own tables of mixed things -/
namespace Ty
open PySem PySem.Spec PyProof.Rows L2
section
variable {X : Cx} {Γ : Ctx} {S L ρ α β γ A B S' : Type} [Rp ρ] {o : Ow ρ} {Γo : S → Ctx} {ΓL : L → Ctx} {a b e f : Expr} {es : List Expr} {pos p p1 p2 p3 apos cpos : Pos} {ta tb te tf : TE} {t : TA} {sts : List Stmt} {tr tr' : TS}
/-! ### rows told as lists; lists told as rows -/
/-! ### a def that takes its first argument over -/
def delF (H : Hp) (fp : List Addr) : Hp := fun p => if p ∈ fp then none else H p
theorem delF_same (H : Hp) (fp : List Addr) : Same (delF H fp) H := fun p o h => by
  unfold delF at h
  split at h
  · cases h
  · exact h
theorem delF_in {H : Hp} {fp : List Addr} {p : Addr} (h : p ∈ fp) : delF H fp p = none := if_pos h
theorem delF_out {H : Hp} {fp : List Addr} {p : Addr} (h : p ∉ fp) : delF H fp p = H p := if_neg h
end
section
variable {P : Program} {w : World} {K : PySem.W.Frag} {mg : Str → Option Value} {base : Heap}
end
section
variable {X : Cx} {Γ : Ctx} {S L ρ α β γ A B S' : Type} [Rp ρ] {o : Ow ρ} {Γo : S → Ctx} {ΓL : L → Ctx} {a b e f : Expr} {es : List Expr} {pos p p1 p2 p3 apos cpos : Pos} {ta tb te tf : TE} {t : TA} {sts : List Stmt} {tr tr' : TS}
end
end Ty

/-! ## Ty93: a slot that no name shows; tables of code objects (k77) -/
namespace Ty
open PySem PySem.Spec PyProof.Rows L2
theorem inv_ghost {X : Cx} {pins : List (Addr × Obj)} {σ : L2.St} {H : Hp} {s : Shared} {i : Nat} {v : Option V} (I : Inv X pins σ H s) (hp : ∀ x, X.N[i]? = some x → ¬ Vis X.env.scope x) : Inv X pins (σ.set i v) H s :=
  { I with
    loc := by
      obtain ⟨m, hn, hl⟩ := I.loc
      refine ⟨m, hn, fun j y u e1 e2 e3 => ?_⟩
      by_cases h : i = j
      · subst h; exact absurd e3 (hp y e1)
      · rw [List.getElem?_set_ne h] at e2
        exact hl j y u e1 e2 e3
    len := by rw [List.length_set]; exact I.len }
/-- the statements read from a state in which a slot that no name shows is set -/
theorem pss_ghost {X : Cx} {sts : List Stmt} {t : TS} {i : Nat} {v : Option V} (h : PSs X sts t) (hp : ∀ x, X.N[i]? = some x → ¬ Vis X.env.scope x) : PSs X sts (fun D σ H => t D (σ.set i v) H) :=
  ⟨fun pins s σ H D I ht => h.run pins s (σ.set i v) H D (inv_ghost I hp) ht⟩
/-- a table of code objects, held -/
inductive Tbv where
  | mk
instance : Rp Tbv := ⟨fun _ _ _ _ => True, fun {K H H' v a} _ _ => True.intro⟩
def Ow.tab (P : Addr) : Ow Tbv where
  rep K HF H v x fp := v = .ref P ∧ H P = some (.tbl #[]) ∧ fp = [P]
  mono := fun {K HF HF' H H' v a fp} e k h => by
    obtain ⟨h1, h2, h3⟩ := h
    exact ⟨h1, k P (by rw [h3]; simp) _ h2, h3⟩
  dom := fun {K HF H v a fp} h p hp => by
    obtain ⟨h1, h2, h3⟩ := h
    rw [h3, List.mem_singleton] at hp
    exact ⟨_, by rw [hp]; exact h2⟩
  frz := fun {K HF HF' H v a fp} e k h => True.intro
/-- a def that is handed the empty table of code objects at P besides its arguments -/
def spT {A ρ : Type} [Rp ρ] (K : PySem.W.Frag) (P : Addr) (r : As A) (o : Ow ρ) (f : A → M ρ) : Sp := fun vs H Q _ =>
  ∃ HF a c, Same HF H ∧ HF P = none ∧ H P = some (.tbl #[]) ∧ r.rep K HF vs a ∧ f a = .ok c ∧ RetK K HF (delF H [P]) o c Q
theorem holds_snoc {K : PySem.W.Frag} {HF H : Hp} {s : Sl} {x : Option V} {f : List Addr} : ∀ {Γ : Ctx} {σ : L2.St} {fs : List Addr}, Holds K HF H Γ σ fs → HoldS K HF H s x f → Holds K HF H (Γ ++ [s]) (σ ++ [x]) (fs ++ f)
  | [], [], _, h, h' => by
    cases (show _ = [] from h)
    exact ⟨f, [], by simp, h', rfl⟩
  | t :: Γ, y :: σ, _, ⟨f1, f2, e, a, b⟩, h' => ⟨f1, f2 ++ f, by rw [e, List.append_assoc], a, holds_snoc b h'⟩
  | [], _ :: _, _, h, _ => h.elim
  | _ :: _, [], _, h, _ => h.elim
section
variable {Pr : Program} {w : World} {K : PySem.W.Frag} {mg : Str → Option Value} {base : Heap}
/-- the def at f has its code object at c -/
def CodeAt (K : PySem.W.Frag) (f c : Addr) : Prop := ∀ oc od osl (fd : FuncData), K.lookup f = some ⟨oc, od, .func fd, osl⟩ → fd.code = .ref c
theorem okC {x qual : Str} {params : Arguments} {bd : List Stmt} {scope : Scope} {dvs : List V} {kws : List (Str × V)} {f c : Addr} {fd : FuncData} {CX : CXT} {N ps : List Str} {k : Nat} {sp : Sp} (F : FunD K x qual params bd scope dvs kws f fd) (S : FnScope N ps scope) (C : CodeAt K f c) (len : ∀ vs H Q E, sp vs H Q E → vs.length = ps.length)
    (hbody : ∀ (A : Around) (outer : List Env) (s : Shared) (H : Hp) (vs : List V) (Q : VK) (E : XK), Room k (A.deeper (envOfC qual scope s.heap.objs.size f (.ref c))) → sp vs H Q E →
      ∃ t, PSs (cxOf CX Pr w K mg base N qual scope f (.ref c) A outer s H E) bd t ∧ t { nx := fun _ H' => Q .non H', rt := Q } (L2.start N vs) H) : FnOk Pr w K mg base CX (k + 1) f fd ps sp := by
  obtain ⟨oc, od, dV, kV, doc, pm, an, cdv, ct, osl, rfl, lk, hcd, _, _⟩ := F.ex
  have e : cdv = .ref c := C _ _ _ _ lk
  subst e
  exact fn_of lk hcd S len fun A outer s H vs Q E hr hsp => hbody A outer s H vs Q E hr hsp
/-- the last name of N is none of the def's: its slot holds the table -/
theorem fn_okT {A ρ : Type} [Rp ρ] {x qual : Str} {params : Arguments} {bd : List Stmt} {scope : Scope} {dvs : List V} {kws : List (Str × V)} {f : Addr} {fd : FuncData} {N ps : List Str} {k j : Nat} {r : As A} {o : Ow ρ} {m : A → M (Ctl Unit Empty ρ)} (P : Addr) {c : Addr} (C : CodeAt K f c) (F : FunD K x qual params bd scope dvs kws f fd) (S : FnScope N ps scope) (hn : r.n = ps.length) (hN : N.length = r.n + j + 1)
    (gh : ∀ y, N[r.n + j]? = some y → ¬ Vis scope y)
    (body : ∀ (A' : Around) (outer : List Env) (s : Shared) (H : Hp) (E : XK), Room k (A'.deeper (envOfC qual scope s.heap.objs.size f (.ref c))) → ∀ a : A, ∃ t : TS,
      SS (cxOf CX0 Pr w K mg base N qual scope f (.ref c) A' outer s H E).nox (r.ctx a ++ List.replicate j .un ++ [.mk (Ow.tab P) Tbv.mk]) bd (fun (_ : Unit) => []) (fun (_ : Empty) => []) o (m a) t)
    (ho : ∀ r R v H, R v H → o.out r R v H := by exact fun _ _ _ _ h => h) :
    FnOk Pr w K mg base CX0 (k + 1) f fd ps (spT K P r o fun a => runC (m a)) := by
  refine okC F S C (fun vs H Q E h => ?_) (fun A' outer s H vs Q E hr h => ?_)
  · obtain ⟨HF, a, c, h1, h2, h3, h4, h5, h6⟩ := h
    rw [r.len h4, hn]
  · obtain ⟨HF, a, c, h1, hP, hT, h2, h3, h4⟩ := h
    obtain ⟨t, q⟩ := body A' outer s H E hr a
    refine ⟨_, pss_ghost (i := r.n + j) (v := some (.ref P)) q.pss.nox gh, ?_⟩
    obtain ⟨c', e1, h3⟩ := bind_ok h3
    have hl := r.len h2
    have hd := r.held (HF := HF) (H := H) j h2
    have es : (L2.start N vs).set (r.n + j) (some (.ref P)) = vs.map some ++ List.replicate j none ++ [some (.ref P)] := by
      unfold L2.start
      rw [hN, hl, show r.n + j + 1 - r.n = j + 1 by omega, List.replicate_succ', ← List.append_assoc]
      rw [List.set_append_right _ _ (by simp [hl])]
      simp [hl]
    have hh := holds_snoc hd (s := .mk (Ow.tab P) Tbv.mk) (x := some (.ref P)) (f := [P]) ⟨.ref P, rfl, rfl, hT, rfl⟩
    rw [List.nil_append] at hh
    refine q.sem HF (delF H [P]) HF H _ ⟨h1, Same.refl _, delF_same H [P], (fun p u a b => by rw [a] at b; cases b), [P], by rw [es]; exact hh, by simp, fun p hp => ?_⟩ c' e1 _ ?_
    · rw [List.mem_singleton] at hp
      subst hp
      exact ⟨hP, delF_in (by simp)⟩
    cases c' with
    | nx s => cases h3
    | bk l => exact nomatch l
    | ct l => exact nomatch l
    | rt r' =>
      cases pure_ok (show (pure r' : M ρ) = .ok c from h3)
      exact fun v HF' H' fp a b c' d rr n ff => ho _ _ _ _ <| h4 v HF' H' fp ⟨b, c', a, d⟩ rr n fun p hp => ⟨(ff p hp).2, (ff p hp).1⟩
end
section
variable {X : Cx} {Γ : Ctx} {S L ρ α β γ A B S' : Type} [Rp ρ] {o : Ow ρ} {Γo : S → Ctx} {ΓL : L → Ctx} {a b e f : Expr} {es : List Expr} {pos p p1 p2 p3 apos cpos : Pos} {ta tb te tf : TE} {t : TA} {sts : List Stmt} {tr tr' : TS}
/-- x = f(..), the table in slot q is given away -/
theorem ss_asgCallT {K : PySem.W.Frag} [Rp α] [Inhabited α] (q i : Nat) {P : Addr} {k : Nat} {fa : Addr} {fd : FuncData} {ps : List Str} {g x : Str} {u : Ow α} {r : As A} {fm : A → M α} {m : M A} {kk : α → M (Ctl S L ρ)} {pos' : Pos} (hN : X.N.Nodup) (F : FnOk X.prog X.w X.K X.mg X.base CX0 k fa fd ps (spT X.K P r u fm)) (hr0 : Room k X.A) (hm : X.mg g = some (.ref fa)) (hk : PySem.W.keepIn X.K (.ref fa) = true) (hb : Binds X.K fd ps [])
    (ha : EA X Γ (e :: es) r m t) (hr : ∀ a, SS X (put (put Γ q (.mk (Ow.v : Ow Tbv) Tbv.mk)) i (.mk u a)) sts Γo ΓL o (kk a) tr) (hl : look Γ q = .mk (Ow.tab P) Tbv.mk := by rfl) (hlt : Nat.blt i (put Γ q (.mk (Ow.v : Ow Tbv) Tbv.mk)).length = true := by rfl) (hi : X.N[i]? = some x := by rfl) (hx : Loc X.env.scope x := by first | exact .inl rfl | exact .inr rfl)
    (hg : Gl X g := by rfl) (hdb : (g == ("__debug__" : Str)) = false := by decide) (he : starEach (e :: es) X.env = (false, eval e X.env) :: starEach es X.env := by rfl) (hpl : (backTo cpos (starEach es X.env)).any (·.1) = false := by rfl) (hK : X.K = K := by rfl)
    (hs : swapsWith (.Call (.Name g p) (e :: es) [] cpos) (some (.Name x pos')) pos.line X.env = pure false := by rfl) (hf : X.fn x = true ∨ X.env.scope.names.lookup x = some .local := by first | exact .inl rfl | exact .inr rfl) :
    SS X Γ (.Assign [.Name x pos'] (.Call (.Name g p) (e :: es) [] cpos) pos :: sts) Γo ΓL o (do let a ← m; let c ← fm a; kk c) (tSeq (tAsg (tCall (spT K P r u fm) [] E0 t) (gName i)) tr) := by
  subst hK
  exact ⟨pss_cons (ps_set hN hi hx (pe_call F hr0 hg hm hk hb .nil pass0 ha.pa hdb he hpl) hs hf) (hr default).pss, fun HF0 G HF H σ g c hc D k2 => by
    obtain ⟨y, e1, hc⟩ := bind_ok hc
    obtain ⟨z, e2, hc⟩ := bind_ok hc
    obtain ⟨v, fo, hσ, hrep, nd, hfo, back⟩ := g.take hl
    obtain ⟨h1, h2, h3⟩ := hrep
    subst h1 h3
    refine ha.sem HF0 G HF H σ g y e1 _ fun vs HF1 H1 s1 r1 => ?_
    show spT X.K P r u fm (vs ++ []) H1 _ E0
    rw [List.append_nil]
    have gP : Same HF1 H1 := s1.sub
    refine ⟨HF1, y, z, s1.sub, s1.nn (hfo P (by simp)).1 h2, s1.exH P _ h2, r1, e2, fun v' HF2 H2 fp st rr n ff => ?_⟩
    have gg := back (u' := (Ow.v : Ow Tbv)) (b := Tbv.mk) (v' := .ref P) (f' := []) (H' := delF H1 [P]) s1 (fun p w hp hw => by rw [delF_out hp]; exact hw) ⟨True.intro, rfl⟩ List.nodup_nil (fun p hp => by cases hp)
    rw [set_self hσ] at gg
    exact (hr z).sem HF0 G HF2 H2 _ (gg.set (of_blt hlt) st rr n ff) c hc D (k2.mono (s1.exF.trans st.exF))⟩
end
end Ty

/-! ## Ty94: sorted(range(n), key=f) (k77) -/
namespace PySem.W
open PySem PySem.Spec PyProof.Rows
section
variable {prog : Program} {w : World} {A : Around} {E : Value → Shared → Prop} {s : Shared}
/-- sorted(x, ..) is list.sort(..) on a new list of x's items, whatever x is -/
theorem sorted_of_coll {x : Value} {kw : List (Str × Value)} {Q : Value → Shared → Prop} {P : List Value → Prop} (ha1 : argsOk "sorted" ⟨[x], kw⟩) (ha2 : ∀ x, argsOk "list.sort" ⟨[.ref x], kw⟩)
    (co : ∀ (R : List Value → Shared → Prop) (E' : Value → Shared → Prop), (∀ (h' : Heap) (tk : Nat) (vs : List Value), (∀ b o, s.heap.get? b = some o → h'.get? b = some o) → P vs → R vs { s with heap := h', toks := tk }) → wpAny (model prog w) A.in1 (collect x) R E' s)
    (hL : ∀ vs, P vs → vs.length ≤ sizeLine)
    (body : ∀ (h' : Heap) (tk : Nat) (vs : List Value), (∀ b o, s.heap.get? b = some o → h'.get? b = some o) → P vs → ∀ E' : Value → Shared → Prop,
      wpAny (model prog w) A.in1.in1 (Builtin.«list.sort» ⟨[.ref h'.objs.size], kw⟩) (fun f s' => f = .done (.ret .none) ∧ Q (.ref h'.objs.size) s') E' { s with heap := h'.push (seqObj "list" vs.toArray 0), toks := tk }) :
    wpAny (model prog w) A (call (.builtin "sorted") [x] kw) Q E s := by
  refine call_function_entry_kw kind_sorted plain_sorted entry_sorted ha1 ?_
  unfold Builtin.«sorted»
  refine wpAny_bind (m := checkCount "sorted" 1 1 _) (wpAny_pure ?_)
  refine wpAny_bind (co _ _ fun h' tk vs kp hP => ?_)
  refine wpAny_bind (wpAny_newList ?_ (hL vs hP))
  refine wpAny_bind (wpAny_holding (wpAny_call_entry_kw slot_list_sort ⟨_, Heap.get?_push_size _ rfl, rfl⟩ entry_list_sort ?body (ha2 _)))
  case body =>
    show wpAny (model prog w) A.in1.in1 (Builtin.«list.sort» ⟨[.ref h'.objs.size], kw⟩) _ _ _
    refine wpAny_mono (body h' tk vs kp hP _) (fun f s' hf => ?_) fun _ _ e => e
    obtain ⟨rfl, hq⟩ := hf
    exact ⟨_, rfl, wpAny_pure ⟨_, rfl, hq⟩⟩
/-- sorted(x, key=f[, reverse=b]), x whatever -/
theorem sorted_key_coll {β : Type} {x f : Value} {kw : List (Str × Value)} {b : Bool} {Q : Value → Shared → Prop} {R : Value → β → Prop} {bs : List β} (k : β → PyData) (ha1 : argsOk "sorted" ⟨[x], kw⟩) (ha2 : ∀ x, argsOk "list.sort" ⟨[.ref x], kw⟩) (ht : ∀ x, Builtin.«list.sort» ⟨[.ref x], kw⟩ = ksk_tree x f b)
    (co : ∀ (R' : List Value → Shared → Prop) (E' : Value → Shared → Prop), (∀ (h' : Heap) (tk : Nat) (vs : List Value), (∀ b o, s.heap.get? b = some o → h'.get? b = some o) → EachIs R vs bs → R' vs { s with heap := h', toks := tk }) → wpAny (model prog w) A.in1 (collect x) R' E' s)
    (hal : AllAlike (bs.map k)) (hk : Sortable (bs.map k)) (hL : bs.length ≤ sizeLine) (hu : ∀ x, x ∈ bs → A.units + 2 + (k x).depth < cLine)
    (turn : ∀ (v : Value) (x : β), R v x → x ∈ bs → ∀ (h : Heap) (tk : Nat), (∀ b o, s.heap.get? b = some o → h.get? b = some o) →
      wpAny (model prog w) A.in1.in1 (call f [v]) (KeyPure (k x) { s with heap := h, toks := tk }) (fun _ _ => False) { s with heap := h, toks := tk })
    (h : ∀ out c a h' tk, (∀ b o, s.heap.get? b = some o → h'.get? b = some o) → s.heap.get? a = none → h'.get? a = some (seqObj "list" (List.toArray out) c) → out.length = bs.length → EachIs R out (bs.mergeSort (dataLe b k)) → Q (.ref a) { s with heap := h', toks := tk }) :
    wpAny (model prog w) A (call (.builtin "sorted") [x] kw) Q E s := by
  refine sorted_of_coll (P := fun vs => EachIs R vs bs) ha1 ha2 co (fun vs e => by rw [e.length]; exact hL) fun h1 tk1 vs kp1 e E' => ?_
  rw [ht]
  have fresh : s.heap.get? h1.objs.size = none := by
    cases q : s.heap.get? h1.objs.size with
    | none => rfl
    | some o => exact absurd (Heap.lt_size (kp1 _ _ q)) (Nat.lt_irrefl _)
  have up : ∀ {g : Heap}, KeepsBut h1.objs.size (h1.push (seqObj "list" vs.toArray 0)) g → ∀ b o, s.heap.get? b = some o → g.get? b = some o := fun {g} kp b o q =>
    kp b o (Nat.ne_of_lt (Heap.lt_size (kp1 b o q))) (Heap.get?_push_of_some _ (kp1 b o q))
  refine keyH_tree (kz := bs.map k) (s := { s with heap := h1.push (seqObj "list" vs.toArray 0), toks := tk1 }) (Heap.get?_push_size _ rfl) (by rw [List.length_map]; exact e.length.symm) (by rw [e.length]; exact hL) hal hk (bound_map (A := A.in1.in1) hu)
    (keyH_turns (s := { s with heap := h1.push (seqObj "list" vs.toArray 0), toks := tk1 }) e fun v x hR hx h tk kp => turn v x hR hx h tk (up kp)) fun h' tk out c kp hD ko => ⟨rfl, ?_⟩
  exact h out c h1.objs.size h' tk (up kp) fresh hD ((ko.length (by rw [List.length_map]; exact e.length.symm)).trans e.length) (keyedOut_each k ko e)
end
end PySem.W

/-! ## Ty95: sorted(range(n), key=lambda k: 2 * k if k < m else 2 * (k - m) + 1) (k77) -/
namespace PySem.W
open PySem PySem.Spec PySem.Calls PyProof.Rows
section
variable {prog : Program} {w : World} {A : Around} {env : Env} {h : Heap}
/-- e's value is the whole number n wherever the heap is h, and nothing but marks is used -/
def RI (prog : Program) (w : World) (A : Around) (env : Env) (h : Heap) (e : Expr) (n : Int) : Prop :=
  ∀ (s : Shared) (E Q : Value → Shared → Prop), s.heap = h → (∀ t tk, Q (.int n t) { s with toks := tk }) → wpAny (model prog w) A (eval e env) Q E s
theorem RI.const {i : Int} {k pos} : RI prog w A env h (.Constant (.int i) k pos) i := fun s E Q _ hq => wpAny_Constant_int (hq _ _)
theorem RI.add {a b : Expr} {i j : Int} {pos : Pos} (ha : RI prog w A env h a i) (hb : RI prog w A env h b j) : RI prog w A env h (.BinOp a .Add b pos) (i + j) := fun s E Q hs hq =>
  wpAny_BinOp (ha s _ _ hs fun t tk => hb { s with toks := tk } _ _ hs fun t' tk' => add_int (hq _ _))
theorem RI.sub {a b : Expr} {i j : Int} {pos : Pos} (ha : RI prog w A env h a i) (hb : RI prog w A env h b j) : RI prog w A env h (.BinOp a .Sub b pos) (i - j) := fun s E Q hs hq =>
  wpAny_BinOp (ha s _ _ hs fun t tk => hb { s with toks := tk } _ _ hs fun t' tk' => sub_int (hq _ _))
theorem RI.mul {a b : Expr} {i j : Int} {pos : Pos} (ha : RI prog w A env h a i) (hb : RI prog w A env h b j) (h1 : -(2 ^ 64) < i) (h2 : i < 2 ^ 64) : RI prog w A env h (.BinOp a .Mult b pos) (i * j) := fun s E Q hs hq =>
  wpAny_BinOp (ha s _ _ hs fun t tk => hb { s with toks := tk } _ _ hs fun t' tk' => mul_int (hq _ _) (.of_left (intBits_le_64 h1 h2)))
theorem RI.loc {x : Str} {pos : Pos} {m : Str → Option Value} {n : Int} {t : Tok} (hk : env.scope.kind = .function) (hl : env.scope.names.lookup x = some .local) (hn : h.Ns env.locals m) (hm : m x = some (.int n t)) (hd : (x == ("__debug__" : Str)) = false) :
    RI prog w A env h (.Name x pos) n := fun s E Q hs hq => by
  subst hs
  exact wpAny_Name (wpAny_loadName_local hk hl hn hm (hq t s.toks)) hd
theorem RI.free {x : Str} {pos : Pos} {c : Addr} {n : Int} {t : Tok} (hk : env.scope.kind = .function) (hl : env.scope.names.lookup x = some .free) (hc : env.cells.lookup x = some c) (hi : h.IsCell c (some (.int n t))) (hd : (x == ("__debug__" : Str)) = false) (hcd : (x == ("__classdict__" : Str)) = false) :
    RI prog w A env h (.Name x pos) n := fun s E Q hs hq => by
  subst hs
  exact wpAny_Name (wpAny_loadName_free hk hl hc hi (hq t s.toks) hcd) hd
theorem RI.ite {a b x y : Expr} {i j k l : Int} {p pos : Pos} (ha : RI prog w A env h a i) (hb : RI prog w A env h b j) (hx : RI prog w A env h x k) (hy : RI prog w A env h y l) (hm : behindInMarks .Lt b = false) :
    RI prog w A env h (.IfExp (.Compare a [.Lt] [b] p) x y pos) (if i < j then k else l) := fun s E Q hs hq => by
  refine wpAny_IfExp (wpAny_isTrue_Compare1 (ha s _ _ hs fun t tk => hb { s with toks := tk } _ _ hs fun t' tk' => lt_int (wpAny_truthy_bool ?_)) hm)
  by_cases z : i < j
  · rw [if_pos z] at hq
    rw [decide_eq_true z]
    exact hx _ _ _ hs fun t tk => hq t tk
  · rw [if_neg z] at hq
    rw [decide_eq_false z]
    exact hy _ _ _ hs fun t tk => hq t tk
/-- a call of the made function with one value -/
theorem lam_call1 {s : Shared} {f c' : Addr} {x : Str} {v : Value} {n : Int} {qual : Str} {params : Arguments} {body : Expr} {scope : Scope} {clos : List (Str × Addr)} {pm ctv : Value} (hroom : A.depth < recursionLimit)
    (hf : s.heap.get? f = some (kla_obj "<lambda>" qual params body scope clos pm c' ctv)) (hco : scope.isCoroutine = false) (hgen : scope.isGenerator = false) (hcd : s.heap.CodeRec (.ref c') qual)
    (hbind : bindArgs (kla_fn "<lambda>" qual params body scope clos pm (.ref c') ctv) ⟨[v], []⟩ = pure [(x, v)]) (hloc : scope.names.lookup x = some .local) (hcell : ∀ y ∈ scope.names, y.2 ≠ .cell) (hk : scope.kind = .function) (lim : s.heap.NoLimit)
    (hb : ∀ (L : Addr) (h₁ : Heap), (∀ b o, s.heap.get? b = some o → h₁.get? b = some o) → h₁.Ns L (fun y => [(x, v)].reverse.lookup y) → RI prog w (A.deeper (envX qual scope L f (.ref c') clos)) (envX qual scope L f (.ref c') clos) h₁ body n) :
    wpAny (model prog w) A (call (.ref f) [v]) (KeyPure (.int n) s) (fun _ _ => False) s := by
  refine wpAny_call (kla_callFunE hroom hf rfl hco hgen rfl hcd ?_)
  rw [hbind]
  refine wpAny_pure (wpAny_newFunctionEnv hcell (fun y hy => by
    rw [List.mem_singleton] at hy
    rw [hy]
    exact hloc) (fun h₁ hns hsb => ⟨lim.fresh _ hsb, ?_⟩) hk)
  show codeAny _ _ (.expr body (envX qual scope s.heap.objs.size f (.ref c') clos)) _ _
  have kp : ∀ b o, s.heap.get? b = some o → h₁.get? b = some o := fun b o e => hsb.extBut b o (Nat.ne_of_lt (Heap.lt_size e)) (Heap.get?_push_of_some _ e)
  refine kla_codeExpr (hb s.heap.objs.size h₁ kp hns _ _ _ rfl fun t tk => ?_)
  exact ⟨h₁, tk, rfl, kp, .int _ _⟩
end
end PySem.W
namespace LamX
open PySem PySem.Spec PyProof.Rows L2
section
variable {X : Cx} {pins : List (Addr × Obj)} {σ : L2.St} {H : Hp} {s : Shared}
/-- a lambda is made by a def whose table is still empty: all but the table stays -/
theorem lam_fresh {c P : Addr} {params : Arguments} {body : Expr} {scope : Scope} {pos : Pos} {E Q : Value → Shared → Prop} (I : Inv X pins σ H s) (TB : TabB X.base X.mg c P) (hcode : X.env.code = .ref c) (hP : H P = some (.tbl #[]))
    (hdef : defaultsOf params X.env = ([], [])) (hfree : ∀ y ∈ scope.names, y.2 = .free → ∃ c, X.env.cells.lookup y.1 = some c)
    (h : ∀ (f c' : Addr) (pm ctv : Value) (H1 : Hp) (s' : Shared), Inv X pins σ H1 s' → (∀ b o, b ≠ P → H b = some o → H1 b = some o) → (∃ ps, H1 P = some (.tbl ps)) →
      s'.heap.get? f = some (PySem.W.kla_obj "<lambda>" (X.env.qual ++ "<lambda>") params body scope (cloFrom X.env.cells scope.names []) pm c' ctv) → H1 c' = some (CodeO c' (X.env.qual ++ "<lambda>")) → Q (.ref f) s') :
    wpAny (model X.prog X.w) X.A (eval (.Lambda params body scope pos) X.env) Q E s := by
  have oP : s.heap.get? P = some { cls := .none, data := .fields #[] } := I.hok P _ hP
  refine PySem.W.kla_eval hdef ?_
  refine PySem.W.kla_makeFunction (ps := #[]) (mg := X.mg) (P := P) (c := c) (closure_ok hfree) I.ok.glob (I.mod.glob.keeps I.bk) hcode (TB.code.keeps I.bk) oP True.intro rfl TB.gP (TB.bm.keeps I.bk) fun c' ctv g k hx hge hlt hrec htb => ?_
  obtain ⟨_, oc, vs, t, ec, hoc, hd, hv⟩ := hrec
  cases ec
  have nC : H c' = none := I.hok.fresh hge
  have J := inv_table (q := X.env.qual ++ "<lambda>") (t' := k) (more := #[rawInt pos.line, rawInt pos.col, .ref c'])
    (h' := g.push (PySem.W.kla_obj "<lambda>" (X.env.qual ++ "<lambda>") params body scope (cloFrom X.env.cells scope.names []) ((X.mg "__name__").getD .none) c' ctv)) I hP
    (fun b o hb e => Heap.get?_push_of_some _ (hx b o hb e)) (Heap.get?_push_of_some _ htb) hge ⟨oc, vs, t, Heap.get?_push_of_some _ hoc, hd, hv⟩
  refine h g.objs.size c' _ ctv _ _ J (fun b o hb e => ?_) ⟨#[] ++ #[rawInt pos.line, rawInt pos.col, .ref c'], ?_⟩ (Heap.get?_push_size _ rfl) upd_same
  · rw [upd_ne (ne_of_none e nC), upd_ne hb]
    exact e
  · rw [upd_ne (ne_of_none hP nC), upd_same]
end
end LamX
namespace L2
open PySem PySem.Spec PyProof.Rows
def keyL (n k : Int) : Int := if k < n then 2 * k else 2 * (k - n) + 1
def sortL (n m : Int) : List Int := (Ty.rangeL 0 m).mergeSort fun a b => decide (keyL n a ≤ keyL n b)
theorem each_of_vals : ∀ {L : List Int} {us : List Value}, Vals (L.map V.int) us → PySem.W.EachIs (fun v (i : Int) => ∃ t, v = Value.int i t) us L
  | [], _, h => by
    cases h
    exact .nil
  | i :: L, _, h => by
    cases h with
    | cons a b => exact .cons a (each_of_vals b)
theorem vals_of_each : ∀ {us : List Value} {L : List Int}, PySem.W.EachIs (fun v (i : Int) => ∃ t, v = Value.int i t) us L → Vals (L.map V.int) us
  | _, _, .nil => .nil
  | _, _, .cons a b => .cons a (vals_of_each b)
theorem rgV_range (m : Int) : rgV 0 m = (Ty.rangeL 0 m).map V.int := by
  unfold rgV Ty.rangeL
  rw [List.map_map]
  rfl
/-- the body of the function: 2 * k if k < size else 2 * (k - size) + 1 -/
abbrev bodyL (kx sz : Str) (p1 p2 p3 p4 p5 p6 p7 p8 p9 p10 p11 p12 p13 p14 : Pos) (j1 j2 j3 : Nat) : Expr :=
  .IfExp (.Compare (.Name kx p1) [.Lt] [.Name sz p2] p3) (.BinOp (.Constant (.int 2) j1 p4) .Mult (.Name kx p5) p6)
    (.BinOp (.BinOp (.Constant (.int 2) j2 p7) .Mult (.BinOp (.Name kx p8) .Sub (.Name sz p9) p10) p11) .Add (.Constant (.int 1) j3 p12) p13) p14
def tSortL (P : Addr) (j : Nat) (te : TE) : TE := fun σ H Q => te σ H fun v H1 => ∃ r n m, v = V.ref r ∧ H1 r = some (.rng 0 m) ∧ RgOk 0 m ∧ σ[j]? = some (some (.int n)) ∧ H1 P = some (.tbl #[]) ∧
  ∀ a H2, (∀ b o, b ≠ P → H1 b = some o → H2 b = some o) → (∃ ps, H2 P = some (.tbl ps)) → H1 a = none → a ≠ P → H2 a = some (.lst ((sortL n m).map V.int)) → Q (.ref a) H2
section
variable {X : Cx}
theorem pe_sortL {c P : Addr} {j : Nat} {e : Expr} {te : TE} {kx sz : Str} {params : Arguments} {scope : Scope} {p pos lpos kp p1 p2 p3 p4 p5 p6 p7 p8 p9 p10 p11 p12 p13 p14 : Pos} {j1 j2 j3 : Nat}
    (hc : X.calm = true) (hg : Gl X "sorted") (hm : X.mg "sorted" = none) (he : PE X e te) (TB : LamX.TabB X.base X.mg c P) (hcode : X.env.code = .ref c) (hj : X.N[j]? = some sz) (hcl : X.env.scope.names.lookup sz = some .cell) (hr : Room 2 X.A)
    (hdef : defaultsOf params X.env = ([], [])) (hfree : ∀ y ∈ scope.names, y.2 = .free → y.1 = sz) (hcell : ∀ y ∈ scope.names, y.2 ≠ .cell) (hkx : scope.names.lookup kx = some .local) (hsz : scope.names.lookup sz = some .free) (hk : scope.kind = .function) (hco : scope.isCoroutine = false) (hgen : scope.isGenerator = false)
    (hbind : ∀ (q : Str) (body : Expr) (cl : List (Str × Addr)) (pm cv ctv v : Value), bindArgs (PySem.W.kla_fn "<lambda>" q params body scope cl pm cv ctv) ⟨[v], []⟩ = pure [(kx, v)])
    (d1 : (kx == ("__debug__" : Str)) = false) (d2 : (sz == ("__debug__" : Str)) = false) (d3 : (sz == ("__classdict__" : Str)) = false)
    (hst : backTo pos (starEach [e] X.env) = (false, eval e X.env) :: backTo pos (starEach [] X.env) := by rfl) :
    PE X (.Call (.Name "sorted" p) [e] [⟨some "key", .Lambda params (bodyL kx sz p1 p2 p3 p4 p5 p6 p7 p8 p9 p10 p11 p12 p13 p14 j1 j2 j3) scope lpos, kp⟩] pos) (tSortL P j te) := by
  refine ⟨fun pins s σ H Q I h => ?_⟩
  refine wpAny_Call_Name_kw (ld_blt I hg hm boot_sorted ?_)
  refine PyProof.Rows.callWith_kw ?_ hst (by rw [hst]; rfl) rfl rfl
  rw [hst]
  refine Calls.spliced_cons (thn (he.run pins s σ H _ I h) fun u s1 ⟨v, H1, I1, rv, q⟩ => ?_)
  obtain ⟨r, n, m, ev, hrng, hok, hσ, hP, q⟩ := q
  subst ev
  obtain rfl : u = Value.ref r := rv
  refine Calls.spliced_nil ?_
  refine PyProof.Rows.kws_cons ?_
  have hfree' : ∀ y ∈ scope.names, y.2 = .free → ∃ c, X.env.cells.lookup y.1 = some c := fun y hy hz => by
    rw [hfree y hy hz]
    exact I1.ok.has _ (.inl hcl)
  refine LamX.lam_fresh (c := c) (P := P) I1 TB hcode hP hdef hfree' fun f c' pm ctv H2 s2 I2 eN T2 hf hco' => ?_
  refine PyProof.Rows.kws_nil ?_
  show wpAny _ _ (call (.builtin "sorted") [.ref r] [("key", .ref f)]) _ _ s2
  -- the captured name
  obtain ⟨m0, hn0, hl0⟩ := I2.loc
  obtain ⟨w0, rw0, look0⟩ := hl0 j sz (.int n) hj hσ (.inr (.inl hcl))
  obtain ⟨t0, rfl⟩ := rw0
  obtain ⟨c0, hc0, hcell0⟩ : ∃ c0, X.env.cells.lookup sz = some c0 ∧ s2.heap.IsCell c0 (some (.int n t0)) := by
    rcases look0 with ⟨k', _⟩ | ⟨_, c3, e', z⟩
    · have k' : X.env.scope.names.lookup sz = some .local := k'
      rw [hcl] at k'
      cases k'
    · exact ⟨c3, e', z⟩
  have hclo : (cloFrom X.env.cells scope.names []).lookup sz = some c0 := by
    have hy : (sz, NameKind.free) ∈ scope.names := PySem.mem_of_lookup hsz
    obtain ⟨c4, h4⟩ := mem_lookup (cloFrom_has (cells := X.env.cells) (acc := []) hy)
    rcases cloFrom_mem (PySem.mem_of_lookup h4) with hm4 | ⟨g1, g2⟩
    · cases hm4
    · rw [hc0] at g2
      rw [h4, g2] <;> rfl
  have hrng2 : H2 r = some (.rng 0 m) := eN r _ (fun z => by rw [z, hP] at hrng; cases hrng) hrng
  obtain ⟨t1, t2, t3, hor⟩ := I2.hok r _ hrng2
  obtain ⟨⟨oc, vs0, tq, hoc, hdc, hvc⟩, _, _⟩ := I2.hok c' _ hco'
  obtain ⟨b1, b2, b3, b4, b5⟩ := hok
  have hlen : (Ty.rangeL 0 m).length = (m - 0).toNat := by rw [← rgV_length 0 m, rgV_range, List.length_map]
  refine PySem.W.sorted_key_coll (b := false) (R := fun v (i : Int) => ∃ t, v = Value.int i t) (bs := Ty.rangeL 0 m) (fun i => .int (keyL n i)) (PyProof.Rows.ksk_s1 _ _) (fun _ => PyProof.Rows.ksk_l1 _ _) (fun _ => PyProof.Rows.ksk_t1 _ _)
    (fun R' E' k => ?_) (PySem.W.AllAlike.of fun _ _ => by simp [PySem.W.alike]) ?_ (by rw [hlen, sizeLine_eq]; omega) (fun i _ => ?_) (fun v i hv _ h1 tk1 kp1 => ?_) fun out cc a h1 tk1 kp1 fresh hD hlo eo => ?_
  · refine collect_range (A := X.A.in1) (n := (m - 0).toNat) (I2.ok.hd hc) hor (small_one b1 b2 b3 b4) (rangeSize_nat 0 m) b5 fun h' tk acc hk hi => ?_
    exact k h' tk acc.toList hk (each_of_vals (by rw [← rgV_range]; exact vals_rg hi))
  · exact PySem.W.Sortable.others fun b => ⟨nofun, nofun⟩
  · have := hr.un
    show X.A.units + 2 + (PyData.int _).depth < cLine
    have hd : (PyData.int (keyL n i)).depth = 0 := by simp [PyData.depth]
    omega
  · obtain ⟨t, rfl⟩ := hv
    have cellK : h1.IsCell c0 (some (.int n t0)) := by
      obtain ⟨o, ho, hd⟩ := hcell0
      exact ⟨o, kp1 _ _ ho, hd⟩
    refine PySem.W.lam_call1 (s := { s2 with heap := h1, toks := tk1 }) (x := kx) (by have := hr.dp; show X.A.depth < _; omega) (kp1 _ _ hf) hco hgen ⟨c', oc, vs0, tq, rfl, kp1 _ _ hoc, hdc, hvc⟩ (hbind _ _ _ _ _ _ _) hkx hcell hk (I2.nolimit.keeps kp1) fun L h3 kp3 hns => ?_
    have rk : ∀ p : Pos, PySem.W.RI X.prog X.w (X.A.in1.in1.deeper (PySem.W.envX (X.env.qual ++ "<lambda>") scope L f (.ref c') (cloFrom X.env.cells scope.names []))) (PySem.W.envX (X.env.qual ++ "<lambda>") scope L f (.ref c') (cloFrom X.env.cells scope.names [])) h3 (.Name kx p) i := fun p =>
      .loc (t := t) hk hkx hns (by simp) d1
    have rs : ∀ p : Pos, PySem.W.RI X.prog X.w (X.A.in1.in1.deeper (PySem.W.envX (X.env.qual ++ "<lambda>") scope L f (.ref c') (cloFrom X.env.cells scope.names []))) (PySem.W.envX (X.env.qual ++ "<lambda>") scope L f (.ref c') (cloFrom X.env.cells scope.names [])) h3 (.Name sz p) n := fun p =>
      .free (c := c0) (t := t0) hk hsz hclo (by
        obtain ⟨o, ho, hd⟩ := cellK
        exact ⟨o, kp3 _ _ ho, hd⟩) d2 d3
    exact .ite (rk _) (rs _) (.mul .const (rk _) (by decide) (by decide)) (.add (.mul .const (.sub (rk _) (rs _)) (by decide) (by decide)) .const) (nobehind _ (by decide) (by decide))
  · have e2 : ((Ty.rangeL 0 m).mergeSort (PySem.W.dataLe false fun i => PyData.int (keyL n i))) = sortL n m := by
      rw [PySem.W.dataLe_int] <;> rfl
    rw [e2] at eo
    have sz' : (sortL n m).length = (Ty.rangeL 0 m).length := by unfold sortL; exact List.length_mergeSort _
    have nA : H2 a = none := I2.hok.gone fresh
    obtain ⟨psP, hpsP⟩ := T2
    have naP : a ≠ P := fun z => by
      subst z
      rw [nA] at hpsP
      cases hpsP
    have nA1 : H1 a = none := by
      cases z : H1 a with
      | none => rfl
      | some o =>
        have := eN a o naP z
        rw [nA] at this
        cases this
    have keep : ∀ b o, b ≠ P → H1 b = some o → upd H2 a (.lst ((sortL n m).map V.int)) b = some o := fun b o hb e => by
      rw [upd_ne (ne_of_none e nA1)]
      exact eN b o hb e
    refine ⟨.ref a, upd H2 a (.lst ((sortL n m).map V.int)), I2.laidN (t' := tk1) kp1 fresh nA ⟨by rw [List.length_map, sz', hlen, sizeLine_eq]; omega, out, cc, vals_of_each eo, hD⟩, rfl, q a _ keep ⟨psP, by rw [upd_ne (ne_of_none hpsP nA)]; exact hpsP⟩ nA1 naP upd_same⟩
end
end L2
namespace Ty
open PySem PySem.Spec PyProof.Rows L2
theorem gh_of {sc : Scope} {y : Str} (h : sc.names.lookup y = none) : ¬ Vis sc y := fun v => by
  unfold Vis at v
  rw [h] at v
  rcases v with v | v | v <;> cases v
theorem codeAt_of {K : PySem.W.Frag} {x qual : Str} {params : Arguments} {bd : List Stmt} {scope : Scope} {dvs : List V} {kws : List (Str × V)} {fd : FuncData} {p : Str × Option Str} (F : FunD K x qual params bd scope dvs kws (He.fAd K p) fd) : CodeAt K (He.fAd K p) (He.codeOf K p) := by
  intro oc od osl fd' lk
  obtain ⟨oc2, od2, dV, kV, doc, pm, an, cdv, ct, osl2, rfl, lk2, hcd, _, _⟩ := F.ex
  obtain ⟨c, rfl⟩ := He.codeIn_ref hcd
  rw [He.codeOf_eq lk2 rfl]
  rw [lk2] at lk
  cases lk
  rfl
/-- the script's law begins: the empty table is the law's own -/
theorem law_startT {K : PySem.W.Frag} {P : Addr} {mir : Scr → M Bool} {ns : List Int} {a : Addr} {H : Hp} {E : XK} (e : mir ⟨ns⟩ = .ok true) (hP : H P = some (.tbl #[])) (hS : SqL K H a (ns.map V.int)) : spT K P (As.cons (α := Scr) As.nil) (Ow.v : Ow Bool) (fun a => mir a.1) [.ref a] H (fun v _ => v = .bl true) E := by
  have k : ∀ u, H a = some u → (∀ q, u ≠ .tbl q) → delF H [P] a = some u := fun u hu hn => by
    rw [delF_out (fun z => by
      rw [List.mem_singleton.mp z, hP] at hu
      exact hn _ (Option.some.inj hu).symm)]
    exact hu
  have hS' : SqL K (delF H [P]) a (ns.map V.int) := by
    rcases hS with (h | ⟨o, h⟩) | h
    · exact .inl (.inl (k _ h fun q z => by cases z))
    · exact .inl (.inr ⟨o, k _ h fun q z => by cases z⟩)
    · exact .inr h
  exact ⟨delF H [P], (⟨ns⟩, ()), true, delF_same H [P], delF_in (by simp), hP, ⟨.ref a, [], rfl, ⟨a, rfl, hS'⟩, rfl⟩, e, fun v HF' H' fp st r n f => r.1⟩
def sortLM (n : Int) (r : Rgv) : M (List Int) := if decide (r.lo = 0) && (decide (0 ≤ r.hi) && decide (r.hi ≤ 16777216)) then .ok (sortL n r.hi) else no
section
variable {X : Cx} {Γ : Ctx} {S L ρ : Type} [Rp ρ] {o : Ow ρ} {Γo : S → Ctx} {ΓL : L → Ctx} {e : Expr} {te : TE} {sts : List Stmt} {tr : TS}
/-- x = sorted(e, key=lambda k: ..), e a range; the table in slot q is given away, slot j holds the captured number -/
theorem ss_sortL {P c : Addr} {x kx sz : Str} {n : Int} (q i j : Nat) {params : Arguments} {scope : Scope} {p pos pos' spos lpos kp p1 p2 p3 p4 p5 p6 p7 p8 p9 p10 p11 p12 p13 p14 : Pos} {j1 j2 j3 : Nat} {m : M Rgv} {kk : List Int → M (Ctl S L ρ)} {k : Nat}
    (hN : X.N.Nodup) (hc : X.calm = true) (hg : Gl X "sorted") (hm : X.mg "sorted" = none) (TB : LamX.TabB X.base X.mg c P) (hr0 : Room k X.A) (hk2 : 2 ≤ k) (he : EX X Γ e (Ow.v : Ow Rgv) m te)
    (hr : ∀ a, SS X (put (put Γ q (.mk (Ow.v : Ow Tbv) Tbv.mk)) i (.mk (Ow.l (Ow.v : Ow Int)) a)) sts Γo ΓL o (kk a) tr)
    (hl : look Γ q = .mk (Ow.tab P) Tbv.mk := by rfl) (hj : look Γ j = .mk (Ow.v : Ow Int) n := by rfl) (hlt : Nat.blt i (put Γ q (.mk (Ow.v : Ow Tbv) Tbv.mk)).length = true := by rfl) (hcode : X.env.code = .ref c := by rfl) (hjN : X.N[j]? = some sz := by rfl) (hcl : X.env.scope.names.lookup sz = some .cell := by rfl)
    (hdef : defaultsOf params X.env = ([], []) := by rfl) (hfree : ∀ y ∈ scope.names, y.2 = .free → y.1 = sz := by decide +kernel) (hcell : ∀ y ∈ scope.names, y.2 ≠ .cell := by decide +kernel) (hkx : scope.names.lookup kx = some .local := by rfl) (hsz : scope.names.lookup sz = some .free := by rfl)
    (hkd : scope.kind = .function := by rfl) (hco : scope.isCoroutine = false := by rfl) (hgen : scope.isGenerator = false := by rfl)
    (hbind : ∀ (q : Str) (body : Expr) (cl : List (Str × Addr)) (pm cv ctv v : Value), bindArgs (PySem.W.kla_fn "<lambda>" q params body scope cl pm cv ctv) ⟨[v], []⟩ = pure [(kx, v)] := by exact fun _ _ _ _ _ _ _ => rfl)
    (d1 : (kx == ("__debug__" : Str)) = false := by decide) (d2 : (sz == ("__debug__" : Str)) = false := by decide) (d3 : (sz == ("__classdict__" : Str)) = false := by decide)
    (hst : backTo pos (starEach [e] X.env) = (false, eval e X.env) :: backTo pos (starEach [] X.env) := by rfl)
    (hi : X.N[i]? = some x := by rfl) (hx : Loc X.env.scope x := by first | exact .inl rfl | exact .inr rfl)
    (hs : swapsWith (.Call (.Name "sorted" p) [e] [⟨some "key", .Lambda params (bodyL kx sz p1 p2 p3 p4 p5 p6 p7 p8 p9 p10 p11 p12 p13 p14 j1 j2 j3) scope lpos, kp⟩] pos) (some (.Name x pos')) spos.line X.env = pure false := by rfl)
    (hf : X.fn x = true ∨ X.env.scope.names.lookup x = some .local := by first | exact .inl rfl | exact .inr rfl) :
    SS X Γ (.Assign [.Name x pos'] (.Call (.Name "sorted" p) [e] [⟨some "key", .Lambda params (bodyL kx sz p1 p2 p3 p4 p5 p6 p7 p8 p9 p10 p11 p12 p13 p14 j1 j2 j3) scope lpos, kp⟩] pos) spos :: sts) Γo ΓL o (do let a ← m; let b ← sortLM n a; kk b) (tSeq (tAsg (tSortL P j te) (gName i)) tr) :=
  ⟨pss_cons (ps_set hN hi hx (pe_sortL hc hg hm he.pe TB hcode hjN hcl (hr0.mono hk2) hdef hfree hcell hkx hsz hkd hco hgen hbind d1 d2 d3 hst) hs hf) (hr default).pss, fun HF0 G HF H σ g z hz D k2 => by
    obtain ⟨y, e1, hz⟩ := bind_ok hz
    obtain ⟨l, e2, hz⟩ := bind_ok hz
    obtain ⟨fs, g1, _, _⟩ := g.held
    obtain ⟨vj, fj, hσj, hrj, _⟩ := g1.get hj
    obtain rfl : vj = V.int n := hrj.1
    obtain ⟨v, fo, hσ, hrep, nd, hfo, back⟩ := g.take hl
    obtain ⟨h1, h2, h3⟩ := hrep
    subst h1 h3
    unfold sortLM at e2
    split at e2
    · rename_i hcond
      simp only [Bool.and_eq_true, decide_eq_true_eq] at hcond
      obtain ⟨c1, c2, c3⟩ := hcond
      cases e2
      refine he.sem HF0 G HF H σ g y e1 _ fun v HF1 H1 fp s1 r1 _ _ => ?_
      obtain ⟨⟨r, ev, hr1⟩, _⟩ := r1
      have gP : HF1 P = none := s1.nn (hfo P (by simp)).1 h2
      rw [c1] at hr1
      refine ⟨r, n, y.hi, ev, s1.sub _ _ hr1, RgOk.of_le (by omega) c3 (by omega) c2, hσj, s1.exH P _ h2, fun a H2 kp hP2 nA naP hA => ?_⟩
      have gg := back (u' := (Ow.v : Ow Tbv)) (b := Tbv.mk) (v' := .ref P) (f' := []) (H' := delF H1 [P]) s1 (fun p w hp hw => by rw [delF_out hp]; exact hw) ⟨True.intro, rfl⟩ List.nodup_nil (fun p hp => by cases hp)
      rw [set_self hσ] at gg
      have st : Step HF1 (delF H1 [P]) HF1 H2 := ⟨Same.refl _, fun b w hb => by
        by_cases eb : b = P
        · rw [eb, delF_in (by simp)] at hb
          cases hb
        · rw [delF_out (by simpa using eb)] at hb
          exact kp b w eb hb, fun b w hb => kp b w (fun eb => by rw [eb, gP] at hb; cases hb) (s1.sub _ _ hb), fun p w a b => by rw [a] at b; cases b⟩
      refine (hr _).sem HF0 G HF1 H2 _ (gg.set (fp := [a]) (of_blt hlt) st ⟨a, _, [], rfl, rfl, hA, Rl.ofFa (Fa.flat.mpr rfl)⟩ (by simp) fun p hp => ?_) z hz D (k2.mono s1.exF)
      rw [List.mem_singleton] at hp
      subst hp
      refine ⟨?_, ?_⟩
      · rw [delF_out (by simpa using naP)]
        exact nA
      · cases w : HF1 p with
        | none => rfl
        | some w' =>
          rw [s1.sub _ _ w] at nA
          cases nA
    · cases e2⟩
end
end Ty


namespace Law
open PySem PySem.Spec PyProof.Rows L2 Ty
/-! ### the mirror -/
def cst_JOINS : (Tu (Tu Int)) := ⟨([[1, 0, 3, 2], [2, 3, 0, 1], [3, 2, 1, 0]] : List (List Int)).map Tu.mk⟩
def mir_joined (p0 : Int) (p1 : Int) : M Int := runC ((fun (ar : Int × Int × Unit) => (((((pure cst_JOINS) >>= fun a => (pure ar.1) >>= fun b => atM a.l b) >>= fun a => (pure ar.2.1) >>= fun b => atM a.l b) >>= fun r => pure (.rt r)) : M (Ctl Unit Empty Int))) (p0, p1, ()))
def mir_places_in (p0 : (List Int)) : M Int := runC ((fun (ar : (List Int) × Unit) => (((((pure ar.1) >>= fun a => pure (a.length : Int)) >>= fun a => pure (a / (4 : Int))) >>= fun r => pure (.rt r)) : M (Ctl Unit Empty Int))) (p0, ()))
def mir_added (p0 : (List Int)) (p1 : (List Int)) : M (List Int) := runC ((fun (ar : (List Int) × (List Int) × Unit) => (((((pure ar.1) >>= fun a => pure (a.length : Int)) >>= fun a => ((pure ar.2.1) >>= fun a => pure (a.length : Int)) >>= fun b => pure (if b > a then b else a)) >>= fun (size1 : Int) => (((pure ar.1) >>= fun a => ((((pure (0 : Int)) >>= fun a => (pure ([] : List Int)) >>= fun b => pure (a :: b)) >>= fun a => lstM a) >>= fun a => ((pure size1) >>= fun a => ((pure ar.1) >>= fun a => pure (a.length : Int)) >>= fun b => pure (a - b)) >>= fun b => repM a b) >>= fun b => catM a b) >>= fun (one2 : (List Int)) => (((pure ar.2.1) >>= fun a => ((((pure (0 : Int)) >>= fun a => (pure ([] : List Int)) >>= fun b => pure (a :: b)) >>= fun a => lstM a) >>= fun a => ((pure size1) >>= fun a => ((pure ar.2.1) >>= fun a => pure (a.length : Int)) >>= fun b => pure (a - b)) >>= fun b => repM a b) >>= fun b => catM a b) >>= fun (other3 : (List Int)) => ((((pure one2) >>= fun a => (pure other3) >>= fun b => pure (a.zip b)) >>= fun xs => compM xs (fun (left4 : (Int × Int)) => (pure true)) (fun (left4 : (Int × Int)) => ((pure left4.1) >>= fun a => (pure left4.2) >>= fun b => pure (a + b)))) >>= fun r => pure (.rt r))))) : M (Ctl Unit Empty (List Int)))) (p0, p1, ()))
def mir_tied_on (p0 : (Dc Int Int)) (p1 : Int) (p2 : Int) : M ((Dc Int Int) × Int) := runC ((fun (ar : (Dc Int Int) × Int × Int × Unit) => ((((pure ar.1) >>= fun a => pure a) >>= fun (ties1 : (Dc Int Int)) => ((pure (0 : Int)) >>= fun (closed2 : Int) => (((pure (4 : Int)) >>= fun a => range1 a) >>= fun xs => loopM (S := ((Dc Int Int) × Int)) (ρ := ((Dc Int Int) × Int)) (fun (seat3 : Int) (s4 : ((Dc Int Int) × Int)) => ((((pure ar.2.2.1) >>= fun a => ((pure seat3) >>= fun a => (pure ()) >>= fun b => pure (a, b)) >>= fun b => pure (a, b)) >>= fun a => mir_joined a.1 a.2.1) >>= fun (mate5 : Int) => (((pure seat3) >>= fun a => (pure mate5) >>= fun b => pure (decide (a < b))) >>= fun x => if x then ((((pure ar.2.1) >>= fun b => pure ((4 : Int) * b)) >>= fun a => (pure seat3) >>= fun b => pure (a + b)) >>= fun y => dpopM s4.1 y >>= fun (q6 : Int × (Dc Int Int)) => (((pure q6.1) >>= fun a => (((pure ar.2.1) >>= fun b => pure ((4 : Int) * b)) >>= fun a => (pure mate5) >>= fun b => pure (a + b)) >>= fun b => pure (decide (a = b))) >>= fun x => if x then (((pure s4.2) >>= fun a => (pure (1 : Int)) >>= fun b => pure (a + b)) >>= fun (closed7 : Int) => ((pure q6.1) >>= fun y => dpopM q6.2 y >>= fun (q8 : Int × (Dc Int Int)) => (pure (.nx (q8.2, closed7))))) else ((((pure ar.2.1) >>= fun b => pure ((4 : Int) * b)) >>= fun a => (pure mate5) >>= fun b => pure (a + b)) >>= fun y => dpopM q6.2 y >>= fun (q9 : Int × (Dc Int Int)) => ((pure q9.1) >>= fun a => (pure q6.1) >>= fun b => dputM q9.2 b a >>= fun (ties10 : (Dc Int Int)) => ((pure q6.1) >>= fun a => (pure q9.1) >>= fun b => dputM ties10 b a >>= fun (ties11 : (Dc Int Int)) => (pure (.nx (ties11, s4.2)))))))) else (pure (.nx (s4.1, s4.2)))))) xs (ties1, closed2) >>= fun c => thenL c (fun (s4 : ((Dc Int Int) × Int)) => (((pure s4.1) >>= fun a => (pure s4.2) >>= fun b => pure (a, b)) >>= fun r => pure (.rt r)))))) : M (Ctl Unit Empty ((Dc Int Int) × Int)))) (p0, p1, p2, ()))
def mirf_counts_by : Nat → (Dc Int Int) → (List Int) → M (List Int)
  | 0, _, _ => no
  | kf + 1, p0, p1 => runC ((fun (ar : (Dc Int Int) × (List Int) × Unit) => (((((pure ar.2.1) >>= fun a => pure (a.length : Int)) >>= fun a => (pure (0 : Int)) >>= fun b => pure (decide (a = b))) >>= fun x => if x then ((((((pure (1 : Int)) >>= fun a => (pure ([] : List Int)) >>= fun b => pure (a :: b)) >>= fun a => lstM a) >>= fun r => pure (.rt r)) : M (Ctl Empty Empty (List Int))) >>= fun y => thenC y nofun) else ((((pure (0 : Int)) >>= fun a => (pure ([] : List Int)) >>= fun b => pure (a :: b)) >>= fun a => lstM a) >>= fun (found1 : (List Int)) => (((pure (3 : Int)) >>= fun a => range1 a) >>= fun xs => loopM (S := ((List Int))) (ρ := (List Int)) (fun (way2 : Int) (s3 : ((List Int))) => ((((pure ar.1) >>= fun a => (((pure ar.2.1) >>= fun a => (pure (0 : Int)) >>= fun b => atM a b) >>= fun a => ((pure way2) >>= fun a => (pure ()) >>= fun b => pure (a, b)) >>= fun b => pure (a, b)) >>= fun b => pure (a, b)) >>= fun a => mir_tied_on a.1 a.2.1 a.2.2.1) >>= fun (u4 : ((Dc Int Int) × Int)) => ((((pure s3) >>= fun a => ((((((pure (0 : Int)) >>= fun a => (pure ([] : List Int)) >>= fun b => pure (a :: b)) >>= fun a => lstM a) >>= fun a => (pure u4.2) >>= fun b => repM a b) >>= fun a => (((pure u4.1) >>= fun a => (((pure ar.2.1) >>= fun a => ((pure (1 : Int)) >>= fun i => pure (some i)) >>= fun l => (pure none) >>= fun u => pure (cutL a l u)) >>= fun a => (pure ()) >>= fun b => pure (a, b)) >>= fun b => pure (a, b)) >>= fun a => mirf_counts_by kf a.1 a.2.1) >>= fun b => catM a b) >>= fun a => (pure ()) >>= fun b => pure (a, b)) >>= fun b => pure (a, b)) >>= fun a => mir_added a.1 a.2.1) >>= fun (found5 : (List Int)) => (pure (.nx (found5)))))) xs (found1) >>= fun c => thenL c (fun (s3 : ((List Int))) => (pure (.rt s3)))))) : M (Ctl Unit Empty (List Int)))) (p0, p1, ()))
def mir_counts_by (p0 : (Dc Int Int)) (p1 : (List Int)) : M (List Int) := mirf_counts_by 7 p0 p1
def mir_counts_of (p0 : (List Int)) (p1 : (Op (List Int))) : M (List Int) := runC ((fun (ar : (List Int) × (Op (List Int)) × Unit) => ((((((pure ar.1) >>= fun a => (pure ()) >>= fun b => pure (a, b)) >>= fun a => mir_places_in a.1) >>= fun a => (pure (6 : Int)) >>= fun b => pure (decide (b < a))) >>= fun x => if x then ((no : M (Ctl Empty Empty (List Int))) >>= fun y => thenC y nofun) else (((pure ar.2.1) >>= fun a => pure a.o.isNone) >>= fun x => ((if x then ((((((pure ar.1) >>= fun a => (pure ()) >>= fun b => pure (a, b)) >>= fun a => mir_places_in a.1) >>= fun a => lrange 0 a) >>= fun a => pure (⟨some a⟩ : Op (List Int))) >>= fun (order2 : (Op (List Int))) => (pure (.nx (order2)))) else (pure (.nx (ar.2.1)))) : M (Ctl ((Op (List Int))) Empty (List Int))) >>= fun y => thenC y (fun (s1 : ((Op (List Int)))) => (((((pure ar.1) >>= fun a => pure (⟨enumL a⟩ : Dc Int Int)) >>= fun a => (((pure s1) >>= fun a => ofO a.o) >>= fun a => (pure ()) >>= fun b => pure (a, b)) >>= fun b => pure (a, b)) >>= fun a => mir_counts_by a.1 a.2.1) >>= fun r => pure (.rt r))))) : M (Ctl Unit Empty (List Int)))) (p0, p1, ()))
def mir_worth_at (p0 : (List Int)) (p1 : Int) : M Int := runC ((fun (ar : (List Int) × Int × Unit) => (((pure (0 : Int)) >>= fun (whole1 : Int) => (((pure ar.1) >>= fun a => pure a.reverse) >>= fun xs => loopM (S := (Int)) (ρ := Int) (fun (count2 : Int) (s3 : (Int)) => ((((pure s3) >>= fun a => (pure ar.2.1) >>= fun b => mulM a b) >>= fun a => (pure count2) >>= fun b => pure (a + b)) >>= fun (whole4 : Int) => (pure (.nx (whole4))))) xs (whole1) >>= fun c => thenL c (fun (s3 : (Int)) => ((pure s3) >>= fun r => pure (.rt r))))) : M (Ctl Unit Empty Int))) (p0, p1, ()))
def mir__law_mixed (p0 : Scr) (p1 : Int) : M (List Int) := runC ((fun (ar : Scr × Int × Unit) => ((((pure ([] : List Int)) >>= fun a => lstM a) >>= fun (made1 : (List Int)) => ((((pure ar.2.1) >>= fun a => ((pure (63 : Int)) >>= fun a => ((pure ar.1) >>= fun a => pure (a.l.length : Int)) >>= fun b => pure (if b < a then b else a)) >>= fun b => pure (if b > a then b else a)) >>= fun a => range1 a) >>= fun xs => loopM (S := ((List Int))) (ρ := (List Int)) (fun (k2 : Int) (s3 : ((List Int))) => ((((pure k2) >>= fun b => pure ((7 : Int) * b)) >>= fun a => (pure (3 : Int)) >>= fun b => pure (a + b)) >>= fun (cell4 : Int) => ((((pure ar.1) >>= fun a => pure (a.l.length : Int)) >>= fun a => (pure (0 : Int)) >>= fun b => pure (decide (b < a))) >>= fun x => ((if x then ((((pure ar.1) >>= fun a => ((pure k2) >>= fun a => ((pure ar.1) >>= fun a => pure (a.l.length : Int)) >>= fun b => modM a b) >>= fun b => atM a.l b) >>= fun a => pure (a % (1000003 : Int))) >>= fun (cell6 : Int) => (pure (.nx (cell6)))) else (pure (.nx (cell4)))) : M (Ctl (Int) ((List Int)) (List Int))) >>= fun y => thenC y (fun (s5 : (Int)) => ((((((((pure s5) >>= fun a => (pure (1 : Int)) >>= fun b => pure (a + b)) >>= fun a => pure (a * (48271 : Int))) >>= fun a => (((pure k2) >>= fun a => (pure k2) >>= fun b => mulM a b) >>= fun a => pure (a * (7919 : Int))) >>= fun b => pure (a + b)) >>= fun a => pure (a % (1000000007 : Int))) >>= fun a => pure (a * (40692 : Int))) >>= fun a => pure (a % (2147483399 : Int))) >>= fun (first7 : Int) => ((((pure first7) >>= fun a => pure (a * (2147483647 : Int))) >>= fun a => ((((pure first7) >>= fun a => pure (a * (69621 : Int))) >>= fun a => (pure k2) >>= fun b => pure (a + b)) >>= fun a => pure (a % (2147483647 : Int))) >>= fun b => pure (a + b)) >>= fun a => appM s3 a >>= fun (made8 : (List Int)) => (pure (.nx (made8))))))))) xs (made1) >>= fun c => thenL c (fun (s3 : ((List Int))) => (pure (.rt s3))))) : M (Ctl Unit Empty (List Int)))) (p0, p1, ()))
def mir__law_cells (p0 : Scr) (p1 : Int) : M (List Int) := runC ((fun (ar : Scr × Int × Unit) => (((bOr (((pure ar.1) >>= fun a => pure (a.l.length : Int)) >>= fun a => (pure (0 : Int)) >>= fun b => pure (decide (a = b))) ((((pure ar.1) >>= fun a => (pure (0 : Int)) >>= fun b => atM a.l b) >>= fun a => pure (a % (2 : Int))) >>= fun a => (pure (0 : Int)) >>= fun b => pure (decide (a = b)))) >>= fun x => if x then ((((((pure ar.1) >>= fun a => ((pure ar.2.1) >>= fun a => (pure ()) >>= fun b => pure (a, b)) >>= fun b => pure (a, b)) >>= fun a => mir__law_mixed a.1 a.2.1) >>= fun r => pure (.rt r)) : M (Ctl Empty Empty (List Int))) >>= fun y => thenC y nofun) else ((((pure ar.1) >>= fun a => (pure none) >>= fun l => ((pure (63 : Int)) >>= fun i => pure (some i)) >>= fun u => pure (cutL a.l l u)) >>= fun xs => compM xs (fun (cell1 : Int) => (pure true)) (fun (cell1 : Int) => ((pure cell1) >>= fun a => ((pure (10 : Int)) >>= fun a => (pure (60 : Int)) >>= fun b => powM a b) >>= fun b => modM a b))) >>= fun (made2 : (List Int)) => (((pure made2) >>= fun a => ((((pure (0 : Int)) >>= fun a => (pure ([] : List Int)) >>= fun b => pure (a :: b)) >>= fun a => lstM a) >>= fun a => ((pure ar.2.1) >>= fun a => ((pure made2) >>= fun a => pure (a.length : Int)) >>= fun b => pure (a - b)) >>= fun b => repM a b) >>= fun b => catM a b) >>= fun r => pure (.rt r)))) : M (Ctl Unit Empty (List Int)))) (p0, p1, ()))
def mir__law_net (p0 : (List Int)) (p1 : Int) : M (List Int) := runC ((fun (ar : (List Int) × Int × Unit) => (((((pure ar.2.1) >>= fun b => pure ((4 : Int) * b)) >>= fun a => lrange 0 a) >>= fun (ends1 : (List Int)) => (((((pure (0 : Int)) >>= fun a => (pure ([] : List Int)) >>= fun b => pure (a :: b)) >>= fun a => lstM a) >>= fun a => ((pure ar.2.1) >>= fun b => pure ((4 : Int) * b)) >>= fun b => repM a b) >>= fun (net_here2 : (List Int)) => ((((pure ar.2.1) >>= fun b => pure ((2 : Int) * b)) >>= fun a => range1 a) >>= fun xs => loopM (S := ((List Int) × (List Int))) (ρ := (List Int)) (fun (k3 : Int) (s4 : ((List Int) × (List Int))) => (((pure (0 : Int)) >>= fun j => popAtM s4.1 j) >>= fun (q5 : Int × (List Int)) => ((((pure ar.1) >>= fun a => ((pure k3) >>= fun a => ((pure ar.1) >>= fun a => pure (a.length : Int)) >>= fun b => modM a b) >>= fun b => atM a b) >>= fun a => ((pure (1 : Int)) >>= fun a => ((pure k3) >>= fun a => ((pure ar.1) >>= fun a => pure (a.length : Int)) >>= fun b => divM a b) >>= fun b => pure (a + b)) >>= fun b => divM a b) >>= fun (cell6 : Int) => ((((pure cell6) >>= fun a => ((pure q5.2) >>= fun a => pure (a.length : Int)) >>= fun b => modM a b) >>= fun j => popAtM q5.2 j) >>= fun (q7 : Int × (List Int)) => ((pure q7.1) >>= fun a => (pure q5.1) >>= fun b => setM s4.2 b a >>= fun (net_here8 : (List Int)) => ((pure q5.1) >>= fun a => (pure q7.1) >>= fun b => setM net_here8 b a >>= fun (net_here9 : (List Int)) => (pure (.nx (q7.2, net_here9))))))))) xs (ends1, net_here2) >>= fun c => thenL c (fun (s4 : ((List Int) × (List Int))) => (pure (.rt s4.2)))))) : M (Ctl Unit Empty (List Int)))) (p0, p1, ()))
def mir__law_digit_net (p0 : Int) (p1 : Int) : M (List Int) := runC ((fun (ar : Int × Int × Unit) => (((((pure ar.2.1) >>= fun b => pure ((4 : Int) * b)) >>= fun a => lrange 0 a) >>= fun (ends1 : (List Int)) => (((((pure (0 : Int)) >>= fun a => (pure ([] : List Int)) >>= fun b => pure (a :: b)) >>= fun a => lstM a) >>= fun a => ((pure ar.2.1) >>= fun b => pure ((4 : Int) * b)) >>= fun b => repM a b) >>= fun (net_here2 : (List Int)) => ((((pure ar.2.1) >>= fun b => pure ((2 : Int) * b)) >>= fun a => range1 a) >>= fun xs => loopM (S := ((List Int) × Int × (List Int))) (ρ := (List Int)) (fun (k3 : Int) (s4 : ((List Int) × Int × (List Int))) => (((pure (0 : Int)) >>= fun j => popAtM s4.1 j) >>= fun (q5 : Int × (List Int)) => ((((pure s4.2.1) >>= fun a => ((pure q5.2) >>= fun a => pure (a.length : Int)) >>= fun b => modM a b) >>= fun j => popAtM q5.2 j) >>= fun (q6 : Int × (List Int)) => (((pure s4.2.1) >>= fun a => (((pure q6.2) >>= fun a => pure (a.length : Int)) >>= fun a => (pure (1 : Int)) >>= fun b => pure (a + b)) >>= fun b => divM a b) >>= fun (cell7 : Int) => ((pure q6.1) >>= fun a => (pure q5.1) >>= fun b => setM s4.2.2 b a >>= fun (net_here8 : (List Int)) => ((pure q5.1) >>= fun a => (pure q6.1) >>= fun b => setM net_here8 b a >>= fun (net_here9 : (List Int)) => (pure (.nx (q6.2, cell7, net_here9))))))))) xs (ends1, ar.1, net_here2) >>= fun c => thenL c (fun (s4 : ((List Int) × Int × (List Int))) => (pure (.rt s4.2.2)))))) : M (Ctl Unit Empty (List Int)))) (p0, p1, ()))
def mir__law_row_is (p0 : (List Int)) (p1 : (List Int)) : M Bool := runC ((fun (ar : (List Int) × (List Int) × Unit) => (((bOr (bNot ((pure ar.1) >>= fun _ => pure true)) (((pure ar.1) >>= fun a => pure (a.length : Int)) >>= fun a => ((pure ar.2.1) >>= fun a => pure (a.length : Int)) >>= fun b => pure (!decide (a = b)))) >>= fun x => if x then ((((pure false) >>= fun r => pure (.rt r)) : M (Ctl Empty Empty Bool)) >>= fun y => thenC y nofun) else ((pure ar.1) >>= fun xs => loopM (S := Unit) (ρ := Bool) (fun (number1 : Int) (s2 : Unit) => ((bOr (bNot ((pure number1) >>= fun _ => pure true)) ((pure number1) >>= fun _ => pure false)) >>= fun x => if x then ((((pure false) >>= fun r => pure (.rt r)) : M (Ctl Empty Unit Bool)) >>= fun y => thenC y nofun) else (pure (.nx ())))) xs () >>= fun c => thenL c (fun (s2 : Unit) => (((pure ar.1) >>= fun a => (pure ar.2.1) >>= fun b => eqM a b) >>= fun r => pure (.rt r))))) : M (Ctl Unit Empty Bool))) (p0, p1, ()))
def mir__law_beside (p0 : (List Int)) (p1 : (List Int)) (p2 : Bool) : M (List Int) := runC ((fun (ar : (List Int) × (List Int) × Bool × Unit) => (((((pure ar.1) >>= fun a => pure (a.length : Int)) >>= fun a => pure (a / (4 : Int))) >>= fun (size1 : Int) => (((pure size1) >>= fun a => (((pure ar.2.1) >>= fun a => pure (a.length : Int)) >>= fun a => pure (a / (4 : Int))) >>= fun b => pure (a + b)) >>= fun (many2 : Int) => (((pure many2) >>= fun a => lrange 0 a) >>= fun (spots3 : (List Int)) => ((pure ar.2.2.1) >>= fun x => ((if x then (((pure many2) >>= fun n => pure (⟨0, n⟩ : Rgv)) >>= fun r => sortLM size1 r >>= fun (spots5 : List Int) => ((((pure many2) >>= fun a => range1 a) >>= fun xs => compM xs (fun (k6 : Int) => (pure true)) (fun (k6 : Int) => ((pure spots5) >>= fun x => ((pure k6) >>= fun a => (pure ()) >>= fun b => pure (a, b)) >>= fun y => lidxM x y.1))) >>= fun (spots7 : (List Int)) => (pure (.nx (spots7))))) else (pure (.nx (spots3)))) : M (Ctl ((List Int)) Empty (List Int))) >>= fun y => thenC y (fun (s4 : ((List Int))) => (((((pure (0 : Int)) >>= fun a => (pure ([] : List Int)) >>= fun b => pure (a :: b)) >>= fun a => lstM a) >>= fun a => ((pure many2) >>= fun b => pure ((4 : Int) * b)) >>= fun b => repM a b) >>= fun (net_here8 : (List Int)) => ((((pure ar.1) >>= fun a => pure (enumL a)) >>= fun xs => compM xs (fun (end9 : (Int × Int)) => (pure true)) (fun (end9 : (Int × Int)) => ((pure end9.1) >>= fun a => (pure end9.2) >>= fun b => pure (a, b)))) >>= fun (ties10 : (List (Int × Int))) => ((((pure ar.2.1) >>= fun a => pure (enumL a)) >>= fun xs => compM xs (fun (end11 : (Int × Int)) => (pure true)) (fun (end11 : (Int × Int)) => ((((pure size1) >>= fun b => pure ((4 : Int) * b)) >>= fun a => (pure end11.1) >>= fun b => pure (a + b)) >>= fun a => (((pure size1) >>= fun b => pure ((4 : Int) * b)) >>= fun a => (pure end11.2) >>= fun b => pure (a + b)) >>= fun b => pure (a, b)))) >>= fun l => catM ties10 l >>= fun (ties12 : (List (Int × Int))) => ((pure ties12) >>= fun xs => loopM (S := ((List Int))) (ρ := (List Int)) (fun (end13 : (Int × Int)) (s14 : ((List Int))) => (((((pure s4) >>= fun a => ((pure end13.2) >>= fun a => pure (a / (4 : Int))) >>= fun b => atM a b) >>= fun b => pure ((4 : Int) * b)) >>= fun a => ((pure end13.2) >>= fun a => pure (a % (4 : Int))) >>= fun b => pure (a + b)) >>= fun a => ((((pure s4) >>= fun a => ((pure end13.1) >>= fun a => pure (a / (4 : Int))) >>= fun b => atM a b) >>= fun b => pure ((4 : Int) * b)) >>= fun a => ((pure end13.1) >>= fun a => pure (a % (4 : Int))) >>= fun b => pure (a + b)) >>= fun b => setM s14 b a >>= fun (net_here15 : (List Int)) => (pure (.nx (net_here15))))) xs (net_here8) >>= fun c => thenL c (fun (s14 : ((List Int))) => (pure (.rt s14)))))))))))) : M (Ctl Unit Empty (List Int)))) (p0, p1, p2, ()))
def mir__law_product (p0 : (List Int)) (p1 : (List Int)) : M (List Int) := runC ((fun (ar : (List Int) × (List Int) × Unit) => ((((((pure (0 : Int)) >>= fun a => (pure ([] : List Int)) >>= fun b => pure (a :: b)) >>= fun a => lstM a) >>= fun a => ((((pure ar.1) >>= fun a => pure (a.length : Int)) >>= fun a => ((pure ar.2.1) >>= fun a => pure (a.length : Int)) >>= fun b => pure (a + b)) >>= fun a => (pure (1 : Int)) >>= fun b => pure (a - b)) >>= fun b => repM a b) >>= fun (found1 : (List Int)) => ((((pure ar.1) >>= fun a => pure (a.length : Int)) >>= fun a => range1 a) >>= fun xs => loopM (S := ((List Int))) (ρ := (List Int)) (fun (i2 : Int) (s3 : ((List Int))) => ((((pure ar.2.1) >>= fun a => pure (a.length : Int)) >>= fun a => range1 a) >>= fun xs => loopM (S := ((List Int))) (ρ := (List Int)) (fun (j4 : Int) (s5 : ((List Int))) => ((((pure s5) >>= fun a => ((pure i2) >>= fun a => (pure j4) >>= fun b => pure (a + b)) >>= fun b => atM a b) >>= fun a => (((pure ar.1) >>= fun a => (pure i2) >>= fun b => atM a b) >>= fun a => ((pure ar.2.1) >>= fun a => (pure j4) >>= fun b => atM a b) >>= fun b => mulM a b) >>= fun b => pure (a + b)) >>= fun a => ((pure i2) >>= fun a => (pure j4) >>= fun b => pure (a + b)) >>= fun b => setM s5 b a >>= fun (found6 : (List Int)) => (pure (.nx (found6))))) xs (s3) >>= fun c => thenL c (fun (s5 : ((List Int))) => (pure (.nx (s5)))))) xs (found1) >>= fun c => thenL c (fun (s3 : ((List Int))) => (pure (.rt s3))))) : M (Ctl Unit Empty (List Int)))) (p0, p1, ()))
def mir_law (p0 : Scr) : M Bool := runC ((fun (ar : Scr × Unit) => (((((pure ar.1) >>= fun a => ((pure (18 : Int)) >>= fun a => (pure ()) >>= fun b => pure (a, b)) >>= fun b => pure (a, b)) >>= fun a => mir__law_cells a.1 a.2.1) >>= fun (cells_here1 : (List Int)) => ((((pure (1 : Int)) >>= fun a => ((((pure cells_here1) >>= fun a => (pure (0 : Int)) >>= fun b => atM a b) >>= fun a => pure (a / (2 : Int))) >>= fun a => pure (a % (3 : Int))) >>= fun b => pure (a + b)) >>= fun a => ((pure (1 : Int)) >>= fun a => ((((pure cells_here1) >>= fun a => (pure (0 : Int)) >>= fun b => atM a b) >>= fun a => pure (a / (6 : Int))) >>= fun a => pure (a % (3 : Int))) >>= fun b => pure (a + b)) >>= fun b => pure (a, b)) >>= fun (sizes2 : (Int × Int)) => (((((pure cells_here1) >>= fun a => ((pure (3 : Int)) >>= fun i => pure (some i)) >>= fun l => ((pure (9 : Int)) >>= fun i => pure (some i)) >>= fun u => pure (cutL a l u)) >>= fun a => (((pure sizes2) >>= fun a => pure a.1) >>= fun a => (pure ()) >>= fun b => pure (a, b)) >>= fun b => pure (a, b)) >>= fun a => mir__law_net a.1 a.2.1) >>= fun (one3 : (List Int)) => (((((pure cells_here1) >>= fun a => ((pure (9 : Int)) >>= fun i => pure (some i)) >>= fun l => ((pure (15 : Int)) >>= fun i => pure (some i)) >>= fun u => pure (cutL a l u)) >>= fun a => (((pure sizes2) >>= fun a => pure a.2) >>= fun a => (pure ()) >>= fun b => pure (a, b)) >>= fun b => pure (a, b)) >>= fun a => mir__law_net a.1 a.2.1) >>= fun (other4 : (List Int)) => ((bAnd (((pure ar.1) >>= fun a => pure (a.l.length : Int)) >>= fun a => (pure (0 : Int)) >>= fun b => pure (decide (b < a))) ((((pure ar.1) >>= fun a => (pure (0 : Int)) >>= fun b => atM a.l b) >>= fun a => pure (a % (2 : Int))) >>= fun a => (pure (1 : Int)) >>= fun b => pure (decide (a = b)))) >>= fun x => ((if x then (((((pure cells_here1) >>= fun a => (pure (3 : Int)) >>= fun b => atM a b) >>= fun a => (((pure sizes2) >>= fun a => pure a.1) >>= fun a => (pure ()) >>= fun b => pure (a, b)) >>= fun b => pure (a, b)) >>= fun a => mir__law_digit_net a.1 a.2.1) >>= fun (one6 : (List Int)) => (((((pure cells_here1) >>= fun a => (pure (4 : Int)) >>= fun b => atM a b) >>= fun a => (((pure sizes2) >>= fun a => pure a.2) >>= fun a => (pure ()) >>= fun b => pure (a, b)) >>= fun b => pure (a, b)) >>= fun a => mir__law_digit_net a.1 a.2.1) >>= fun (other7 : (List Int)) => (pure (.nx (one6, other7))))) else (pure (.nx (one3, other4)))) : M (Ctl ((List Int) × (List Int)) Empty Bool)) >>= fun y => thenC y (fun (s5 : ((List Int) × (List Int))) => (((pure s5.1) >>= fun a => ((pure s5.2) >>= fun a => ((((((pure cells_here1) >>= fun a => (pure (0 : Int)) >>= fun b => atM a b) >>= fun a => pure (a / (18 : Int))) >>= fun a => pure (a % (2 : Int))) >>= fun a => (pure (1 : Int)) >>= fun b => pure (decide (a = b))) >>= fun a => (pure ()) >>= fun b => pure (a, b)) >>= fun b => pure (a, b)) >>= fun b => pure (a, b)) >>= fun a => mir__law_beside a.1 a.2.1 a.2.2.1 >>= fun (net_here8 : (List Int)) => ((((((pure s5.1) >>= fun a => (pure ()) >>= fun b => pure (a, b)) >>= fun a => mir_counts_of a.1 ⟨none⟩) >>= fun a => ((((pure s5.2) >>= fun a => (pure ()) >>= fun b => pure (a, b)) >>= fun a => mir_counts_of a.1 ⟨none⟩) >>= fun a => (pure ([] : List (List Int))) >>= fun b => pure (a :: b)) >>= fun b => pure (a :: b)) >>= fun a => lstM a) >>= fun (both9 : (List (List Int))) => ((pure both9) >>= fun xs => loopM (S := Unit) (ρ := Bool) (fun (some10 : (List Int)) (s11 : Unit) => ((bOr (bNot ((pure some10) >>= fun _ => pure true)) (bNot (((pure some10) >>= fun a => (((pure some10) >>= fun a => pure a) >>= fun a => (pure ()) >>= fun b => pure (a, b)) >>= fun b => pure (a, b)) >>= fun a => mir__law_row_is a.1 a.2.1))) >>= fun x => if x then ((((pure false) >>= fun r => pure (.rt r)) : M (Ctl Empty Unit Bool)) >>= fun y => thenC y nofun) else (pure (.nx ())))) xs () >>= fun c => thenL c (fun (s11 : Unit) => (((((pure both9) >>= fun a => (pure (0 : Int)) >>= fun b => atM a b) >>= fun a => (((pure both9) >>= fun a => (pure (1 : Int)) >>= fun b => atM a b) >>= fun a => (pure ()) >>= fun b => pure (a, b)) >>= fun b => pure (a, b)) >>= fun a => mir__law_product a.1 a.2.1) >>= fun (due12 : (List Int)) => ((((pure net_here8) >>= fun a => pure (a.length : Int)) >>= fun a => pure (a / (4 : Int))) >>= fun (many13 : Int) => ((((pure cells_here1) >>= fun a => (pure (1 : Int)) >>= fun b => atM a b) >>= fun a => (pure many13) >>= fun b => modM a b) >>= fun (turn14 : Int) => (((((pure many13) >>= fun a => lrange 0 a) >>= fun a => ((pure turn14) >>= fun i => pure (some i)) >>= fun l => (pure none) >>= fun u => pure (cutL a l u)) >>= fun a => ((((pure many13) >>= fun a => lrange 0 a) >>= fun a => (pure none) >>= fun l => ((pure turn14) >>= fun i => pure (some i)) >>= fun u => pure (cutL a l u)) >>= fun a => pure a.reverse) >>= fun b => catM a b) >>= fun (order15 : (List Int)) => ((bOr (bNot (((((pure net_here8) >>= fun a => (pure ()) >>= fun b => pure (a, b)) >>= fun a => mir_counts_of a.1 ⟨none⟩) >>= fun a => ((pure due12) >>= fun a => (pure ()) >>= fun b => pure (a, b)) >>= fun b => pure (a, b)) >>= fun a => mir__law_row_is a.1 a.2.1)) (bNot (((((pure net_here8) >>= fun a => (((pure order15) >>= fun a => pure (⟨some a⟩ : Op (List Int))) >>= fun a => (pure ()) >>= fun b => pure (a, b)) >>= fun b => pure (a, b)) >>= fun a => mir_counts_of a.1 a.2.1) >>= fun a => ((pure due12) >>= fun a => (pure ()) >>= fun b => pure (a, b)) >>= fun b => pure (a, b)) >>= fun a => mir__law_row_is a.1 a.2.1))) >>= fun x => if x then ((((pure false) >>= fun r => pure (.rt r)) : M (Ctl Empty Empty Bool)) >>= fun y => thenC y nofun) else (((((pure cells_here1) >>= fun a => (pure (2 : Int)) >>= fun b => atM a b) >>= fun a => pure (a % (41 : Int))) >>= fun a => (pure (20 : Int)) >>= fun b => pure (a - b)) >>= fun (x16 : Int) => (((((((pure net_here8) >>= fun a => (pure ()) >>= fun b => pure (a, b)) >>= fun a => mir_counts_of a.1 ⟨none⟩) >>= fun a => ((pure x16) >>= fun a => (pure ()) >>= fun b => pure (a, b)) >>= fun b => pure (a, b)) >>= fun a => mir_worth_at a.1 a.2.1) >>= fun a => (((((pure both9) >>= fun a => (pure (0 : Int)) >>= fun b => atM a b) >>= fun a => ((pure x16) >>= fun a => (pure ()) >>= fun b => pure (a, b)) >>= fun b => pure (a, b)) >>= fun a => mir_worth_at a.1 a.2.1) >>= fun a => ((((pure both9) >>= fun a => (pure (1 : Int)) >>= fun b => atM a b) >>= fun a => ((pure x16) >>= fun a => (pure ()) >>= fun b => pure (a, b)) >>= fun b => pure (a, b)) >>= fun a => mir_worth_at a.1 a.2.1) >>= fun b => mulM a b) >>= fun b => pure (decide (a = b))) >>= fun r => pure (.rt r)))))))))))))))))) : M (Ctl Unit Empty Bool))) (p0, ()))
/-! ### the text -/
def top (i : Nat) : Stmt := PySem.Challenge.pw_fourway_k77_whole_parted_nets.main.body.getD i (.Pass ⟨0, 0, 0, 0⟩)
abbrev FnPD (K : PySem.W.Frag) (x : Str) (st : Stmt) (f : Addr) (fd : FuncData) : Prop := FunD K x x (defArgs st) (defBody st) (defScope st) [.non] [] f fd
abbrev tbD : He.Defn := ("_law_beside", none)
abbrev tbC (K : PySem.W.Frag) : Addr := (He.cT K tbD).1
abbrev tbP (K : PySem.W.Frag) : Addr := (He.cT K tbD).2
abbrev FnP (K : PySem.W.Frag) (x : Str) (st : Stmt) (f : Addr) (fd : FuncData) : Prop := FunD K x x (defArgs st) (defBody st) (defScope st) [] [] f fd
structure Txt (K : PySem.W.Frag) (mg : Str → Option Value) : Prop where
  n_bool : mg "bool" = none
  n_dict : mg "dict" = none
  n_enumerate : mg "enumerate" = none
  n_int : mg "int" = none
  n_isinstance : mg "isinstance" = none
  n_len : mg "len" = none
  n_list : mg "list" = none
  n_max : mg "max" = none
  n_min : mg "min" = none
  n_range : mg "range" = none
  n_reversed : mg "reversed" = none
  n_sorted : mg "sorted" = none
  n_zip : mg "zip" = none
  g_JOINS : mg "JOINS" = some (.ref (He.ga K "JOINS")) ∧ ∀ H, Rp.sh K H (V.ref (He.ga K "JOINS")) cst_JOINS
  g_MOST : ∃ t, mg "MOST" = some (.int (6 : Int) t)
section
variable {P : Program} {w : World} {K : PySem.W.Frag} {mg : Str → Option Value} {base : Heap}
set_option maxHeartbeats 4000000
abbrev s_joined : Stmt := top 5
theorem sc_joined : FnScope ["way", "seat"] ["way", "seat"] (defScope s_joined) := ⟨rfl, rfl, rfl, by decide +kernel, rfl, by decide +kernel, by decide +kernel⟩
abbrev sp_joined (K : PySem.W.Frag) : Sp := spF K (As.cons (α := Int) (As.cons (α := Int) As.nil)) (Ow.v : Ow Int) (fun a => mir_joined a.1 a.2.1)
theorem ok0_joined (T : Txt K mg) {f : Addr} {fd : FuncData} (F : FnP K "joined" s_joined f fd)  : FnOk P w K mg base CX0 1 f fd ["way", "seat"] (sp_joined K) := by
  refine fn_okD (r := (As.cons (α := Int) (As.cons (α := Int) As.nil))) (o := Ow.v) (m := fun ar => ((((pure cst_JOINS) >>= fun a => (pure ar.1) >>= fun b => atM a.l b) >>= fun a => (pure ar.2.1) >>= fun b => atM a.l b) >>= fun r => pure (.rt r))) F sc_joined rfl rfl (fun cdv A' outer s H E hr ar => ?_)
  exact ⟨_, (ss_ret (ex_ixTu (K := K) (ex_ixTu (K := K) (ex_gtu (K := K) T.g_JOINS) (ex_var 0)) (ex_var 1)))⟩
theorem ok_joined (T : Txt K mg) {f : Addr} {fd : FuncData} (F : FnP K "joined" s_joined f fd) (hm : mg "joined" = some (.ref f))  : Has P w K mg base "joined" 1 ["way", "seat"] (sp_joined K) :=
  ⟨f, fd, ok0_joined T F , hm, F.kp, F.bindsN fun _ _ _ _ _ _ us hl => match us, hl with | [_, _], _ => rfl⟩
abbrev s_places_in : Stmt := top 7
theorem sc_places_in : FnScope ["net"] ["net"] (defScope s_places_in) := ⟨rfl, rfl, rfl, by decide +kernel, rfl, by decide +kernel, by decide +kernel⟩
abbrev sp_places_in (K : PySem.W.Frag) : Sp := spF K (As.cons (α := (List Int)) As.nil) (Ow.v : Ow Int) (fun a => mir_places_in a.1)
theorem ok0_places_in (T : Txt K mg) {f : Addr} {fd : FuncData} (F : FnP K "places_in" s_places_in f fd)  : FnOk P w K mg base CX0 1 f fd ["net"] (sp_places_in K) := by
  refine fn_okD (r := (As.cons (α := (List Int)) As.nil)) (o := Ow.v) (m := fun ar => ((((pure ar.1) >>= fun a => pure (a.length : Int)) >>= fun a => pure (a / (4 : Int))) >>= fun r => pure (.rt r))) F sc_places_in rfl rfl (fun cdv A' outer s H E hr ar => ?_)
  exact ⟨_, (ss_ret (ex_fdivc (ex_lenL (K := K) T.n_len (ex_var 0))))⟩
theorem ok_places_in (T : Txt K mg) {f : Addr} {fd : FuncData} (F : FnP K "places_in" s_places_in f fd) (hm : mg "places_in" = some (.ref f))  : Has P w K mg base "places_in" 1 ["net"] (sp_places_in K) :=
  ⟨f, fd, ok0_places_in T F , hm, F.kp, F.bindsN fun _ _ _ _ _ _ us hl => match us, hl with | [_], _ => rfl⟩
abbrev s_added : Stmt := top 10
theorem sc_added : FnScope ["one", "other", "size", "left", "right"] ["one", "other"] (defScope s_added) := ⟨rfl, rfl, rfl, by decide +kernel, rfl, by decide +kernel, by decide +kernel⟩
abbrev sp_added (K : PySem.W.Frag) : Sp := spF K (As.cons (α := (List Int)) (As.cons (α := (List Int)) As.nil)) ((Ow.l Ow.v) : Ow (List Int)) (fun a => mir_added a.1 a.2.1)
theorem ok0_added (T : Txt K mg) {f : Addr} {fd : FuncData} (F : FnP K "added" s_added f fd)  : FnOk P w K mg base CX0 1 f fd ["one", "other"] (sp_added K) := by
  refine fn_okD (r := (As.cons (α := (List Int)) (As.cons (α := (List Int)) As.nil))) (o := (Ow.l Ow.v)) (m := fun ar => ((((pure ar.1) >>= fun a => pure (a.length : Int)) >>= fun a => ((pure ar.2.1) >>= fun a => pure (a.length : Int)) >>= fun b => pure (if b > a then b else a)) >>= fun (size1 : Int) => (((pure ar.1) >>= fun a => ((((pure (0 : Int)) >>= fun a => (pure ([] : List Int)) >>= fun b => pure (a :: b)) >>= fun a => lstM a) >>= fun a => ((pure size1) >>= fun a => ((pure ar.1) >>= fun a => pure (a.length : Int)) >>= fun b => pure (a - b)) >>= fun b => repM a b) >>= fun b => catM a b) >>= fun (one2 : (List Int)) => (((pure ar.2.1) >>= fun a => ((((pure (0 : Int)) >>= fun a => (pure ([] : List Int)) >>= fun b => pure (a :: b)) >>= fun a => lstM a) >>= fun a => ((pure size1) >>= fun a => ((pure ar.2.1) >>= fun a => pure (a.length : Int)) >>= fun b => pure (a - b)) >>= fun b => repM a b) >>= fun b => catM a b) >>= fun (other3 : (List Int)) => ((((pure one2) >>= fun a => (pure other3) >>= fun b => pure (a.zip b)) >>= fun xs => compM xs (fun (left4 : (Int × Int)) => (pure true)) (fun (left4 : (Int × Int)) => ((pure left4.1) >>= fun a => (pure left4.2) >>= fun b => pure (a + b)))) >>= fun r => pure (.rt r)))))) F sc_added rfl rfl (fun cdv A' outer s H E hr ar => ?_)
  exact ⟨_, (ss_asg 2 sc_added.nd (ex_max2 rfl T.n_max (ex_lenL (K := K) T.n_len (ex_var 0)) (ex_lenL (K := K) T.n_len (ex_var 1))) (fun size1 => (ss_asg 0 sc_added.nd (ex_cat (ex_var 0) (ex_frz (ex_rep (ex_frz (ex_lst (el_cons ex_int (el_nil (o := Ow.v))))) (ex_sub (ex_var 2) (ex_lenL (K := K) T.n_len (ex_var 0)))))) (fun one2 => (ss_asg 1 sc_added.nd (ex_cat (ex_var 1) (ex_frz (ex_rep (ex_frz (ex_lst (el_cons ex_int (el_nil (o := Ow.v))))) (ex_sub (ex_var 2) (ex_lenL (K := K) T.n_len (ex_var 1)))))) (fun other3 => (ss_ret (ex_view (ex_lc rfl sc_added.nd (ei_zip (K := K) T.n_zip (ex_var 0) (ex_var 1)) (own := [("left", 3), ("right", 4)]) (by kernel_rfl) rfl rfl (fun _ _ _ _ _ left4 => (eg_pair (K := K) rfl (eg_name 3 sc_added.nd) (eg_name 4 sc_added.nd))) (fun _ _ _ _ _ left4 => ef_nil) (fun _ _ _ _ _ left4 => (ex_add (ex_var 3) (ex_var 4))))))))))))⟩
theorem ok_added (T : Txt K mg) {f : Addr} {fd : FuncData} (F : FnP K "added" s_added f fd) (hm : mg "added" = some (.ref f))  : Has P w K mg base "added" 1 ["one", "other"] (sp_added K) :=
  ⟨f, fd, ok0_added T F , hm, F.kp, F.bindsN fun _ _ _ _ _ _ us hl => match us, hl with | [_, _], _ => rfl⟩
abbrev s_tied_on : Stmt := top 11
theorem sc_tied_on : FnScope ["ties", "place", "way", "closed", "seat", "mate", "one", "other"] ["ties", "place", "way"] (defScope s_tied_on) := ⟨rfl, rfl, rfl, by decide +kernel, rfl, by decide +kernel, by decide +kernel⟩
abbrev sp_tied_on (K : PySem.W.Frag) : Sp := spF K (As.cons (α := (Dc Int Int)) (As.cons (α := Int) (As.cons (α := Int) As.nil))) ((Ow.p Ow.v Ow.v) : Ow ((Dc Int Int) × Int)) (fun a => mir_tied_on a.1 a.2.1 a.2.2.1)
theorem ok0_tied_on (T : Txt K mg) {f : Addr} {fd : FuncData} (F : FnP K "tied_on" s_tied_on f fd) (H_joined : Has P w K mg base "joined" 1 ["way", "seat"] (sp_joined K)) : FnOk P w K mg base CX0 2 f fd ["ties", "place", "way"] (sp_tied_on K) := by
  obtain ⟨f_joined, fd_joined, F_joined, m_joined, k_joined, b_joined⟩ := H_joined
  refine fn_okD (r := (As.cons (α := (Dc Int Int)) (As.cons (α := Int) (As.cons (α := Int) As.nil)))) (o := (Ow.p Ow.v Ow.v)) (m := fun ar => (((pure ar.1) >>= fun a => pure a) >>= fun (ties1 : (Dc Int Int)) => ((pure (0 : Int)) >>= fun (closed2 : Int) => (((pure (4 : Int)) >>= fun a => range1 a) >>= fun xs => loopM (S := ((Dc Int Int) × Int)) (ρ := ((Dc Int Int) × Int)) (fun (seat3 : Int) (s4 : ((Dc Int Int) × Int)) => ((((pure ar.2.2.1) >>= fun a => ((pure seat3) >>= fun a => (pure ()) >>= fun b => pure (a, b)) >>= fun b => pure (a, b)) >>= fun a => mir_joined a.1 a.2.1) >>= fun (mate5 : Int) => (((pure seat3) >>= fun a => (pure mate5) >>= fun b => pure (decide (a < b))) >>= fun x => if x then ((((pure ar.2.1) >>= fun b => pure ((4 : Int) * b)) >>= fun a => (pure seat3) >>= fun b => pure (a + b)) >>= fun y => dpopM s4.1 y >>= fun (q6 : Int × (Dc Int Int)) => (((pure q6.1) >>= fun a => (((pure ar.2.1) >>= fun b => pure ((4 : Int) * b)) >>= fun a => (pure mate5) >>= fun b => pure (a + b)) >>= fun b => pure (decide (a = b))) >>= fun x => if x then (((pure s4.2) >>= fun a => (pure (1 : Int)) >>= fun b => pure (a + b)) >>= fun (closed7 : Int) => ((pure q6.1) >>= fun y => dpopM q6.2 y >>= fun (q8 : Int × (Dc Int Int)) => (pure (.nx (q8.2, closed7))))) else ((((pure ar.2.1) >>= fun b => pure ((4 : Int) * b)) >>= fun a => (pure mate5) >>= fun b => pure (a + b)) >>= fun y => dpopM q6.2 y >>= fun (q9 : Int × (Dc Int Int)) => ((pure q9.1) >>= fun a => (pure q6.1) >>= fun b => dputM q9.2 b a >>= fun (ties10 : (Dc Int Int)) => ((pure q6.1) >>= fun a => (pure q9.1) >>= fun b => dputM ties10 b a >>= fun (ties11 : (Dc Int Int)) => (pure (.nx (ties11, s4.2)))))))) else (pure (.nx (s4.1, s4.2)))))) xs (ties1, closed2) >>= fun c => thenL c (fun (s4 : ((Dc Int Int) × Int)) => (((pure s4.1) >>= fun a => (pure s4.2) >>= fun b => pure (a, b)) >>= fun r => pure (.rt r))))))) F sc_tied_on rfl rfl (fun cdv A' outer s H E hr ar => ?_)
  have hr_joined := hr.mono (show 1 ≤ 1 by decide)
  exact ⟨_, (ss_asg 0 sc_tied_on.nd (ex_dCopy T.n_dict (ex_var 0)) (fun ties1 => (ss_asg 3 sc_tied_on.nd ex_int (fun closed2 => (ss_for (Γs := (fun (s4 : ((Dc Int Int) × Int)) => [.mk (Ow.d (κ := Int) (β := Int)) (s4.1 : (Dc Int Int)), .mk Ow.v ar.2.1, .mk Ow.v ar.2.2.1, .mk Ow.v (s4.2 : Int), .un, .un, .un, .un])) (ties1, closed2) rfl PassesOwn.never (ei_range1 T.n_range ex_int) (.k (.k (.k (.k (.w (.w (.w (.w .n)))))))) (fun s4 seat3 => (eg_name 4 sc_tied_on.nd)) (fun s4 seat3 => (ss_asg 5 sc_tied_on.nd (ex_call F_joined hr_joined m_joined k_joined b_joined (ea_cons (ex_var 2) (ea_cons (ex_var 4) ea_nil))) (fun mate5 => (ss_ifE (et_c (ec_lt (ex_var 4) (ex_var 5))) (ss_asgDpop 0 6 sc_tied_on.nd (ex_add (ex_cmul (ex_var 1)) (ex_var 4)) (fun q6 => (ss_ifE (et_c (ec_eq (ex_var 6) (ex_add (ex_cmul (ex_var 1)) (ex_var 5)))) (ss_asg 3 sc_tied_on.nd (ex_add (ex_var 3) ex_int) (fun closed7 => (ss_dpop 0 (ex_var 6) (fun q8 => (ss_nil (q8.2, closed7) (.k (.k (.k (.k (.w (.w (.w (.w .n))))))))))))) (ss_asgDpop 0 7 sc_tied_on.nd (ex_add (ex_cmul (ex_var 1)) (ex_var 5)) (fun q9 => (ss_dput 0 hr.units (ex_var 7) (ex_var 6) (fun ties10 => (ss_dput 0 hr.units (ex_var 6) (ex_var 7) (fun ties11 => (ss_nil (ties11, s4.2) (.k (.k (.k (.k (.w (.w (.w (.w .n)))))))))))))))))) (ss_nil (s4.1, s4.2) (.k (.k (.k (.k (.w (.w (.w (.w .n))))))))))))) (fun s4 => (ss_frz 0 rfl (ss_ret (ex_pair (ex_var 0) (ex_var 3))))))))))⟩
theorem ok_tied_on (T : Txt K mg) {f : Addr} {fd : FuncData} (F : FnP K "tied_on" s_tied_on f fd) (hm : mg "tied_on" = some (.ref f)) (H_joined : Has P w K mg base "joined" 1 ["way", "seat"] (sp_joined K)) : Has P w K mg base "tied_on" 2 ["ties", "place", "way"] (sp_tied_on K) :=
  ⟨f, fd, ok0_tied_on T F H_joined, hm, F.kp, F.bindsN fun _ _ _ _ _ _ us hl => match us, hl with | [_, _, _], _ => rfl⟩
abbrev s_counts_by : Stmt := top 12
theorem sc_counts_by : FnScope ["ties", "order", "found", "way", "less", "closed"] ["ties", "order"] (defScope s_counts_by) := ⟨rfl, rfl, rfl, by decide +kernel, rfl, by decide +kernel, by decide +kernel⟩
abbrev sp_counts_by (K : PySem.W.Frag) : Sp := spF K (As.cons (α := (Dc Int Int)) (As.cons (α := (List Int)) As.nil)) ((Ow.l Ow.v) : Ow (List Int)) (fun a => mir_counts_by a.1 a.2.1)
abbrev spf_counts_by (K : PySem.W.Frag) (kf : Nat) : Sp := spF K (As.cons (α := (Dc Int Int)) (As.cons (α := (List Int)) As.nil)) ((Ow.l Ow.v) : Ow (List Int)) (fun a => mirf_counts_by kf a.1 a.2.1)
theorem okf_counts_by (T : Txt K mg) {f : Addr} {fd : FuncData} (F : FnP K "counts_by" s_counts_by f fd) (hm : mg "counts_by" = some (.ref f)) (H_tied_on : Has P w K mg base "tied_on" 2 ["ties", "place", "way"] (sp_tied_on K)) (H_added : Has P w K mg base "added" 1 ["one", "other"] (sp_added K)) (kf : Nat) : FnOk P w K mg base CX0 (3 + kf) f fd ["ties", "order"] (spf_counts_by K kf) := by
  obtain ⟨f_tied_on, fd_tied_on, F_tied_on, m_tied_on, k_tied_on, b_tied_on⟩ := H_tied_on
  obtain ⟨f_added, fd_added, F_added, m_added, k_added, b_added⟩ := H_added
  have m_counts_by := hm
  have k_counts_by := F.kp
  have b_counts_by : Binds K fd ["ties", "order"] [] := F.bindsN fun _ _ _ _ _ _ us hl => match us, hl with | [_, _], _ => rfl
  induction kf with
  | zero => exact fn_none fun a => rfl
  | succ kf F_counts_by =>
    refine fn_okD (k := 3 + kf) (r := (As.cons (α := (Dc Int Int)) (As.cons (α := (List Int)) As.nil))) (o := (Ow.l Ow.v)) (m := fun ar => ((((pure ar.2.1) >>= fun a => pure (a.length : Int)) >>= fun a => (pure (0 : Int)) >>= fun b => pure (decide (a = b))) >>= fun x => if x then ((((((pure (1 : Int)) >>= fun a => (pure ([] : List Int)) >>= fun b => pure (a :: b)) >>= fun a => lstM a) >>= fun r => pure (.rt r)) : M (Ctl Empty Empty (List Int))) >>= fun y => thenC y nofun) else ((((pure (0 : Int)) >>= fun a => (pure ([] : List Int)) >>= fun b => pure (a :: b)) >>= fun a => lstM a) >>= fun (found1 : (List Int)) => (((pure (3 : Int)) >>= fun a => range1 a) >>= fun xs => loopM (S := ((List Int))) (ρ := (List Int)) (fun (way2 : Int) (s3 : ((List Int))) => ((((pure ar.1) >>= fun a => (((pure ar.2.1) >>= fun a => (pure (0 : Int)) >>= fun b => atM a b) >>= fun a => ((pure way2) >>= fun a => (pure ()) >>= fun b => pure (a, b)) >>= fun b => pure (a, b)) >>= fun b => pure (a, b)) >>= fun a => mir_tied_on a.1 a.2.1 a.2.2.1) >>= fun (u4 : ((Dc Int Int) × Int)) => ((((pure s3) >>= fun a => ((((((pure (0 : Int)) >>= fun a => (pure ([] : List Int)) >>= fun b => pure (a :: b)) >>= fun a => lstM a) >>= fun a => (pure u4.2) >>= fun b => repM a b) >>= fun a => (((pure u4.1) >>= fun a => (((pure ar.2.1) >>= fun a => ((pure (1 : Int)) >>= fun i => pure (some i)) >>= fun l => (pure none) >>= fun u => pure (cutL a l u)) >>= fun a => (pure ()) >>= fun b => pure (a, b)) >>= fun b => pure (a, b)) >>= fun a => mirf_counts_by kf a.1 a.2.1) >>= fun b => catM a b) >>= fun a => (pure ()) >>= fun b => pure (a, b)) >>= fun b => pure (a, b)) >>= fun a => mir_added a.1 a.2.1) >>= fun (found5 : (List Int)) => (pure (.nx (found5)))))) xs (found1) >>= fun c => thenL c (fun (s3 : ((List Int))) => (pure (.rt s3))))))) F sc_counts_by rfl rfl (fun cdv A' outer s H E hr ar => ?_)
    have hr_counts_by := hr.mono (Nat.le_refl (3 + kf))
    have hr_tied_on := hr.mono (show 2 ≤ 3 + kf by omega)
    have hr_added := hr.mono (show 1 ≤ 3 + kf by omega)
    exact ⟨_, (ss_ifR (et_c (ec_eq (ex_lenL (K := K) T.n_len (ex_var 1)) ex_int)) (ss_ret (ex_lst (el_cons ex_int (el_nil (o := Ow.v))))) (ss_asg 2 sc_counts_by.nd (ex_lst (el_cons ex_int (el_nil (o := Ow.v)))) (fun found1 => (ss_for (Γs := (fun (s3 : ((List Int))) => [.mk Ow.v ar.1, .mk Ow.v ar.2.1, .mk (Ow.l Ow.v) (s3 : (List Int)), .un, .un, .un])) (found1) rfl PassesOwn.never (ei_range1 T.n_range ex_int) (.k (.k (.k (.w (.w (.w .n)))))) (fun s3 way2 => (eg_name 3 sc_counts_by.nd)) (fun s3 way2 => (ss_asgT (ex_frz (ex_call F_tied_on hr_tied_on m_tied_on k_tied_on b_tied_on (ea_cons (ex_var 0) (ea_cons (ex_ixL (K := K) (ex_var 1) ex_int) (ea_cons (ex_var 3) ea_nil))))) (fun u4 => (eg_pair (K := K) rfl (eg_name 4 sc_counts_by.nd) (eg_name 5 sc_counts_by.nd))) (fun u4 => (ss_asg 2 sc_counts_by.nd (ex_view (ex_call F_added hr_added m_added k_added b_added (ea_cons (ex_var 2) (ea_cons (ex_frz (ex_cat (ex_frz (ex_rep (ex_frz (ex_lst (el_cons ex_int (el_nil (o := Ow.v))))) (ex_var 5))) (ex_frz (ex_call F_counts_by hr_counts_by m_counts_by k_counts_by b_counts_by (ea_cons (ex_var 4) (ea_cons (ex_frz (ex_cutL (K := K) (ex_var 1) (eo_some ex_int) eo_none)) ea_nil)))))) ea_nil)))) (fun found5 => (ss_nil (found5) (.k (.k (.k (.w (.w (.w .n)))))))))))) (fun s3 => (ss_retO 2))))))⟩
theorem ok_counts_by (T : Txt K mg) {f : Addr} {fd : FuncData} (F : FnP K "counts_by" s_counts_by f fd) (hm : mg "counts_by" = some (.ref f)) (H_tied_on : Has P w K mg base "tied_on" 2 ["ties", "place", "way"] (sp_tied_on K)) (H_added : Has P w K mg base "added" 1 ["one", "other"] (sp_added K)) : Has P w K mg base "counts_by" 10 ["ties", "order"] (sp_counts_by K) :=
  ⟨f, fd, okf_counts_by T F hm H_tied_on H_added 7, hm, F.kp, F.bindsN fun _ _ _ _ _ _ us hl => match us, hl with | [_, _], _ => rfl⟩
abbrev s_counts_of : Stmt := top 13
theorem sc_counts_of : FnScope ["net", "order"] ["net", "order"] (defScope s_counts_of) := ⟨rfl, rfl, rfl, by decide +kernel, rfl, by decide +kernel, by decide +kernel⟩
abbrev sp_counts_of (K : PySem.W.Frag) : Sp := spF K (As.cons (α := (List Int)) (As.cons (α := (Op (List Int))) As.nil)) ((Ow.l Ow.v) : Ow (List Int)) (fun a => mir_counts_of a.1 a.2.1)
theorem ok0_counts_of (T : Txt K mg) {f : Addr} {fd : FuncData} (F : FnPD K "counts_of" s_counts_of f fd) (H_places_in : Has P w K mg base "places_in" 1 ["net"] (sp_places_in K)) (H_counts_by : Has P w K mg base "counts_by" 10 ["ties", "order"] (sp_counts_by K)) : FnOk P w K mg base CX0 11 f fd ["net", "order"] (sp_counts_of K) := by
  obtain ⟨f_places_in, fd_places_in, F_places_in, m_places_in, k_places_in, b_places_in⟩ := H_places_in
  obtain ⟨f_counts_by, fd_counts_by, F_counts_by, m_counts_by, k_counts_by, b_counts_by⟩ := H_counts_by
  refine fn_okD (r := (As.cons (α := (List Int)) (As.cons (α := (Op (List Int))) As.nil))) (o := (Ow.l Ow.v)) (m := fun ar => (((((pure ar.1) >>= fun a => (pure ()) >>= fun b => pure (a, b)) >>= fun a => mir_places_in a.1) >>= fun a => (pure (6 : Int)) >>= fun b => pure (decide (b < a))) >>= fun x => if x then ((no : M (Ctl Empty Empty (List Int))) >>= fun y => thenC y nofun) else (((pure ar.2.1) >>= fun a => pure a.o.isNone) >>= fun x => ((if x then ((((((pure ar.1) >>= fun a => (pure ()) >>= fun b => pure (a, b)) >>= fun a => mir_places_in a.1) >>= fun a => lrange 0 a) >>= fun a => pure (⟨some a⟩ : Op (List Int))) >>= fun (order2 : (Op (List Int))) => (pure (.nx (order2)))) else (pure (.nx (ar.2.1)))) : M (Ctl ((Op (List Int))) Empty (List Int))) >>= fun y => thenC y (fun (s1 : ((Op (List Int)))) => (((((pure ar.1) >>= fun a => pure (⟨enumL a⟩ : Dc Int Int)) >>= fun a => (((pure s1) >>= fun a => ofO a.o) >>= fun a => (pure ()) >>= fun b => pure (a, b)) >>= fun b => pure (a, b)) >>= fun a => mir_counts_by a.1 a.2.1) >>= fun r => pure (.rt r)))))) F sc_counts_of rfl rfl (fun cdv A' outer s H E hr ar => ?_)
  have hr_places_in := hr.mono (show 1 ≤ 10 by decide)
  have hr_counts_by := hr.mono (show 10 ≤ 10 by decide)
  exact ⟨_, (ss_ifR (et_c (ec_gt (ex_call F_places_in hr_places_in m_places_in k_places_in b_places_in (ea_cons (ex_var 0) ea_nil)) (ex_gint T.g_MOST))) ss_never (ss_if (Γ1 := (fun (s1 : ((Op (List Int)))) => [.mk Ow.v ar.1, .mk Ow.v (s1 : (Op (List Int)))])) (et_c (ec_isOp (ex_var 1))) (ss_asg 1 sc_counts_of.nd (ex_frz (ex_opS (w := Ow.v) (ex_frz (ex_listRg1 rfl T.n_list T.n_range (ex_call F_places_in hr_places_in m_places_in k_places_in b_places_in (ea_cons (ex_var 0) ea_nil)))))) (fun order2 => (ss_nil (order2) (.k (.k .n))))) (ss_nil (ar.2.1) (.k (.k .n))) (fun s1 => (ss_ret (ex_call F_counts_by hr_counts_by m_counts_by k_counts_by b_counts_by (ea_cons (ex_frz (ex_dEnum (K := K) rfl T.n_dict T.n_enumerate (ex_var 0))) (ea_cons (ex_unOv (ex_var 1)) ea_nil)))))))⟩
theorem ok_counts_of (T : Txt K mg) {f : Addr} {fd : FuncData} (F : FnPD K "counts_of" s_counts_of f fd) (hm : mg "counts_of" = some (.ref f)) (H_places_in : Has P w K mg base "places_in" 1 ["net"] (sp_places_in K)) (H_counts_by : Has P w K mg base "counts_by" 10 ["ties", "order"] (sp_counts_by K)) : ∃ f fd, FnOk P w K mg base CX0 11 f fd ["net", "order"] (sp_counts_of K) ∧ mg "counts_of" = some (.ref f) ∧ PySem.W.keepIn K (.ref f) = true ∧ Binds K fd ["net", "order"] [] ∧ Binds K fd ["net", "order"] [.none] := by
  obtain ⟨ds, hv, hb⟩ := F.binds1 (ps := ["net", "order"]) 2 1 (by decide) rfl (fun _ _ _ _ _ _ _ us its hl hi => match us, its, hl, hi with | [_, _], [_], _, _ => ⟨_, rfl, rfl⟩)
  obtain ⟨ds2, hv2, hb2⟩ := F.binds1 (ps := ["net", "order"]) 1 0 (by decide) rfl (fun _ _ _ _ _ _ _ us its hl hi => match us, its, hl, hi with | [_], [_], _, _ => ⟨_, rfl, rfl⟩)
  cases hv
  cases hv2 with
  | cons h t =>
    cases t
    cases h
    exact ⟨f, fd, ok0_counts_of T F H_places_in H_counts_by, hm, F.kp, hb, hb2⟩
abbrev s_worth_at : Stmt := top 14
theorem sc_worth_at : FnScope ["counts", "x", "whole", "count"] ["counts", "x"] (defScope s_worth_at) := ⟨rfl, rfl, rfl, by decide +kernel, rfl, by decide +kernel, by decide +kernel⟩
abbrev sp_worth_at (K : PySem.W.Frag) : Sp := spF K (As.cons (α := (List Int)) (As.cons (α := Int) As.nil)) (Ow.v : Ow Int) (fun a => mir_worth_at a.1 a.2.1)
theorem ok0_worth_at (T : Txt K mg) {f : Addr} {fd : FuncData} (F : FnP K "worth_at" s_worth_at f fd)  : FnOk P w K mg base CX0 1 f fd ["counts", "x"] (sp_worth_at K) := by
  refine fn_okD (r := (As.cons (α := (List Int)) (As.cons (α := Int) As.nil))) (o := Ow.v) (m := fun ar => ((pure (0 : Int)) >>= fun (whole1 : Int) => (((pure ar.1) >>= fun a => pure a.reverse) >>= fun xs => loopM (S := (Int)) (ρ := Int) (fun (count2 : Int) (s3 : (Int)) => ((((pure s3) >>= fun a => (pure ar.2.1) >>= fun b => mulM a b) >>= fun a => (pure count2) >>= fun b => pure (a + b)) >>= fun (whole4 : Int) => (pure (.nx (whole4))))) xs (whole1) >>= fun c => thenL c (fun (s3 : (Int)) => ((pure s3) >>= fun r => pure (.rt r)))))) F sc_worth_at rfl rfl (fun cdv A' outer s H E hr ar => ?_)
  exact ⟨_, (ss_asg 2 sc_worth_at.nd ex_int (fun whole1 => (ss_for (Γs := (fun (s3 : (Int)) => [.mk Ow.v ar.1, .mk Ow.v ar.2.1, .mk Ow.v (s3 : Int), .un])) (whole1) rfl PassesOwn.never (ei_rev (K := K) T.n_reversed (ex_var 0)) (.k (.k (.k (.w .n)))) (fun s3 count2 => (eg_name 3 sc_worth_at.nd)) (fun s3 count2 => (ss_asg 2 sc_worth_at.nd (ex_add (ex_mul (ex_var 2) (ex_var 1)) (ex_var 3)) (fun whole4 => (ss_nil (whole4) (.k (.k (.k (.w .n)))))))) (fun s3 => (ss_ret (ex_var 2))))))⟩
theorem ok_worth_at (T : Txt K mg) {f : Addr} {fd : FuncData} (F : FnP K "worth_at" s_worth_at f fd) (hm : mg "worth_at" = some (.ref f))  : Has P w K mg base "worth_at" 1 ["counts", "x"] (sp_worth_at K) :=
  ⟨f, fd, ok0_worth_at T F , hm, F.kp, F.bindsN fun _ _ _ _ _ _ us hl => match us, hl with | [_, _], _ => rfl⟩
abbrev s__law_mixed : Stmt := top 16
theorem sc__law_mixed : FnScope ["_law_script", "_law_least", "_law_made", "_law_k", "_law_cell", "_law_first"] ["_law_script", "_law_least"] (defScope s__law_mixed) := ⟨rfl, rfl, rfl, by decide +kernel, rfl, by decide +kernel, by decide +kernel⟩
abbrev sp__law_mixed (K : PySem.W.Frag) : Sp := spF K (As.cons (α := Scr) (As.cons (α := Int) As.nil)) ((Ow.l Ow.v) : Ow (List Int)) (fun a => mir__law_mixed a.1 a.2.1)
theorem ok0__law_mixed (T : Txt K mg) {f : Addr} {fd : FuncData} (F : FnP K "_law_mixed" s__law_mixed f fd)  : FnOk P w K mg base CX0 1 f fd ["_law_script", "_law_least"] (sp__law_mixed K) := by
  refine fn_okD (r := (As.cons (α := Scr) (As.cons (α := Int) As.nil))) (o := (Ow.l Ow.v)) (m := fun ar => (((pure ([] : List Int)) >>= fun a => lstM a) >>= fun (made1 : (List Int)) => ((((pure ar.2.1) >>= fun a => ((pure (63 : Int)) >>= fun a => ((pure ar.1) >>= fun a => pure (a.l.length : Int)) >>= fun b => pure (if b < a then b else a)) >>= fun b => pure (if b > a then b else a)) >>= fun a => range1 a) >>= fun xs => loopM (S := ((List Int))) (ρ := (List Int)) (fun (k2 : Int) (s3 : ((List Int))) => ((((pure k2) >>= fun b => pure ((7 : Int) * b)) >>= fun a => (pure (3 : Int)) >>= fun b => pure (a + b)) >>= fun (cell4 : Int) => ((((pure ar.1) >>= fun a => pure (a.l.length : Int)) >>= fun a => (pure (0 : Int)) >>= fun b => pure (decide (b < a))) >>= fun x => ((if x then ((((pure ar.1) >>= fun a => ((pure k2) >>= fun a => ((pure ar.1) >>= fun a => pure (a.l.length : Int)) >>= fun b => modM a b) >>= fun b => atM a.l b) >>= fun a => pure (a % (1000003 : Int))) >>= fun (cell6 : Int) => (pure (.nx (cell6)))) else (pure (.nx (cell4)))) : M (Ctl (Int) ((List Int)) (List Int))) >>= fun y => thenC y (fun (s5 : (Int)) => ((((((((pure s5) >>= fun a => (pure (1 : Int)) >>= fun b => pure (a + b)) >>= fun a => pure (a * (48271 : Int))) >>= fun a => (((pure k2) >>= fun a => (pure k2) >>= fun b => mulM a b) >>= fun a => pure (a * (7919 : Int))) >>= fun b => pure (a + b)) >>= fun a => pure (a % (1000000007 : Int))) >>= fun a => pure (a * (40692 : Int))) >>= fun a => pure (a % (2147483399 : Int))) >>= fun (first7 : Int) => ((((pure first7) >>= fun a => pure (a * (2147483647 : Int))) >>= fun a => ((((pure first7) >>= fun a => pure (a * (69621 : Int))) >>= fun a => (pure k2) >>= fun b => pure (a + b)) >>= fun a => pure (a % (2147483647 : Int))) >>= fun b => pure (a + b)) >>= fun a => appM s3 a >>= fun (made8 : (List Int)) => (pure (.nx (made8))))))))) xs (made1) >>= fun c => thenL c (fun (s3 : ((List Int))) => (pure (.rt s3)))))) F sc__law_mixed rfl rfl (fun cdv A' outer s H E hr ar => ?_)
  exact ⟨_, (ss_asg 2 sc__law_mixed.nd (ex_lst (el_nil (o := Ow.v))) (fun made1 => (ss_for (Γs := (fun (s3 : ((List Int))) => [.mk Ow.v ar.1, .mk Ow.v ar.2.1, .mk (Ow.l Ow.v) (s3 : (List Int)), .un, .un, .un])) (made1) rfl PassesOwn.never (ei_range1 T.n_range (ex_max2 rfl T.n_max (ex_var 1) (ex_min2 rfl T.n_min ex_int (ex_lenScr (K := K) T.n_len (ex_var 0))))) (.k (.k (.k (.w (.w (.w .n)))))) (fun s3 k2 => (eg_name 3 sc__law_mixed.nd)) (fun s3 k2 => (ss_asg 4 sc__law_mixed.nd (ex_add (ex_cmul (ex_var 3)) ex_int) (fun cell4 => (ss_if (Γ1 := (fun (s5 : (Int)) => [.mk Ow.v ar.1, .mk Ow.v ar.2.1, .mk (Ow.l Ow.v) s3, .mk Ow.v k2, .mk Ow.v (s5 : Int), .un])) (et_c (ec_gt (ex_lenScr (K := K) T.n_len (ex_var 0)) ex_int)) (ss_asg 4 sc__law_mixed.nd (ex_modc (ex_ixScr (K := K) (ex_var 0) (ex_mod (ex_var 3) (ex_lenScr (K := K) T.n_len (ex_var 0))))) (fun cell6 => (ss_nil (cell6) (.k (.k (.k (.k (.k (.w .n))))))))) (ss_nil (cell4) (.k (.k (.k (.k (.k (.w .n))))))) (fun s5 => (ss_asg 5 sc__law_mixed.nd (ex_modc (ex_mulc (ex_modc (ex_add (ex_mulc (ex_add (ex_var 4) ex_int)) (ex_mulc (ex_mul (ex_var 3) (ex_var 3))))))) (fun first7 => (ss_app 2 (ex_add (ex_mulc (ex_var 5)) (ex_modc (ex_add (ex_mulc (ex_var 5)) (ex_var 3)))) (fun made8 => (ss_nil (made8) (.k (.k (.k (.w (.w (.w .n)))))))))))))))) (fun s3 => (ss_retO 2)))))⟩
theorem ok__law_mixed (T : Txt K mg) {f : Addr} {fd : FuncData} (F : FnP K "_law_mixed" s__law_mixed f fd) (hm : mg "_law_mixed" = some (.ref f))  : Has P w K mg base "_law_mixed" 1 ["_law_script", "_law_least"] (sp__law_mixed K) :=
  ⟨f, fd, ok0__law_mixed T F , hm, F.kp, F.bindsN fun _ _ _ _ _ _ us hl => match us, hl with | [_, _], _ => rfl⟩
abbrev s__law_cells : Stmt := top 17
theorem sc__law_cells : FnScope ["_law_script", "_law_least", "_law_made", "_law_cell"] ["_law_script", "_law_least"] (defScope s__law_cells) := ⟨rfl, rfl, rfl, by decide +kernel, rfl, by decide +kernel, by decide +kernel⟩
abbrev sp__law_cells (K : PySem.W.Frag) : Sp := spF K (As.cons (α := Scr) (As.cons (α := Int) As.nil)) ((Ow.l Ow.v) : Ow (List Int)) (fun a => mir__law_cells a.1 a.2.1)
theorem ok0__law_cells (T : Txt K mg) {f : Addr} {fd : FuncData} (F : FnP K "_law_cells" s__law_cells f fd) (H__law_mixed : Has P w K mg base "_law_mixed" 1 ["_law_script", "_law_least"] (sp__law_mixed K)) : FnOk P w K mg base CX0 2 f fd ["_law_script", "_law_least"] (sp__law_cells K) := by
  obtain ⟨f__law_mixed, fd__law_mixed, F__law_mixed, m__law_mixed, k__law_mixed, b__law_mixed⟩ := H__law_mixed
  refine fn_okD (r := (As.cons (α := Scr) (As.cons (α := Int) As.nil))) (o := (Ow.l Ow.v)) (m := fun ar => ((bOr (((pure ar.1) >>= fun a => pure (a.l.length : Int)) >>= fun a => (pure (0 : Int)) >>= fun b => pure (decide (a = b))) ((((pure ar.1) >>= fun a => (pure (0 : Int)) >>= fun b => atM a.l b) >>= fun a => pure (a % (2 : Int))) >>= fun a => (pure (0 : Int)) >>= fun b => pure (decide (a = b)))) >>= fun x => if x then ((((((pure ar.1) >>= fun a => ((pure ar.2.1) >>= fun a => (pure ()) >>= fun b => pure (a, b)) >>= fun b => pure (a, b)) >>= fun a => mir__law_mixed a.1 a.2.1) >>= fun r => pure (.rt r)) : M (Ctl Empty Empty (List Int))) >>= fun y => thenC y nofun) else ((((pure ar.1) >>= fun a => (pure none) >>= fun l => ((pure (63 : Int)) >>= fun i => pure (some i)) >>= fun u => pure (cutL a.l l u)) >>= fun xs => compM xs (fun (cell1 : Int) => (pure true)) (fun (cell1 : Int) => ((pure cell1) >>= fun a => ((pure (10 : Int)) >>= fun a => (pure (60 : Int)) >>= fun b => powM a b) >>= fun b => modM a b))) >>= fun (made2 : (List Int)) => (((pure made2) >>= fun a => ((((pure (0 : Int)) >>= fun a => (pure ([] : List Int)) >>= fun b => pure (a :: b)) >>= fun a => lstM a) >>= fun a => ((pure ar.2.1) >>= fun a => ((pure made2) >>= fun a => pure (a.length : Int)) >>= fun b => pure (a - b)) >>= fun b => repM a b) >>= fun b => catM a b) >>= fun r => pure (.rt r))))) F sc__law_cells rfl rfl (fun cdv A' outer s H E hr ar => ?_)
  have hr__law_mixed := hr.mono (show 1 ≤ 1 by decide)
  exact ⟨_, (ss_ifR (ew_pt (ew_or (et_c (ec_eq (ex_lenScr (K := K) T.n_len (ex_var 0)) ex_int)) (ew_or1 (et_c (ec_eq (ex_modc (ex_ixScr (K := K) (ex_var 0) ex_int)) ex_int))))) (ss_ret (ex_call F__law_mixed hr__law_mixed m__law_mixed k__law_mixed b__law_mixed (ea_cons (ex_var 0) (ea_cons (ex_var 1) ea_nil)))) (ss_asgLc 2 rfl sc__law_cells.nd (ei_list (K := K) (ex_frz (ex_cutScr (K := K) (ex_var 0) eo_none (eo_some ex_int)))) (own := [("_law_cell", 3)]) (by kernel_rfl) rfl rfl (fun _ _ _ _ _ cell1 => (eg_name 3 sc__law_cells.nd)) (fun _ _ _ _ _ cell1 => ef_nil) (fun _ _ _ _ _ cell1 => (ex_mod (ex_var 3) (ex_pow ex_int ex_int))) (fun made2 => (ss_ret (ex_view (ex_cat (ex_var 2) (ex_frz (ex_rep (ex_frz (ex_lst (el_cons ex_int (el_nil (o := Ow.v))))) (ex_sub (ex_var 1) (ex_lenL (K := K) T.n_len (ex_var 2)))))))))))⟩
theorem ok__law_cells (T : Txt K mg) {f : Addr} {fd : FuncData} (F : FnP K "_law_cells" s__law_cells f fd) (hm : mg "_law_cells" = some (.ref f)) (H__law_mixed : Has P w K mg base "_law_mixed" 1 ["_law_script", "_law_least"] (sp__law_mixed K)) : Has P w K mg base "_law_cells" 2 ["_law_script", "_law_least"] (sp__law_cells K) :=
  ⟨f, fd, ok0__law_cells T F H__law_mixed, hm, F.kp, F.bindsN fun _ _ _ _ _ _ us hl => match us, hl with | [_, _], _ => rfl⟩
abbrev s__law_net : Stmt := top 18
theorem sc__law_net : FnScope ["_law_cells_here", "_law_size", "_law_ends", "_law_net_here", "_law_k", "_law_one", "_law_cell", "_law_other"] ["_law_cells_here", "_law_size"] (defScope s__law_net) := ⟨rfl, rfl, rfl, by decide +kernel, rfl, by decide +kernel, by decide +kernel⟩
abbrev sp__law_net (K : PySem.W.Frag) : Sp := spF K (As.cons (α := (List Int)) (As.cons (α := Int) As.nil)) ((Ow.l Ow.v) : Ow (List Int)) (fun a => mir__law_net a.1 a.2.1)
theorem ok0__law_net (T : Txt K mg) {f : Addr} {fd : FuncData} (F : FnP K "_law_net" s__law_net f fd)  : FnOk P w K mg base CX0 1 f fd ["_law_cells_here", "_law_size"] (sp__law_net K) := by
  refine fn_okD (r := (As.cons (α := (List Int)) (As.cons (α := Int) As.nil))) (o := (Ow.l Ow.v)) (m := fun ar => ((((pure ar.2.1) >>= fun b => pure ((4 : Int) * b)) >>= fun a => lrange 0 a) >>= fun (ends1 : (List Int)) => (((((pure (0 : Int)) >>= fun a => (pure ([] : List Int)) >>= fun b => pure (a :: b)) >>= fun a => lstM a) >>= fun a => ((pure ar.2.1) >>= fun b => pure ((4 : Int) * b)) >>= fun b => repM a b) >>= fun (net_here2 : (List Int)) => ((((pure ar.2.1) >>= fun b => pure ((2 : Int) * b)) >>= fun a => range1 a) >>= fun xs => loopM (S := ((List Int) × (List Int))) (ρ := (List Int)) (fun (k3 : Int) (s4 : ((List Int) × (List Int))) => (((pure (0 : Int)) >>= fun j => popAtM s4.1 j) >>= fun (q5 : Int × (List Int)) => ((((pure ar.1) >>= fun a => ((pure k3) >>= fun a => ((pure ar.1) >>= fun a => pure (a.length : Int)) >>= fun b => modM a b) >>= fun b => atM a b) >>= fun a => ((pure (1 : Int)) >>= fun a => ((pure k3) >>= fun a => ((pure ar.1) >>= fun a => pure (a.length : Int)) >>= fun b => divM a b) >>= fun b => pure (a + b)) >>= fun b => divM a b) >>= fun (cell6 : Int) => ((((pure cell6) >>= fun a => ((pure q5.2) >>= fun a => pure (a.length : Int)) >>= fun b => modM a b) >>= fun j => popAtM q5.2 j) >>= fun (q7 : Int × (List Int)) => ((pure q7.1) >>= fun a => (pure q5.1) >>= fun b => setM s4.2 b a >>= fun (net_here8 : (List Int)) => ((pure q5.1) >>= fun a => (pure q7.1) >>= fun b => setM net_here8 b a >>= fun (net_here9 : (List Int)) => (pure (.nx (q7.2, net_here9))))))))) xs (ends1, net_here2) >>= fun c => thenL c (fun (s4 : ((List Int) × (List Int))) => (pure (.rt s4.2))))))) F sc__law_net rfl rfl (fun cdv A' outer s H E hr ar => ?_)
  exact ⟨_, (ss_asg 2 sc__law_net.nd (ex_listRg1 rfl T.n_list T.n_range (ex_cmul (ex_var 1))) (fun ends1 => (ss_asg 3 sc__law_net.nd (ex_rep (ex_frz (ex_lst (el_cons ex_int (el_nil (o := Ow.v))))) (ex_cmul (ex_var 1))) (fun net_here2 => (ss_for (Γs := (fun (s4 : ((List Int) × (List Int))) => [.mk Ow.v ar.1, .mk Ow.v ar.2.1, .mk (Ow.l Ow.v) (s4.1 : (List Int)), .mk (Ow.l Ow.v) (s4.2 : (List Int)), .un, .un, .un, .un])) (ends1, net_here2) rfl PassesOwn.never (ei_range1 T.n_range (ex_cmul (ex_var 1))) (.k (.k (.k (.k (.w (.w (.w (.w .n)))))))) (fun s4 k3 => (eg_name 4 sc__law_net.nd)) (fun s4 k3 => (ss_asgP (α := Int) (β := Int) 2 5 sc__law_net.nd (ep_popAt 2 ex_int) (fun q5 => (ss_asg 6 sc__law_net.nd (ex_fdiv (ex_ixL (K := K) (ex_var 0) (ex_mod (ex_var 4) (ex_lenL (K := K) T.n_len (ex_var 0)))) (ex_add ex_int (ex_fdiv (ex_var 4) (ex_lenL (K := K) T.n_len (ex_var 0))))) (fun cell6 => (ss_asgP (α := Int) (β := Int) 2 7 sc__law_net.nd (ep_popAt 2 (ex_view (ex_mod (ex_var 6) (ex_lenL (K := K) T.n_len (ex_var 2))))) (fun q7 => (ss_set 3 (ex_var 7) (ex_var 5) (fun net_here8 => (ss_set 3 (ex_var 5) (ex_var 7) (fun net_here9 => (ss_nil (q7.2, net_here9) (.k (.k (.k (.k (.w (.w (.w (.w .n)))))))))))))))))))) (fun s4 => (ss_retO 3)))))))⟩
theorem ok__law_net (T : Txt K mg) {f : Addr} {fd : FuncData} (F : FnP K "_law_net" s__law_net f fd) (hm : mg "_law_net" = some (.ref f))  : Has P w K mg base "_law_net" 1 ["_law_cells_here", "_law_size"] (sp__law_net K) :=
  ⟨f, fd, ok0__law_net T F , hm, F.kp, F.bindsN fun _ _ _ _ _ _ us hl => match us, hl with | [_, _], _ => rfl⟩
abbrev s__law_digit_net : Stmt := top 19
theorem sc__law_digit_net : FnScope ["_law_cell", "_law_size", "_law_ends", "_law_net_here", "_law_k", "_law_one", "_law_other"] ["_law_cell", "_law_size"] (defScope s__law_digit_net) := ⟨rfl, rfl, rfl, by decide +kernel, rfl, by decide +kernel, by decide +kernel⟩
abbrev sp__law_digit_net (K : PySem.W.Frag) : Sp := spF K (As.cons (α := Int) (As.cons (α := Int) As.nil)) ((Ow.l Ow.v) : Ow (List Int)) (fun a => mir__law_digit_net a.1 a.2.1)
theorem ok0__law_digit_net (T : Txt K mg) {f : Addr} {fd : FuncData} (F : FnP K "_law_digit_net" s__law_digit_net f fd)  : FnOk P w K mg base CX0 1 f fd ["_law_cell", "_law_size"] (sp__law_digit_net K) := by
  refine fn_okD (r := (As.cons (α := Int) (As.cons (α := Int) As.nil))) (o := (Ow.l Ow.v)) (m := fun ar => ((((pure ar.2.1) >>= fun b => pure ((4 : Int) * b)) >>= fun a => lrange 0 a) >>= fun (ends1 : (List Int)) => (((((pure (0 : Int)) >>= fun a => (pure ([] : List Int)) >>= fun b => pure (a :: b)) >>= fun a => lstM a) >>= fun a => ((pure ar.2.1) >>= fun b => pure ((4 : Int) * b)) >>= fun b => repM a b) >>= fun (net_here2 : (List Int)) => ((((pure ar.2.1) >>= fun b => pure ((2 : Int) * b)) >>= fun a => range1 a) >>= fun xs => loopM (S := ((List Int) × Int × (List Int))) (ρ := (List Int)) (fun (k3 : Int) (s4 : ((List Int) × Int × (List Int))) => (((pure (0 : Int)) >>= fun j => popAtM s4.1 j) >>= fun (q5 : Int × (List Int)) => ((((pure s4.2.1) >>= fun a => ((pure q5.2) >>= fun a => pure (a.length : Int)) >>= fun b => modM a b) >>= fun j => popAtM q5.2 j) >>= fun (q6 : Int × (List Int)) => (((pure s4.2.1) >>= fun a => (((pure q6.2) >>= fun a => pure (a.length : Int)) >>= fun a => (pure (1 : Int)) >>= fun b => pure (a + b)) >>= fun b => divM a b) >>= fun (cell7 : Int) => ((pure q6.1) >>= fun a => (pure q5.1) >>= fun b => setM s4.2.2 b a >>= fun (net_here8 : (List Int)) => ((pure q5.1) >>= fun a => (pure q6.1) >>= fun b => setM net_here8 b a >>= fun (net_here9 : (List Int)) => (pure (.nx (q6.2, cell7, net_here9))))))))) xs (ends1, ar.1, net_here2) >>= fun c => thenL c (fun (s4 : ((List Int) × Int × (List Int))) => (pure (.rt s4.2.2))))))) F sc__law_digit_net rfl rfl (fun cdv A' outer s H E hr ar => ?_)
  exact ⟨_, (ss_asg 2 sc__law_digit_net.nd (ex_listRg1 rfl T.n_list T.n_range (ex_cmul (ex_var 1))) (fun ends1 => (ss_asg 3 sc__law_digit_net.nd (ex_rep (ex_frz (ex_lst (el_cons ex_int (el_nil (o := Ow.v))))) (ex_cmul (ex_var 1))) (fun net_here2 => (ss_for (Γs := (fun (s4 : ((List Int) × Int × (List Int))) => [.mk Ow.v (s4.2.1 : Int), .mk Ow.v ar.2.1, .mk (Ow.l Ow.v) (s4.1 : (List Int)), .mk (Ow.l Ow.v) (s4.2.2 : (List Int)), .un, .un, .un])) (ends1, ar.1, net_here2) rfl PassesOwn.never (ei_range1 T.n_range (ex_cmul (ex_var 1))) (.k (.k (.k (.k (.w (.w (.w .n))))))) (fun s4 k3 => (eg_name 4 sc__law_digit_net.nd)) (fun s4 k3 => (ss_asgP (α := Int) (β := Int) 2 5 sc__law_digit_net.nd (ep_popAt 2 ex_int) (fun q5 => (ss_asgP (α := Int) (β := Int) 2 6 sc__law_digit_net.nd (ep_popAt 2 (ex_view (ex_mod (ex_var 0) (ex_lenL (K := K) T.n_len (ex_var 2))))) (fun q6 => (ss_asg 0 sc__law_digit_net.nd (ex_view (ex_fdiv (ex_var 0) (ex_add (ex_lenL (K := K) T.n_len (ex_var 2)) ex_int))) (fun cell7 => (ss_set 3 (ex_var 6) (ex_var 5) (fun net_here8 => (ss_set 3 (ex_var 5) (ex_var 6) (fun net_here9 => (ss_nil (q6.2, cell7, net_here9) (.k (.k (.k (.k (.w (.w (.w .n))))))))))))))))))) (fun s4 => (ss_retO 3)))))))⟩
theorem ok__law_digit_net (T : Txt K mg) {f : Addr} {fd : FuncData} (F : FnP K "_law_digit_net" s__law_digit_net f fd) (hm : mg "_law_digit_net" = some (.ref f))  : Has P w K mg base "_law_digit_net" 1 ["_law_cell", "_law_size"] (sp__law_digit_net K) :=
  ⟨f, fd, ok0__law_digit_net T F , hm, F.kp, F.bindsN fun _ _ _ _ _ _ us hl => match us, hl with | [_, _], _ => rfl⟩
abbrev s__law_row_is : Stmt := top 20
theorem sc__law_row_is : FnScope ["_law_found", "_law_due", "_law_number"] ["_law_found", "_law_due"] (defScope s__law_row_is) := ⟨rfl, rfl, rfl, by decide +kernel, rfl, by decide +kernel, by decide +kernel⟩
abbrev sp__law_row_is (K : PySem.W.Frag) : Sp := spF K (As.cons (α := (List Int)) (As.cons (α := (List Int)) As.nil)) (Ow.v : Ow Bool) (fun a => mir__law_row_is a.1 a.2.1)
theorem ok0__law_row_is (T : Txt K mg) {f : Addr} {fd : FuncData} (F : FnP K "_law_row_is" s__law_row_is f fd)  : FnOk P w K mg base CX0 1 f fd ["_law_found", "_law_due"] (sp__law_row_is K) := by
  refine fn_okD (r := (As.cons (α := (List Int)) (As.cons (α := (List Int)) As.nil))) (o := Ow.v) (m := fun ar => ((bOr (bNot ((pure ar.1) >>= fun _ => pure true)) (((pure ar.1) >>= fun a => pure (a.length : Int)) >>= fun a => ((pure ar.2.1) >>= fun a => pure (a.length : Int)) >>= fun b => pure (!decide (a = b)))) >>= fun x => if x then ((((pure false) >>= fun r => pure (.rt r)) : M (Ctl Empty Empty Bool)) >>= fun y => thenC y nofun) else ((pure ar.1) >>= fun xs => loopM (S := Unit) (ρ := Bool) (fun (number1 : Int) (s2 : Unit) => ((bOr (bNot ((pure number1) >>= fun _ => pure true)) ((pure number1) >>= fun _ => pure false)) >>= fun x => if x then ((((pure false) >>= fun r => pure (.rt r)) : M (Ctl Empty Unit Bool)) >>= fun y => thenC y nofun) else (pure (.nx ())))) xs () >>= fun c => thenL c (fun (s2 : Unit) => (((pure ar.1) >>= fun a => (pure ar.2.1) >>= fun b => eqM a b) >>= fun r => pure (.rt r)))))) F sc__law_row_is rfl rfl (fun cdv A' outer s H E hr ar => ?_)
  exact ⟨_, (ss_ifR (ew_pt (ew_or (et_not (et_val (ex_isi (K := K) T.n_isinstance T.n_list boot_list (ex_var 0) (by decide +kernel)))) (ew_or1 (et_c (ec_ne (ex_lenL (K := K) T.n_len (ex_var 0)) (ex_lenL (K := K) T.n_len (ex_var 1))))))) (ss_ret ex_bl) (ss_for (Γs := (fun (s2 : Unit) => [.mk Ow.v ar.1, .mk Ow.v ar.2.1, .un])) () rfl PassesOwn.never (ei_list (K := K) (ex_var 0)) (.k (.k (.w .n))) (fun s2 number1 => (eg_name 2 sc__law_row_is.nd)) (fun s2 number1 => (ss_ifR (ew_pt (ew_or (et_not (et_val (ex_isi (K := K) T.n_isinstance T.n_int boot_int (ex_var 2) (by decide +kernel)))) (ew_or1 (et_val (ex_isi (K := K) T.n_isinstance T.n_bool boot_bool (ex_var 2) (by decide +kernel)))))) (ss_ret ex_bl) (ss_nil () (.k (.k (.w .n)))))) (fun s2 => (ss_ret (ex_c (ec_eqD (K := K) hr.units (ex_var 0) (ex_var 1)))))))⟩
theorem ok__law_row_is (T : Txt K mg) {f : Addr} {fd : FuncData} (F : FnP K "_law_row_is" s__law_row_is f fd) (hm : mg "_law_row_is" = some (.ref f))  : Has P w K mg base "_law_row_is" 1 ["_law_found", "_law_due"] (sp__law_row_is K) :=
  ⟨f, fd, ok0__law_row_is T F , hm, F.kp, F.bindsN fun _ _ _ _ _ _ us hl => match us, hl with | [_, _], _ => rfl⟩
abbrev s__law_beside : Stmt := top 21
theorem sc__law_beside : FnScope ["_law_one", "_law_other", "_law_turns", "_law_size", "_law_many", "_law_spots", "_law_net_here", "_law_ties", "_law_end", "_law_mate", "_law_k", "%tab"] ["_law_one", "_law_other", "_law_turns"] (defScope s__law_beside) := ⟨rfl, rfl, rfl, by decide +kernel, rfl, by decide +kernel, by decide +kernel⟩
abbrev sp__law_beside (K : PySem.W.Frag) : Sp := spT K (tbP K) (As.cons (α := (List Int)) (As.cons (α := (List Int)) (As.cons (α := Bool) As.nil))) ((Ow.l Ow.v) : Ow (List Int)) (fun a => mir__law_beside a.1 a.2.1 a.2.2.1)
theorem ok0__law_beside (T : Txt K mg) (TBh : LamX.TabB base mg (tbC K) (tbP K)) {fd : FuncData} (F : FnP K "_law_beside" s__law_beside (He.fAd K ("_law_beside", none)) fd)  : FnOk P w K mg base CX0 3 (He.fAd K ("_law_beside", none)) fd ["_law_one", "_law_other", "_law_turns"] (sp__law_beside K) := by
  refine fn_okT (j := 8) (r := (As.cons (α := (List Int)) (As.cons (α := (List Int)) (As.cons (α := Bool) As.nil)))) (o := (Ow.l Ow.v)) (m := fun ar => ((((pure ar.1) >>= fun a => pure (a.length : Int)) >>= fun a => pure (a / (4 : Int))) >>= fun (size1 : Int) => (((pure size1) >>= fun a => (((pure ar.2.1) >>= fun a => pure (a.length : Int)) >>= fun a => pure (a / (4 : Int))) >>= fun b => pure (a + b)) >>= fun (many2 : Int) => (((pure many2) >>= fun a => lrange 0 a) >>= fun (spots3 : (List Int)) => ((pure ar.2.2.1) >>= fun x => ((if x then (((pure many2) >>= fun n => pure (⟨0, n⟩ : Rgv)) >>= fun r => sortLM size1 r >>= fun (spots5 : List Int) => ((((pure many2) >>= fun a => range1 a) >>= fun xs => compM xs (fun (k6 : Int) => (pure true)) (fun (k6 : Int) => ((pure spots5) >>= fun x => ((pure k6) >>= fun a => (pure ()) >>= fun b => pure (a, b)) >>= fun y => lidxM x y.1))) >>= fun (spots7 : (List Int)) => (pure (.nx (spots7))))) else (pure (.nx (spots3)))) : M (Ctl ((List Int)) Empty (List Int))) >>= fun y => thenC y (fun (s4 : ((List Int))) => (((((pure (0 : Int)) >>= fun a => (pure ([] : List Int)) >>= fun b => pure (a :: b)) >>= fun a => lstM a) >>= fun a => ((pure many2) >>= fun b => pure ((4 : Int) * b)) >>= fun b => repM a b) >>= fun (net_here8 : (List Int)) => ((((pure ar.1) >>= fun a => pure (enumL a)) >>= fun xs => compM xs (fun (end9 : (Int × Int)) => (pure true)) (fun (end9 : (Int × Int)) => ((pure end9.1) >>= fun a => (pure end9.2) >>= fun b => pure (a, b)))) >>= fun (ties10 : (List (Int × Int))) => ((((pure ar.2.1) >>= fun a => pure (enumL a)) >>= fun xs => compM xs (fun (end11 : (Int × Int)) => (pure true)) (fun (end11 : (Int × Int)) => ((((pure size1) >>= fun b => pure ((4 : Int) * b)) >>= fun a => (pure end11.1) >>= fun b => pure (a + b)) >>= fun a => (((pure size1) >>= fun b => pure ((4 : Int) * b)) >>= fun a => (pure end11.2) >>= fun b => pure (a + b)) >>= fun b => pure (a, b)))) >>= fun l => catM ties10 l >>= fun (ties12 : (List (Int × Int))) => ((pure ties12) >>= fun xs => loopM (S := ((List Int))) (ρ := (List Int)) (fun (end13 : (Int × Int)) (s14 : ((List Int))) => (((((pure s4) >>= fun a => ((pure end13.2) >>= fun a => pure (a / (4 : Int))) >>= fun b => atM a b) >>= fun b => pure ((4 : Int) * b)) >>= fun a => ((pure end13.2) >>= fun a => pure (a % (4 : Int))) >>= fun b => pure (a + b)) >>= fun a => ((((pure s4) >>= fun a => ((pure end13.1) >>= fun a => pure (a / (4 : Int))) >>= fun b => atM a b) >>= fun b => pure ((4 : Int) * b)) >>= fun a => ((pure end13.1) >>= fun a => pure (a % (4 : Int))) >>= fun b => pure (a + b)) >>= fun b => setM s14 b a >>= fun (net_here15 : (List Int)) => (pure (.nx (net_here15))))) xs (net_here8) >>= fun c => thenL c (fun (s14 : ((List Int))) => (pure (.rt s14))))))))))))) (tbP K) (codeAt_of F) F sc__law_beside rfl rfl (fun y hy => by cases hy; exact gh_of rfl) (fun A' outer s H E hr ar => ?_)
  exact ⟨_, (ss_asg 3 sc__law_beside.nd (ex_fdivc (ex_lenL (K := K) T.n_len (ex_var 0))) (fun size1 => (ss_asg 4 sc__law_beside.nd (ex_add (ex_var 3) (ex_fdivc (ex_lenL (K := K) T.n_len (ex_var 1)))) (fun many2 => (ss_asg 5 sc__law_beside.nd (ex_listRg1 rfl T.n_list T.n_range (ex_var 4)) (fun spots3 => (ss_if (Γ1 := (fun (s4 : ((List Int))) => [.mk Ow.v ar.1, .mk Ow.v ar.2.1, .mk Ow.v ar.2.2.1, .mk Ow.v size1, .mk Ow.v many2, .mk (Ow.l Ow.v) (s4 : (List Int)), .un, .un, .un, .un, .un, .un])) (et_val (ex_var 2)) (ss_sortL (c := tbC K) (P := tbP K) (kx := "_law_k") (sz := "_law_size") (n := size1) 11 5 3 sc__law_beside.nd rfl rfl T.n_sorted TBh hr (by decide) (ex_rg1 T.n_range (ex_var 4)) (fun spots5 => (ss_asg 5 sc__law_beside.nd (ex_view (ex_lc rfl sc__law_beside.nd (ei_range1 T.n_range (ex_var 4)) (own := [("_law_k", 10)]) (by kernel_rfl) rfl rfl (fun _ _ _ _ _ k6 => (eg_name 10 sc__law_beside.nd)) (fun _ _ _ _ _ k6 => ef_nil) (fun _ _ _ _ _ k6 => (ex_lindex (K := K) (un65 hr) (ex_var 5) (ea_cons (ex_var 10) ea_nil))))) (fun spots7 => (ss_nil (spots7) (.k (.k (.k (.k (.k (.k (.w (.w (.w (.w (.w (.w .n))))))))))))))))) (ss_nil (spots3) (.k (.k (.k (.k (.k (.k (.w (.w (.w (.w (.w (.w .n))))))))))))) (fun s4 => (ss_asg 6 sc__law_beside.nd (ex_rep (ex_frz (ex_lst (el_cons ex_int (el_nil (o := Ow.v))))) (ex_cmul (ex_var 4))) (fun net_here8 => (ss_asgLc 7 rfl sc__law_beside.nd (ei_enum (K := K) T.n_enumerate (ex_var 0)) (own := [("_law_end", 8), ("_law_mate", 9)]) (by kernel_rfl) rfl rfl (fun _ _ _ _ _ end9 => (eg_pair (K := K) rfl (eg_name 8 sc__law_beside.nd) (eg_name 9 sc__law_beside.nd))) (fun _ _ _ _ _ end9 => ef_nil) (fun _ _ _ _ _ end9 => (ex_pair (ex_var 8) (ex_var 9))) (fun ties10 => (ss_catO 7 sc__law_beside.nd (ex_lc rfl sc__law_beside.nd (ei_enum (K := K) T.n_enumerate (ex_var 1)) (own := [("_law_end", 8), ("_law_mate", 9)]) (by kernel_rfl) rfl rfl (fun _ _ _ _ _ end11 => (eg_pair (K := K) rfl (eg_name 8 sc__law_beside.nd) (eg_name 9 sc__law_beside.nd))) (fun _ _ _ _ _ end11 => ef_nil) (fun _ _ _ _ _ end11 => (ex_pair (ex_add (ex_cmul (ex_var 3)) (ex_var 8)) (ex_add (ex_cmul (ex_var 3)) (ex_var 9))))) (fun ties12 => (ss_frz 7 rfl (ss_for (Γs := (fun (s14 : ((List Int))) => [.mk Ow.v ar.1, .mk Ow.v ar.2.1, .mk Ow.v ar.2.2.1, .mk Ow.v size1, .mk Ow.v many2, .mk (Ow.l Ow.v) s4, .mk (Ow.l Ow.v) (s14 : (List Int)), .mk Ow.v ties12, .un, .un, .un, .un])) (net_here8) rfl PassesOwn.never (ei_list (K := K) (ex_var 7)) (.k (.k (.k (.k (.k (.k (.k (.k (.w (.w (.w (.w .n)))))))))))) (fun s14 end13 => (eg_pair (K := K) rfl (eg_name 8 sc__law_beside.nd) (eg_name 9 sc__law_beside.nd))) (fun s14 end13 => (ss_set 6 (ex_view (ex_add (ex_cmul (ex_ixL (K := K) (ex_var 5) (ex_fdivc (ex_var 9)))) (ex_modc (ex_var 9)))) (ex_view (ex_add (ex_cmul (ex_ixL (K := K) (ex_var 5) (ex_fdivc (ex_var 8)))) (ex_modc (ex_var 8)))) (fun net_here15 => (ss_nil (net_here15) (.k (.k (.k (.k (.k (.k (.k (.k (.w (.w (.w (.w .n)))))))))))))))) (fun s14 => (ss_retO 6))))))))))))))))))⟩
theorem ok__law_beside (T : Txt K mg) (TBh : LamX.TabB base mg (tbC K) (tbP K)) {fd : FuncData} (F : FnP K "_law_beside" s__law_beside (He.fAd K ("_law_beside", none)) fd) (hm : mg "_law_beside" = some (.ref (He.fAd K ("_law_beside", none))))  : Has P w K mg base "_law_beside" 3 ["_law_one", "_law_other", "_law_turns"] (sp__law_beside K) :=
  ⟨_, fd, ok0__law_beside T TBh F , hm, F.kp, F.bindsN fun _ _ _ _ _ _ us hl => match us, hl with | [_, _, _], _ => rfl⟩
abbrev s__law_product : Stmt := top 22
theorem sc__law_product : FnScope ["_law_one", "_law_other", "_law_found", "_law_i", "_law_j"] ["_law_one", "_law_other"] (defScope s__law_product) := ⟨rfl, rfl, rfl, by decide +kernel, rfl, by decide +kernel, by decide +kernel⟩
abbrev sp__law_product (K : PySem.W.Frag) : Sp := spF K (As.cons (α := (List Int)) (As.cons (α := (List Int)) As.nil)) ((Ow.l Ow.v) : Ow (List Int)) (fun a => mir__law_product a.1 a.2.1)
theorem ok0__law_product (T : Txt K mg) {f : Addr} {fd : FuncData} (F : FnP K "_law_product" s__law_product f fd)  : FnOk P w K mg base CX0 1 f fd ["_law_one", "_law_other"] (sp__law_product K) := by
  refine fn_okD (r := (As.cons (α := (List Int)) (As.cons (α := (List Int)) As.nil))) (o := (Ow.l Ow.v)) (m := fun ar => (((((pure (0 : Int)) >>= fun a => (pure ([] : List Int)) >>= fun b => pure (a :: b)) >>= fun a => lstM a) >>= fun a => ((((pure ar.1) >>= fun a => pure (a.length : Int)) >>= fun a => ((pure ar.2.1) >>= fun a => pure (a.length : Int)) >>= fun b => pure (a + b)) >>= fun a => (pure (1 : Int)) >>= fun b => pure (a - b)) >>= fun b => repM a b) >>= fun (found1 : (List Int)) => ((((pure ar.1) >>= fun a => pure (a.length : Int)) >>= fun a => range1 a) >>= fun xs => loopM (S := ((List Int))) (ρ := (List Int)) (fun (i2 : Int) (s3 : ((List Int))) => ((((pure ar.2.1) >>= fun a => pure (a.length : Int)) >>= fun a => range1 a) >>= fun xs => loopM (S := ((List Int))) (ρ := (List Int)) (fun (j4 : Int) (s5 : ((List Int))) => ((((pure s5) >>= fun a => ((pure i2) >>= fun a => (pure j4) >>= fun b => pure (a + b)) >>= fun b => atM a b) >>= fun a => (((pure ar.1) >>= fun a => (pure i2) >>= fun b => atM a b) >>= fun a => ((pure ar.2.1) >>= fun a => (pure j4) >>= fun b => atM a b) >>= fun b => mulM a b) >>= fun b => pure (a + b)) >>= fun a => ((pure i2) >>= fun a => (pure j4) >>= fun b => pure (a + b)) >>= fun b => setM s5 b a >>= fun (found6 : (List Int)) => (pure (.nx (found6))))) xs (s3) >>= fun c => thenL c (fun (s5 : ((List Int))) => (pure (.nx (s5)))))) xs (found1) >>= fun c => thenL c (fun (s3 : ((List Int))) => (pure (.rt s3)))))) F sc__law_product rfl rfl (fun cdv A' outer s H E hr ar => ?_)
  exact ⟨_, (ss_asg 2 sc__law_product.nd (ex_rep (ex_frz (ex_lst (el_cons ex_int (el_nil (o := Ow.v))))) (ex_sub (ex_add (ex_lenL (K := K) T.n_len (ex_var 0)) (ex_lenL (K := K) T.n_len (ex_var 1))) ex_int)) (fun found1 => (ss_for (Γs := (fun (s3 : ((List Int))) => [.mk Ow.v ar.1, .mk Ow.v ar.2.1, .mk (Ow.l Ow.v) (s3 : (List Int)), .un, .un])) (found1) rfl PassesOwn.never (ei_range1 T.n_range (ex_lenL (K := K) T.n_len (ex_var 0))) (.k (.k (.k (.w (.w .n))))) (fun s3 i2 => (eg_name 3 sc__law_product.nd)) (fun s3 i2 => (ss_for (Γs := (fun (s5 : ((List Int))) => [.mk Ow.v ar.1, .mk Ow.v ar.2.1, .mk (Ow.l Ow.v) (s5 : (List Int)), .mk Ow.v i2, .un])) (s3) rfl PassesOwn.never (ei_range1 T.n_range (ex_lenL (K := K) T.n_len (ex_var 1))) (.k (.k (.k (.k (.w .n))))) (fun s5 j4 => (eg_name 4 sc__law_product.nd)) (fun s5 j4 => (ss_set 2 (ex_view (ex_add (ex_ixL (K := K) (ex_var 2) (ex_add (ex_var 3) (ex_var 4))) (ex_mul (ex_ixL (K := K) (ex_var 0) (ex_var 3)) (ex_ixL (K := K) (ex_var 1) (ex_var 4))))) (ex_add (ex_var 3) (ex_var 4)) (fun found6 => (ss_nil (found6) (.k (.k (.k (.k (.w .n))))))))) (fun s5 => (ss_nil (s5) (.k (.k (.k (.w (.w .n))))))))) (fun s3 => (ss_retO 2)))))⟩
theorem ok__law_product (T : Txt K mg) {f : Addr} {fd : FuncData} (F : FnP K "_law_product" s__law_product f fd) (hm : mg "_law_product" = some (.ref f))  : Has P w K mg base "_law_product" 1 ["_law_one", "_law_other"] (sp__law_product K) :=
  ⟨f, fd, ok0__law_product T F , hm, F.kp, F.bindsN fun _ _ _ _ _ _ us hl => match us, hl with | [_, _], _ => rfl⟩
abbrev s_law : Stmt := top 23
theorem sc_law : FnScope ["_law_script", "_law_cells_here", "_law_sizes", "_law_one", "_law_other", "_law_net_here", "_law_both", "_law_some", "_law_due", "_law_many", "_law_turn", "_law_order", "_law_x", "%tab"] ["_law_script"] (defScope s_law) := ⟨rfl, rfl, rfl, by decide +kernel, rfl, by decide +kernel, by decide +kernel⟩
abbrev sp_law (K : PySem.W.Frag) : Sp := spT K (tbP K) (As.cons (α := Scr) As.nil) (Ow.v : Ow Bool) (fun a => mir_law a.1)
theorem ok0_law (T : Txt K mg) (TBh : LamX.TabB base mg (tbC K) (tbP K)) {fd : FuncData} (F : FnP K "law" s_law (He.fAd K ("law", none)) fd) (H__law_cells : Has P w K mg base "_law_cells" 2 ["_law_script", "_law_least"] (sp__law_cells K)) (H__law_net : Has P w K mg base "_law_net" 1 ["_law_cells_here", "_law_size"] (sp__law_net K)) (H__law_digit_net : Has P w K mg base "_law_digit_net" 1 ["_law_cell", "_law_size"] (sp__law_digit_net K)) (H__law_beside : Has P w K mg base "_law_beside" 3 ["_law_one", "_law_other", "_law_turns"] (sp__law_beside K)) (H_counts_of : ∃ f fd, FnOk P w K mg base CX0 11 f fd ["net", "order"] (sp_counts_of K) ∧ mg "counts_of" = some (.ref f) ∧ PySem.W.keepIn K (.ref f) = true ∧ Binds K fd ["net", "order"] [] ∧ Binds K fd ["net", "order"] [.none]) (H__law_row_is : Has P w K mg base "_law_row_is" 1 ["_law_found", "_law_due"] (sp__law_row_is K)) (H__law_product : Has P w K mg base "_law_product" 1 ["_law_one", "_law_other"] (sp__law_product K)) (H_worth_at : Has P w K mg base "worth_at" 1 ["counts", "x"] (sp_worth_at K)) : FnOk P w K mg base CX0 12 (He.fAd K ("law", none)) fd ["_law_script"] (sp_law K) := by
  obtain ⟨f__law_cells, fd__law_cells, F__law_cells, m__law_cells, k__law_cells, b__law_cells⟩ := H__law_cells
  obtain ⟨f__law_net, fd__law_net, F__law_net, m__law_net, k__law_net, b__law_net⟩ := H__law_net
  obtain ⟨f__law_digit_net, fd__law_digit_net, F__law_digit_net, m__law_digit_net, k__law_digit_net, b__law_digit_net⟩ := H__law_digit_net
  obtain ⟨f__law_beside, fd__law_beside, F__law_beside, m__law_beside, k__law_beside, b__law_beside⟩ := H__law_beside
  obtain ⟨f_counts_of, fd_counts_of, F_counts_of, m_counts_of, k_counts_of, b_counts_of, bD_counts_of⟩ := H_counts_of
  obtain ⟨f__law_row_is, fd__law_row_is, F__law_row_is, m__law_row_is, k__law_row_is, b__law_row_is⟩ := H__law_row_is
  obtain ⟨f__law_product, fd__law_product, F__law_product, m__law_product, k__law_product, b__law_product⟩ := H__law_product
  obtain ⟨f_worth_at, fd_worth_at, F_worth_at, m_worth_at, k_worth_at, b_worth_at⟩ := H_worth_at
  refine fn_okT (j := 12) (r := (As.cons (α := Scr) As.nil)) (o := Ow.v) (m := fun ar => ((((pure ar.1) >>= fun a => ((pure (18 : Int)) >>= fun a => (pure ()) >>= fun b => pure (a, b)) >>= fun b => pure (a, b)) >>= fun a => mir__law_cells a.1 a.2.1) >>= fun (cells_here1 : (List Int)) => ((((pure (1 : Int)) >>= fun a => ((((pure cells_here1) >>= fun a => (pure (0 : Int)) >>= fun b => atM a b) >>= fun a => pure (a / (2 : Int))) >>= fun a => pure (a % (3 : Int))) >>= fun b => pure (a + b)) >>= fun a => ((pure (1 : Int)) >>= fun a => ((((pure cells_here1) >>= fun a => (pure (0 : Int)) >>= fun b => atM a b) >>= fun a => pure (a / (6 : Int))) >>= fun a => pure (a % (3 : Int))) >>= fun b => pure (a + b)) >>= fun b => pure (a, b)) >>= fun (sizes2 : (Int × Int)) => (((((pure cells_here1) >>= fun a => ((pure (3 : Int)) >>= fun i => pure (some i)) >>= fun l => ((pure (9 : Int)) >>= fun i => pure (some i)) >>= fun u => pure (cutL a l u)) >>= fun a => (((pure sizes2) >>= fun a => pure a.1) >>= fun a => (pure ()) >>= fun b => pure (a, b)) >>= fun b => pure (a, b)) >>= fun a => mir__law_net a.1 a.2.1) >>= fun (one3 : (List Int)) => (((((pure cells_here1) >>= fun a => ((pure (9 : Int)) >>= fun i => pure (some i)) >>= fun l => ((pure (15 : Int)) >>= fun i => pure (some i)) >>= fun u => pure (cutL a l u)) >>= fun a => (((pure sizes2) >>= fun a => pure a.2) >>= fun a => (pure ()) >>= fun b => pure (a, b)) >>= fun b => pure (a, b)) >>= fun a => mir__law_net a.1 a.2.1) >>= fun (other4 : (List Int)) => ((bAnd (((pure ar.1) >>= fun a => pure (a.l.length : Int)) >>= fun a => (pure (0 : Int)) >>= fun b => pure (decide (b < a))) ((((pure ar.1) >>= fun a => (pure (0 : Int)) >>= fun b => atM a.l b) >>= fun a => pure (a % (2 : Int))) >>= fun a => (pure (1 : Int)) >>= fun b => pure (decide (a = b)))) >>= fun x => ((if x then (((((pure cells_here1) >>= fun a => (pure (3 : Int)) >>= fun b => atM a b) >>= fun a => (((pure sizes2) >>= fun a => pure a.1) >>= fun a => (pure ()) >>= fun b => pure (a, b)) >>= fun b => pure (a, b)) >>= fun a => mir__law_digit_net a.1 a.2.1) >>= fun (one6 : (List Int)) => (((((pure cells_here1) >>= fun a => (pure (4 : Int)) >>= fun b => atM a b) >>= fun a => (((pure sizes2) >>= fun a => pure a.2) >>= fun a => (pure ()) >>= fun b => pure (a, b)) >>= fun b => pure (a, b)) >>= fun a => mir__law_digit_net a.1 a.2.1) >>= fun (other7 : (List Int)) => (pure (.nx (one6, other7))))) else (pure (.nx (one3, other4)))) : M (Ctl ((List Int) × (List Int)) Empty Bool)) >>= fun y => thenC y (fun (s5 : ((List Int) × (List Int))) => (((pure s5.1) >>= fun a => ((pure s5.2) >>= fun a => ((((((pure cells_here1) >>= fun a => (pure (0 : Int)) >>= fun b => atM a b) >>= fun a => pure (a / (18 : Int))) >>= fun a => pure (a % (2 : Int))) >>= fun a => (pure (1 : Int)) >>= fun b => pure (decide (a = b))) >>= fun a => (pure ()) >>= fun b => pure (a, b)) >>= fun b => pure (a, b)) >>= fun b => pure (a, b)) >>= fun a => mir__law_beside a.1 a.2.1 a.2.2.1 >>= fun (net_here8 : (List Int)) => ((((((pure s5.1) >>= fun a => (pure ()) >>= fun b => pure (a, b)) >>= fun a => mir_counts_of a.1 ⟨none⟩) >>= fun a => ((((pure s5.2) >>= fun a => (pure ()) >>= fun b => pure (a, b)) >>= fun a => mir_counts_of a.1 ⟨none⟩) >>= fun a => (pure ([] : List (List Int))) >>= fun b => pure (a :: b)) >>= fun b => pure (a :: b)) >>= fun a => lstM a) >>= fun (both9 : (List (List Int))) => ((pure both9) >>= fun xs => loopM (S := Unit) (ρ := Bool) (fun (some10 : (List Int)) (s11 : Unit) => ((bOr (bNot ((pure some10) >>= fun _ => pure true)) (bNot (((pure some10) >>= fun a => (((pure some10) >>= fun a => pure a) >>= fun a => (pure ()) >>= fun b => pure (a, b)) >>= fun b => pure (a, b)) >>= fun a => mir__law_row_is a.1 a.2.1))) >>= fun x => if x then ((((pure false) >>= fun r => pure (.rt r)) : M (Ctl Empty Unit Bool)) >>= fun y => thenC y nofun) else (pure (.nx ())))) xs () >>= fun c => thenL c (fun (s11 : Unit) => (((((pure both9) >>= fun a => (pure (0 : Int)) >>= fun b => atM a b) >>= fun a => (((pure both9) >>= fun a => (pure (1 : Int)) >>= fun b => atM a b) >>= fun a => (pure ()) >>= fun b => pure (a, b)) >>= fun b => pure (a, b)) >>= fun a => mir__law_product a.1 a.2.1) >>= fun (due12 : (List Int)) => ((((pure net_here8) >>= fun a => pure (a.length : Int)) >>= fun a => pure (a / (4 : Int))) >>= fun (many13 : Int) => ((((pure cells_here1) >>= fun a => (pure (1 : Int)) >>= fun b => atM a b) >>= fun a => (pure many13) >>= fun b => modM a b) >>= fun (turn14 : Int) => (((((pure many13) >>= fun a => lrange 0 a) >>= fun a => ((pure turn14) >>= fun i => pure (some i)) >>= fun l => (pure none) >>= fun u => pure (cutL a l u)) >>= fun a => ((((pure many13) >>= fun a => lrange 0 a) >>= fun a => (pure none) >>= fun l => ((pure turn14) >>= fun i => pure (some i)) >>= fun u => pure (cutL a l u)) >>= fun a => pure a.reverse) >>= fun b => catM a b) >>= fun (order15 : (List Int)) => ((bOr (bNot (((((pure net_here8) >>= fun a => (pure ()) >>= fun b => pure (a, b)) >>= fun a => mir_counts_of a.1 ⟨none⟩) >>= fun a => ((pure due12) >>= fun a => (pure ()) >>= fun b => pure (a, b)) >>= fun b => pure (a, b)) >>= fun a => mir__law_row_is a.1 a.2.1)) (bNot (((((pure net_here8) >>= fun a => (((pure order15) >>= fun a => pure (⟨some a⟩ : Op (List Int))) >>= fun a => (pure ()) >>= fun b => pure (a, b)) >>= fun b => pure (a, b)) >>= fun a => mir_counts_of a.1 a.2.1) >>= fun a => ((pure due12) >>= fun a => (pure ()) >>= fun b => pure (a, b)) >>= fun b => pure (a, b)) >>= fun a => mir__law_row_is a.1 a.2.1))) >>= fun x => if x then ((((pure false) >>= fun r => pure (.rt r)) : M (Ctl Empty Empty Bool)) >>= fun y => thenC y nofun) else (((((pure cells_here1) >>= fun a => (pure (2 : Int)) >>= fun b => atM a b) >>= fun a => pure (a % (41 : Int))) >>= fun a => (pure (20 : Int)) >>= fun b => pure (a - b)) >>= fun (x16 : Int) => (((((((pure net_here8) >>= fun a => (pure ()) >>= fun b => pure (a, b)) >>= fun a => mir_counts_of a.1 ⟨none⟩) >>= fun a => ((pure x16) >>= fun a => (pure ()) >>= fun b => pure (a, b)) >>= fun b => pure (a, b)) >>= fun a => mir_worth_at a.1 a.2.1) >>= fun a => (((((pure both9) >>= fun a => (pure (0 : Int)) >>= fun b => atM a b) >>= fun a => ((pure x16) >>= fun a => (pure ()) >>= fun b => pure (a, b)) >>= fun b => pure (a, b)) >>= fun a => mir_worth_at a.1 a.2.1) >>= fun a => ((((pure both9) >>= fun a => (pure (1 : Int)) >>= fun b => atM a b) >>= fun a => ((pure x16) >>= fun a => (pure ()) >>= fun b => pure (a, b)) >>= fun b => pure (a, b)) >>= fun a => mir_worth_at a.1 a.2.1) >>= fun b => mulM a b) >>= fun b => pure (decide (a = b))) >>= fun r => pure (.rt r))))))))))))))))))) (tbP K) (codeAt_of F) F sc_law rfl rfl (fun y hy => by cases hy; exact gh_of rfl) (fun A' outer s H E hr ar => ?_)
  have hr__law_cells := hr.mono (show 2 ≤ 11 by decide)
  have hr__law_net := hr.mono (show 1 ≤ 11 by decide)
  have hr__law_digit_net := hr.mono (show 1 ≤ 11 by decide)
  have hr__law_beside := hr.mono (show 3 ≤ 11 by decide)
  have hr_counts_of := hr.mono (show 11 ≤ 11 by decide)
  have hr__law_row_is := hr.mono (show 1 ≤ 11 by decide)
  have hr__law_product := hr.mono (show 1 ≤ 11 by decide)
  have hr_worth_at := hr.mono (show 1 ≤ 11 by decide)
  exact ⟨_, (ss_asg 1 sc_law.nd (ex_frz (ex_call F__law_cells hr__law_cells m__law_cells k__law_cells b__law_cells (ea_cons (ex_var 0) (ea_cons ex_int ea_nil)))) (fun cells_here1 => (ss_asg 2 sc_law.nd (ex_pair (ex_add ex_int (ex_modc (ex_fdivc (ex_ixL (K := K) (ex_var 1) ex_int)))) (ex_add ex_int (ex_modc (ex_fdivc (ex_ixL (K := K) (ex_var 1) ex_int))))) (fun sizes2 => (ss_asg 3 sc_law.nd (ex_frz (ex_view (ex_call F__law_net hr__law_net m__law_net k__law_net b__law_net (ea_cons (ex_frz (ex_cutL (K := K) (ex_var 1) (eo_some ex_int) (eo_some ex_int))) (ea_cons (ex_ixP0 (K := K) (ex_var 2)) ea_nil))))) (fun one3 => (ss_asg 4 sc_law.nd (ex_frz (ex_view (ex_call F__law_net hr__law_net m__law_net k__law_net b__law_net (ea_cons (ex_frz (ex_cutL (K := K) (ex_var 1) (eo_some ex_int) (eo_some ex_int))) (ea_cons (ex_ixP1 (K := K) (ex_var 2)) ea_nil))))) (fun other4 => (ss_if (Γ1 := (fun (s5 : ((List Int) × (List Int))) => [.mk Ow.v ar.1, .mk Ow.v cells_here1, .mk (Ow.p Ow.v Ow.v) sizes2, .mk Ow.v (s5.1 : (List Int)), .mk Ow.v (s5.2 : (List Int)), .un, .un, .un, .un, .un, .un, .un, .un, .mk (Ow.tab (tbP K)) Tbv.mk])) (ew_pt (ew_and (et_c (ec_gt (ex_lenScr (K := K) T.n_len (ex_var 0)) ex_int)) (ew_and1 (et_c (ec_eq (ex_modc (ex_ixScr (K := K) (ex_var 0) ex_int)) ex_int))))) (ss_asg 3 sc_law.nd (ex_frz (ex_view (ex_call F__law_digit_net hr__law_digit_net m__law_digit_net k__law_digit_net b__law_digit_net (ea_cons (ex_ixL (K := K) (ex_var 1) ex_int) (ea_cons (ex_ixP0 (K := K) (ex_var 2)) ea_nil))))) (fun one6 => (ss_asg 4 sc_law.nd (ex_frz (ex_view (ex_call F__law_digit_net hr__law_digit_net m__law_digit_net k__law_digit_net b__law_digit_net (ea_cons (ex_ixL (K := K) (ex_var 1) ex_int) (ea_cons (ex_ixP1 (K := K) (ex_var 2)) ea_nil))))) (fun other7 => (ss_nil (one6, other7) (.k (.k (.k (.k (.k (.w (.w (.w (.w (.w (.w (.w (.w (.k .n))))))))))))))))))) (ss_nil (one3, other4) (.k (.k (.k (.k (.k (.w (.w (.w (.w (.w (.w (.w (.w (.k .n))))))))))))))) (fun s5 => (ss_asgCallT (P := tbP K) 13 5 sc_law.nd F__law_beside hr__law_beside m__law_beside k__law_beside b__law_beside (ea_cons (ex_var 3) (ea_cons (ex_var 4) (ea_cons (ex_c (ec_eq (ex_modc (ex_fdivc (ex_ixL (K := K) (ex_var 1) ex_int))) ex_int)) ea_nil))) (fun net_here8 => (ss_frz 5 rfl (ss_asg 6 sc_law.nd (ex_frz (ex_lst (el_cons (ex_frz (ex_callD (A' := (List Int) × Unit) (fun a => (a.1, (⟨none⟩ : (Op (List Int))), ())) (happD1 (K := K)) F_counts_of hr_counts_of m_counts_of k_counts_of bD_counts_of (ea_cons (ex_var 3) ea_nil))) (el_cons (ex_frz (ex_callD (A' := (List Int) × Unit) (fun a => (a.1, (⟨none⟩ : (Op (List Int))), ())) (happD1 (K := K)) F_counts_of hr_counts_of m_counts_of k_counts_of bD_counts_of (ea_cons (ex_var 4) ea_nil))) (el_nil (o := Ow.v)))))) (fun both9 => (ss_for (Γs := (fun (s11 : Unit) => [.mk Ow.v ar.1, .mk Ow.v cells_here1, .mk (Ow.p Ow.v Ow.v) sizes2, .mk Ow.v s5.1, .mk Ow.v s5.2, .mk Ow.v net_here8, .mk Ow.v both9, .un, .un, .un, .un, .un, .un, .mk Ow.v Tbv.mk])) () rfl PassesOwn.never (ei_list (K := K) (ex_var 6)) (.k (.k (.k (.k (.k (.k (.k (.w (.w (.w (.w (.w (.w (.k .n)))))))))))))) (fun s11 some10 => (eg_name 7 sc_law.nd)) (fun s11 some10 => (ss_ifR (ew_pt (ew_or (et_not (et_val (ex_isi (K := K) T.n_isinstance T.n_list boot_list (ex_var 7) (by decide +kernel)))) (ew_or1 (et_not (et_val (ex_call F__law_row_is hr__law_row_is m__law_row_is k__law_row_is b__law_row_is (ea_cons (ex_var 7) (ea_cons (ex_frz (ex_listL (K := K) T.n_list (ex_var 7))) ea_nil)))))))) (ss_ret ex_bl) (ss_nil () (.k (.k (.k (.k (.k (.k (.k (.w (.w (.w (.w (.w (.w (.k .n))))))))))))))))) (fun s11 => (ss_asg 8 sc_law.nd (ex_call F__law_product hr__law_product m__law_product k__law_product b__law_product (ea_cons (ex_ixL (K := K) (ex_var 6) ex_int) (ea_cons (ex_ixL (K := K) (ex_var 6) ex_int) ea_nil))) (fun due12 => (ss_asg 9 sc_law.nd (ex_fdivc (ex_lenL (K := K) T.n_len (ex_var 5))) (fun many13 => (ss_asg 10 sc_law.nd (ex_mod (ex_ixL (K := K) (ex_var 1) ex_int) (ex_var 9)) (fun turn14 => (ss_asg 11 sc_law.nd (ex_cat (ex_frz (ex_cutL (K := K) (ex_frz (ex_listRg1 rfl T.n_list T.n_range (ex_var 9))) (eo_some (ex_var 10)) eo_none)) (ex_frz (ex_listRev (K := K) rfl T.n_list T.n_reversed (ex_frz (ex_cutL (K := K) (ex_frz (ex_listRg1 rfl T.n_list T.n_range (ex_var 9))) eo_none (eo_some (ex_var 10))))))) (fun order15 => (ss_ifR (et_view (ew_pt (ew_or (et_not (et_val (ex_call F__law_row_is hr__law_row_is m__law_row_is k__law_row_is b__law_row_is (ea_cons (ex_frz (ex_callD (A' := (List Int) × Unit) (fun a => (a.1, (⟨none⟩ : (Op (List Int))), ())) (happD1 (K := K)) F_counts_of hr_counts_of m_counts_of k_counts_of bD_counts_of (ea_cons (ex_var 5) ea_nil))) (ea_cons (ex_var 8) ea_nil))))) (ew_or1 (et_not (et_val (ex_call F__law_row_is hr__law_row_is m__law_row_is k__law_row_is b__law_row_is (ea_cons (ex_frz (ex_call F_counts_of hr_counts_of m_counts_of k_counts_of b_counts_of (ea_cons (ex_var 5) (ea_cons (ex_frz (ex_opS (w := Ow.v) (ex_var 11))) ea_nil)))) (ea_cons (ex_var 8) ea_nil))))))))) (ss_ret ex_bl) (ss_asg 12 sc_law.nd (ex_sub (ex_modc (ex_ixL (K := K) (ex_var 1) ex_int)) ex_int) (fun x16 => (ss_ret (ex_c (ec_eq (ex_call F_worth_at hr_worth_at m_worth_at k_worth_at b_worth_at (ea_cons (ex_frz (ex_callD (A' := (List Int) × Unit) (fun a => (a.1, (⟨none⟩ : (Op (List Int))), ())) (happD1 (K := K)) F_counts_of hr_counts_of m_counts_of k_counts_of bD_counts_of (ea_cons (ex_var 5) ea_nil))) (ea_cons (ex_var 12) ea_nil))) (ex_mul (ex_call F_worth_at hr_worth_at m_worth_at k_worth_at b_worth_at (ea_cons (ex_ixL (K := K) (ex_var 6) ex_int) (ea_cons (ex_var 12) ea_nil))) (ex_call F_worth_at hr_worth_at m_worth_at k_worth_at b_worth_at (ea_cons (ex_ixL (K := K) (ex_var 6) ex_int) (ea_cons (ex_var 12) ea_nil)))))))))))))))))))))))))))))))))))⟩
end
/-! ### the head -/
def d_joined : He.DefD := ⟨("joined", none), "joined", "joined", defArgs s_joined, defBody s_joined, defScope s_joined, [], []⟩
def d_places_in : He.DefD := ⟨("places_in", none), "places_in", "places_in", defArgs s_places_in, defBody s_places_in, defScope s_places_in, [], []⟩
def d_added : He.DefD := ⟨("added", none), "added", "added", defArgs s_added, defBody s_added, defScope s_added, [], []⟩
def d_tied_on : He.DefD := ⟨("tied_on", none), "tied_on", "tied_on", defArgs s_tied_on, defBody s_tied_on, defScope s_tied_on, [], []⟩
def d_counts_by : He.DefD := ⟨("counts_by", none), "counts_by", "counts_by", defArgs s_counts_by, defBody s_counts_by, defScope s_counts_by, [], []⟩
def d_counts_of : He.DefD := ⟨("counts_of", none), "counts_of", "counts_of", defArgs s_counts_of, defBody s_counts_of, defScope s_counts_of, [.non], []⟩
def d_worth_at : He.DefD := ⟨("worth_at", none), "worth_at", "worth_at", defArgs s_worth_at, defBody s_worth_at, defScope s_worth_at, [], []⟩
def d__law_mixed : He.DefD := ⟨("_law_mixed", none), "_law_mixed", "_law_mixed", defArgs s__law_mixed, defBody s__law_mixed, defScope s__law_mixed, [], []⟩
def d__law_cells : He.DefD := ⟨("_law_cells", none), "_law_cells", "_law_cells", defArgs s__law_cells, defBody s__law_cells, defScope s__law_cells, [], []⟩
def d__law_net : He.DefD := ⟨("_law_net", none), "_law_net", "_law_net", defArgs s__law_net, defBody s__law_net, defScope s__law_net, [], []⟩
def d__law_digit_net : He.DefD := ⟨("_law_digit_net", none), "_law_digit_net", "_law_digit_net", defArgs s__law_digit_net, defBody s__law_digit_net, defScope s__law_digit_net, [], []⟩
def d__law_row_is : He.DefD := ⟨("_law_row_is", none), "_law_row_is", "_law_row_is", defArgs s__law_row_is, defBody s__law_row_is, defScope s__law_row_is, [], []⟩
def d__law_beside : He.DefD := ⟨("_law_beside", none), "_law_beside", "_law_beside", defArgs s__law_beside, defBody s__law_beside, defScope s__law_beside, [], []⟩
def d__law_product : He.DefD := ⟨("_law_product", none), "_law_product", "_law_product", defArgs s__law_product, defBody s__law_product, defScope s__law_product, [], []⟩
def d_law : He.DefD := ⟨("law", none), "law", "law", defArgs s_law, defBody s_law, defScope s_law, [], []⟩
def fn : List He.DefD := [d_joined, d_places_in, d_added, d_tied_on, d_counts_by, d_counts_of, d_worth_at, d__law_mixed, d__law_cells, d__law_net, d__law_digit_net, d__law_row_is, d__law_beside, d__law_product, d_law]
def fa : List He.Fa := [.glo "joined", .glo "places_in", .glo "added", .glo "tied_on", .glo "counts_by", .glo "counts_of", .glo "worth_at", .glo "_law_mixed", .glo "_law_cells", .glo "_law_net", .glo "_law_digit_net", .glo "_law_row_is", .glo "_law_beside", .glo "_law_product", .glo "law", .free "bool", .free "dict", .free "enumerate", .free "int", .free "isinstance", .free "len", .free "list", .free "max", .free "min", .free "range", .free "reversed", .free "sorted", .free "zip", .glo "JOINS", .int "MOST" (6 : Int)]
abbrev R : PySem.W.OpenRow := PySem.W.OpenLaw.row PySem.Challenge.rw_fourway_k77_whole_parted_nets
def exB (K : PySem.W.Frag) : Bool := tup2B "JOINS" [[1, 0, 3, 2], [2, 3, 0, 1], [3, 2, 1, 0]] K
abbrev hk : PySem.W.Hook := He.hookX 4 fa fn [] [tbD] exB
def ob (s : PySem.W.SharedT) : He.AlX := He.obsX 4 fa fn [] [tbD] exB (HandSHeadRun.getT s)
theorem ob_eq (s : PySem.W.SharedT) : ob s = hk.obs s.abs := He.obsX_eq (HandSHeadRun.getT_eq s)
theorem run (w : World) : HandSHeadRun.RunEq R (PySem.W.view R.prog [23]) hk ob 4000 ((["RoundError", "TooMany", "JOINS", "joined", "places_in", "MOST", "added", "tied_on", "counts_by", "counts_of", "worth_at", "_law_mixed", "_law_cells", "_law_net", "_law_digit_net", "_law_row_is", "_law_beside", "_law_product"] : List PySem.Str)) w := by
  intro os
  kernel_rfl
theorem facts {P : Program} {w : World} {K : PySem.W.Frag} {h : Heap} {mg : Str → Option Value} {f : Addr} (X : K.In h) (G : h.Ns mainGlobals mg) (hfa : mg ("law" : Str) = some (.ref f)) (c : He.SaysX fa fn [] [tbD] exB w h K) :
    ∃ fd : FuncData, (∀ (s : Shared) (v : Value), BindsTo s fd ⟨[v], []⟩ [("_law_script", v)]) ∧ ∀ base : Heap, K.In base → base.Ns mainGlobals mg → LamX.TabB base mg (tbC K) (tbP K) → FnOk P w K mg base CX0 12 f fd ["_law_script"] (sp_law K) := by
  have cx := c.more
  have c := c.t.d
  unfold exB at cx
  obtain ⟨fd_joined, F_joined⟩ := c.def_ 0 (d := d_joined) rfl
  obtain ⟨fd_places_in, F_places_in⟩ := c.def_ 1 (d := d_places_in) rfl
  obtain ⟨fd_added, F_added⟩ := c.def_ 2 (d := d_added) rfl
  obtain ⟨fd_tied_on, F_tied_on⟩ := c.def_ 3 (d := d_tied_on) rfl
  obtain ⟨fd_counts_by, F_counts_by⟩ := c.def_ 4 (d := d_counts_by) rfl
  obtain ⟨fd_counts_of, F_counts_of⟩ := c.def_ 5 (d := d_counts_of) rfl
  obtain ⟨fd_worth_at, F_worth_at⟩ := c.def_ 6 (d := d_worth_at) rfl
  obtain ⟨fd__law_mixed, F__law_mixed⟩ := c.def_ 7 (d := d__law_mixed) rfl
  obtain ⟨fd__law_cells, F__law_cells⟩ := c.def_ 8 (d := d__law_cells) rfl
  obtain ⟨fd__law_net, F__law_net⟩ := c.def_ 9 (d := d__law_net) rfl
  obtain ⟨fd__law_digit_net, F__law_digit_net⟩ := c.def_ 10 (d := d__law_digit_net) rfl
  obtain ⟨fd__law_row_is, F__law_row_is⟩ := c.def_ 11 (d := d__law_row_is) rfl
  obtain ⟨fd__law_beside, F__law_beside⟩ := c.def_ 12 (d := d__law_beside) rfl
  obtain ⟨fd__law_product, F__law_product⟩ := c.def_ 13 (d := d__law_product) rfl
  obtain ⟨fd_law, F_law⟩ := c.def_ 14 (d := d_law) rfl
  have m_joined := He.glo_ok X G (c.fact 0 (f := .glo "joined") rfl)
  have m_places_in := He.glo_ok X G (c.fact 1 (f := .glo "places_in") rfl)
  have m_added := He.glo_ok X G (c.fact 2 (f := .glo "added") rfl)
  have m_tied_on := He.glo_ok X G (c.fact 3 (f := .glo "tied_on") rfl)
  have m_counts_by := He.glo_ok X G (c.fact 4 (f := .glo "counts_by") rfl)
  have m_counts_of := He.glo_ok X G (c.fact 5 (f := .glo "counts_of") rfl)
  have m_worth_at := He.glo_ok X G (c.fact 6 (f := .glo "worth_at") rfl)
  have m__law_mixed := He.glo_ok X G (c.fact 7 (f := .glo "_law_mixed") rfl)
  have m__law_cells := He.glo_ok X G (c.fact 8 (f := .glo "_law_cells") rfl)
  have m__law_net := He.glo_ok X G (c.fact 9 (f := .glo "_law_net") rfl)
  have m__law_digit_net := He.glo_ok X G (c.fact 10 (f := .glo "_law_digit_net") rfl)
  have m__law_row_is := He.glo_ok X G (c.fact 11 (f := .glo "_law_row_is") rfl)
  have m__law_beside := He.glo_ok X G (c.fact 12 (f := .glo "_law_beside") rfl)
  have m__law_product := He.glo_ok X G (c.fact 13 (f := .glo "_law_product") rfl)
  have m_law := He.glo_ok X G (c.fact 14 (f := .glo "law") rfl)
  have T : Txt K mg := ⟨He.free_ok X G (c.fact 15 (f := .free "bool") rfl), He.free_ok X G (c.fact 16 (f := .free "dict") rfl), He.free_ok X G (c.fact 17 (f := .free "enumerate") rfl), He.free_ok X G (c.fact 18 (f := .free "int") rfl), He.free_ok X G (c.fact 19 (f := .free "isinstance") rfl), He.free_ok X G (c.fact 20 (f := .free "len") rfl), He.free_ok X G (c.fact 21 (f := .free "list") rfl), He.free_ok X G (c.fact 22 (f := .free "max") rfl), He.free_ok X G (c.fact 23 (f := .free "min") rfl), He.free_ok X G (c.fact 24 (f := .free "range") rfl), He.free_ok X G (c.fact 25 (f := .free "reversed") rfl), He.free_ok X G (c.fact 26 (f := .free "sorted") rfl), He.free_ok X G (c.fact 27 (f := .free "zip") rfl), ⟨He.glo_ok X G (c.fact 28 (f := .glo "JOINS") rfl), fun H => tup2B_ok cx H⟩, He.int_ok X G (c.fact 29 (f := .int "MOST" (6 : Int)) rfl)⟩
  have e := hfa.symm.trans m_law
  cases e
  refine ⟨fd_law, fun s v => FunD.bindsA (ps := ["_law_script"]) F_law (fun _ _ _ _ _ _ us hl => match us, hl with | [_], _ => rfl) s [v] rfl, fun base _ _ TBh => ?_⟩
  have H_joined : Has P w K mg base "joined" 1 ["way", "seat"] (sp_joined K) := ok_joined T F_joined m_joined 
  have H_places_in : Has P w K mg base "places_in" 1 ["net"] (sp_places_in K) := ok_places_in T F_places_in m_places_in 
  have H_added : Has P w K mg base "added" 1 ["one", "other"] (sp_added K) := ok_added T F_added m_added 
  have H_tied_on : Has P w K mg base "tied_on" 2 ["ties", "place", "way"] (sp_tied_on K) := ok_tied_on T F_tied_on m_tied_on H_joined
  have H_counts_by : Has P w K mg base "counts_by" 10 ["ties", "order"] (sp_counts_by K) := ok_counts_by T F_counts_by m_counts_by H_tied_on H_added
  have H_counts_of : ∃ f fd, FnOk P w K mg base CX0 11 f fd ["net", "order"] (sp_counts_of K) ∧ mg "counts_of" = some (.ref f) ∧ PySem.W.keepIn K (.ref f) = true ∧ Binds K fd ["net", "order"] [] ∧ Binds K fd ["net", "order"] [.none] := ok_counts_of T F_counts_of m_counts_of H_places_in H_counts_by
  have H_worth_at : Has P w K mg base "worth_at" 1 ["counts", "x"] (sp_worth_at K) := ok_worth_at T F_worth_at m_worth_at 
  have H__law_mixed : Has P w K mg base "_law_mixed" 1 ["_law_script", "_law_least"] (sp__law_mixed K) := ok__law_mixed T F__law_mixed m__law_mixed 
  have H__law_cells : Has P w K mg base "_law_cells" 2 ["_law_script", "_law_least"] (sp__law_cells K) := ok__law_cells T F__law_cells m__law_cells H__law_mixed
  have H__law_net : Has P w K mg base "_law_net" 1 ["_law_cells_here", "_law_size"] (sp__law_net K) := ok__law_net T F__law_net m__law_net 
  have H__law_digit_net : Has P w K mg base "_law_digit_net" 1 ["_law_cell", "_law_size"] (sp__law_digit_net K) := ok__law_digit_net T F__law_digit_net m__law_digit_net 
  have H__law_row_is : Has P w K mg base "_law_row_is" 1 ["_law_found", "_law_due"] (sp__law_row_is K) := ok__law_row_is T F__law_row_is m__law_row_is 
  have H__law_beside : Has P w K mg base "_law_beside" 3 ["_law_one", "_law_other", "_law_turns"] (sp__law_beside K) := ok__law_beside T TBh F__law_beside m__law_beside 
  have H__law_product : Has P w K mg base "_law_product" 1 ["_law_one", "_law_other"] (sp__law_product K) := ok__law_product T F__law_product m__law_product 
  exact ok0_law T TBh F_law H__law_cells H__law_net H__law_digit_net H__law_beside H_counts_of H__law_row_is H__law_product H_worth_at
end Law

/-! ## Gf1: rows of bits as numbers, what they span, ranks -/
namespace Gf
theorem xs (a b : Nat) : (a ^^^ b) ^^^ b = a := by rw [Nat.xor_assoc, Nat.xor_self, Nat.xor_zero]
theorem xs' (a b : Nat) : b ^^^ (b ^^^ a) = a := by rw [← Nat.xor_assoc, Nat.xor_self, Nat.zero_xor]
/-- all sums of some of the rows, one for each choice of rows -/
def sp : List Nat → List Nat
  | [] => [0]
  | k :: ks => sp ks ++ (sp ks).map (· ^^^ k)
theorem sp_len : ∀ ks : List Nat, (sp ks).length = 2 ^ ks.length
  | [] => rfl
  | k :: ks => by
    show (sp ks ++ (sp ks).map (· ^^^ k)).length = _
    rw [List.length_append, List.length_map, sp_len ks, List.length_cons, Nat.pow_succ]; omega
theorem sp_cons {k : Nat} {ks : List Nat} {v : Nat} : v ∈ sp (k :: ks) ↔ v ∈ sp ks ∨ v ^^^ k ∈ sp ks := by
  show v ∈ sp ks ++ (sp ks).map (· ^^^ k) ↔ _
  rw [List.mem_append, List.mem_map]
  constructor
  · rintro (h | ⟨w, h, rfl⟩)
    · exact .inl h
    · exact .inr (by rw [xs]; exact h)
  · rintro (h | h)
    · exact .inl h
    · exact .inr ⟨_, h, xs _ _⟩
theorem sp_zero : ∀ ks : List Nat, 0 ∈ sp ks
  | [] => by simp [sp]
  | k :: ks => sp_cons.mpr (.inl (sp_zero ks))
theorem sp_xor : ∀ {ks : List Nat} {u v : Nat}, u ∈ sp ks → v ∈ sp ks → u ^^^ v ∈ sp ks
  | [], u, v, h, h' => by
    simp [sp] at h h' ⊢
    rw [h, h']; rfl
  | k :: ks, u, v, h, h' => by
    rw [sp_cons] at h h' ⊢
    rcases h with h | h <;> rcases h' with h' | h'
    · exact .inl (sp_xor h h')
    · exact .inr (by rw [Nat.xor_assoc]; exact sp_xor h h')
    · refine .inr ?_
      have := sp_xor h h'
      rwa [Nat.xor_assoc, Nat.xor_comm k v, ← Nat.xor_assoc] at this
    · refine .inl ?_
      have := sp_xor h h'
      rwa [Nat.xor_comm v k, ← Nat.xor_assoc, xs] at this
theorem sp_mem : ∀ {ks : List Nat} {k : Nat}, k ∈ ks → k ∈ sp ks
  | j :: ks, k, h => by
    rw [sp_cons]
    rcases List.mem_cons.mp h with e | h
    · subst e; exact .inr (by rw [Nat.xor_self]; exact sp_zero ks)
    · exact .inl (sp_mem h)
theorem sp_sub : ∀ {ks ls : List Nat}, (∀ k ∈ ks, k ∈ sp ls) → ∀ v ∈ sp ks, v ∈ sp ls
  | [], ls, _, v, hv => by
    simp [sp] at hv
    subst hv; exact sp_zero ls
  | k :: ks, ls, h, v, hv => by
    have h' := fun x hx => h x (List.mem_cons_of_mem _ hx)
    rcases sp_cons.mp hv with hv | hv
    · exact sp_sub h' v hv
    · have := sp_xor (sp_sub h' _ hv) (h k (List.mem_cons_self ..))
      rwa [xs] at this
def Eqs (ks ls : List Nat) : Prop := ∀ v, v ∈ sp ks ↔ v ∈ sp ls
theorem Eqs.of {ks ls : List Nat} (h : ∀ k ∈ ks, k ∈ sp ls) (h' : ∀ k ∈ ls, k ∈ sp ks) : Eqs ks ls := fun v => ⟨sp_sub h v, sp_sub h' v⟩
theorem Eqs.refl (ks : List Nat) : Eqs ks ks := fun _ => Iff.rfl
theorem Eqs.symm {ks ls : List Nat} (h : Eqs ks ls) : Eqs ls ks := fun v => (h v).symm
theorem Eqs.trans {ks ls ms : List Nat} (h : Eqs ks ls) (h' : Eqs ls ms) : Eqs ks ms := fun v => (h v).trans (h' v)
theorem Eqs.cons {ks ls : List Nat} (h : Eqs ks ls) (k : Nat) : Eqs (k :: ks) (k :: ls) := fun v => by rw [sp_cons, sp_cons, h, h]
theorem Eqs.perm {ks ls : List Nat} (h : ks.Perm ls) : Eqs ks ls := Eqs.of (fun k hk => sp_mem (h.mem_iff.mp hk)) (fun k hk => sp_mem (h.mem_iff.mpr hk))
/-- no row is a sum of others -/
def Ind (ks : List Nat) : Prop := (sp ks).Nodup
theorem Ind.nil : Ind [] := by simp [Ind, sp]
theorem nodup_le {α : Type} [DecidableEq α] : ∀ {l m : List α}, l.Nodup → (∀ x ∈ l, x ∈ m) → l.length ≤ m.length
  | [], m, _, _ => Nat.zero_le _
  | x :: l, m, nd, h => by
    obtain ⟨h1, h2⟩ := List.nodup_cons.mp nd
    have hx := h x (List.mem_cons_self ..)
    have := nodup_le (m := m.erase x) h2 fun y hy => (List.mem_erase_of_ne (fun e => h1 (by rw [← e]; exact hy))).mpr (h y (List.mem_cons_of_mem _ hy))
    rw [List.length_erase_of_mem hx] at this
    have := List.length_pos_of_mem hx
    rw [List.length_cons]; omega
theorem Ind.le {ks ls : List Nat} (h : Ind ks) (hs : ∀ k ∈ ks, k ∈ sp ls) : ks.length ≤ ls.length := by
  have := nodup_le h (sp_sub hs)
  rw [sp_len, sp_len] at this
  exact (Nat.pow_le_pow_iff_right (by decide)).mp this
theorem Ind.cons {k : Nat} {ks : List Nat} : Ind (k :: ks) ↔ Ind ks ∧ k ∉ sp ks := by
  show (sp ks ++ (sp ks).map (· ^^^ k)).Nodup ↔ (sp ks).Nodup ∧ _
  rw [List.nodup_append]
  constructor
  · rintro ⟨h1, h2, h3⟩
    refine ⟨h1, fun hk => ?_⟩
    exact h3 k hk (0 ^^^ k) (List.mem_map.mpr ⟨0, sp_zero ks, rfl⟩) (by simp)
  · rintro ⟨h1, h2⟩
    refine ⟨h1, List.Pairwise.map _ (fun a b hab e => hab (by
      have := congrArg (· ^^^ k) e
      simpa [xs] using this)) h1, fun a ha b hb e => ?_⟩
    obtain ⟨c, hc, rfl⟩ := List.mem_map.mp hb
    subst e
    have := sp_xor hc ha
    rw [xs'] at this
    exact h2 this
/-- the rank of rows -/
def Rk (ks : List Nat) (r : Nat) : Prop := ∃ bs, Ind bs ∧ bs.length = r ∧ Eqs bs ks
theorem Rk.uniq {ks : List Nat} {r r' : Nat} (h : Rk ks r) (h' : Rk ks r') : r = r' := by
  obtain ⟨b, b1, b2, b3⟩ := h
  obtain ⟨c, c1, c2, c3⟩ := h'
  have e1 := b1.le (ls := c) fun k hk => (c3 k).mpr ((b3 k).mp (sp_mem hk))
  have e2 := c1.le (ls := b) fun k hk => (b3 k).mpr ((c3 k).mp (sp_mem hk))
  omega
theorem Rk.eqs {ks ls : List Nat} {r : Nat} (h : Rk ks r) (e : Eqs ks ls) : Rk ls r := by
  obtain ⟨b, b1, b2, b3⟩ := h
  exact ⟨b, b1, b2, b3.trans e⟩
theorem Rk.ind {ks : List Nat} (h : Ind ks) : Rk ks ks.length := ⟨ks, h, rfl, Eqs.refl _⟩
theorem Rk.ex : ∀ ks : List Nat, ∃ r, r ≤ ks.length ∧ Rk ks r
  | [] => ⟨0, Nat.le_refl _, [], Ind.nil, rfl, Eqs.refl _⟩
  | k :: ks => by
    obtain ⟨r, hr, b, b1, b2, b3⟩ := Rk.ex ks
    by_cases h : k ∈ sp ks
    · exact ⟨r, by rw [List.length_cons]; omega, b, b1, b2, b3.trans (Eqs.of (fun x hx => sp_cons.mpr (.inl (sp_mem hx))) fun x hx => by
        rcases List.mem_cons.mp hx with e | hx
        · subst e; exact h
        · exact sp_mem hx)⟩
    · exact ⟨r + 1, by rw [List.length_cons]; omega, k :: b, Ind.cons.mpr ⟨b1, fun hk => h ((b3 k).mp hk)⟩, by rw [List.length_cons, b2], b3.cons k⟩
theorem Rk.full {ks : List Nat} (h : Rk ks ks.length) : Ind ks := by
  induction ks with
  | nil => exact Ind.nil
  | cons k ks ih =>
    rw [Ind.cons]
    obtain ⟨r, hr, hR⟩ := Rk.ex ks
    have hk : k ∉ sp ks := fun hk => by
      have e : Eqs ks (k :: ks) := Eqs.of (fun x hx => sp_cons.mpr (.inl (sp_mem hx))) fun x hx => by
        rcases List.mem_cons.mp hx with e | hx
        · subst e; exact hk
        · exact sp_mem hx
      have := (hR.eqs e).uniq h
      rw [List.length_cons] at this
      omega
    refine ⟨ih ?_, hk⟩
    have h2 : Rk (k :: ks) (r + 1) := by
      obtain ⟨b, b1, b2, b3⟩ := hR
      exact ⟨k :: b, Ind.cons.mpr ⟨b1, fun h => hk ((b3 k).mp h)⟩, by rw [List.length_cons, b2], b3.cons k⟩
    have := h2.uniq h
    rw [List.length_cons] at this
    have e : r = ks.length := by omega
    rw [← e]; exact hR
/-- one row added to another one -/
theorem Eqs.add {ks : List Nat} {i j : Nat} {a b : Nat} (hi : ks[i]? = some a) (hj : ks[j]? = some b) (hij : i ≠ j) : Eqs (ks.set j (b ^^^ a)) ks := by
  have hjl : j < ks.length := by
    rcases Nat.lt_or_ge j ks.length with h | h
    · exact h
    · rw [List.getElem?_eq_none h] at hj; cases hj
  have ma : a ∈ ks := List.mem_of_getElem? hi
  have mb : b ∈ ks := List.mem_of_getElem? hj
  have ma' : a ∈ ks.set j (b ^^^ a) := List.mem_of_getElem? (i := i) (by rw [List.getElem?_set_ne (Ne.symm hij)]; exact hi)
  have mb' : b ^^^ a ∈ ks.set j (b ^^^ a) := List.mem_of_getElem? (i := j) (List.getElem?_set_self hjl)
  refine Eqs.of (fun k hk => ?_) fun k hk => ?_
  · rcases List.mem_or_eq_of_mem_set hk with h | h
    · exact sp_mem h
    · subst h; exact sp_xor (sp_mem mb) (sp_mem ma)
  · obtain ⟨m, hm, e⟩ := List.getElem_of_mem hk
    by_cases h : m = j
    · subst h
      have : ks[m]? = some k := by rw [List.getElem?_eq_getElem hm, e]
      rw [hj] at this
      cases this
      have := sp_xor (sp_mem mb') (sp_mem ma')
      rwa [xs] at this
    · exact sp_mem (List.mem_of_getElem? (i := m) (by rw [List.getElem?_set_ne (Ne.symm h), List.getElem?_eq_getElem hm, e]))
/-! ### maps that keep sums -/
def Lin (f : Nat → Nat) : Prop := f 0 = 0 ∧ ∀ a b, f (a ^^^ b) = f a ^^^ f b
theorem sp_map {f : Nat → Nat} (hf : Lin f) : ∀ ks : List Nat, sp (ks.map f) = (sp ks).map f
  | [] => by simp [sp, hf.1]
  | k :: ks => by
    show sp (ks.map f) ++ (sp (ks.map f)).map (· ^^^ f k) = (sp ks ++ (sp ks).map (· ^^^ k)).map f
    rw [sp_map hf ks, List.map_append, List.map_map, List.map_map]
    congr 1
    apply List.map_congr_left
    intro x _
    exact (hf.2 x k).symm
theorem Rk.map {f : Nat → Nat} (hf : Lin f) (hi : ∀ a, f a = 0 → a = 0) {ks : List Nat} {r : Nat} (h : Rk ks r) : Rk (ks.map f) r := by
  obtain ⟨b, b1, b2, b3⟩ := h
  have inj : ∀ x y, f x = f y → x = y := fun x y e => by
    have := hi (x ^^^ y) (by rw [hf.2, e, Nat.xor_self])
    have h := congrArg (· ^^^ y) this
    simpa [xs] using h
  refine ⟨b.map f, ?_, by rw [List.length_map, b2], fun v => ?_⟩
  · show (sp (b.map f)).Nodup
    rw [sp_map hf]
    exact List.Pairwise.map _ (fun a c hac e => hac (inj _ _ e)) b1
  · rw [sp_map hf, sp_map hf, List.mem_map, List.mem_map]
    exact ⟨fun ⟨w, h, e⟩ => ⟨w, (b3 w).mp h, e⟩, fun ⟨w, h, e⟩ => ⟨w, (b3 w).mpr h, e⟩⟩
/-! ### rows, each of which has a bit that no later one has -/
def Tri : List Nat → Prop
  | [] => True
  | k :: ks => k.testBit k.log2 = true ∧ (∀ x ∈ ks, x.testBit k.log2 = false) ∧ Tri ks
theorem sp_bit {t : Nat} : ∀ {ks : List Nat}, (∀ k ∈ ks, k.testBit t = false) → ∀ v ∈ sp ks, v.testBit t = false
  | [], _, v, hv => by
    simp [sp] at hv
    subst hv; simp
  | k :: ks, h, v, hv => by
    have h' := fun x hx => h x (List.mem_cons_of_mem _ hx)
    rcases sp_cons.mp hv with hv | hv
    · exact sp_bit h' v hv
    · have := sp_bit h' _ hv
      rw [Nat.testBit_xor, h k (List.mem_cons_self ..)] at this
      simpa using this
theorem Tri.ind : ∀ {ks : List Nat}, Tri ks → Ind ks
  | [], _ => Ind.nil
  | k :: ks, ⟨h1, h2, h3⟩ => Ind.cons.mpr ⟨h3.ind, fun hk => by
    have := sp_bit h2 k hk
    rw [h1] at this; cases this⟩
theorem top_bit {k : Nat} (h : k ≠ 0) : k.testBit k.log2 = true := by
  rw [Nat.testBit, Nat.shiftRight_eq_div_pow]
  have h1 := Nat.log2_self_le h
  have h2 := Nat.lt_log2_self (n := k)
  have : k / 2 ^ k.log2 = 1 := by
    apply Nat.div_eq_of_lt_le
    · omega
    · rw [Nat.pow_succ] at h2; omega
  rw [this]; rfl
/-- a row lowered by rows -/
def low (m : Nat) (ks : List Nat) : Nat := ks.foldl (fun m k => min m (m ^^^ k)) m
theorem Tri.ne : ∀ {ks : List Nat}, Tri ks → ∀ k ∈ ks, k ≠ 0
  | k :: ks, ⟨h1, h2, h3⟩, x, hx => by
    rcases List.mem_cons.mp hx with e | hx
    · subst e
      intro e
      rw [e] at h1
      simp at h1
    · exact h3.ne x hx
theorem Tri.snoc : ∀ {ks : List Nat} {x : Nat}, Tri ks → x ≠ 0 → (∀ k ∈ ks, x.testBit k.log2 = false) → Tri (ks ++ [x])
  | [], x, _, hx, _ => ⟨top_bit hx, by simp, True.intro⟩
  | k :: ks, x, ⟨h1, h2, h3⟩, hx, h => ⟨h1, fun y hy => by
      rcases List.mem_append.mp hy with hy | hy
      · exact h2 y hy
      · rw [List.mem_singleton.mp hy]
        exact h k (List.mem_cons_self ..), h3.snoc hx fun y hy => h y (List.mem_cons_of_mem _ hy)⟩
/-- the leads of rows -/
def leads : List Nat → List Nat → List Nat
  | [], ls => ls
  | r :: rs, ls => leads rs (if low r ls > 0 then ls ++ [low r ls] else ls)
end Gf

/-! ## Gf2: masks of rows -/
namespace Gf
open PySem Ty
def Bits (n : Nat) (f : Nat → Nat → Int) : Prop := ∀ i j, i < n → j < n → f i j = 0 ∨ f i j = 1
theorem Rk.push {ks : List Nat} {r v : Nat} (h : Rk ks r) (hv : v ∉ sp ks) : Rk (v :: ks) (r + 1) := by
  obtain ⟨b, b1, b2, b3⟩ := h
  exact ⟨v :: b, Ind.cons.mpr ⟨b1, fun h => hv ((b3 v).mp h)⟩, by rw [List.length_cons, b2], b3.cons v⟩
end Gf

/-! ## Gf3: the steps of undoing a table -/
namespace Gf
open PySem Ty
theorem Eqs.map {f : Nat → Nat} (hf : Lin f) {ks ls : List Nat} (h : Eqs ks ls) : Eqs (ks.map f) (ls.map f) := fun v => by
  rw [sp_map hf, sp_map hf, List.mem_map, List.mem_map]
  exact ⟨fun ⟨w, h1, e⟩ => ⟨w, (h w).mp h1, e⟩, fun ⟨w, h1, e⟩ => ⟨w, (h w).mpr h1, e⟩⟩
/-- the unit rows -/
theorem units_sp : ∀ (us : List Nat) (v : Nat), (∀ j, v.testBit j = true → j ∈ us) → v ∈ sp (us.map (2 ^ ·))
  | [], v, h => by
    have : v = 0 := by
      apply Nat.eq_of_testBit_eq
      intro j
      rw [Nat.zero_testBit]
      cases q : v.testBit j with
      | false => rfl
      | true => exact absurd (h j q) (by simp)
    subst this; simp [sp]
  | u :: us, v, h => by
    show v ∈ sp (2 ^ u :: us.map (2 ^ ·))
    rw [sp_cons]
    cases q : v.testBit u with
    | false =>
      left
      refine units_sp us v fun j hj => ?_
      rcases List.mem_cons.mp (h j hj) with e | h'
      · subst e; rw [q] at hj; cases hj
      · exact h'
    | true =>
      right
      refine units_sp us _ fun j hj => ?_
      rw [Nat.testBit_xor, Nat.testBit_two_pow] at hj
      by_cases e : u = j
      · subst e; rw [q] at hj; simp at hj
      · have hv : v.testBit j = true := by simpa [e] using hj
        rcases List.mem_cons.mp (h j hv) with e' | h'
        · exact absurd e'.symm e
        · exact h'
/-- the row f moved to the place t -/
def mv (t f : Nat) (g : Nat → Nat) : Nat → Nat := fun j => if j < t then g j else if j = t then g f else if j ≤ f then g (j - 1) else g j
/-- the row t added to all others that have the bit t -/
def cl (t : Nat) (g : Nat → Nat) : Nat → Nat := fun k => if k ≠ t ∧ (g k).testBit t = true then g k ^^^ g t else g k
/-- the first t columns are done -/
def Done (n t : Nat) (g : Nat → Nat) : Prop := ∀ j, j < t → ∀ k, k < n → (g k).testBit j = decide (k = j)
theorem Done.step {n t f : Nat} {g : Nat → Nat} (h : Done n t g) (ht : t ≤ f) (hf : f < n) (hb : (g f).testBit t = true) : Done n (t + 1) (cl t (mv t f g)) := by
  have m1 : ∀ j, j < t → ∀ k, k < n → (mv t f g k).testBit j = decide (k = j) := fun j hj k hk => by
    unfold mv
    split
    · exact h j hj k hk
    · split
      · rw [h j hj f hf]
        exact decide_eq_decide.mpr (by omega)
      · split
        · rw [h j hj (k - 1) (by omega)]
          exact decide_eq_decide.mpr (by omega)
        · exact h j hj k hk
  have m2 : (mv t f g t).testBit t = true := by unfold mv; rw [if_neg (by omega), if_pos rfl]; exact hb
  intro j hj k hk
  by_cases hjt : j < t
  · unfold cl
    split
    · rw [Nat.testBit_xor, m1 j hjt k hk, m1 j hjt t (by omega), decide_eq_false (show ¬ t = j by omega)]; simp
    · exact m1 j hjt k hk
  · have : j = t := by omega
    subst this
    unfold cl
    by_cases hkj : k = j
    · subst hkj
      rw [if_neg (by simp), m2]; simp
    · split
      · rename_i h2
        rw [Nat.testBit_xor, h2.2, m2]; simp [hkj]
      · rename_i h2
        have : ¬ (mv j f g k).testBit j = true := fun z => h2 ⟨hkj, z⟩
        rw [decide_eq_false hkj]
        simpa using this
theorem Done.full {n : Nat} {g : Nat → Nat} (h : Done n n g) : (row n g).map (fun m => m % 2 ^ n) = row n fun i => 2 ^ i := by
  unfold row
  rw [List.map_map]
  apply List.map_congr_left
  intro k hk
  have hk := List.mem_range.mp hk
  apply Nat.eq_of_testBit_eq
  intro j
  show (g k % 2 ^ n).testBit j = _
  rw [Nat.testBit_mod_two_pow, Nat.testBit_two_pow]
  by_cases hj : j < n
  · rw [h j hj k hk, decide_eq_true hj]; simp
  · rw [decide_eq_false hj, decide_eq_false (by omega)]; rfl
/-- no row for the column t: there are too few -/
theorem Done.none {n t : Nat} {g : Nat → Nat} (h : Done n t g) (ht : t < n) (hno : ∀ k, t ≤ k → k < n → (g k).testBit t = false) : ¬ Rk ((row n g).map fun m => m % 2 ^ n) n := by
  intro hr
  have hlen : ((row n g).map fun m => m % 2 ^ n).length = n := by rw [List.length_map, row_len]
  have hi : Ind ((row n g).map fun m => m % 2 ^ n) := Rk.full (by rw [hlen]; exact hr)
  -- the rows from t on
  let tl := (List.range (n - t)).map fun i => g (t + i) % 2 ^ n
  have hsub : ∃ pre, (row n g).map (fun m => m % 2 ^ n) = pre ++ tl := by
    refine ⟨(List.range t).map fun i => g i % 2 ^ n, ?_⟩
    unfold row
    rw [List.map_map]
    have e : List.range n = List.range t ++ (List.range (n - t)).map (t + ·) := by
      rw [← List.range_add, show t + (n - t) = n by omega]
    rw [e, List.map_append, List.map_map]
    rfl
  obtain ⟨pre, hpre⟩ := hsub
  have hind : ∀ (a b : List Nat), Ind (a ++ b) → Ind b := by
    intro a
    induction a with
    | nil => exact fun b h => h
    | cons x a ih => exact fun b h => ih b (Ind.cons.mp h).1
  have h1 : Ind tl := hind pre tl (by rw [← hpre]; exact hi)
  have h2 := h1.le (ls := ((List.range (n - t - 1)).map fun i => t + 1 + i).map (2 ^ ·)) fun k hk => by
    obtain ⟨i, hi, rfl⟩ := List.mem_map.mp hk
    have hi := List.mem_range.mp hi
    refine units_sp _ _ fun j hj => ?_
    rw [Nat.testBit_mod_two_pow] at hj
    by_cases hjn : j < n
    · rw [decide_eq_true hjn] at hj
      have hj : (g (t + i)).testBit j = true := by simpa using hj
      have ht1 : t < j := by
        rcases Nat.lt_or_ge t j with q | q
        · exact q
        · rcases Nat.lt_or_ge j t with q2 | q2
          · rw [h j q2 (t + i) (by omega), decide_eq_false (by omega)] at hj; cases hj
          · have : j = t := by omega
            subst this
            rw [hno (j + i) (by omega) (by omega)] at hj; cases hj
      exact List.mem_map.mpr ⟨j - (t + 1), List.mem_range.mpr (by omega), by omega⟩
    · rw [decide_eq_false hjn] at hj
      simp at hj
  simp only [tl, List.length_map, List.length_range] at h2
  omega
/-- rows with a 1 at the bit p, but one, and the others, with that one added -/
theorem Rk.elim {R R' : List Nat} {pv p r : Nat} (h : Rk R r) (e : Eqs R (pv :: R')) (hp : pv.testBit p = true) (hz : ∀ k ∈ R', k.testBit p = false) : ∃ r', r = r' + 1 ∧ Rk R' r' := by
  obtain ⟨r', _, h'⟩ := Rk.ex R'
  have := h'.push (v := pv) fun hv => by
    have := sp_bit hz _ hv
    rw [hp] at this; cases this
  exact ⟨r', (h.eqs e).uniq this, h'⟩
theorem Rk.zero {R : List Nat} (h : ∀ k ∈ R, k = 0) : Rk R 0 := ⟨[], Ind.nil, rfl, Eqs.of (fun k hk => by cases hk) fun k hk => by rw [h k hk]; exact sp_zero _⟩
end Gf

/-! ## Gf4: the greatest part that can be undone -/
namespace Gf
open PySem Ty
/-- an odd number of the h k, k below n -/
def qx : Nat → (Nat → Bool) → Bool
  | 0, _ => false
  | n + 1, h => qx n h != h n
theorem qx_xor (a b : Nat → Bool) : ∀ n, qx n (fun k => a k != b k) = (qx n a != qx n b)
  | 0 => rfl
  | n + 1 => by
    show (qx n _ != (a n != b n)) = ((qx n a != a n) != (qx n b != b n))
    rw [qx_xor a b n]
    cases qx n a <;> cases qx n b <;> cases a n <;> cases b n <;> rfl
theorem qx_congr {h h' : Nat → Bool} : ∀ {n : Nat}, (∀ k, k < n → h k = h' k) → qx n h = qx n h'
  | 0, _ => rfl
  | n + 1, e => by
    show (qx n h != h n) = (qx n h' != h' n)
    rw [qx_congr fun k hk => e k (by omega), e n (by omega)]
theorem qx_no {h : Nat → Bool} : ∀ {n : Nat}, (∀ k, k < n → h k = false) → qx n h = false
  | 0, _ => rfl
  | n + 1, e => by
    show (qx n h != h n) = false
    rw [qx_no fun k hk => e k (by omega), e n (by omega)]; rfl
end Gf

/-! ## Gf5: parts of a pivoted table -/
namespace Gf
open PySem Ty
/-- the part at S can be undone -/
def NS (n : Nat) (a : Nat → Nat → Bool) (S : Nat → Bool) : Prop := ∀ x : Nat → Bool, (∀ k, k < n → S k = false → x k = false) → (∀ i, i < n → S i = true → qx n (fun j => a i j && x j) = false) → ∀ k, k < n → x k = false
theorem NS.congr {n : Nat} {a : Nat → Nat → Bool} {S T : Nat → Bool} (e : ∀ k, k < n → S k = T k) (h : NS n a S) : NS n a T := fun x h1 h2 => h x (fun k hk hs => h1 k hk (by rw [← e k hk]; exact hs)) fun i hi hs => h2 i hi (by rw [← e i hi]; exact hs)
def bm (f : Nat → Nat → Int) : Nat → Nat → Bool := fun i j => decide (f i j = 1)
/-! ### pivots -/
theorem qx_split {n v : Nat} (hv : v < n) (h : Nat → Bool) : qx n h = (h v != qx n fun k => if k = v then false else h k) := by
  induction n with
  | zero => omega
  | succ n ih =>
    show (qx n h != h n) = (h v != (qx n (fun k => if k = v then false else h k) != (if n = v then false else h n)))
    by_cases e : n = v
    · subst e
      rw [if_pos rfl, qx_congr (h := fun k => if k = n then false else h k) (h' := h) fun k hk => if_neg (by omega)]
      generalize qx n h = q
      cases q <;> cases h n <;> rfl
    · rw [if_neg e, ih (by omega)]
      generalize qx n (fun k => if k = v then false else h k) = q
      cases q <;> cases h n <;> cases h v <;> rfl
def Ppt (n : Nat) (a b : Nat → Nat → Bool) (X : Nat → Bool) : Prop := ∀ x : Nat → Bool, ∀ i, i < n → qx n (fun j => b i j && (if X j then qx n (fun k => a j k && x k) else x j)) = if X i then x i else qx n fun k => a i k && x k
theorem Ppt.ns {n : Nat} {a b : Nat → Nat → Bool} {X S : Nat → Bool} (h : Ppt n a b X) (hs : NS n b S) : NS n a fun k => S k != X k := by
  intro x h1 h2
  have h3 := hs (fun j => if X j then qx n (fun k => a j k && x k) else x j) (fun k hk hS => ?_) fun i hi hS => ?_
  · intro k hk
    have h4 := h3 k hk
    cases hX : X k with
    | false => simpa [hX] using h4
    | true =>
      have h5 := h x k hk
      rw [hX, if_pos rfl, qx_no fun j hj => by rw [h3 j hj]; simp] at h5
      exact h5.symm
  · cases hX : X k with
    | true => rw [if_pos rfl]; exact h2 k hk (by show (_ != _) = _; rw [hS, hX]; rfl)
    | false => rw [if_neg (by simp)]; exact h1 k hk (by show (_ != _) = _; rw [hS, hX]; rfl)
  · rw [h x i hi]
    cases hX : X i with
    | true => rw [if_pos rfl]; exact h1 i hi (by show (_ != _) = _; rw [hS, hX]; rfl)
    | false => rw [if_neg (by simp)]; exact h2 i hi (by show (_ != _) = _; rw [hS, hX]; rfl)
theorem qx_split2 {n u v : Nat} (hu : u < n) (hv : v < n) (huv : u ≠ v) (h : Nat → Bool) : qx n h = (h u != (h v != qx n fun k => if k = u ∨ k = v then false else h k)) := by
  rw [qx_split hu, qx_split hv, if_neg (fun e => huv e.symm)]
  rw [qx_congr (h' := fun k => if k = u ∨ k = v then false else h k) fun k hk => by
    by_cases e1 : k = v
    · simp [e1]
    · by_cases e2 : k = u
      · simp [e1, e2]
      · simp [e1, e2]]
/-- rows that differ by sums of few rows have near ranks -/
theorem Rk.near {n r r' : Nat} {g h : Nat → Nat} {ws : List Nat} (hg : Rk (row n g) r) (hh : Rk (row n h) r') (hd : ∀ i, i < n → g i ^^^ h i ∈ sp ws) : r ≤ r' + ws.length := by
  obtain ⟨b, b1, b2, b3⟩ := hg
  obtain ⟨c, c1, c2, c3⟩ := hh
  have := b1.le (ls := ws ++ c) fun k hk => by
    have h1 := (b3 k).mp (sp_mem hk)
    refine sp_sub (fun y hy => ?_) k h1
    obtain ⟨i, hi, rfl⟩ := List.mem_map.mp hy
    have hi := List.mem_range.mp hi
    have h2 : g i ^^^ h i ∈ sp (ws ++ c) := sp_sub (fun z hz => sp_mem (List.mem_append_left _ hz)) _ (hd i hi)
    have h3 : h i ∈ sp (ws ++ c) := sp_sub (fun z hz => sp_mem (List.mem_append_right _ hz)) _ ((c3 (h i)).mpr (sp_mem (List.mem_map.mpr ⟨i, List.mem_range.mpr hi, rfl⟩)))
    have := sp_xor h2 h3
    rwa [xs] at this
  rw [List.length_append] at this
  omega
end Gf

/-! ## Gf6: the rounds part the ends -/
namespace Gf
open PySem Ty
section
variable {s p f : Int → Int} {e : Int} {m : Nat} (hs : ∀ x, s x = f (p x)) (hpi : ∀ x : Int, 0 ≤ x → x < m → 0 ≤ p x ∧ p x < m ∧ p (p x) = x ∧ p x ≠ x) (hfi : ∀ x : Int, 0 ≤ x → x < m → 0 ≤ f x ∧ f x < m ∧ f (f x) = x ∧ f x ≠ x) (h0 : 0 ≤ e) (h1 : e < m)
include hs hpi hfi h0 h1
/-- a round is closed -/
theorem wl_closed {k : Nat} (k1 : 1 ≤ k) (hk : orb s e k = e) {x : Int} (hx : x ∈ wl s p e k) : 0 ≤ x ∧ x < m ∧ p x ∈ wl s p e k ∧ f x ∈ wl s p e k := by
  obtain ⟨i, hi, h⟩ := (mem_wl k).mp hx
  have rg := orb_rng hs hpi hfi h0 h1
  have a := rg i
  have b := hpi _ a.1 a.2
  rcases h with rfl | rfl
  · refine ⟨a.1, a.2, (mem_wl k).mpr ⟨i, hi, .inr rfl⟩, ?_⟩
    have key : ∀ j, f (orb s e (j + 1)) = p (orb s e j) := fun j => by
      show f (s (orb s e j)) = _
      have c := hpi _ (rg j).1 (rg j).2
      rw [hs]
      exact (hfi _ c.1 c.2.1).2.2.1
    cases i with
    | zero =>
      refine (mem_wl k).mpr ⟨k - 1, by omega, .inr ?_⟩
      have := key (k - 1)
      rw [show k - 1 + 1 = k by omega, hk] at this
      exact this
    | succ j => exact (mem_wl k).mpr ⟨j, by omega, .inr (key j)⟩
  · refine ⟨b.1, b.2.1, ?_, ?_⟩
    · rw [b.2.2.1]; exact (mem_wl k).mpr ⟨i, hi, .inl rfl⟩
    · rw [← hs]
      by_cases h : i + 1 = k
      · have : s (orb s e i) = e := by
          show orb s e (i + 1) = e
          rw [h]; exact hk
        rw [this]
        exact (mem_wl k).mpr ⟨0, by omega, .inl rfl⟩
      · exact (mem_wl k).mpr ⟨i + 1, by omega, .inl rfl⟩
/-- what is closed and meets a round has its first end -/
theorem wl_back {k : Nat} {W : Int → Prop} (hW : ∀ x, W x → W (p x) ∧ W (f x)) {x : Int} (hx : x ∈ wl s p e k) (hw : W x) : W e := by
  obtain ⟨i, hi, h⟩ := (mem_wl k).mp hx
  have rg := orb_rng hs hpi hfi h0 h1
  have : ∀ i, W (orb s e i) → W e := by
    intro i
    induction i with
    | zero => exact fun h => h
    | succ i ih =>
      intro h
      refine ih ?_
      have c := hpi _ (rg i).1 (rg i).2
      have d := hfi _ c.1 c.2.1
      have e1 : f (orb s e (i + 1)) = p (orb s e i) := by
        show f (s (orb s e i)) = _
        rw [hs]; exact d.2.2.1
      have := (hW _ (hW _ h).2).1
      rw [e1, c.2.2.1] at this
      exact this
  rcases h with rfl | rfl
  · exact this i hw
  · have c := hpi _ (rg i).1 (rg i).2
    have := (hW _ hw).1
    rw [c.2.2.1] at this
    rename_i q
    exact q i this
end
/-- a round from its first end -/
def Rd (s p : Int → Int) (e : Int) (R : List Int) : Prop := ∃ k, 1 ≤ k ∧ R = wl s p e k ∧ orb s e k = e ∧ ∀ j, 1 ≤ j → j < k → orb s e j ≠ e
/-- the rounds of the ends below i -/
structure Rds (s p : Int → Int) (i : Nat) (W : List (List Int)) : Prop where
  rd : ∀ R ∈ W, ∃ e, 0 ≤ e ∧ e < (i : Int) ∧ Rd s p e R ∧ ∀ y ∈ R, e ≤ y
  nd : W.flatten.Nodup
  all : ∀ x : Int, 0 ≤ x → x < (i : Int) → x ∈ W.flatten
  len : W.length ≤ i
theorem Rd.head {s p : Int → Int} {e : Int} {R : List Int} (h : Rd s p e R) : R[0]? = some e ∧ 2 ≤ R.length := by
  obtain ⟨k, h1, rfl, _, _⟩ := h
  exact ⟨(wl_get (k := k) (i := 0) (by omega)).1, by rw [wl_len]; omega⟩
theorem Rd.uniq {s p : Int → Int} {e : Int} {R R' : List Int} (h : Rd s p e R) (h' : Rd s p e R') : R = R' := by
  obtain ⟨k, h1, rfl, h2, h3⟩ := h
  obtain ⟨k', h1', rfl, h2', h3'⟩ := h'
  have : k = k' := by
    rcases Nat.lt_trichotomy k k' with z | z | z
    · exact absurd h2 (h3' k h1 z)
    · exact z
    · exact absurd h2' (h3 k' h1' z)
  rw [this]
theorem Rds.zero {s p : Int → Int} : Rds s p 0 [] := ⟨by simp, by simp, fun x a b => by omega, by simp⟩
theorem Rds.old {s p : Int → Int} {i : Nat} {W : List (List Int)} (h : Rds s p i W) (hi : (i : Int) ∈ W.flatten) : Rds s p (i + 1) W :=
  ⟨fun R hR => by
    obtain ⟨e, a, b, c⟩ := h.rd R hR
    exact ⟨e, a, by omega, c⟩, h.nd, fun x a b => by
    by_cases z : x = i
    · rw [z]; exact hi
    · exact h.all x a (by omega), Nat.le_succ_of_le h.len⟩
section
variable {s p f : Int → Int} {m : Nat} (hs : ∀ x, s x = f (p x)) (hpi : ∀ x : Int, 0 ≤ x → x < m → 0 ≤ p x ∧ p x < m ∧ p (p x) = x ∧ p x ≠ x) (hfi : ∀ x : Int, 0 ≤ x → x < m → 0 ≤ f x ∧ f x < m ∧ f (f x) = x ∧ f x ≠ x)
include hs hpi hfi
theorem Rd.rng {e : Int} {R : List Int} (h0 : 0 ≤ e) (h1 : e < m) (h : Rd s p e R) : ∀ x ∈ R, 0 ≤ x ∧ x < m := by
  obtain ⟨k, k1, rfl, k2, _⟩ := h
  intro x hx
  have := wl_closed hs hpi hfi h0 h1 k1 k2 hx
  exact ⟨this.1, this.2.1⟩
theorem Rd.nd {e : Int} {R : List Int} (h0 : 0 ≤ e) (h1 : e < m) (h : Rd s p e R) : R.Nodup := by
  obtain ⟨k, k1, rfl, k2, k3⟩ := h
  exact wl_nodup hs hpi hfi h0 h1 k k3
theorem Rd.len {e : Int} {R : List Int} (h0 : 0 ≤ e) (h1 : e < m) (h : Rd s p e R) : R.length ≤ m := by
  have a := Rd.rng hs hpi hfi h0 h1 h
  have b := Rd.nd hs hpi hfi h0 h1 h
  have := len_le_of_lt m (R.map Int.toNat) (by
    rw [List.nodup_iff_pairwise_ne, List.pairwise_map]
    refine List.Pairwise.imp_of_mem ?_ b
    intro x y hx hy hxy e
    have := a x hx
    have := a y hy
    omega) (fun y hy => by
    obtain ⟨x, hx, rfl⟩ := List.mem_map.mp hy
    have := a x hx
    omega)
  rwa [List.length_map] at this
theorem Rds.new {i : Nat} {W : List (List Int)} {R : List Int} (hi : i < m) (h : Rds s p i W) (hn : (i : Int) ∉ W.flatten) (hR : Rd s p i R) : Rds s p (i + 1) (W ++ [R]) := by
  have hd : ∀ x ∈ R, x ∉ W.flatten := by
    intro x hx hw
    obtain ⟨k, k1, rfl, k2, k3⟩ := hR
    obtain ⟨R', hR', hx'⟩ := List.mem_flatten.mp hw
    obtain ⟨e, a, b, ⟨k', k1', rfl, k2', k3'⟩, _⟩ := h.rd _ hR'
    refine hn (List.mem_flatten.mpr ⟨_, hR', ?_⟩)
    exact wl_back hs hpi hfi (e := (i : Int)) (by omega) (by omega) (W := fun x => x ∈ wl s p e k') (fun y hy => (wl_closed hs hpi hfi a (by omega) k1' k2' hy).2.2) hx hx'
  have hr := Rd.rng hs hpi hfi (e := (i : Int)) (by omega) (by omega) hR
  refine ⟨fun R' hR' => ?_, ?_, fun x a b => ?_, ?_⟩
  · rcases List.mem_append.mp hR' with z | z
    · obtain ⟨e, a, b, c⟩ := h.rd R' z
      exact ⟨e, a, by omega, c⟩
    · rw [List.mem_singleton.mp z]
      refine ⟨i, by omega, by omega, hR, fun y hy => ?_⟩
      rcases Int.lt_or_le y i with q | q
      · exact absurd (h.all y (hr y hy).1 q) (hd y hy)
      · exact q
  · rw [List.flatten_append, List.nodup_append]
    refine ⟨h.nd, by simpa using Rd.nd hs hpi hfi (e := (i : Int)) (by omega) (by omega) hR, ?_⟩
    intro x hx y hy e
    subst e
    exact hd x (by simpa using hy) hx
  · rw [List.flatten_append, List.mem_append]
    by_cases z : x = i
    · refine .inr ?_
      rw [z]
      simp only [List.flatten_cons, List.flatten_nil, List.append_nil]
      exact List.mem_of_getElem? hR.head.1
    · exact .inl (h.all x a (by omega))
  · rw [List.length_append]
    have := h.len
    simp; omega
theorem Rds.rng {i : Nat} {W : List (List Int)} (hi : i ≤ m) (h : Rds s p i W) : ∀ x ∈ W.flatten, 0 ≤ x ∧ x < m := by
  intro x hx
  obtain ⟨R, hR, hx⟩ := List.mem_flatten.mp hx
  obtain ⟨e, a, b, c, _⟩ := h.rd R hR
  exact Rd.rng hs hpi hfi a (by omega) c x hx
theorem Rds.sort {W : List (List Int)} (h : Rds s p m W) : isort W.flatten = rangeL 0 m := by
  have hr : (rangeL 0 m).Pairwise (· < ·) := by
    unfold rangeL
    rw [List.pairwise_map]
    exact List.pairwise_lt_range.imp fun h => by omega
  refine (isort_eq ?_ (hr.imp fun h => by omega)).symm
  refine (List.perm_ext_iff_of_nodup ?_ h.nd).mpr fun x => ?_
  · rw [List.nodup_iff_pairwise_ne]; exact hr.imp fun h => by omega
  · constructor
    · intro hx
      have := mem_range1 hx
      exact h.all x this.1 (by omega)
    · intro hx
      have := Rds.rng hs hpi hfi (Nat.le_refl m) h x hx
      unfold rangeL
      exact List.mem_map.mpr ⟨x.toNat, List.mem_range.mpr (by omega), by omega⟩
end
theorem Rds.ne {s p : Int → Int} {m : Nat} {W : List (List Int)} (hm : 1 ≤ m) (h : Rds s p m W) : 1 ≤ W.length := by
  rcases Nat.eq_zero_or_pos W.length with z | z
  · have := h.all 0 (by omega) (by omega)
    rw [List.length_eq_zero_iff.mp z] at this
    simp at this
  · exact z
end Gf

/-! ## Gf7: numbers exchanged between sets that can be undone -/
namespace Gf
open PySem Ty
abbrev Sym (n : Nat) (a : Nat → Nat → Bool) : Prop := ∀ i j, i < n → j < n → a i j = a j i
theorem qx_one {n v : Nat} (hv : v < n) {h : Nat → Bool} (hz : ∀ k, k < n → k ≠ v → h k = false) : qx n h = h v := by
  rw [qx_split hv, qx_no fun k hk => by
    by_cases e : k = v
    · rw [if_pos e]
    · rw [if_neg e]; exact hz k hk e]
  simp
/-- each number of a set that can be undone has 1 with one of the set -/
theorem NS.hit {n u : Nat} {a : Nat → Nat → Bool} {S : Nat → Bool} (hs : Sym n a) (h : NS n a S) (hu : u < n) (hS : S u = true) : ∃ v, v < n ∧ S v = true ∧ a u v = true := by
  refine Classical.byContradiction fun hn => ?_
  have := h (fun k => decide (k = u)) (fun k _ hk => decide_eq_false fun e => by rw [e, hS] at hk; cases hk) (fun i hi hSi => ?_) u hu
  · simp at this
  · rw [qx_one hu fun k _ hk => by simp [hk]]
    simp only [decide_true, Bool.and_true]
    rw [hs i u hi hu]
    cases q : a u i with
    | false => rfl
    | true => exact absurd ⟨i, hi, hSi, q⟩ hn
end Gf

/-! ## Gf8: one round, and the ways at a place that leave one -/
namespace Gf
open PySem Ty
def fJ (f : Nat → Int) (x : Int) : Int := f x.toNat
def sJ (f c : Nat → Int) (x : Int) : Int := f (par c x).toNat
/-- whatever is closed is all or nothing -/
def OneR (m : Nat) (p f : Int → Int) : Prop := ∀ W : Int → Prop, (∀ x, 0 ≤ x → x < (m : Int) → W x → W (p x) ∧ W (f x)) → (∃ x, 0 ≤ x ∧ x < (m : Int) ∧ W x) → ∀ x, 0 ≤ x → x < (m : Int) → W x
section
variable {s p f : Int → Int} {m : Nat} (hs : ∀ x, s x = f (p x)) (hpi : ∀ x : Int, 0 ≤ x → x < m → 0 ≤ p x ∧ p x < m ∧ p (p x) = x ∧ p x ≠ x) (hfi : ∀ x : Int, 0 ≤ x → x < m → 0 ≤ f x ∧ f x < m ∧ f (f x) = x ∧ f x ≠ x)
include hs hpi hfi
theorem wl_fwd {e : Int} (h0 : 0 ≤ e) (h1 : e < m) {Z : Int → Prop} (hZ : ∀ x, 0 ≤ x → x < (m : Int) → Z x → Z (p x) ∧ Z (f x)) (he : Z e) (k : Nat) : ∀ x ∈ wl s p e k, Z x := by
  have rg := orb_rng hs hpi hfi h0 h1
  have ho : ∀ i, Z (orb s e i) := by
    intro i
    induction i with
    | zero => exact he
    | succ i ih =>
      show Z (s (orb s e i))
      rw [hs]
      have a := hpi _ (rg i).1 (rg i).2
      exact (hZ _ a.1 a.2.1 (hZ _ (rg i).1 (rg i).2 ih).1).2
  intro x hx
  obtain ⟨i, _, h⟩ := (mem_wl k).mp hx
  rcases h with rfl | rfl
  · exact ho i
  · exact (hZ _ (rg i).1 (rg i).2 (ho i)).1
theorem wl_back' {e : Int} (h0 : 0 ≤ e) (h1 : e < m) {Z : Int → Prop} (hZ : ∀ x, 0 ≤ x → x < (m : Int) → Z x → Z (p x) ∧ Z (f x)) {k : Nat} {x : Int} (hx : x ∈ wl s p e k) (hw : Z x) : Z e := by
  obtain ⟨i, hi, h⟩ := (mem_wl k).mp hx
  have rg := orb_rng hs hpi hfi h0 h1
  have key : ∀ i, Z (orb s e i) → Z e := by
    intro i
    induction i with
    | zero => exact fun h => h
    | succ i ih =>
      intro h
      refine ih ?_
      have c := hpi _ (rg i).1 (rg i).2
      have d := hfi _ c.1 c.2.1
      have e1 : f (orb s e (i + 1)) = p (orb s e i) := by
        show f (s (orb s e i)) = _
        rw [hs]; exact d.2.2.1
      have h2 := (hZ _ (rg (i + 1)).1 (rg (i + 1)).2 h).2
      rw [e1] at h2
      have := (hZ _ c.1 c.2.1 h2).1
      rwa [c.2.2.1] at this
  rcases h with rfl | rfl
  · exact key i hw
  · have c := hpi _ (rg i).1 (rg i).2
    have := (hZ _ c.1 c.2.1 hw).1
    rw [c.2.2.1] at this
    exact key i this
theorem Rds.one {W : List (List Int)} (hm : 1 ≤ m) (h : Rds s p m W) : W.length = 1 ↔ OneR m p f := by
  constructor
  · intro hl Z hZ hx x h0 h1
    obtain ⟨y, y0, y1, hy⟩ := hx
    obtain ⟨R, hR⟩ := List.length_eq_one_iff.mp hl
    subst hR
    have ally := h.all y y0 y1
    have allx := h.all x h0 h1
    simp only [List.flatten_cons, List.flatten_nil, List.append_nil] at ally allx
    obtain ⟨e, a, b, ⟨k, k1, rfl, k2, k3⟩, _⟩ := h.rd R (List.mem_singleton.mpr rfl)
    exact wl_fwd hs hpi hfi a b hZ (wl_back' hs hpi hfi a b hZ ally hy) k x allx
  · intro ho
    have hne := h.ne hm
    match W, h, hne with
    | [R], _, _ => rfl
    | R :: R' :: W, h, _ =>
      exfalso
      obtain ⟨e, a, b, ⟨k, k1, rfl, k2, k3⟩, _⟩ := h.rd R (List.mem_cons_self ..)
      obtain ⟨e', a', b', hR', _⟩ := h.rd R' (by simp)
      have := ho (fun x => x ∈ wl s p e k) (fun x x0 x1 hx => (wl_closed hs hpi hfi a b k1 k2 hx).2.2) ⟨e, a, b, (mem_wl k).mpr ⟨0, by omega, .inl rfl⟩⟩ e' a' b'
      have nd := h.nd
      rw [List.flatten_cons, List.nodup_append] at nd
      exact nd.2.2 e' this e' (by
        rw [List.flatten_cons, List.mem_append]
        exact .inl (List.mem_of_getElem? hR'.head.1)) rfl
end
section
variable {n : Nat} {f : Nat → Int}
theorem sJ_s {c : Nat → Int} : ∀ x, sJ f c x = fJ f (par c x) := fun _ => rfl
theorem par_hJ {c : Nat → Int} : ∀ x : Int, 0 ≤ x → x < ((4 * n : Nat) : Int) → 0 ≤ par c x ∧ par c x < ((4 * n : Nat) : Int) ∧ par c (par c x) = x ∧ par c x ≠ x := fun x a b => by
  have := par_in (c := c) a b
  exact ⟨this.1, this.2, par_par a, par_ne a⟩
theorem net_hJ (hf : Net (4 * n) f) (hf2 : ∀ i, i < 4 * n → f i ≠ i) : ∀ x : Int, 0 ≤ x → x < ((4 * n : Nat) : Int) → 0 ≤ fJ f x ∧ fJ f x < ((4 * n : Nat) : Int) ∧ fJ f (fJ f x) = x ∧ fJ f x ≠ x := fun x a b => by
  have q := hf x.toNat (by omega)
  exact ⟨q.1, q.2.1, by unfold fJ; rw [q.2.2]; omega, fun z => hf2 x.toNat (by omega) (by unfold fJ at z; omega)⟩
theorem par_at {c : Nat → Int} {x : Int} (h0 : 0 ≤ x) : par c x / 4 = x / 4 := by
  have h := jn_in (w := c (x / 4).toNat) (s := x % 4) (by omega) (by omega)
  unfold par
  omega
theorem par_off {c c' : Nat → Int} {q x : Int} (h0 : 0 ≤ q) (hc : ∀ k : Nat, (k : Int) ≠ q → c k = c' k) (hx : 0 ≤ x) (hq : x / 4 ≠ q) : par c x = par c' x := by
  unfold par
  rw [hc (x / 4).toNat (by omega)]
/-- from x, off the place, to y at the place -/
def Pth (f c : Nat → Int) (q x y : Int) : Prop := ∃ k, 1 ≤ k ∧ orb (sJ f c) (par c x) k = y ∧ y / 4 = q ∧ ∀ j, 1 ≤ j → j < k → orb (sJ f c) (par c x) j / 4 ≠ q
variable (hf : Net (4 * n) f) (hf2 : ∀ i, i < 4 * n → f i ≠ i) {c : Nat → Int} {q : Int} (hq0 : 0 ≤ q) (hq1 : q < (n : Int))
include hf hf2 hq0 hq1
theorem pth_ex {x : Int} (hx : x / 4 = q) : ∃ y, Pth f c q x y := by
  have x0 : 0 ≤ x ∧ x < ((4 * n : Nat) : Int) := by omega
  have pp := par_hJ (c := c) x x0.1 x0.2
  obtain ⟨k, k1, _, k3, _⟩ := orb_back (s := sJ f c) (e := par c x) (m := 4 * n) (fun z a b => by
    have q := par_hJ (c := c) z a b
    have q2 := net_hJ hf hf2 _ q.1 q.2.1
    exact ⟨q2.1, q2.2.1⟩) (fun u v a b a' b' h => s_inj (s := sJ f c) (p := par c) (f := fJ f) sJ_s par_hJ (net_hJ hf hf2) pp.1 pp.2.1 a b a' b' h) pp.1 pp.2.1
  obtain ⟨j, _, j2, j3⟩ := least_of (fun j => orb (sJ f c) (par c x) (j + 1) / 4 = q) (k - 1) (by
    rw [show k - 1 + 1 = k by omega, k3, par_at x0.1, hx])
  exact ⟨_, j + 1, by omega, rfl, j2, fun i i1 i2 => by
    have := j3 (i - 1) (by omega)
    rwa [show i - 1 + 1 = i by omega] at this⟩
/-- the steps of a way between -/
theorem pth_rng {x : Int} (hx : x / 4 = q) (i : Nat) : 0 ≤ orb (sJ f c) (par c x) i ∧ orb (sJ f c) (par c x) i < ((4 * n : Nat) : Int) := by
  have x0 : 0 ≤ x ∧ x < ((4 * n : Nat) : Int) := by omega
  have pp := par_hJ (c := c) x x0.1 x0.2
  exact orb_rng (s := sJ f c) (p := par c) (f := fJ f) sJ_s par_hJ (net_hJ hf hf2) pp.1 pp.2.1 i
theorem pth_ne {x y : Int} (hx : x / 4 = q) (h : Pth f c q x y) : y ≠ x := by
  obtain ⟨k, k1, rfl, k2, k3⟩ := h
  have x0 : 0 ≤ x ∧ x < ((4 * n : Nat) : Int) := by omega
  have pp := par_hJ (c := c) x x0.1 x0.2
  have := orb_par' (s := sJ f c) (p := par c) (f := fJ f) (e := par c x) (m := 4 * n) sJ_s par_hJ (net_hJ hf hf2) pp.1 pp.2.1 0 k
  intro z
  apply this
  rw [z]
  exact pp.2.2.1
/-- what is closed by another way at the place has both ends of a path, or none -/
theorem pth_on {c' : Nat → Int} (hc : ∀ k : Nat, (k : Int) ≠ q → c k = c' k) {x y : Int} (hx : x / 4 = q) (h : Pth f c q x y) {Z : Int → Prop} (hZ : ∀ x, 0 ≤ x → x < ((4 * n : Nat) : Int) → Z x → Z (par c' x) ∧ Z (fJ f x)) (hz : Z x) : Z y := by
  obtain ⟨k, k1, rfl, k2, k3⟩ := h
  have x0 : 0 ≤ x ∧ x < ((4 * n : Nat) : Int) := by omega
  have pp := par_hJ (c := c) x x0.1 x0.2
  have rg := pth_rng (c := c) hf hf2 hq0 hq1 hx
  have key : ∀ j, 1 ≤ j → j ≤ k → Z (orb (sJ f c) (par c x) j) := by
    intro j j1
    induction j with
    | zero => omega
    | succ j ih =>
      intro hj
      by_cases h0 : j = 0
      · subst h0
        show Z (sJ f c (par c x))
        rw [sJ_s, pp.2.2.1]
        exact (hZ x x0.1 x0.2 hz).2
      · have ih := ih (by omega) (by omega)
        show Z (sJ f c (orb (sJ f c) (par c x) j))
        rw [sJ_s]
        have a := par_hJ (c := c) _ (rg j).1 (rg j).2
        refine (hZ _ a.1 a.2.1 ?_).2
        rw [par_off hq0 hc (rg j).1 (k3 j (by omega) (by omega))]
        exact (hZ _ (rg j).1 (rg j).2 ih).1
  exact key k k1 (Nat.le_refl _)
end
end Gf

/-! ## Gf9: as few rounds as parts -/
namespace Gf
open PySem Ty
theorem nodup_sub : ∀ {l m : List Int}, l.Nodup → (∀ x ∈ l, x ∈ m) → l.length ≤ m.length
  | [], m, _, _ => by simp
  | a :: l, m, h, hs => by
    obtain ⟨h1, h2⟩ := List.nodup_cons.mp h
    have ha := hs a (List.mem_cons_self ..)
    have := nodup_sub (m := m.erase a) h2 fun x hx => (List.mem_erase_of_ne (fun e => h1 (by rw [← e]; exact hx))).mpr (hs x (List.mem_cons_of_mem _ hx))
    rw [List.length_erase_of_mem ha] at this
    have : 0 < m.length := List.length_pos_of_mem ha
    simp only [List.length_cons]; omega
/-- a list that is longer than what it has -/
theorem two_alike {α : Type} {k : α → Int} : ∀ {l : List α} {m : List Int}, (∀ x ∈ l, k x ∈ m) → m.length < l.length → ∃ pre x mid y post, l = pre ++ x :: (mid ++ y :: post) ∧ k x = k y := by
  intro l m hs hl
  have : ¬ (l.map k).Nodup := fun h => by
    have := nodup_sub h fun x hx => by
      obtain ⟨y, hy, rfl⟩ := List.mem_map.mp hx
      exact hs y hy
    rw [List.length_map] at this; omega
  clear hs hl
  induction l with
  | nil => exact absurd List.nodup_nil this
  | cons a l ih =>
    by_cases h : k a ∈ l.map k
    · obtain ⟨b, hb, e⟩ := List.mem_map.mp h
      obtain ⟨mid, post, rfl⟩ := List.append_of_mem hb
      exact ⟨[], a, mid, b, post, rfl, e.symm⟩
    · obtain ⟨pre, x, mid, y, post, rfl, e⟩ := ih fun hn => this (by rw [List.map_cons]; exact List.nodup_cons.mpr ⟨h, hn⟩)
      exact ⟨a :: pre, x, mid, y, post, rfl, e⟩
def hd (R : List Int) : Int := R.getD 0 0
theorem Rd.hd {s p : Int → Int} {e : Int} {R : List Int} (h : Rd s p e R) : hd R = e ∧ e ∈ R := by
  have := h.head.1
  refine ⟨?_, List.mem_of_getElem? this⟩
  unfold Gf.hd
  rw [List.getD_eq_getElem?_getD, this]; rfl
section
variable {s p : Int → Int} {m : Nat} {W : List (List Int)} (h : Rds s p m W)
include h
theorem Rds.disj {R R' : List Int} (hR : R ∈ W) (hR' : R' ∈ W) {x : Int} (h1 : x ∈ R) (h2 : x ∈ R') : R = R' := by
  have nd := h.nd
  have : ∀ (W : List (List Int)), W.flatten.Nodup → R ∈ W → R' ∈ W → R = R' := by
    intro W
    induction W with
    | nil => intro _ h; cases h
    | cons A W ih =>
      intro nd a b
      rw [List.flatten_cons, List.nodup_append] at nd
      have key : ∀ {B : List Int}, B ∈ W → x ∈ A → x ∈ B → False := fun hB h1 h2 => nd.2.2 x h1 x (List.mem_flatten.mpr ⟨_, hB, h2⟩) rfl
      rcases List.mem_cons.mp a with ea | ea
      · rcases List.mem_cons.mp b with eb | eb
        · rw [ea, eb]
        · exact (key eb (by rw [← ea]; exact h1) h2).elim
      · rcases List.mem_cons.mp b with eb | eb
        · exact (key ea (by rw [← eb]; exact h2) h1).elim
        · exact ih nd.2.1 ea eb
  exact this W nd hR hR'
theorem Rds.heads : (W.map hd).Nodup := by
  have key : ∀ (V : List (List Int)), (∀ R ∈ V, R ∈ W) → V.flatten.Nodup → (V.map hd).Nodup := by
    intro V
    induction V with
    | nil => intro _ _; exact List.nodup_nil
    | cons A V ih =>
      intro hV nd
      rw [List.flatten_cons, List.nodup_append] at nd
      rw [List.map_cons]
      refine List.nodup_cons.mpr ⟨fun hm => ?_, ih (fun R hR => hV R (List.mem_cons_of_mem _ hR)) nd.2.1⟩
      obtain ⟨B, hB, e⟩ := List.mem_map.mp hm
      obtain ⟨a, _, _, ha, _⟩ := h.rd A (hV A (List.mem_cons_self ..))
      obtain ⟨b, _, _, hb, _⟩ := h.rd B (hV B (List.mem_cons_of_mem _ hB))
      rw [ha.hd.1, hb.hd.1] at e
      subst e
      exact nd.2.2 b ha.hd.2 b (List.mem_flatten.mpr ⟨_, hB, hb.hd.2⟩) rfl
  exact key W (fun _ h => h) h.nd
end
section
variable {n : Nat} {f : Nat → Int} (hf : Net (4 * n) f) (hf2 : ∀ i, i < 4 * n → f i ≠ i)
include hf hf2
theorem rd_closed {c : Nat → Int} {W : List (List Int)} (h : Rds (sJ f c) (par c) (4 * n) W) {R : List Int} (hR : R ∈ W) : ∀ x ∈ R, 0 ≤ x ∧ x < ((4 * n : Nat) : Int) ∧ par c x ∈ R ∧ fJ f x ∈ R := by
  obtain ⟨e, a, b, ⟨k, k1, rfl, k2, _⟩, _⟩ := h.rd R hR
  exact fun x hx => wl_closed sJ_s par_hJ (net_hJ hf hf2) a b k1 k2 hx
/-- what is closed and meets a round has the whole -/
theorem rd_whole {c : Nat → Int} {W : List (List Int)} (h : Rds (sJ f c) (par c) (4 * n) W) {R : List Int} (hR : R ∈ W) {Z : Int → Prop} (hZ : ∀ x, 0 ≤ x → x < ((4 * n : Nat) : Int) → Z x → Z (par c x) ∧ Z (fJ f x)) {x : Int} (hx : x ∈ R) (hz : Z x) : ∀ y ∈ R, Z y := by
  obtain ⟨e, a, b, ⟨k, k1, rfl, k2, _⟩, _⟩ := h.rd R hR
  exact wl_fwd sJ_s par_hJ (net_hJ hf hf2) a b hZ (wl_back' sJ_s par_hJ (net_hJ hf hf2) a b hZ hx hz) k
/-- joined at a place at which two rounds go: fewer rounds -/
theorem fewer {c : Nat → Int} {W W' : List (List Int)} {q a b w : Int} (hq0 : 0 ≤ q) (hq1 : q < (n : Int)) (h : Rds (sJ f c) (par c) (4 * n) W) (ha : a / 4 = q) (hb : b / 4 = q) {R : List Int} (hR : R ∈ W) (haR : a ∈ R) (hbR : b ∉ R)
    (hj : par (fun k => if (k : Int) = q then w else c k) a = b) (h' : Rds (sJ f (fun k => if (k : Int) = q then w else c k)) (par fun k => if (k : Int) = q then w else c k) (4 * n) W') : W'.length < W.length := by
  have hoff : ∀ k : Nat, (k : Int) ≠ q → c k = (fun k : Nat => if (k : Int) = q then w else c k) k := fun k hk => by
    simp only []
    rw [if_neg hk]
  generalize (fun k : Nat => if (k : Int) = q then w else c k) = c' at hj h' hoff
  have a0 : 0 ≤ a ∧ a < ((4 * n : Nat) : Int) := by omega
  have b0 : 0 ≤ b ∧ b < ((4 * n : Nat) : Int) := by omega
  have hRc := rd_closed hf hf2 h hR
  have pa := par_hJ (n := n) (c := c) a a0.1 a0.2
  have pb := par_hJ (n := n) (c := c) b b0.1 b0.2
  have pa4 := par_at (c := c) (x := a) a0.1
  have pb4 := par_at (c := c) (x := b) b0.1
  have haP : par c a ∈ R := (hRc a haR).2.2.1
  have hbP : par c b ∉ R := fun z => hbR (by have := (hRc _ z).2.2.1; rwa [pb.2.2.1] at this)
  -- the four ends of the place
  have four : ∀ x : Int, x / 4 = q → x = a ∨ x = par c a ∨ x = b ∨ x = par c b := by
    intro x hx
    have n1 : a ≠ b := fun e => hbR (e ▸ haR)
    have n2 : a ≠ par c b := fun e => hbP (e ▸ haR)
    have n3 : par c a ≠ b := fun e => hbR (e ▸ haP)
    have n4 : par c a ≠ par c b := fun e => hbP (e ▸ haP)
    have n5 := pa.2.2.2
    have n6 := pb.2.2.2
    generalize par c a = u at *
    generalize par c b = v at *
    omega
  -- what is closed by the new ways is closed by the old ones
  have old : ∀ Z : Int → Prop, (∀ x, 0 ≤ x → x < ((4 * n : Nat) : Int) → Z x → Z (par c' x) ∧ Z (fJ f x)) → ∀ x, 0 ≤ x → x < ((4 * n : Nat) : Int) → Z x → Z (par c x) ∧ Z (fJ f x) := by
    intro Z hZ x x0 x1 hx
    refine ⟨?_, (hZ x x0 x1 hx).2⟩
    by_cases hxq : x / 4 = q
    · obtain ⟨y, hy⟩ := pth_ex (c := c) hf hf2 hq0 hq1 hxq
      have y4 : y / 4 = q := by obtain ⟨_, _, _, h, _⟩ := hy; exact h
      have hzy := pth_on hf hf2 hq0 hq1 hoff hxq hy hZ hx
      have hne := pth_ne (c := c) hf hf2 hq0 hq1 hxq hy
      have inR : x ∈ R → y ∈ R := fun hx => pth_on (c' := c) hf hf2 hq0 hq1 (fun _ _ => rfl) hxq hy (Z := fun z => z ∈ R) (fun z _ _ hz => (hRc z hz).2.2) hx
      have outR : x ∉ R → y ∉ R := fun hx => pth_on (c' := c) hf hf2 hq0 hq1 (fun _ _ => rfl) hxq hy (Z := fun z => 0 ≤ z ∧ z < ((4 * n : Nat) : Int) ∧ z ∉ R) (fun z z0 z1 hz => by
        have p1 := par_hJ (n := n) (c := c) z z0 z1
        have p2 := net_hJ hf hf2 z z0 z1
        refine ⟨⟨p1.1, p1.2.1, fun h => hz.2.2 ?_⟩, p2.1, p2.2.1, fun h => hz.2.2 ?_⟩
        · have := (hRc _ h).2.2.1; rwa [p1.2.2.1] at this
        · have := (hRc _ h).2.2.2; rwa [p2.2.2.1] at this) ⟨x0, x1, hx⟩ |>.2.2
      have : y = par c x := by
        rcases four x hxq with rfl | rfl | rfl | rfl
        · have := inR haR
          rcases four y y4 with rfl | rfl | rfl | rfl
          · exact absurd rfl hne
          · rfl
          · exact absurd this hbR
          · exact absurd this hbP
        · have := inR haP
          rw [pa.2.2.1]
          rcases four y y4 with rfl | rfl | rfl | rfl
          · rfl
          · exact absurd rfl hne
          · exact absurd this hbR
          · exact absurd this hbP
        · have := outR hbR
          rcases four y y4 with rfl | rfl | rfl | rfl
          · exact absurd haR this
          · exact absurd haP this
          · exact absurd rfl hne
          · rfl
        · have := outR hbP
          rw [pb.2.2.1]
          rcases four y y4 with rfl | rfl | rfl | rfl
          · exact absurd haR this
          · exact absurd haP this
          · rfl
          · exact absurd rfl hne
      rw [← this]; exact hzy
    · rw [par_off hq0 hoff x0 hxq]
      exact (hZ x x0 x1 hx).1
  have whole : ∀ R' ∈ W', ∀ A ∈ W, ∀ x, x ∈ A → x ∈ R' → ∀ y ∈ A, y ∈ R' := fun R' hR' A hA x h1 h2 => rd_whole hf hf2 h hA (Z := fun z => z ∈ R') (old (fun z => z ∈ R') fun z _ _ hz => (rd_closed hf hf2 h' hR' z hz).2.2) h1 h2
  -- each new first end is an old one
  have first : ∀ R' ∈ W', ∃ A ∈ W, hd A = hd R' ∧ hd R' ∈ A := by
    intro R' hR'
    obtain ⟨e', e0, e1, hr', le'⟩ := h'.rd R' hR'
    obtain ⟨A, hA, hx⟩ := List.mem_flatten.mp (h.all e' e0 e1)
    obtain ⟨e, z0, z1, hr, le⟩ := h.rd A hA
    have he := whole R' hR' A hA e' hx hr'.hd.2 e hr.hd.2
    have := le' e he
    have := le e' hx
    refine ⟨A, hA, ?_, ?_⟩
    · rw [hr.hd.1, hr'.hd.1]; omega
    · rw [hr'.hd.1]; exact hx
  -- the round of b
  obtain ⟨B, hB, hbB⟩ := List.mem_flatten.mp (h.all b b0.1 b0.2)
  obtain ⟨R', hR', haR'⟩ := List.mem_flatten.mp (h'.all a a0.1 a0.2)
  have hbR' : b ∈ R' := by
    have := (rd_closed hf hf2 h' hR' a haR').2.2.1
    rwa [hj] at this
  have hRR := whole R' hR' R hR a haR haR'
  have hBR := whole R' hR' B hB b hbB hbR'
  obtain ⟨r1, _, _, hr1, _⟩ := h.rd R hR
  obtain ⟨r2, _, _, hr2, _⟩ := h.rd B hB
  have hne : r1 ≠ r2 := fun e => by
    subst e
    exact hbR (h.disj hR hB hr1.hd.2 hr2.hd.2 ▸ hbB)
  obtain ⟨e', _, _, hr', le'⟩ := h'.rd R' hR'
  -- the greater of both is no new first end
  have hlt : ∀ r, (r = r1 ∨ r = r2) → r ≠ e' → r ∉ W'.map hd := by
    intro r hr hre hm
    obtain ⟨A', hA', e⟩ := List.mem_map.mp hm
    obtain ⟨x, _, _, hx, _⟩ := h'.rd A' hA'
    rw [hx.hd.1] at e
    subst e
    have : x ∈ R' := by
      rcases hr with rfl | rfl
      · exact hRR _ hr1.hd.2
      · exact hBR _ hr2.hd.2
    have := h'.disj hA' hR' hx.hd.2 this
    subst this
    have e1 := hx.hd.1
    have e2 := hr'.hd.1
    exact hre (e1.symm.trans e2)
  obtain ⟨r, hr, hre⟩ : ∃ r, (r = r1 ∨ r = r2) ∧ r ≠ e' := by
    by_cases z : r1 = e'
    · exact ⟨r2, .inr rfl, fun z2 => hne (z.trans z2.symm)⟩
    · exact ⟨r1, .inl rfl, z⟩
  have hrm : r ∈ W.map hd := by
    rcases hr with rfl | rfl
    · exact List.mem_map.mpr ⟨R, hR, hr1.hd.1⟩
    · exact List.mem_map.mpr ⟨B, hB, hr2.hd.1⟩
  have := nodup_sub (l := r :: W'.map hd) (m := W.map hd) (List.nodup_cons.mpr ⟨hlt r hr hre, h'.heads⟩) fun x hx => by
    rcases List.mem_cons.mp hx with rfl | hx
    · exact hrm
    · obtain ⟨A', hA', rfl⟩ := List.mem_map.mp hx
      obtain ⟨A, hA, e, _⟩ := first A' hA'
      exact List.mem_map.mpr ⟨A, hA, e⟩
  simp only [List.length_cons, List.length_map] at this
  omega
end
/-- a way that joins two ends of a place -/
theorem way_of {q a b : Int} (ha : a / 4 = q) (hb : b / 4 = q) (hq : 0 ≤ q) (hab : a ≠ b) (c : Nat → Int) : ∃ w : Int, 0 ≤ w ∧ w < 3 ∧ par (fun k => if (k : Int) = q then w else c k) a = b := by
  have hpar : ∀ w : Int, par (fun k => if (k : Int) = q then w else c k) a = 4 * q + jn w (a % 4) := fun w => by
    unfold par
    rw [ha]
    have : (if ((q.toNat : Nat) : Int) = q then w else c q.toNat) = w := if_pos (by omega)
    show 4 * q + jn (if ((q.toNat : Nat) : Int) = q then w else c q.toNat) (a % 4) = _
    rw [this]
  have h1 : a % 4 = 0 ∨ a % 4 = 1 ∨ a % 4 = 2 ∨ a % 4 = 3 := by omega
  have h2 : b % 4 = 0 ∨ b % 4 = 1 ∨ b % 4 = 2 ∨ b % 4 = 3 := by omega
  have key : ∃ w : Int, 0 ≤ w ∧ w < 3 ∧ jn w (a % 4) = b % 4 := by
    rcases h1 with h1 | h1 | h1 | h1 <;> rcases h2 with h2 | h2 | h2 | h2 <;> rw [h1, h2] <;> first
      | (exfalso; omega)
      | exact ⟨0, by decide, by decide, by decide⟩
      | exact ⟨1, by decide, by decide, by decide⟩
      | exact ⟨2, by decide, by decide, by decide⟩
  obtain ⟨w, w0, w1, w2⟩ := key
  exact ⟨w, w0, w1, by rw [hpar, w2]; omega⟩
end Gf

/-! ## Gf10: texts as rows of signs; a sign that stands twice -/
namespace Gf
open PySem Ty PySem.StrLaws Builtin.Str
abbrev tx (l : List Nat) : Str := ⟨l.toArray⟩
theorem tx_sg (c : Nat) : sgS c = tx [c] := rfl
theorem tx_len (l : List Nat) : (tx l).length = l.length := by show l.toArray.size = _; simp
/-! ### where a sign stands -/
theorem occ_run (x : Str) (c lim : Nat) : ∀ (is : List Nat) (acc : Array Nat) (free : Nat), is.Pairwise (· < ·) → (∀ i ∈ is, free ≤ i) →
    (forIn is (acc, free) (occBody x ⟨#[c]⟩ x.length lim)).run.fst.toList = acc.toList ++ (is.filter fun i => decide (x.cps.toList[i]? = some c)).take (lim - acc.size)
  | [], acc, free, _, _ => by simp
  | a :: is, acc, free, hp, hf => by
    rw [List.forIn_cons]
    unfold occBody
    obtain ⟨hp1, hp2⟩ := List.pairwise_cons.mp hp
    have ha := hf a List.mem_cons_self
    by_cases hc : x.cps.toList[a]? = some c
    · have hs := (subAt_one x c a).mpr hc
      rw [List.filter_cons_of_pos (by simpa using hc)]
      by_cases hl : acc.size < lim
      · rw [if_pos ⟨⟨⟨hl, ha⟩, hs.1⟩, hs.2⟩]
        refine (occ_run x c lim is _ _ hp2 fun i hi => ?_).trans ?_
        · have := hp1 i hi
          show a + 1 ≤ i
          omega
        · rw [Array.toList_push, Array.size_push, List.append_assoc]
          congr 1
          rw [show lim - acc.size = (lim - (acc.size + 1)) + 1 by omega, List.take_succ_cons]
          rfl
      · rw [if_neg (fun h => hl h.1.1.1)]
        refine (occ_run x c lim is _ _ hp2 fun i hi => hf i (List.mem_cons_of_mem _ hi)).trans ?_
        rw [show lim - acc.size = 0 by omega]; simp
    · rw [List.filter_cons_of_neg (by simpa using hc), if_neg (fun h => hc ((subAt_one x c a).mp ⟨h.1.2, h.2⟩))]
      exact occ_run x c lim is _ _ hp2 fun i hi => hf i (List.mem_cons_of_mem _ hi)
theorem occ_one (l : List Nat) (c lo lim : Nat) : occurrences (tx l) (sgS c) lo l.length lim = ((List.range' lo (l.length + 1 - lo)).filter fun i => decide (l[i]? = some c)).take lim := by
  rw [occ_eq, ← tx_len l]
  refine (occ_run (tx l) c lim _ _ _ ?_ ?_).trans ?_
  · exact List.pairwise_lt_range'
  · intro i hi
    have := List.mem_range'.mp hi
    omega
  · rw [tx_len]; rfl
theorem up_nat {a b : List Nat} (ha : a.Pairwise (· < ·)) (hb : b.Pairwise (· < ·)) (h : ∀ x, x ∈ a ↔ x ∈ b) : a = b := Ty.nup_uniq ha hb h
theorem pos_up (l : List Nat) (c lo n : Nat) : ((List.range' lo n).filter fun i => decide (l[i]? = some c)).Pairwise (· < ·) := List.Pairwise.filter _ List.pairwise_lt_range'
theorem mem_pos {l : List Nat} {c lo i : Nat} : i ∈ ((List.range' lo (l.length + 1 - lo)).filter fun i => decide (l[i]? = some c)) ↔ lo ≤ i ∧ l[i]? = some c := by
  rw [List.mem_filter, List.mem_range', decide_eq_true_eq]
  constructor
  · rintro ⟨⟨j, h1, h2⟩, h3⟩
    exact ⟨by omega, h3⟩
  · rintro ⟨h1, h2⟩
    have := (List.getElem?_eq_some_iff.mp h2).1
    exact ⟨⟨i - lo, by omega, by omega⟩, h2⟩
/-- c stands at i and j alone -/
structure Two (l : List Nat) (c i j : Nat) : Prop where
  lt : i < j
  hi : l[i]? = some c
  hj : l[j]? = some c
  only : ∀ k, l[k]? = some c → k = i ∨ k = j
theorem Two.bi {l : List Nat} {c i j : Nat} (h : Two l c i j) : i < l.length := (List.getElem?_eq_some_iff.mp h.hi).1
theorem Two.bj {l : List Nat} {c i j : Nat} (h : Two l c i j) : j < l.length := (List.getElem?_eq_some_iff.mp h.hj).1
theorem Two.mem {l : List Nat} {c i j : Nat} (h : Two l c i j) : c ∈ l := List.mem_of_getElem? h.hi
theorem Two.uniq {l : List Nat} {c i j i' j' : Nat} (h : Two l c i j) (h' : Two l c i' j') : i = i' ∧ j = j' := by
  have a := h.only i' h'.hi
  have b := h.only j' h'.hj
  have c1 := h'.only i h.hi
  have d := h'.only j h.hj
  have := h.lt
  have := h'.lt
  omega
theorem Two.pos0 {l : List Nat} {c i j : Nat} (h : Two l c i j) : ((List.range' 0 (l.length + 1 - 0)).filter fun k => decide (l[k]? = some c)) = [i, j] := by
  refine up_nat (pos_up ..) (by simpa using h.lt) fun k => ?_
  rw [mem_pos]
  constructor
  · rintro ⟨_, hk⟩
    rcases h.only k hk with e | e <;> simp [e]
  · intro hk
    rcases List.mem_cons.mp hk with e | e
    · rw [e]; exact ⟨Nat.zero_le _, h.hi⟩
    · rw [List.mem_singleton.mp e]; exact ⟨Nat.zero_le _, h.hj⟩
theorem Two.find {l : List Nat} {c i j : Nat} (h : Two l c i j) : Txt.find (tx l) (sgS c) = (i : Int) := by
  unfold Txt.find
  rw [tx_len, occ_one, h.pos0]; rfl
theorem Two.index {l : List Nat} {c i j : Nat} (h : Two l c i j) : indexM (tx l) (sgS c) = .ok (i : Int) := by
  unfold indexM Txt.index0
  rw [tx_len, occ_one, h.pos0]; rfl
theorem len_pos (l : List Nat) (c : Nat) : ((List.range' 0 (l.length + 1 - 0)).filter fun k => decide (l[k]? = some c)).length = l.count c := by
  have key : ∀ (m : List Nat) (s : Nat), (∀ k, k < m.length → l[s + k]? = m[k]?) → (∀ k, m.length ≤ k → l[s + k]? = none) → ((List.range' s (m.length + 1)).filter fun k => decide (l[k]? = some c)).length = m.count c := by
    intro m
    induction m with
    | nil =>
      intro s _ h2
      have := h2 0 (Nat.le_refl _)
      simp only [Nat.add_zero] at this
      simp [this]
    | cons a m ih =>
      intro s h1 h2
      rw [List.length_cons, List.range'_succ]
      have q := h1 0 (by simp)
      simp only [Nat.add_zero, List.getElem?_cons_zero] at q
      have ih := ih (s + 1) (fun k hk => by
        have := h1 (k + 1) (by simp; omega)
        rw [show s + 1 + k = s + (k + 1) by omega, this]; simp) fun k hk => by
        rw [show s + 1 + k = s + (k + 1) by omega]
        exact h2 (k + 1) (by simp; omega)
      by_cases e : a = c
      · subst e
        rw [List.filter_cons_of_pos (by simp [q]), List.length_cons, ih, List.count_cons_self]
      · rw [List.filter_cons_of_neg (by simp [q, e]), ih, List.count_cons_of_ne (Ne.symm (Ne.symm e))]
  exact key l 0 (fun k _ => by rw [Nat.zero_add]) fun k hk => by rw [Nat.zero_add]; exact List.getElem?_eq_none hk
theorem two_of_count {l : List Nat} {c : Nat} (h : l.count c = 2) : ∃ i j, Two l c i j := by
  have e := len_pos l c
  rw [h] at e
  match q : ((List.range' 0 (l.length + 1 - 0)).filter fun k => decide (l[k]? = some c)), e with
  | [i, j], _ =>
    have hu := pos_up l c 0 (l.length + 1 - 0)
    rw [q] at hu
    have hm : ∀ k, k ∈ [i, j] ↔ 0 ≤ k ∧ l[k]? = some c := fun k => by rw [← q]; exact mem_pos
    refine ⟨i, j, by simpa using hu, ((hm i).mp (by simp)).2, ((hm j).mp (by simp)).2, fun k hk => ?_⟩
    have := (hm k).mpr ⟨Nat.zero_le _, hk⟩
    simpa using this
/-- what stands between two places -/
def btw (l : List Nat) (i j : Nat) : List Nat := (l.drop (i + 1)).take (j - (i + 1))
theorem btw_get {l : List Nat} {i j k : Nat} (hk : k < j - (i + 1)) : (btw l i j)[k]? = l[i + 1 + k]? := by
  unfold btw
  rw [List.getElem?_take_of_lt hk, List.getElem?_drop]
theorem btw_len {l : List Nat} {i j : Nat} (h : j ≤ l.length) : (btw l i j).length = j - (i + 1) := by
  unfold btw
  rw [List.length_take, List.length_drop]
  omega
theorem btw_count {l : List Nat} {i j c a b : Nat} (hj : j ≤ l.length) (h : Two l c a b) : (btw l i j).count c = (if i < a ∧ a < j then 1 else 0) + (if i < b ∧ b < j then 1 else 0) := by
  rw [← len_pos]
  have hm : ∀ k, k ∈ ((List.range' 0 ((btw l i j).length + 1 - 0)).filter fun k => decide ((btw l i j)[k]? = some c)) ↔ k ∈ (((if i < a ∧ a < j then [a - (i + 1)] else []) ++ (if i < b ∧ b < j then [b - (i + 1)] else [])) : List Nat) := fun k => by
    rw [mem_pos, List.mem_append]
    have e1 : (k ∈ (if i < a ∧ a < j then [a - (i + 1)] else [] : List Nat)) ↔ (i < a ∧ a < j) ∧ k = a - (i + 1) := by
      split <;> simp [*]
    have e2 : (k ∈ (if i < b ∧ b < j then [b - (i + 1)] else [] : List Nat)) ↔ (i < b ∧ b < j) ∧ k = b - (i + 1) := by
      split <;> simp [*]
    rw [e1, e2]
    constructor
    · rintro ⟨_, hk⟩
      have hl := (List.getElem?_eq_some_iff.mp hk).1
      rw [btw_len hj] at hl
      rw [btw_get hl] at hk
      rcases h.only _ hk with e | e
      · left; omega
      · right; omega
    · rintro (⟨⟨h1, h2⟩, rfl⟩ | ⟨⟨h1, h2⟩, rfl⟩)
      · refine ⟨Nat.zero_le _, ?_⟩
        rw [btw_get (by omega), show i + 1 + (a - (i + 1)) = a by omega]
        exact h.hi
      · refine ⟨Nat.zero_le _, ?_⟩
        rw [btw_get (by omega), show i + 1 + (b - (i + 1)) = b by omega]
        exact h.hj
  have hl := h.lt
  have : ((List.range' 0 ((btw l i j).length + 1 - 0)).filter fun k => decide ((btw l i j)[k]? = some c)) = ((if i < a ∧ a < j then [a - (i + 1)] else []) ++ (if i < b ∧ b < j then [b - (i + 1)] else [])) := by
    refine up_nat (pos_up ..) ?_ hm
    split <;> split <;> simp <;> omega
  rw [this]
  split <;> split <;> simp
end Gf

/-! ## Gf11: ring words, their letters, where these stand, crossings -/
namespace Gf
open PySem Ty
/-- the letters of a word, rising -/
abbrev cs (l : List Nat) : List Nat := csort (tx l)
theorem mem_cs {l : List Nat} {c : Nat} : c ∈ cs l ↔ c ∈ l := mem_csort
theorem cs_up (l : List Nat) : (cs l).Pairwise (· < ·) := csort_up _
theorem cs_nd (l : List Nat) : (cs l).Nodup := by
  rw [List.nodup_iff_pairwise_ne]
  exact (cs_up l).imp fun h => by omega
/-- a ring word of n letters -/
structure Ring (l : List Nat) (n : Nat) : Prop where
  n1 : 1 ≤ n
  n10 : n ≤ 10
  len : l.length = 2 * n
  two : ∀ c ∈ l, l.count c = 2
  low : ∀ c ∈ l, 97 ≤ c ∧ c < 123
  few : (cs l).length = n
def dbl (ls : List Nat) : List Nat := ls.flatMap fun x => [x, x]
theorem dbl_len (ls : List Nat) : (dbl ls).length = 2 * ls.length := by
  unfold dbl
  induction ls with
  | nil => rfl
  | cons a l ih => rw [List.flatMap_cons, List.length_append, ih]; simp; omega
theorem mem_dbl {ls : List Nat} {c : Nat} : c ∈ dbl ls ↔ c ∈ ls := by
  unfold dbl
  rw [List.mem_flatMap]
  constructor
  · rintro ⟨a, h, e⟩
    simp at e
    rw [e]; exact h
  · intro h
    exact ⟨c, h, by simp⟩
theorem count_dbl {ls : List Nat} {c : Nat} (hn : ls.Nodup) (h : c ∈ ls) : (dbl ls).count c = 2 := by
  have key : ∀ ls : List Nat, (dbl ls).count c = 2 * ls.count c := by
    intro ls
    unfold dbl
    induction ls with
    | nil => rfl
    | cons a l ih =>
      rw [List.flatMap_cons, List.count_append, ih]
      by_cases e : a = c
      · subst e; simp; omega
      · simp [e]
  rw [key, hn.count, if_pos h]
theorem Ring.of_perm {l ls : List Nat} (hp : l.Perm (dbl ls)) (hn : ls.Nodup) (h1 : 1 ≤ ls.length) (h10 : ls.length ≤ 10) (hl : ∀ c ∈ ls, 97 ≤ c ∧ c < 123) : Ring l ls.length := by
  have hm : ∀ c, c ∈ l ↔ c ∈ ls := fun c => hp.mem_iff.trans mem_dbl
  refine ⟨h1, h10, by rw [hp.length_eq, dbl_len], fun c hc => ?_, fun c hc => hl c ((hm c).mp hc), ?_⟩
  · rw [hp.count_eq, count_dbl hn ((hm c).mp hc)]
  · exact ((List.perm_ext_iff_of_nodup (cs_nd l) hn).mpr fun c => mem_cs.trans (hm c)).length_eq
/-- where c stands -/
def pl (l : List Nat) (c : Nat) : Nat × Nat := match (List.range' 0 (l.length + 1 - 0)).filter fun k => decide (l[k]? = some c) with
  | [i, j] => (i, j)
  | _ => (0, 0)
theorem Two.pl {l : List Nat} {c i j : Nat} (h : Two l c i j) : Gf.pl l c = (i, j) := by
  unfold Gf.pl
  rw [h.pos0]
theorem Ring.at {l : List Nat} {n c : Nat} (R : Ring l n) (h : c ∈ l) : Two l c (pl l c).1 (pl l c).2 := by
  obtain ⟨i, j, q⟩ := two_of_count (R.two c h)
  rw [q.pl]; exact q
/-- do c and d stand by turns? -/
def crB (l : List Nat) (c d : Nat) : Bool := decide ((pl l c).1 < (pl l d).1 ∧ (pl l d).1 < (pl l c).2) != decide ((pl l c).1 < (pl l d).2 ∧ (pl l d).2 < (pl l c).2)
def cr (l : List Nat) (c d : Nat) : Int := if crB l c d then 1 else 0
theorem crB_self (l : List Nat) (c : Nat) : crB l c c = false := by
  unfold crB
  have h1 : ¬ ((pl l c).1 < (pl l c).1 ∧ (pl l c).1 < (pl l c).2) := by omega
  have h2 : ¬ ((pl l c).1 < (pl l c).2 ∧ (pl l c).2 < (pl l c).2) := by omega
  rw [decide_eq_false h1, decide_eq_false h2]; rfl
theorem crB_symm {l : List Nat} {n c d : Nat} (R : Ring l n) (hc : c ∈ l) (hd : d ∈ l) : crB l c d = crB l d c := by
  by_cases e : c = d
  · rw [e]
  have tc := R.at hc
  have td := R.at hd
  unfold crB
  generalize pl l c = p at *
  generalize pl l d = q at *
  obtain ⟨i, j⟩ := p
  obtain ⟨a, b⟩ := q
  have l1 := tc.lt
  have l2 := td.lt
  simp only at *
  have ne : ∀ x y : Nat, l[x]? = some c → l[y]? = some d → x ≠ y := fun x y h1 h2 h3 => by
    rw [h3, h2] at h1
    exact e (Option.some.inj h1).symm
  have n1 := ne i a tc.hi td.hi
  have n2 := ne i b tc.hi td.hj
  have n3 := ne j a tc.hj td.hi
  have n4 := ne j b tc.hj td.hj
  rw [Bool.eq_iff_iff]
  simp only [bne_iff_ne, ne_eq, decide_eq_decide]
  omega
/-- d stands once between the two places of c -/
theorem btw_cr {l : List Nat} {n c d : Nat} (R : Ring l n) (hc : c ∈ l) (hd : d ∈ l) : decide (((btw l (pl l c).1 (pl l c).2).count d : Int) = 1) = crB l c d := by
  have tc := R.at hc
  have td := R.at hd
  have hj := tc.bj
  rw [btw_count (by omega) td]
  unfold crB
  generalize pl l c = p
  generalize pl l d = q
  by_cases h1 : p.1 < q.1 ∧ q.1 < p.2 <;> by_cases h2 : p.1 < q.2 ∧ q.2 < p.2 <;> simp [h1, h2]
end Gf

/-! ## Gf12: those of a choice that are not 0; choice tables -/
namespace Gf
open PySem Ty
def sel (n : Nat) (p : Nat → Bool) : List Nat := (List.range n).filter p
/-- the letter of number i -/
def lt (l : List Nat) (i : Nat) : Nat := (cs l).getD i 0
/-- which letters count: a way other than 0 -/
def on (n : Nat) (ch : Nat → Int) : List Nat := sel n fun i => !decide (ch i = 0)
end Gf

/-! ## Gf13: in the order of first standing; the net of a word -/
namespace Gf
open PySem Ty
section
variable {α : Type} [DecidableEq α]
def addF (acc : List α) (c : α) : List α := if c ∈ acc then acc else acc ++ [c]
/-- each once, as they first stand -/
def fo (l : List α) : List α := l.foldl addF []
theorem fo_snoc (l : List α) (c : α) : fo (l ++ [c]) = addF (fo l) c := by
  unfold fo
  rw [List.foldl_append]; rfl
theorem snoc_ind {P : List α → Prop} (h0 : P []) (h1 : ∀ l c, P l → P (l ++ [c])) (l : List α) : P l := by
  have : ∀ r : List α, P r.reverse := by
    intro r
    induction r with
    | nil => exact h0
    | cons a r ih => rw [List.reverse_cons]; exact h1 _ _ ih
  simpa using this l.reverse
theorem mem_fo {c : α} (l : List α) : c ∈ fo l ↔ c ∈ l := by
  refine snoc_ind (P := fun l => ∀ c, c ∈ fo l ↔ c ∈ l) (fun _ => Iff.rfl) (fun l d ih c => ?_) l c
  rw [fo_snoc]
  unfold addF
  split
  · rename_i h
    rw [ih, List.mem_append, List.mem_singleton]
    constructor
    · exact .inl
    · rintro (z | z)
      · exact z
      · rw [z]; exact (ih d).mp h
  · rw [List.mem_append, List.mem_append, ih]
theorem fo_nd (l : List α) : (fo l).Nodup := by
  refine snoc_ind (P := fun l => (fo l).Nodup) List.nodup_nil (fun l d ih => ?_) l
  rw [fo_snoc]
  unfold addF
  split
  · exact ih
  · rename_i h
    exact List.nodup_append.mpr ⟨ih, by simp, fun a ha b hb e => by
      rw [List.mem_singleton] at hb
      rw [e, hb] at ha
      exact h ha⟩
/-- where sign number k comes in -/
def inn [Inhabited α] (l : List α) (k : Nat) : Nat := 4 * (fo l).idxOf (l.getD k default) + if l.getD k default ∈ l.take k then 2 else 0
end
/-! ### of a ring word -/
theorem fo_len {l : List Nat} {n : Nat} (R : Ring l n) : (fo l).length = n := by
  rw [← R.few]
  exact ((List.perm_ext_iff_of_nodup (fo_nd l) (cs_nd l)).mpr fun c => (mem_fo l).trans mem_cs.symm).length_eq
theorem getD_mem' {l : List Nat} {k : Nat} (h : k < l.length) : l.getD k default ∈ l := by
  rw [List.getD_eq_getElem?_getD, List.getElem?_eq_getElem h]
  exact List.getElem_mem h
theorem mem_take' {l : List Nat} {c k : Nat} : c ∈ l.take k ↔ ∃ i, i < k ∧ l[i]? = some c := by
  rw [List.mem_iff_getElem?]
  constructor
  · rintro ⟨i, h⟩
    rw [List.getElem?_take] at h
    split at h
    · exact ⟨i, ‹_›, h⟩
    · cases h
  · rintro ⟨i, h1, h2⟩
    exact ⟨i, by rw [List.getElem?_take_of_lt h1]; exact h2⟩
theorem Two.seat {l : List Nat} {c i j k : Nat} (h : Two l c i j) (hk : l[k]? = some c) : (c ∈ l.take k ↔ k = j) ∧ (¬ c ∈ l.take k ↔ k = i) := by
  have hl := h.lt
  rw [mem_take']
  rcases h.only k hk with e | e
  · subst e
    have a : ¬ ∃ i, i < k ∧ l[i]? = some c := by
      rintro ⟨a, ha, q⟩
      rcases h.only a q with z | z <;> omega
    exact ⟨⟨fun z => absurd z a, fun z => by omega⟩, ⟨fun _ => rfl, fun _ => a⟩⟩
  · subst e
    have a : ∃ i, i < k ∧ l[i]? = some c := ⟨i, hl, h.hi⟩
    exact ⟨⟨fun _ => rfl, fun _ => a⟩, ⟨fun z => absurd a z, fun z => by omega⟩⟩
theorem inn_even (l : List Nat) (k : Nat) : inn l k % 2 = 0 := by
  unfold inn
  split <;> omega
theorem inn_lt {l : List Nat} {n k : Nat} (R : Ring l n) (hk : k < l.length) : inn l k < 4 * n := by
  unfold inn
  have : (fo l).idxOf (l.getD k default) < (fo l).length := List.idxOf_lt_length_iff.mpr ((mem_fo l).mpr (getD_mem' hk))
  rw [fo_len R] at this
  split <;> omega
theorem inn_sur {l : List Nat} {n j : Nat} (R : Ring l n) (hj : j < 4 * n) (he : j % 2 = 0) : ∃ k, k < l.length ∧ inn l k = j := by
  have hi : j / 4 < (fo l).length := by rw [fo_len R]; omega
  have hc : (fo l)[j / 4] ∈ l := (mem_fo l).mp (List.getElem_mem hi)
  have hx : (fo l).idxOf (fo l)[j / 4] = j / 4 := (fo_nd l).idxOf_getElem _ hi
  generalize (fo l)[j / 4] = c at hc hx
  obtain ⟨a, b, T⟩ := two_of_count (R.two c hc)
  have ga : l.getD a default = c := by rw [List.getD_eq_getElem?_getD, T.hi]; rfl
  have gb : l.getD b default = c := by rw [List.getD_eq_getElem?_getD, T.hj]; rfl
  have hl := T.lt
  by_cases h4 : j % 4 = 0
  · refine ⟨a, T.bi, ?_⟩
    unfold inn
    rw [ga, hx, if_neg ((T.seat T.hi).2.mpr rfl)]
    omega
  · refine ⟨b, T.bj, ?_⟩
    unfold inn
    rw [gb, hx, if_pos ((T.seat T.hj).1.mpr rfl)]
    omega
def prv' (m k : Nat) : Nat := if k = 0 then m - 1 else k - 1
theorem prv_lt {m k : Nat} (h : k < m) : prv' m k < m := by unfold prv'; split <;> omega
/-- the ties of a word's net, up to sign number j -/
def NetU (l : List Nat) (j : Nat) (F : Nat → Int) : Prop := ∀ k, k < j → F (inn l k) = inn l (prv' l.length k) + 1 ∧ F (inn l (prv' l.length k) + 1) = inn l k
end Gf

/-! ## Gf14: cut texts; words from places and letters -/
namespace Gf
open PySem Ty
theorem lidx_ok {α : Type} [Rp α] [DecidableEq α] [Eqv α] [EqvT α] {m : List α} {a : α} (h : a ∈ m) : lidxM m a = .ok (m.idxOf a : Int) := by
  unfold lidxM
  rw [EqvT.all, EqvT.all]
  have : m.findIdx? (fun z => decide (z = a)) = some (m.idxOf a) := by
    induction m with
    | nil => cases h
    | cons x m ih =>
      rw [List.findIdx?_cons, List.idxOf_cons]
      by_cases q : x = a
      · simp [q]
      · have q2 : (x == a) = false := by simpa using q
        rw [q2, decide_eq_false q, ih ((List.mem_cons.mp h).resolve_left (fun z => q z.symm))]; rfl
  rw [this]; rfl
theorem all_in {F M : List Int} (hF : F.Nodup) (hM : M.Nodup) (hl : M.length ≤ F.length) (hs : ∀ x ∈ F, x ∈ M) : F.Perm M := by
  refine (List.perm_ext_iff_of_nodup hF hM).mpr fun x => ⟨hs x, fun hx => ?_⟩
  refine Classical.byContradiction fun hn => ?_
  have := nodup_le (List.nodup_cons.mpr ⟨hn, hF⟩) (fun y hy => (List.mem_cons.mp hy).elim (fun e => e ▸ hx) (hs y))
  rw [List.length_cons] at this
  omega
end Gf

/-! ## Gf15: texts that may be compared -/
namespace Gf
open PySem Ty
end Gf

/-! ## Gf16: a word's writings, the least of them -/
namespace Gf
open PySem Ty
def rot (k : Nat) (l : List Nat) : List Nat := l.drop k ++ l.take k
theorem mem_rot {k : Nat} {l : List Nat} {c : Nat} : c ∈ rot k l ↔ c ∈ l := by
  unfold rot
  rw [List.mem_append, or_comm, ← List.mem_append, List.take_append_drop]
theorem rot_zero (l : List Nat) : rot 0 l = l := by simp [rot]
end Gf

/-! ## Gf17: a round through all places as a word; choices held against it: what is closed, and what the crossings tell -/
namespace Gf
open PySem Ty
/-- one round through all ends: one comes in at I k, goes out at O k; A q, B q: the two turns at which the place q is come to -/
structure CW (n : Nat) (f c I O : Nat → Int) (A B : Nat → Nat) : Prop where
  n1 : 1 ≤ n
  rI : ∀ k, k < 2 * n → 0 ≤ I k ∧ I k < ((4 * n : Nat) : Int)
  rO : ∀ k, k < 2 * n → 0 ≤ O k ∧ O k < ((4 * n : Nat) : Int)
  hp : ∀ k, k < 2 * n → par c (I k) = O k
  hf : ∀ k, k + 1 < 2 * n → fJ f (O k) = I (k + 1)
  hl : fJ f (O (2 * n - 1)) = I 0
  all : ∀ x : Int, 0 ≤ x → x < ((4 * n : Nat) : Int) → ∃ k, k < 2 * n ∧ (x = I k ∨ x = O k)
  iI : ∀ j k, j < 2 * n → k < 2 * n → I j = I k → j = k
  iIO : ∀ j k, j < 2 * n → k < 2 * n → I j ≠ O k
  hA : ∀ q, q < n → A q < B q ∧ B q < 2 * n ∧ I (A q) / 4 = (q : Int) ∧ I (B q) / 4 = (q : Int)
  hk : ∀ k, k < 2 * n → ∀ q, q < n → I k / 4 = (q : Int) → k = A q ∨ k = B q
/-- the place come to at a turn -/
def wpl (I : Nat → Int) (k : Nat) : Nat := (I k / 4).toNat
/-- two places' turns stand by turns -/
def crw (A B : Nat → Nat) (q p : Nat) : Bool := decide (A q < A p ∧ A p < B q) != decide (A q < B p ∧ B p < B q)
/-- how a choice joins at a place: 0 along, 1 in with in, 2 in with the other out -/
def tpw (I O : Nat → Int) (A B : Nat → Nat) (d : Nat → Int) (q : Nat) : Nat := if par d (I (A q)) = O (A q) then 0 else if par d (I (A q)) = I (B q) then 1 else 2
def amw (I O : Nat → Int) (A B : Nat → Nat) (d : Nat → Int) (q p : Nat) : Bool := if q = p then decide (tpw I O A B d q = 1) else crw A B q p
def suw (I O : Nat → Int) (A B : Nat → Nat) (d : Nat → Int) (q : Nat) : Bool := decide (tpw I O A B d q ≠ 0)
/-- what the part at S makes noughts of -/
def Ker (n : Nat) (a : Nat → Nat → Bool) (S x : Nat → Bool) : Prop := (∀ k, k < n → S k = false → x k = false) ∧ ∀ i, i < n → S i = true → qx n (fun j => a i j && x j) = false
/-- closed under a choice and the ties -/
def Clo (n : Nat) (f d : Nat → Int) (Z : Int → Bool) : Prop := ∀ x : Int, 0 ≤ x → x < ((4 * n : Nat) : Int) → Z (par d x) = Z x ∧ Z (fJ f x) = Z x
theorem qx_two {n u v : Nat} (hu : u < n) (hv : v < n) (huv : u ≠ v) {h : Nat → Bool} (hz : ∀ k, k < n → k ≠ u → k ≠ v → h k = false) : qx n h = (h u != h v) := by
  rw [qx_split2 hu hv huv, qx_no fun k hk => by
    by_cases e : k = u ∨ k = v
    · rw [if_pos e]
    · rw [if_neg e]; exact hz k hk (fun z => e (.inl z)) (fun z => e (.inr z))]
  cases h u <;> cases h v <;> rfl
/-- counted place by place -/
theorem qx_places {n m : Nat} {w : Nat → Nat} (hw : ∀ k, k < m → w k < n) (u x : Nat → Bool) : qx m (fun k => u k && x (w k)) = qx n (fun p => (qx m fun k => u k && decide (w k = p)) && x p) := by
  induction m with
  | zero => exact (qx_no fun k _ => rfl).symm
  | succ m ih =>
    have ih := ih fun k hk => hw k (by omega)
    show (qx m (fun k => u k && x (w k)) != (u m && x (w m))) = qx n (fun p => (qx m (fun k => u k && decide (w k = p)) != (u m && decide (w m = p))) && x p)
    rw [ih]
    have e : ∀ p, ((qx m (fun k => u k && decide (w k = p)) != (u m && decide (w m = p))) && x p) = ((qx m (fun k => u k && decide (w k = p)) && x p) != ((u m && decide (w m = p)) && x p)) := fun p => by
      cases qx m (fun k => u k && decide (w k = p)) <;> cases u m <;> cases decide (w m = p) <;> cases x p <;> rfl
    rw [qx_congr fun p _ => e p, qx_xor]
    congr 1
    rw [qx_one (hw m (by omega)) fun p _ hp => by rw [decide_eq_false (fun z => hp z.symm)]; simp]
    simp
/-- the stretch from i to j -/
theorem qx_cut {h : Nat → Bool} {i : Nat} : ∀ {j : Nat}, i ≤ j → (qx i h != qx j h) = qx j fun k => decide (i ≤ k) && h k
  | 0, hi => by
    have : i = 0 := by omega
    subst this; rfl
  | j + 1, hi => by
    show (qx i h != (qx j h != h j)) = (qx j (fun k => decide (i ≤ k) && h k) != (decide (i ≤ j) && h j))
    by_cases e : i ≤ j
    · rw [← qx_cut e, decide_eq_true e]
      generalize qx i h = a
      generalize qx j h = b
      cases a <;> cases b <;> cases h j <;> rfl
    · have e2 : i = j + 1 := by omega
      subst e2
      rw [decide_eq_false e, qx_no (h := fun k => decide (j + 1 ≤ k) && h k) fun k hk => by rw [decide_eq_false (show ¬ j + 1 ≤ k by omega)]; rfl]
      show ((qx j h != h j) != (qx j h != h j)) = _
      generalize qx j h = a
      cases a <;> cases h j <;> rfl
theorem fJfJ {m : Nat} {f : Nat → Int} (hn : Net m f) {x : Int} (h0 : 0 ≤ x) (h1 : x < (m : Int)) : fJ f (fJ f x) = x := by
  unfold fJ
  rw [(hn x.toNat (by omega)).2.2]
  omega
section
variable {n : Nat} {f c I O : Nat → Int} {A B : Nat → Nat} (C : CW n f c I O A B)
include C
theorem CW.pO {k : Nat} (hk : k < 2 * n) : par c (O k) = I k := by
  rw [← C.hp k hk, par_par (C.rI k hk).1]
theorem CW.dO {k : Nat} (hk : k < 2 * n) : O k / 4 = I k / 4 := by
  rw [← C.hp k hk]; exact par_at (C.rI k hk).1
theorem CW.iO {j k : Nat} (hj : j < 2 * n) (hk : k < 2 * n) (h : O j = O k) : j = k := C.iI j k hj hk (by rw [← C.pO hj, h, C.pO hk])
theorem CW.hw {k : Nat} (hk : k < 2 * n) : wpl I k < n ∧ I k / 4 = (wpl I k : Int) := by
  have := C.rI k hk
  unfold wpl
  omega
theorem CW.wA {q : Nat} (hq : q < n) : wpl I (A q) = q ∧ wpl I (B q) = q := by
  have := C.hA q hq
  unfold wpl
  omega
theorem CW.wk {k q : Nat} (hk : k < 2 * n) (hq : q < n) : wpl I k = q ↔ k = A q ∨ k = B q := by
  constructor
  · intro h
    exact C.hk k hk q hq (by rw [(C.hw hk).2, h])
  · rintro (rfl | rfl)
    · exact (C.wA hq).1
    · exact (C.wA hq).2
/-- the four ends of a place -/
theorem CW.ends {q : Nat} (hq : q < n) {x : Int} (h0 : 0 ≤ x) (h : x / 4 = (q : Int)) : x = I (A q) ∨ x = O (A q) ∨ x = I (B q) ∨ x = O (B q) := by
  obtain ⟨k, hk, e⟩ := C.all x h0 (by omega)
  have e4 : I k / 4 = (q : Int) := by
    rcases e with rfl | rfl
    · exact h
    · rw [← C.dO hk]; exact h
  rcases C.hk k hk q hq e4 with rfl | rfl <;> rcases e with rfl | rfl <;> simp
theorem CW.dis {q : Nat} (hq : q < n) : I (A q) ≠ O (A q) ∧ I (A q) ≠ I (B q) ∧ I (A q) ≠ O (B q) ∧ O (A q) ≠ I (B q) ∧ O (A q) ≠ O (B q) ∧ I (B q) ≠ O (B q) := by
  obtain ⟨h1, h2, _, _⟩ := C.hA q hq
  refine ⟨C.iIO _ _ (by omega) (by omega), fun z => ?_, C.iIO _ _ (by omega) (by omega), fun z => C.iIO _ _ (by omega) (by omega) z.symm, fun z => ?_, C.iIO _ _ (by omega) (by omega)⟩
  · have := C.iI _ _ (by omega) (by omega) z; omega
  · have := C.iO (by omega) (by omega) z; omega
/-- how the ends of a place are joined -/
theorem CW.joins {q : Nat} (hq : q < n) (d : Nat → Int) : (tpw I O A B d q = 0 ∧ par d (I (A q)) = O (A q) ∧ par d (I (B q)) = O (B q)) ∨ (tpw I O A B d q = 1 ∧ par d (I (A q)) = I (B q) ∧ par d (O (A q)) = O (B q)) ∨ (tpw I O A B d q = 2 ∧ par d (I (A q)) = O (B q) ∧ par d (O (A q)) = I (B q)) := by
  obtain ⟨h1, h2, h3, h4⟩ := C.hA q hq
  obtain ⟨d1, d2, d3, d4, d5, d6⟩ := C.dis hq
  have rA := C.rI (A q) (by omega)
  have rB := C.rI (B q) (by omega)
  have sA := C.rO (A q) (by omega)
  have sB := C.rO (B q) (by omega)
  have oA : O (A q) / 4 = (q : Int) := by rw [C.dO (by omega)]; exact h3
  have oB : O (B q) / 4 = (q : Int) := by rw [C.dO (by omega)]; exact h4
  have key : ∀ x : Int, 0 ≤ x → x / 4 = (q : Int) → par d x ≠ x ∧ par d (par d x) = x ∧ (par d x = I (A q) ∨ par d x = O (A q) ∨ par d x = I (B q) ∨ par d x = O (B q)) := fun x x0 xq => by
    refine ⟨par_ne x0, par_par x0, C.ends hq ?_ (by rw [par_at x0]; exact xq)⟩
    have := par_at (c := d) x0
    omega
  obtain ⟨a1, a2, a3⟩ := key _ rA.1 h3
  obtain ⟨b1, b2, b3⟩ := key _ rB.1 h4
  obtain ⟨e1, e2, e3⟩ := key _ sA.1 oA
  unfold tpw
  rcases a3 with a | a | a | a
  · exact absurd a a1
  · refine .inl ⟨if_pos a, a, ?_⟩
    rcases b3 with b | b | b | b
    · rw [b] at b2; rw [b2] at a; exact absurd a d4.symm
    · rw [b] at b2; rw [a] at a2; rw [a2] at b2; exact absurd b2 d2
    · exact absurd b b1
    · exact b
  · refine .inr (.inl ⟨by rw [if_neg (by rw [a]; exact d4.symm), if_pos a], a, ?_⟩)
    rcases e3 with b | b | b | b
    · rw [b] at e2; rw [e2] at a; exact absurd a d4
    · exact absurd b e1
    · rw [b] at e2; rw [a] at a2; rw [a2] at e2; exact absurd e2 d1
    · exact b
  · refine .inr (.inr ⟨by rw [if_neg (by rw [a]; exact d5.symm), if_neg (by rw [a]; exact d6.symm)], a, ?_⟩)
    rcases e3 with b | b | b | b
    · rw [b] at e2; rw [e2] at a; exact absurd a d5
    · exact absurd b e1
    · exact b
    · rw [b] at e2; rw [a] at a2; rw [a2] at e2; exact absurd e2 d1
/-- what changes at a turn -/
theorem CW.flip {d : Nat → Int} {Z : Int → Bool} (hZ : Clo n f d Z) {k : Nat} (hk : k < 2 * n) : (Z (I k) != Z (O k)) = (Z (I (A (wpl I k))) != Z (O (A (wpl I k)))) ∧ (tpw I O A B d (wpl I k) = 0 → Z (I k) = Z (O k)) := by
  obtain ⟨hq, _⟩ := C.hw hk
  obtain ⟨h1, h2, _, _⟩ := C.hA _ hq
  have zz : ∀ j, j < 2 * n → Z (par d (I j)) = Z (I j) ∧ Z (par d (O j)) = Z (O j) := fun j hj => ⟨(hZ _ (C.rI j hj).1 (C.rI j hj).2).1, (hZ _ (C.rO j hj).1 (C.rO j hj).2).1⟩
  have zA := zz (A (wpl I k)) (by omega)
  have zB := zz (B (wpl I k)) (by omega)
  rcases (C.wk hk hq).mp rfl with e | e
  · constructor
    · rw [← e]
    · intro t0
      rcases C.joins hq d with ⟨t, j1, j2⟩ | ⟨t, _⟩ | ⟨t, _⟩
      · rw [e, ← zA.1, j1]
      · rw [t] at t0; cases t0
      · rw [t] at t0; cases t0
  · have ek : Z (I k) = Z (I (B (wpl I k))) ∧ Z (O k) = Z (O (B (wpl I k))) := by rw [← e]; exact ⟨rfl, rfl⟩
    rw [ek.1, ek.2]
    rcases C.joins hq d with ⟨t, j1, j2⟩ | ⟨t, j1, j2⟩ | ⟨t, j1, j2⟩
    · rw [← zA.1, j1, ← zB.1, j2]
      refine ⟨?_, fun _ => rfl⟩
      generalize Z (O (A (wpl I k))) = a
      generalize Z (O (B (wpl I k))) = b
      cases a <;> cases b <;> rfl
    · rw [← zA.1, ← zA.2, j1, j2]
      refine ⟨rfl, fun z => ?_⟩
      rw [t] at z; cases z
    · rw [← zA.1, ← zA.2, j1, j2]
      refine ⟨?_, fun z => ?_⟩
      · generalize Z (I (B (wpl I k))) = a
        generalize Z (O (B (wpl I k))) = b
        cases a <;> cases b <;> rfl
      · rw [t] at z; cases z
/-- what one is in behind k turns -/
theorem CW.along {Z : Int → Bool} {x : Nat → Bool} (hZ : ∀ y : Int, 0 ≤ y → y < ((4 * n : Nat) : Int) → Z (fJ f y) = Z y) (hx : ∀ k, k < 2 * n → (Z (I k) != Z (O k)) = x (wpl I k)) : ∀ k, k < 2 * n → Z (I k) = (Z (I 0) != qx k fun k => x (wpl I k)) ∧ Z (O k) = (Z (I 0) != qx (k + 1) fun k => x (wpl I k))
  | 0, h0 => by
    have := hx 0 h0
    refine ⟨by show _ = (Z (I 0) != false); simp, ?_⟩
    show _ = (Z (I 0) != (false != x (wpl I 0)))
    rw [← this]
    generalize Z (I 0) = a
    generalize Z (O 0) = b
    cases a <;> cases b <;> rfl
  | k + 1, h => by
    obtain ⟨_, i2⟩ := CW.along hZ hx k (by omega)
    have e : Z (I (k + 1)) = (Z (I 0) != qx (k + 1) fun k => x (wpl I k)) := by
      rw [← C.hf k h, hZ _ (C.rO k (by omega)).1 (C.rO k (by omega)).2, i2]
    refine ⟨e, ?_⟩
    have := hx (k + 1) h
    show _ = (Z (I 0) != (qx (k + 1) (fun k => x (wpl I k)) != x (wpl I (k + 1))))
    rw [← this, e]
    generalize Z (I 0) = a
    generalize qx (k + 1) (fun k => x (wpl I k)) = b
    generalize Z (O (k + 1)) = e
    cases a <;> cases b <;> cases e <;> rfl
/-- the places come to once between both turns of a place -/
theorem CW.count {q p : Nat} (hq : q < n) (hp : p < n) : (qx (B q) fun k => decide (A q + 1 ≤ k) && decide (wpl I k = p)) = if q = p then false else crw A B q p := by
  obtain ⟨h1, h2, _, _⟩ := C.hA q hq
  obtain ⟨g1, g2, _, _⟩ := C.hA p hp
  have ew : ∀ k, k < B q → (decide (A q + 1 ≤ k) && decide (wpl I k = p)) = ((decide (A q + 1 ≤ k) && decide (k = A p)) != (decide (A q + 1 ≤ k) && decide (k = B p))) := fun k hk => by
    have := C.wk (k := k) (q := p) (by omega) hp
    by_cases e1 : k = A p
    · rw [decide_eq_true (this.mpr (.inl e1)), decide_eq_true e1, decide_eq_false (show ¬ k = B p by omega)]; simp
    · by_cases e2 : k = B p
      · rw [decide_eq_true (this.mpr (.inr e2)), decide_eq_false e1, decide_eq_true e2]; simp
      · rw [decide_eq_false (fun z => (this.mp z).elim e1 e2), decide_eq_false e1, decide_eq_false e2]; simp
  rw [qx_congr ew, qx_xor]
  have one : ∀ a, (qx (B q) fun k => decide (A q + 1 ≤ k) && decide (k = a)) = decide (A q < a ∧ a < B q) := fun a => by
    by_cases ha : a < B q
    · rw [qx_one ha fun k _ hk => by rw [decide_eq_false hk]; simp]
      simp [ha, Nat.succ_le_iff]
    · rw [qx_no fun k hk => by rw [decide_eq_false (show ¬ k = a by omega)]; simp, decide_eq_false (by omega)]
  rw [one, one]
  by_cases e : q = p
  · subst e
    rw [if_pos rfl, decide_eq_false (by omega), decide_eq_false (by omega)]; rfl
  · rw [if_neg e]; rfl
/-- between both turns of a place -/
theorem CW.stretch {q : Nat} (hq : q < n) (x : Nat → Bool) : (qx (A q + 1) (fun k => x (wpl I k)) != qx (B q) fun k => x (wpl I k)) = qx n fun p => (if q = p then false else crw A B q p) && x p := by
  obtain ⟨h1, h2, _, _⟩ := C.hA q hq
  rw [qx_cut (by omega), qx_places (n := n) fun k hk => (C.hw (show k < 2 * n by omega)).1]
  exact qx_congr fun p hp => by rw [C.count hq hp]
theorem CW.sum_a {q : Nat} (hq : q < n) (d : Nat → Int) (x : Nat → Bool) : (qx n fun p => amw I O A B d q p && x p) = ((qx (A q + 1) (fun k => x (wpl I k)) != qx (B q) fun k => x (wpl I k)) != (decide (tpw I O A B d q = 1) && x q)) := by
  rw [C.stretch hq, qx_split hq, qx_split hq (h := fun p => (if q = p then false else crw A B q p) && x p)]
  unfold amw
  simp only [if_true, Bool.false_and]
  rw [qx_congr (h := fun k => if k = q then false else (if q = k then decide (tpw I O A B d q = 1) else crw A B q k) && x k) (h' := fun k => if k = q then false else (if q = k then false else crw A B q k) && x k) fun k _ => by
    by_cases e : k = q
    · rw [if_pos e, if_pos e]
    · rw [if_neg e, if_neg e, if_neg (Ne.symm e), if_neg (Ne.symm e)]]
  generalize qx n _ = z
  cases z <;> cases decide (tpw I O A B d q = 1) <;> cases x q <;> rfl
theorem CW.toK {d : Nat → Int} {Z : Int → Bool} (hZ : Clo n f d Z) : Ker n (amw I O A B d) (suw I O A B d) fun q => Z (I (A q)) != Z (O (A q)) := by
  refine ⟨fun q hq hs => ?_, fun q hq hs => ?_⟩
  · have t0 : tpw I O A B d q = 0 := by
      unfold suw at hs
      simpa using hs
    have h := C.hA q hq
    have := (C.flip hZ (k := A q) (by omega)).2 (by rw [(C.wA hq).1]; exact t0)
    simp only
    rw [this]; simp
  · rw [C.sum_a hq]
    have al := C.along (Z := Z) (x := fun q => Z (I (A q)) != Z (O (A q))) (fun y a b => (hZ y a b).2) fun k hk => (C.flip hZ hk).1
    obtain ⟨h1, h2, _, _⟩ := C.hA q hq
    have a1 := (al (A q) (by omega)).2
    have a2 := (al (B q) h2).1
    have zz : ∀ j, j < 2 * n → Z (par d (I j)) = Z (I j) ∧ Z (par d (O j)) = Z (O j) := fun j hj => ⟨(hZ _ (C.rI j hj).1 (C.rI j hj).2).1, (hZ _ (C.rO j hj).1 (C.rO j hj).2).1⟩
    have zA := zz (A q) (by omega)
    have e : ((qx (A q + 1) fun k => Z (I (A (wpl I k))) != Z (O (A (wpl I k)))) != qx (B q) fun k => Z (I (A (wpl I k))) != Z (O (A (wpl I k)))) = (Z (O (A q)) != Z (I (B q))) := by
      rw [a1, a2]
      generalize Z (I 0) = a
      generalize (qx (A q + 1) fun k => Z (I (A (wpl I k))) != Z (O (A (wpl I k)))) = b
      generalize (qx (B q) fun k => Z (I (A (wpl I k))) != Z (O (A (wpl I k)))) = e
      cases a <;> cases b <;> cases e <;> rfl
    rw [e]
    rcases C.joins hq d with ⟨t, j1, j2⟩ | ⟨t, j1, j2⟩ | ⟨t, j1, j2⟩
    · unfold suw at hs
      rw [t] at hs; cases hs
    · rw [t, ← zA.1, j1]
      generalize Z (I (B q)) = a
      generalize Z (O (A q)) = b
      cases a <;> cases b <;> rfl
    · rw [t, ← zA.2, j2]
      simp
theorem CW.none {d : Nat → Int} {Z : Int → Bool} (hZ : Clo n f d Z) (h0 : Z (I 0) = false) (hz : ∀ q, q < n → (Z (I (A q)) != Z (O (A q))) = false) : ∀ x : Int, 0 ≤ x → x < ((4 * n : Nat) : Int) → Z x = false := by
  have al := C.along (Z := Z) (x := fun _ => false) (fun y a b => (hZ y a b).2) fun k hk => by
    rw [(C.flip hZ hk).1]
    exact hz _ (C.hw hk).1
  intro x x0 x1
  obtain ⟨k, hk, rfl | rfl⟩ := C.all x x0 x1
  · rw [(al k hk).1, h0, qx_no fun _ _ => rfl]; rfl
  · rw [(al k hk).2, h0, qx_no fun _ _ => rfl]; rfl
omit C in
/-- a set of ends told by what changes at the places -/
def zOf (n : Nat) (I O : Nat → Int) (x : Nat → Bool) (e : Int) : Bool := (List.range (2 * n)).any fun k => (decide (e = I k) && qx k fun k => x (wpl I k)) || (decide (e = O k) && qx (k + 1) fun k => x (wpl I k))
theorem CW.zI {x : Nat → Bool} {k : Nat} (hk : k < 2 * n) : zOf n I O x (I k) = (qx k fun k => x (wpl I k)) ∧ zOf n I O x (O k) = (qx (k + 1) fun k => x (wpl I k)) := by
  constructor
  · unfold zOf
    apply Bool.eq_iff_iff.mpr
    rw [List.any_eq_true]
    constructor
    · rintro ⟨j, hj, h⟩
      have hj := List.mem_range.mp hj
      rw [decide_eq_false (C.iIO k j hk hj)] at h
      simp only [Bool.false_and, Bool.or_false, Bool.and_eq_true, decide_eq_true_eq] at h
      rw [C.iI k j hk hj h.1]; exact h.2
    · intro h
      exact ⟨k, List.mem_range.mpr hk, by rw [decide_eq_true rfl, h]; rfl⟩
  · unfold zOf
    apply Bool.eq_iff_iff.mpr
    rw [List.any_eq_true]
    constructor
    · rintro ⟨j, hj, h⟩
      have hj := List.mem_range.mp hj
      rw [decide_eq_false (show ¬ O k = I j from fun z => C.iIO j k hj hk z.symm)] at h
      simp only [Bool.false_and, Bool.false_or, Bool.and_eq_true, decide_eq_true_eq] at h
      rw [C.iO hk hj h.1]; exact h.2
    · intro h
      exact ⟨k, List.mem_range.mpr hk, by rw [decide_eq_true (show O k = O k from rfl), h]; simp⟩
theorem CW.whole (x : Nat → Bool) : (qx (2 * n) fun k => x (wpl I k)) = false := by
  have := qx_places (n := n) (m := 2 * n) (w := wpl I) (fun k hk => (C.hw hk).1) (fun _ => true) x
  simp only [Bool.true_and] at this
  rw [this]
  refine qx_no fun p hp => ?_
  obtain ⟨h1, h2, _, _⟩ := C.hA p hp
  rw [qx_two (u := A p) (v := B p) (by omega) h2 (by omega) fun k hk e1 e2 => decide_eq_false fun z => ((C.wk hk hp).mp z).elim e1 e2, decide_eq_true (C.wA hp).1, decide_eq_true (C.wA hp).2]
  rfl
theorem CW.ofK (hn : Net (4 * n) f) {d : Nat → Int} {x : Nat → Bool} (h : Ker n (amw I O A B d) (suw I O A B d) x) : Clo n f d (zOf n I O x) ∧ zOf n I O x (I 0) = false ∧ ∀ q, q < n → (zOf n I O x (I (A q)) != zOf n I O x (O (A q))) = x q := by
  have n1 := C.n1
  have st : ∀ k, k < 2 * n → (zOf n I O x (I k) != zOf n I O x (O k)) = x (wpl I k) := fun k hk => by
    rw [(C.zI hk).1, (C.zI hk).2]
    show ((qx k fun k => x (wpl I k)) != ((qx k fun k => x (wpl I k)) != x (wpl I k))) = _
    generalize (qx k fun k => x (wpl I k)) = a
    generalize x (wpl I k) = b
    cases a <;> cases b <;> rfl
  have z0 : zOf n I O x (I 0) = false := (C.zI (k := 0) (by omega)).1
  have nx : ∀ k, k < 2 * n → zOf n I O x (fJ f (O k)) = zOf n I O x (O k) := fun k hk => by
    by_cases e : k + 1 < 2 * n
    · rw [C.hf k e, (C.zI e).1, (C.zI hk).2]
    · have e2 : k = 2 * n - 1 := by omega
      subst e2
      rw [C.hl, z0, (C.zI hk).2, show 2 * n - 1 + 1 = 2 * n by omega, C.whole x]
  refine ⟨fun y y0 y1 => ?_, z0, fun q hq => ?_⟩
  rotate_left
  · have := st (A q) (by have := C.hA q hq; omega)
    rw [(C.wA hq).1] at this
    exact this
  constructor
  · obtain ⟨q, hq, eq⟩ : ∃ q, q < n ∧ y / 4 = (q : Int) := ⟨(y / 4).toNat, by omega, by omega⟩
    obtain ⟨h1, h2, _, _⟩ := C.hA q hq
    have sA := st (A q) (by omega)
    have sB := st (B q) h2
    rw [(C.wA hq).1] at sA
    rw [(C.wA hq).2] at sB
    have sum := C.sum_a hq d x
    have oA := (C.zI (x := x) (k := A q) (by omega)).2
    have iB := (C.zI (x := x) (k := B q) h2).1
    rw [← oA, ← iB] at sum
    have rA := C.rI (A q) (by omega)
    have rB := C.rI (B q) (by omega)
    have tA := C.rO (A q) (by omega)
    have tB := C.rO (B q) (by omega)
    rcases C.joins hq d with ⟨t, j1, j2⟩ | ⟨t, j1, j2⟩ | ⟨t, j1, j2⟩
    · have xq : x q = false := h.1 q hq (by unfold suw; rw [t]; rfl)
      rw [xq] at sA sB
      have eA : zOf n I O x (I (A q)) = zOf n I O x (O (A q)) := by
        revert sA
        cases zOf n I O x (I (A q)) <;> cases zOf n I O x (O (A q)) <;> simp
      have eB : zOf n I O x (I (B q)) = zOf n I O x (O (B q)) := by
        revert sB
        cases zOf n I O x (I (B q)) <;> cases zOf n I O x (O (B q)) <;> simp
      have j3 : par d (O (A q)) = I (A q) := by rw [← j1, par_par rA.1]
      have j4 : par d (O (B q)) = I (B q) := by rw [← j2, par_par rB.1]
      rcases C.ends hq y0 eq with rfl | rfl | rfl | rfl
      · rw [j1, eA]
      · rw [j3, eA]
      · rw [j2, eB]
      · rw [j4, eB]
    · have s0 := h.2 q hq (by unfold suw; rw [t]; rfl)
      rw [sum, t, decide_eq_true rfl] at s0
      have e1 : zOf n I O x (I (A q)) = zOf n I O x (I (B q)) ∧ zOf n I O x (O (A q)) = zOf n I O x (O (B q)) := by
        revert sA sB s0
        cases zOf n I O x (I (A q)) <;> cases zOf n I O x (O (A q)) <;> cases zOf n I O x (I (B q)) <;> cases zOf n I O x (O (B q)) <;> cases x q <;> simp
      have j3 : par d (I (B q)) = I (A q) := by rw [← j1, par_par rA.1]
      have j4 : par d (O (B q)) = O (A q) := by rw [← j2, par_par tA.1]
      rcases C.ends hq y0 eq with rfl | rfl | rfl | rfl
      · rw [j1, e1.1]
      · rw [j2, e1.2]
      · rw [j3, e1.1]
      · rw [j4, e1.2]
    · have s0 := h.2 q hq (by unfold suw; rw [t]; rfl)
      rw [sum, t, decide_eq_false (by omega)] at s0
      have e1 : zOf n I O x (I (A q)) = zOf n I O x (O (B q)) ∧ zOf n I O x (O (A q)) = zOf n I O x (I (B q)) := by
        revert sA sB s0
        cases zOf n I O x (I (A q)) <;> cases zOf n I O x (O (A q)) <;> cases zOf n I O x (I (B q)) <;> cases zOf n I O x (O (B q)) <;> cases x q <;> simp
      have j3 : par d (O (B q)) = I (A q) := by rw [← j1, par_par rA.1]
      have j4 : par d (I (B q)) = O (A q) := by rw [← j2, par_par tA.1]
      rcases C.ends hq y0 eq with rfl | rfl | rfl | rfl
      · rw [j1, e1.1]
      · rw [j2, e1.2]
      · rw [j4, e1.2]
      · rw [j3, e1.1]
  · obtain ⟨k, hk, e⟩ := C.all y y0 y1
    rcases e with rfl | rfl
    · by_cases e : k = 0
      · subst e
        have tl := C.rO (2 * n - 1) (by omega)
        have : fJ f (I 0) = O (2 * n - 1) := by rw [← C.hl]; exact fJfJ hn tl.1 tl.2
        have u := nx (2 * n - 1) (by omega)
        rw [this, ← u, C.hl]
      · obtain ⟨j, rfl⟩ : ∃ j, k = j + 1 := ⟨k - 1, by omega⟩
        have tl := C.rO j (by omega)
        have : fJ f (I (j + 1)) = O j := by rw [← C.hf j hk]; exact fJfJ hn tl.1 tl.2
        have u := nx j (by omega)
        rw [this, ← u, C.hf j hk]
    · exact nx k hk
end
end Gf

/-! ## Gf18: a word's net is a net; places of signs; rounds in their order -/
namespace Gf
open PySem Ty
theorem prv_sur {m k : Nat} (h : k < m) : ∃ j, j < m ∧ prv' m j = k := by
  by_cases e : k + 1 < m
  · exact ⟨k + 1, e, by unfold prv'; rw [if_neg (by omega)]; omega⟩
  · exact ⟨0, by omega, by unfold prv'; rw [if_pos rfl]; omega⟩
theorem NetU.net {l : List Nat} {n : Nat} (R : Ring l n) {F : Nat → Int} (h : NetU l l.length F) : Net (4 * n) F ∧ ∀ i, i < 4 * n → F i ≠ i := by
  have key : ∀ i, i < 4 * n → 0 ≤ F i ∧ F i < ((4 * n : Nat) : Int) ∧ F (F i).toNat = i ∧ F i ≠ i := by
    intro i hi
    by_cases he : i % 2 = 0
    · obtain ⟨k, hk, rfl⟩ := inn_sur R hi he
      obtain ⟨h1, h2⟩ := h k hk
      have b := inn_lt R (prv_lt hk)
      have b2 := inn_even l (prv' l.length k)
      rw [h1]
      refine ⟨by omega, by omega, ?_, by omega⟩
      rw [show (((inn l (prv' l.length k) : Nat) : Int) + 1).toNat = inn l (prv' l.length k) + 1 by omega, h2]
    · obtain ⟨j, hj, ej⟩ := inn_sur R (j := i - 1) (by omega) (by omega)
      obtain ⟨k, hk, ek⟩ := prv_sur hj
      obtain ⟨h1, h2⟩ := h k hk
      rw [ek, ej, show i - 1 + 1 = i by omega] at h2
      rw [ek, ej] at h1
      have b := inn_lt R hk
      have b2 := inn_even l k
      rw [h2]
      refine ⟨by omega, by omega, ?_, by omega⟩
      rw [Int.toNat_natCast, h1]
      omega
  exact ⟨fun i hi => ⟨(key i hi).1, (key i hi).2.1, (key i hi).2.2.1⟩, fun i hi => (key i hi).2.2.2⟩
end Gf

/-! ## Gf19: a word as a round through its own net; rounds of another choice are what makes noughts -/
namespace Gf
open PySem Ty
section
variable {l : List Nat} {n : Nat} (R : Ring l n)
include R
end
/-! ### rounds -/
theorem Rds.dis {s p : Int → Int} {m : Nat} {W : List (List Int)} (hW : Rds s p m W) {i j : Nat} {x : Int} (hi : x ∈ W.getD i []) (hj : x ∈ W.getD j []) : i = j := by
  have hp := (List.pairwise_flatten.mp (List.nodup_iff_pairwise_ne.mp hW.nd)).2
  have li : i < W.length := by
    refine Decidable.byContradiction fun h => ?_
    rw [List.getD_eq_getElem?_getD, List.getElem?_eq_none (by omega)] at hi
    cases hi
  have lj : j < W.length := by
    refine Decidable.byContradiction fun h => ?_
    rw [List.getD_eq_getElem?_getD, List.getElem?_eq_none (by omega)] at hj
    cases hj
  rw [List.getD_eq_getElem?_getD, List.getElem?_eq_getElem li] at hi
  rw [List.getD_eq_getElem?_getD, List.getElem?_eq_getElem lj] at hj
  rcases Nat.lt_trichotomy i j with h | h | h
  · exact absurd rfl (List.pairwise_iff_getElem.mp hp i j li lj h x hi x hj)
  · exact h
  · exact absurd rfl (List.pairwise_iff_getElem.mp hp j i lj li h x hj x hi)
section
variable {n : Nat} {f d : Nat → Int} (hn : Net (4 * n) f) (hf2 : ∀ i, i < 4 * n → f i ≠ i) {W : List (List Int)} (hW : Rds (sJ f d) (par d) (4 * n) W)
/-- the end is in the round -/
def inR (W : List (List Int)) (i : Nat) (x : Int) : Bool := decide (x ∈ W.getD i [])
include hn hf2 hW
end
/-- bits of a mask by places in another order -/
structure Prm (n : Nat) (π σ : Nat → Nat) : Prop where
  p : ∀ i, i < n → π i < n ∧ σ (π i) = i
  s : ∀ i, i < n → σ i < n ∧ π (σ i) = i
theorem Prm.qx {n : Nat} {π σ : Nat → Nat} (h : Prm n π σ) (g : Nat → Bool) : Gf.qx n (fun i => g (π i)) = Gf.qx n g := by
  have := qx_places (n := n) (m := n) (w := π) (fun k hk => (h.p k hk).1) (fun _ => true) g
  simp only [Bool.true_and] at this
  rw [this]
  refine qx_congr fun p hp => ?_
  rw [qx_one (v := σ p) (h.s p hp).1 fun k hk hne => decide_eq_false fun z => hne (by rw [← z]; exact (h.p k hk).2.symm), decide_eq_true (h.s p hp).2, Bool.true_and]
theorem Ker.congr {n : Nat} {a b : Nat → Nat → Bool} {S T x y : Nat → Bool} (ha : ∀ i j, i < n → j < n → a i j = b i j) (hs : ∀ i, i < n → S i = T i) (hx : ∀ i, i < n → x i = y i) (k : Ker n a S x) : Ker n b T y :=
  ⟨fun i hi h => by rw [← hx i hi]; exact k.1 i hi (by rw [hs i hi]; exact h), fun i hi h => by
    rw [← k.2 i hi (by rw [hs i hi]; exact h)]
    exact qx_congr fun j hj => by rw [ha i j hi hj, hx j hj]⟩
section
variable {n : Nat} {f c I O : Nat → Int} {A B : Nat → Nat} (C : CW n f c I O A B) (hn : Net (4 * n) f) (hf2 : ∀ i, i < 4 * n → f i ≠ i) {d : Nat → Int} {W : List (List Int)} (hW : Rds (sJ f d) (par d) (4 * n) W) {π σ : Nat → Nat} (P : Prm n π σ)
include C hn hf2 hW P
end
end Gf

/-! ## Gf20: rank and what makes noughts -/
namespace Gf
open PySem Ty
theorem sp_app : ∀ {L U : List Nat} {v : Nat}, v ∈ sp (L ++ U) → ∃ a, a ∈ sp L ∧ v ^^^ a ∈ sp U
  | [], U, v, h => ⟨0, sp_zero _, by rw [Nat.xor_zero]; exact h⟩
  | k :: L, U, v, h => by
    rw [List.cons_append, sp_cons] at h
    rcases h with h | h
    · obtain ⟨a, h1, h2⟩ := sp_app h
      exact ⟨a, sp_cons.mpr (.inl h1), h2⟩
    · obtain ⟨a, h1, h2⟩ := sp_app h
      refine ⟨a ^^^ k, sp_cons.mpr (.inr (by rw [xs]; exact h1)), ?_⟩
      rw [Nat.xor_comm a k, ← Nat.xor_assoc]
      exact h2
theorem Ind.app : ∀ {L U : List Nat}, Ind L → Ind U → (∀ v, v ∈ sp L → v ∈ sp U → v = 0) → Ind (L ++ U)
  | [], U, _, h, _ => h
  | k :: L, U, h1, h2, hd => by
    obtain ⟨i1, i2⟩ := Ind.cons.mp h1
    refine Ind.cons.mpr ⟨Ind.app i1 h2 fun v a b => hd v (sp_cons.mpr (.inl a)) b, fun h => ?_⟩
    obtain ⟨a, a1, a2⟩ := sp_app h
    have : k ^^^ a = 0 := hd _ (sp_cons.mpr (.inr (by rw [Nat.xor_comm k a, xs]; exact a1))) a2
    have : a = k := by
      have e := xs' a k
      rw [this, Nat.xor_zero] at e
      exact e.symm
    exact i2 (this ▸ a1)
end Gf

/-! ## Gf21: a word's rounds under a choice, and the rank of the choice's table -/
namespace Gf
open PySem Ty
section
variable {l : List Nat} {n : Nat} (R : Ring l n)
include R
end
end Gf

/-! ## Gf22: a word has a net -/
namespace Gf
open PySem Ty
end Gf

/-! ## Gf23: ends at a place counted; sums as parities; the rounds two ends are in -/
namespace Gf
open PySem Ty
section
variable {n : Nat} {f d : Nat → Int} (hn : Net (4 * n) f) (hf2 : ∀ i, i < 4 * n → f i ≠ i) {W : List (List Int)} (hW : Rds (sJ f d) (par d) (4 * n) W)
include hn hf2 hW
end
end Gf

set_option maxHeartbeats 2000000
/-! ## Gf24: a choice that leaves one round is a word; the word of the turned choice; texts within texts -/
namespace Gf
open PySem Ty
theorem wl_idx {s p : Int → Int} {e : Int} {k : Nat} (hnd : (wl s p e k).Nodup) {x y : Nat} {v : Int} (hx : (wl s p e k)[x]? = some v) (hy : (wl s p e k)[y]? = some v) : x = y := by
  obtain ⟨bx, ex⟩ := List.getElem?_eq_some_iff.mp hx
  obtain ⟨bY, ey⟩ := List.getElem?_eq_some_iff.mp hy
  exact (List.getElem_inj hnd).mp (by rw [ex, ey])
/-- a round with as many ends as there are is all -/
theorem wl_all {s p f : Int → Int} {e : Int} {m k : Nat} (hs : ∀ x, s x = f (p x)) (hpi : ∀ x : Int, 0 ≤ x → x < m → 0 ≤ p x ∧ p x < m ∧ p (p x) = x ∧ p x ≠ x) (hfi : ∀ x : Int, 0 ≤ x → x < m → 0 ≤ f x ∧ f x < m ∧ f (f x) = x ∧ f x ≠ x) (h0 : 0 ≤ e) (h1 : e < m) (hR : Rd s p e (wl s p e k)) (hk : 2 * k = m) : OneR m p f ∧ ∀ x : Int, 0 ≤ x → x < (m : Int) → x ∈ wl s p e k := by
  have hnd := Rd.nd hs hpi hfi h0 h1 hR
  have hrg := Rd.rng hs hpi hfi h0 h1 hR
  have hall : ∀ x : Int, 0 ≤ x → x < (m : Int) → x ∈ wl s p e k := by
    have hP := all_in (F := wl s p e k) (M := (List.range m).map fun i : Nat => (i : Int)) hnd (by
      rw [List.nodup_iff_pairwise_ne, List.pairwise_map]
      exact List.pairwise_lt_range.imp fun h => by omega) (by rw [List.length_map, List.length_range, wl_len]; omega) fun x hx => by
        have := hrg x hx
        exact List.mem_map.mpr ⟨x.toNat, List.mem_range.mpr (by omega), by omega⟩
    intro x x0 x1
    exact hP.mem_iff.mpr (List.mem_map.mpr ⟨x.toNat, List.mem_range.mpr (by omega), by omega⟩)
  refine ⟨fun W hW ⟨x, x0, x1, hx⟩ y y0 y1 => ?_, hall⟩
  have he := wl_back' hs hpi hfi h0 h1 hW (hall x x0 x1) hx
  exact wl_fwd hs hpi hfi h0 h1 hW he k y (hall y y0 y1)
section
variable {n : Nat} {f c : Nat → Int} (hn1 : 1 ≤ n) (hn : Net (4 * n) f) (hf2 : ∀ i, i < 4 * n → f i ≠ i) (ho : OneR (4 * n) (par c) (fJ f))
include hn1 hn hf2 ho
theorem one_len : orb (sJ f c) 0 (2 * n) = 0 ∧ Rd (sJ f c) (par c) 0 (wl (sJ f c) (par c) 0 (2 * n)) := by
  have hj := net_hJ hn hf2
  have hs : ∀ x, sJ f c x = fJ f (par c x) := fun _ => rfl
  obtain ⟨k, k1, k2, k3, k4⟩ := orb_back (s := sJ f c) (e := (0 : Int)) (m := 4 * n) (fun x a b => by
    have q := par_hJ (c := c) x a b
    have q2 := hj _ q.1 q.2.1
    exact ⟨q2.1, q2.2.1⟩) (fun x y a b a' b' h => s_inj (s := sJ f c) (p := par c) (f := fJ f) hs par_hJ hj (e := (0 : Int)) (by omega) (by omega) a b a' b' h) (by omega) (by omega)
  have hR : Rd (sJ f c) (par c) 0 (wl (sJ f c) (par c) 0 k) := ⟨k, k1, rfl, k3, k4⟩
  have hnd := Rd.nd (f := fJ f) hs par_hJ hj (e := (0 : Int)) (by omega) (by omega) hR
  have hlen := Rd.len (f := fJ f) hs par_hJ hj (e := (0 : Int)) (by omega) (by omega) hR
  rw [wl_len] at hlen
  have hall : ∀ x : Int, 0 ≤ x → x < ((4 * n : Nat) : Int) → x ∈ wl (sJ f c) (par c) 0 k := ho (fun x => x ∈ wl (sJ f c) (par c) 0 k) (fun x x0 x1 hx => by
    have := wl_closed (s := sJ f c) (p := par c) (f := fJ f) hs par_hJ hj (e := (0 : Int)) (by omega) (by omega) k1 k3 hx
    exact ⟨this.2.2.1, this.2.2.2⟩) ⟨0, by omega, by omega, (mem_wl k).mpr ⟨0, by omega, .inl rfl⟩⟩
  have hle := nodup_sub (l := (List.range (4 * n)).map fun i : Nat => (i : Int)) (m := wl (sJ f c) (par c) 0 k) (by
    rw [List.nodup_iff_pairwise_ne, List.pairwise_map]
    exact List.pairwise_lt_range.imp fun h => by omega) fun x hx => by
      obtain ⟨i, hi, rfl⟩ := List.mem_map.mp hx
      have := List.mem_range.mp hi
      exact hall _ (by omega) (by omega)
  rw [List.length_map, List.length_range, wl_len] at hle
  have : k = 2 * n := by omega
  subst this
  exact ⟨k3, hR⟩
theorem cw_one : ∃ A B, CW n f c (fun k => orb (sJ f c) 0 k) (fun k => par c (orb (sJ f c) 0 k)) A B := by
  have hj := net_hJ hn hf2
  have hs : ∀ x, sJ f c x = fJ f (par c x) := fun _ => rfl
  obtain ⟨h2n, hR⟩ := one_len hn1 hn hf2 ho
  have hnd := Rd.nd (f := fJ f) hs par_hJ hj (e := (0 : Int)) (by omega) (by omega) hR
  have hall := (wl_all hs par_hJ hj (by omega) (by omega) hR (by omega)).2
  have rg := orb_rng (s := sJ f c) (p := par c) (f := fJ f) (e := (0 : Int)) (m := 4 * n) hs par_hJ hj (by omega) (by omega)
  have iI : ∀ j k, j < 2 * n → k < 2 * n → orb (sJ f c) 0 j = orb (sJ f c) 0 k → j = k := fun j k hj' hk' h => by
    have := wl_idx hnd (wl_get (k := 2 * n) hj').1 (by rw [h]; exact (wl_get (k := 2 * n) hk').1)
    omega
  have iIO : ∀ j k, j < 2 * n → k < 2 * n → orb (sJ f c) 0 j ≠ par c (orb (sJ f c) 0 k) := fun j k hj' hk' h => by
    have := wl_idx hnd (wl_get (k := 2 * n) hj').1 (by rw [h]; exact (wl_get (k := 2 * n) hk').2)
    omega
  have all : ∀ x : Int, 0 ≤ x → x < ((4 * n : Nat) : Int) → ∃ k, k < 2 * n ∧ (x = orb (sJ f c) 0 k ∨ x = par c (orb (sJ f c) 0 k)) := fun x x0 x1 => (mem_wl _).mp (hall x x0 x1)
  have ex : ∀ q : Nat, ∃ ab : Nat × Nat, q < n → ab.1 < ab.2 ∧ ab.2 < 2 * n ∧ orb (sJ f c) 0 ab.1 / 4 = (q : Int) ∧ orb (sJ f c) 0 ab.2 / 4 = (q : Int) ∧ ∀ k, k < 2 * n → orb (sJ f c) 0 k / 4 = (q : Int) → k = ab.1 ∨ k = ab.2 := by
    intro q
    by_cases hq : q < n
    rotate_left
    · exact ⟨(0, 0), fun h => absurd h hq⟩
    have turn : ∀ x : Int, 0 ≤ x → x / 4 = (q : Int) → ∃ k, k < 2 * n ∧ orb (sJ f c) 0 k / 4 = (q : Int) ∧ (x = orb (sJ f c) 0 k ∨ x = par c (orb (sJ f c) 0 k)) := fun x x0 xq => by
      obtain ⟨k, hk, e⟩ := all x x0 (by omega)
      refine ⟨k, hk, ?_, e⟩
      rcases e with e | e
      · rw [← e]; exact xq
      · rw [← par_at (c := c) (rg k).1, ← e]; exact xq
    have p0 : par c (4 * (q : Int)) / 4 = (q : Int) := by rw [par_at (by omega)]; omega
    have p1 : par c (4 * (q : Int)) ≠ 4 * (q : Int) := par_ne (by omega)
    obtain ⟨x, x0, xq, xa, xb⟩ : ∃ x : Int, 0 ≤ x ∧ x / 4 = (q : Int) ∧ x ≠ 4 * (q : Int) ∧ x ≠ par c (4 * (q : Int)) := by
      by_cases h : par c (4 * (q : Int)) = 4 * (q : Int) + 1
      · exact ⟨4 * (q : Int) + 2, by omega, by omega, by omega, by omega⟩
      · exact ⟨4 * (q : Int) + 1, by omega, by omega, by omega, fun z => h z.symm⟩
    obtain ⟨k0, hk0, q0, e0⟩ := turn (4 * (q : Int)) (by omega) (by omega)
    obtain ⟨k1, hk1, q1, e1⟩ := turn x x0 xq
    have pp : ∀ k, par c (par c (orb (sJ f c) 0 k)) = orb (sJ f c) 0 k := fun k => par_par (rg k).1
    have two : ∀ k y, k < 2 * n → (y = orb (sJ f c) 0 k ∨ y = par c (orb (sJ f c) 0 k)) → ∀ k', k' < 2 * n → (orb (sJ f c) 0 k' = y ∨ orb (sJ f c) 0 k' = par c y) → k' = k := fun k y hk e k' hk' e' => by
      rcases e with e | e <;> rw [e] at e'
      · rcases e' with e' | e'
        · exact iI k' k hk' hk e'
        · exact absurd e' (iIO k' k hk' hk)
      · rw [pp] at e'
        rcases e' with e' | e'
        · exact absurd e' (iIO k' k hk' hk)
        · exact iI k' k hk' hk e'
    have hne : k0 ≠ k1 := fun z => by
      rw [← z] at e1
      have ep : par c (4 * (q : Int)) = orb (sJ f c) 0 k0 ∨ par c (4 * (q : Int)) = par c (orb (sJ f c) 0 k0) := by
        rcases e0 with e0 | e0
        · exact .inr (by rw [← e0])
        · exact .inl (by rw [e0, pp])
      rcases e0 with e0 | e0 <;> rcases e1 with e1 | e1 <;> rcases ep with ep | ep
      · exact xa (by rw [e1, e0])
      · exact xa (by rw [e1, e0])
      · exact p1 (by rw [ep, e0])
      · exact xb (by rw [e1, ep])
      · exact xb (by rw [e1, ep])
      · exact p1 (by rw [ep, e0])
      · exact xa (by rw [e1, e0])
      · exact xa (by rw [e1, e0])
    have py : par c x / 4 = (q : Int) := by rw [par_at x0]; exact xq
    have y1 : par c x ≠ x := par_ne x0
    have y2 : par c x ≠ 4 * (q : Int) := fun z => xb (by rw [← z, par_par x0])
    have y3 : par c x ≠ par c (4 * (q : Int)) := fun z => xa (by
      have := congrArg (par c) z
      rw [par_par x0, par_par (by omega)] at this
      exact this)
    have fin : ∀ k, k < 2 * n → orb (sJ f c) 0 k / 4 = (q : Int) → k = k0 ∨ k = k1 := fun k hk hq4 => by
      have h4 : orb (sJ f c) 0 k = 4 * (q : Int) ∨ orb (sJ f c) 0 k = par c (4 * (q : Int)) ∨ orb (sJ f c) 0 k = x ∨ orb (sJ f c) 0 k = par c x := by omega
      rcases h4 with h | h | h | h
      · exact .inl (two k0 _ hk0 e0 k hk (.inl h))
      · exact .inl (two k0 _ hk0 e0 k hk (.inr h))
      · exact .inr (two k1 _ hk1 e1 k hk (.inl h))
      · exact .inr (two k1 _ hk1 e1 k hk (.inr h))
    by_cases hlt : k0 < k1
    · exact ⟨(k0, k1), fun _ => ⟨hlt, hk1, q0, q1, fin⟩⟩
    · exact ⟨(k1, k0), fun _ => ⟨by show k1 < k0; omega, hk0, q1, q0, fun k hk h => (fin k hk h).symm⟩⟩
  refine ⟨fun q => (Classical.choose (ex q)).1, fun q => (Classical.choose (ex q)).2, ?_⟩
  exact {
    n1 := hn1
    rI := fun k _ => rg k
    rO := fun k _ => by
      have := par_hJ (c := c) (n := n) _ (rg k).1 (rg k).2
      exact ⟨this.1, this.2.1⟩
    hp := fun _ _ => rfl
    hf := fun _ _ => rfl
    hl := by
      have : orb (sJ f c) 0 (2 * n - 1 + 1) = 0 := by rw [show 2 * n - 1 + 1 = 2 * n by omega]; exact h2n
      exact this
    all := all
    iI := iI
    iIO := iIO
    hA := fun q hq => by
      have := Classical.choose_spec (ex q) hq
      exact ⟨this.1, this.2.1, this.2.2.1, this.2.2.2.1⟩
    hk := fun k hk q hq h => (Classical.choose_spec (ex q) hq).2.2.2.2 k hk h }
end
/-! ### the turned word -/
section
variable {n : Nat} {f c I O : Nat → Int} {A B : Nat → Nat} (C : CW n f c I O A B) (hn : Net (4 * n) f) {d : Nat → Int} {q : Nat} (hq : q < n) (hoff : ∀ x : Int, 0 ≤ x → x / 4 ≠ (q : Int) → par d x = par c x) (hI : par d (I (A q)) = I (B q))
include C hn hq hoff hI
end
/-! ### texts within texts -/
theorem Two.rfind {l : List Nat} {c i j : Nat} (h : Two l c i j) : Txt.rfind (tx l) (sgS c) = (j : Int) := by
  have key : ∀ k, StrLaws.At (tx l) (sgS c) (tx l).length k ↔ l[k]? = some c := fun k => by
    rw [tx_len]
    unfold StrLaws.At
    rw [StrLaws.subAt_eq, tx_sg, tx_len]
    show (k + 1 ≤ l.length ∧ ((l.drop k).take 1 == [c]) = true) ↔ _
    constructor
    · rintro ⟨h1, h2⟩
      have h2 := eq_of_beq h2
      have := congrArg (fun z : List Nat => z[0]?) h2
      simp only [List.getElem?_take, List.getElem?_drop] at this
      simpa using this
    · intro h1
      obtain ⟨b1, b2⟩ := List.getElem?_eq_some_iff.mp h1
      refine ⟨b1, ?_⟩
      rw [List.drop_eq_getElem_cons b1, b2]
      simp
  unfold Txt.rfind
  rcases StrLaws.last_spec (tx l) (sgS c) with ⟨_, hn⟩ | ⟨k, e, hk, hmax⟩
  · exact absurd ((key j).mpr h.hj) (hn j)
  · rw [e]
    have hk := (key k).mp hk
    have hlt := h.lt
    rcases h.only k hk with r | r
    · exact absurd ((key j).mpr h.hj) (hmax j (by omega))
    · rw [r]
end Gf

/-! ## Gf25: ties spliced, rounds counted by pairs joined one behind the other -/
namespace Gf
def spl (f : Int → Int) (a b : Int) : Int → Int := fun x => if f x = a then f b else if f x = b then f a else f x
def clo (f : Int → Int) (a b : Int) : Nat := if f a = b then 1 else 0
def spls (f : Int → Int) : List (Int × Int) → Int → Int
  | [] => f
  | p :: l => spls (spl f p.1 p.2) l
def clos (f : Int → Int) : List (Int × Int) → Nat
  | [] => 0
  | p :: l => clo f p.1 p.2 + clos (spl f p.1 p.2) l
/-- ties of the ends of D, two and two -/
def Td (D : Int → Prop) (f : Int → Int) : Prop := ∀ x, D x → D (f x) ∧ f x ≠ x ∧ f (f x) = x
def rm2 (D : Int → Prop) (a b : Int) : Int → Prop := fun x => D x ∧ x ≠ a ∧ x ≠ b
theorem Td.spl {D : Int → Prop} {f : Int → Int} (h : Td D f) {a b : Int} (ha : D a) (hb : D b) (hab : a ≠ b) : Td (rm2 D a b) (spl f a b) := by
  rintro x ⟨hx, xa, xb⟩
  obtain ⟨a1, a2, a3⟩ := h a ha
  obtain ⟨b1, b2, b3⟩ := h b hb
  obtain ⟨x1, x2, x3⟩ := h x hx
  unfold Gf.spl rm2
  grind
theorem spl_comm {D : Int → Prop} {f : Int → Int} (h : Td D f) {a b c d : Int} (ha : D a) (hb : D b) (hc : D c) (hd : D d) (ab : a ≠ b) (ac : a ≠ c) (ad : a ≠ d) (bc : b ≠ c) (bd : b ≠ d) (cd : c ≠ d) :
    (∀ x, D x → x ≠ a → x ≠ b → x ≠ c → x ≠ d → spl (spl f a b) c d x = spl (spl f c d) a b x) ∧ clo f a b + clo (spl f a b) c d = clo f c d + clo (spl f c d) a b := by
  obtain ⟨a1, a2, a3⟩ := h a ha
  obtain ⟨b1, b2, b3⟩ := h b hb
  obtain ⟨c1, c2, c3⟩ := h c hc
  obtain ⟨d1, d2, d3⟩ := h d hd
  constructor
  · intro x hx xa xb xc xd
    obtain ⟨x1, x2, x3⟩ := h x hx
    unfold Gf.spl
    grind
  · unfold Gf.spl clo
    grind
def Pr (D : Int → Prop) : List (Int × Int) → Prop
  | [] => True
  | p :: l => (D p.1 ∧ D p.2 ∧ p.1 ≠ p.2) ∧ Pr (rm2 D p.1 p.2) l
def rms (D : Int → Prop) : List (Int × Int) → Int → Prop
  | [] => D
  | p :: l => rms (rm2 D p.1 p.2) l
theorem rms_iff : ∀ (l : List (Int × Int)) (D : Int → Prop) (x : Int), rms D l x ↔ D x ∧ ∀ p ∈ l, x ≠ p.1 ∧ x ≠ p.2
  | [], D, x => by simp [rms]
  | p :: l, D, x => by
    show rms (rm2 D p.1 p.2) l x ↔ _
    rw [rms_iff l]
    unfold rm2
    simp only [List.mem_cons, forall_eq_or_imp]
    exact ⟨fun ⟨⟨a, b, c⟩, d⟩ => ⟨a, ⟨b, c⟩, d⟩, fun ⟨a, ⟨b, c⟩, d⟩ => ⟨⟨a, b, c⟩, d⟩⟩
theorem Td.spls : ∀ (l : List (Int × Int)) {D : Int → Prop} {f : Int → Int}, Td D f → Pr D l → Td (rms D l) (spls f l)
  | [], _, _, h, _ => h
  | p :: l, D, f, h, ⟨⟨a, b, c⟩, d⟩ => Td.spls l (h.spl a b c) d
theorem spl_congr {D : Int → Prop} {f g : Int → Int} (h : Td D f) (e : ∀ x, D x → f x = g x) {a b : Int} (ha : D a) (hb : D b) : ∀ x, rm2 D a b x → spl f a b x = spl g a b x := fun x ⟨hx, xa, xb⟩ => by
  unfold spl
  rw [e x hx, e a ha, e b hb]
theorem clos_congr : ∀ (l : List (Int × Int)) {D : Int → Prop} {f g : Int → Int}, Td D f → (∀ x, D x → f x = g x) → Pr D l → clos f l = clos g l ∧ ∀ x, rms D l x → spls f l x = spls g l x
  | [], D, f, g, h, e, _ => ⟨rfl, e⟩
  | p :: l, D, f, g, h, e, ⟨⟨a, b, c⟩, d⟩ => by
    have ih := clos_congr l (h.spl a b c) (spl_congr h e a b) d
    refine ⟨?_, ih.2⟩
    show clo f p.1 p.2 + _ = clo g p.1 p.2 + _
    rw [ih.1]
    unfold clo
    rw [e _ a]
theorem Td.congr {D : Int → Prop} {f g : Int → Int} (h : Td D f) (e : ∀ x, D x → f x = g x) : Td D g := fun x hx => by
  obtain ⟨a, b, c⟩ := h x hx
  rw [← e x hx, ← e _ a]
  exact ⟨a, b, c⟩
theorem Pr.iff {D E : Int → Prop} (h : ∀ x, D x ↔ E x) : ∀ {l : List (Int × Int)}, Pr D l → Pr E l := by
  intro l
  rw [show D = E from funext fun x => propext (h x)]
  exact id
theorem rm2_comm (D : Int → Prop) (a b c d : Int) : rm2 (rm2 D a b) c d = rm2 (rm2 D c d) a b := funext fun x => propext ⟨fun ⟨⟨h, i, j⟩, k, l⟩ => ⟨⟨h, k, l⟩, i, j⟩, fun ⟨⟨h, i, j⟩, k, l⟩ => ⟨⟨h, k, l⟩, i, j⟩⟩
theorem clos_perm {l m : List (Int × Int)} (hp : l.Perm m) : ∀ {D : Int → Prop} {f : Int → Int}, Td D f → Pr D l → Pr D m ∧ clos f l = clos f m ∧ (∀ x, rms D l x ↔ rms D m x) ∧ ∀ x, rms D l x → spls f l x = spls f m x := by
  induction hp with
  | nil => exact fun _ h => ⟨h, rfl, fun _ => Iff.rfl, fun _ _ => rfl⟩
  | cons p _ ih =>
    intro D f h ⟨⟨a, b, c⟩, d⟩
    obtain ⟨i1, i2, i3, i4⟩ := ih (h.spl a b c) d
    exact ⟨⟨⟨a, b, c⟩, i1⟩, by show clo _ _ _ + _ = clo _ _ _ + _; rw [i2], i3, i4⟩
  | swap p q l =>
    intro D f h ⟨⟨a, b, c⟩, ⟨⟨⟨a1, a2, a3⟩, ⟨b1, b2, b3⟩, c'⟩, d⟩⟩
    have ne1 := a2; have ne2 := a3; have ne3 := b2; have ne4 := b3
    obtain ⟨k1, k2⟩ := spl_comm h a b a1 b1 c (Ne.symm ne1) (Ne.symm ne3) (Ne.symm ne2) (Ne.symm ne4) c'
    have hD := rm2_comm D q.1 q.2 p.1 p.2
    have hT : Td (rm2 (rm2 D q.1 q.2) p.1 p.2) (spl (spl f q.1 q.2) p.1 p.2) := (h.spl a b c).spl ⟨a1, a2, a3⟩ ⟨b1, b2, b3⟩ c'
    have ag : ∀ x, rm2 (rm2 D q.1 q.2) p.1 p.2 x → spl (spl f q.1 q.2) p.1 p.2 x = spl (spl f p.1 p.2) q.1 q.2 x := fun x ⟨⟨h1, h2, h3⟩, h4, h5⟩ => k1 x h1 h2 h3 h4 h5
    obtain ⟨j1, j2⟩ := clos_congr l hT ag d
    refine ⟨⟨⟨a1, b1, c'⟩, ⟨⟨a, Ne.symm ne1, Ne.symm ne3⟩, ⟨b, Ne.symm ne2, Ne.symm ne4⟩, c⟩, by rw [← hD]; exact d⟩, ?_, ?_, ?_⟩
    · show clo f q.1 q.2 + (clo (spl f q.1 q.2) p.1 p.2 + _) = clo f p.1 p.2 + (clo (spl f p.1 p.2) q.1 q.2 + _)
      rw [← Nat.add_assoc, ← Nat.add_assoc, k2, j1]
    · intro x
      show rms (rm2 (rm2 D q.1 q.2) p.1 p.2) l x ↔ rms (rm2 (rm2 D p.1 p.2) q.1 q.2) l x
      rw [hD]
    · exact j2
  | trans _ _ ih1 ih2 =>
    intro D f h hl
    obtain ⟨a1, a2, a3, a4⟩ := ih1 h hl
    obtain ⟨b1, b2, b3, b4⟩ := ih2 h a1
    exact ⟨b1, a2.trans b2, fun x => (a3 x).trans (b3 x), fun x hx => (a4 x hx).trans (b4 x ((a3 x).mp hx))⟩
/-! ### places -/
def prs (p : Int) (w : Nat) : List (Int × Int) := if w = 0 then [(4 * p, 4 * p + 1), (4 * p + 2, 4 * p + 3)] else if w = 1 then [(4 * p, 4 * p + 2), (4 * p + 1, 4 * p + 3)] else [(4 * p, 4 * p + 3), (4 * p + 1, 4 * p + 2)]
theorem prs_pr {D : Int → Prop} {p : Int} (w : Nat) (h : ∀ s : Int, 0 ≤ s → s < 4 → D (4 * p + s)) : Pr D (prs p w) := by
  have h0 := h 0 (by decide) (by decide)
  have h1 := h 1 (by decide) (by decide)
  have h2 := h 2 (by decide) (by decide)
  have h3 := h 3 (by decide) (by decide)
  rw [Int.add_zero] at h0
  unfold prs
  split
  · exact ⟨⟨h0, h1, by simp only; omega⟩, ⟨⟨h2, by simp only; omega, by simp only; omega⟩, ⟨h3, by simp only; omega, by simp only; omega⟩, by simp only; omega⟩, trivial⟩
  · split
    · exact ⟨⟨h0, h2, by simp only; omega⟩, ⟨⟨h1, by simp only; omega, by simp only; omega⟩, ⟨h3, by simp only; omega, by simp only; omega⟩, by simp only; omega⟩, trivial⟩
    · exact ⟨⟨h0, h3, by simp only; omega⟩, ⟨⟨h1, by simp only; omega, by simp only; omega⟩, ⟨h2, by simp only; omega, by simp only; omega⟩, by simp only; omega⟩, trivial⟩
theorem prs_rm {D : Int → Prop} {p : Int} (w : Nat) (x : Int) : rms D (prs p w) x ↔ D x ∧ x / 4 ≠ p := by
  rw [rms_iff]
  unfold prs
  split
  · simp only [List.mem_cons, List.not_mem_nil, or_false, forall_eq_or_imp, forall_eq]
    constructor
    · rintro ⟨a, b, c⟩; exact ⟨a, by omega⟩
    · rintro ⟨a, b⟩; exact ⟨a, by omega, by omega⟩
  · split
    · simp only [List.mem_cons, List.not_mem_nil, or_false, forall_eq_or_imp, forall_eq]
      constructor
      · rintro ⟨a, b, c⟩; exact ⟨a, by omega⟩
      · rintro ⟨a, b⟩; exact ⟨a, by omega, by omega⟩
    · simp only [List.mem_cons, List.not_mem_nil, or_false, forall_eq_or_imp, forall_eq]
      constructor
      · rintro ⟨a, b, c⟩; exact ⟨a, by omega⟩
      · rintro ⟨a, b⟩; exact ⟨a, by omega, by omega⟩
/-- all rounds' numbers, by the ways at an order's places -/
def RR (f : Int → Int) : List Int → List Nat
  | [] => [0]
  | p :: o => (List.range 3).flatMap fun w => (RR (spls f (prs p w)) o).map (· + clos f (prs p w))
def Pls (D : Int → Prop) (o : List Int) : Prop := o.Nodup ∧ ∀ p ∈ o, ∀ s : Int, 0 ≤ s → s < 4 → D (4 * p + s)
theorem Pls.tail {D : Int → Prop} {p : Int} {o : List Int} (h : Pls D (p :: o)) (w : Nat) : Pls (rms D (prs p w)) o :=
  ⟨(List.nodup_cons.mp h.1).2, fun q hq s s0 s1 => (prs_rm w _).mpr ⟨h.2 q (List.mem_cons_of_mem _ hq) s s0 s1, fun e => (List.nodup_cons.mp h.1).1 (by rw [← show q = p by omega]; exact hq)⟩⟩
theorem Pls.pr {D : Int → Prop} {p : Int} {o : List Int} (h : Pls D (p :: o)) (w : Nat) : Pr D (prs p w) := prs_pr w (h.2 p List.mem_cons_self)
theorem RR_congr : ∀ (o : List Int) {D : Int → Prop} {f g : Int → Int}, Td D f → (∀ x, D x → f x = g x) → Pls D o → RR f o = RR g o
  | [], _, _, _, _, _, _ => rfl
  | p :: o, D, f, g, h, e, hp => by
    show ((List.range 3).flatMap fun w => _) = (List.range 3).flatMap fun w => _
    congr 1
    funext w
    obtain ⟨c1, c2⟩ := clos_congr (prs p w) h e (hp.pr w)
    rw [c1, RR_congr o (Td.spls _ h (hp.pr w)) c2 (hp.tail w)]
theorem RR_len : ∀ (o : List Int) (f : Int → Int), (RR f o).length = 3 ^ o.length
  | [], _ => rfl
  | p :: o, f => by
    show ((List.range 3).flatMap fun w => _).length = _
    rw [List.length_flatMap]
    simp only [List.length_map, RR_len o]
    simp [List.range_succ, Nat.pow_succ]
    omega
theorem spls_app : ∀ (l m : List (Int × Int)) (f : Int → Int), spls f (l ++ m) = spls (spls f l) m ∧ clos f (l ++ m) = clos f l + clos (spls f l) m
  | [], m, f => ⟨rfl, (Nat.zero_add _).symm⟩
  | p :: l, m, f => by
    have ih := spls_app l m (spl f p.1 p.2)
    refine ⟨ih.1, ?_⟩
    show clo f p.1 p.2 + clos _ (l ++ m) = clo f p.1 p.2 + clos _ l + _
    rw [ih.2, Nat.add_assoc]
    rfl
theorem rms_app : ∀ (l m : List (Int × Int)) (D : Int → Prop), rms D (l ++ m) = rms (rms D l) m
  | [], _, _ => rfl
  | p :: l, m, D => rms_app l m _
theorem Pr.app : ∀ (l m : List (Int × Int)) {D : Int → Prop}, Pr D l → Pr (rms D l) m → Pr D (l ++ m)
  | [], _, _, _, h => h
  | p :: l, m, D, ⟨a, b⟩, h => ⟨a, Pr.app l m b h⟩
theorem flat_perm {α β : Type} {f g : α → List β} : ∀ (l : List α), (∀ x ∈ l, (f x).Perm (g x)) → (l.flatMap f).Perm (l.flatMap g)
  | [], _ => List.Perm.refl _
  | x :: l, h => by
    rw [List.flatMap_cons, List.flatMap_cons]
    exact (h x List.mem_cons_self).append (flat_perm l fun y hy => h y (List.mem_cons_of_mem _ hy))
theorem RR_perm {o o' : List Int} (hp : o.Perm o') : ∀ {D : Int → Prop} {f : Int → Int}, Td D f → Pls D o → (RR f o).Perm (RR f o') := by
  induction hp with
  | nil => exact fun _ _ => List.Perm.refl _
  | cons p _ ih =>
    intro D f h hq
    show ((List.range 3).flatMap fun w => _).Perm ((List.range 3).flatMap fun w => _)
    exact flat_perm _ fun w _ => (ih (Td.spls _ h (hq.pr w)) (hq.tail w)).map _
  | swap p q l =>
    intro D f h hq
    have e : ∀ w v, (RR (spls (spls f (prs q w)) (prs p v)) l).map (fun n => n + clos (spls f (prs q w)) (prs p v) + clos f (prs q w)) = (RR (spls (spls f (prs p v)) (prs q w)) l).map fun n => n + clos (spls f (prs p v)) (prs q w) + clos f (prs p v) := fun w v => by
      have pr1 := hq.pr w
      have pr2 := (hq.tail w).pr v
      obtain ⟨a1, a2, a3, a4⟩ := clos_perm (List.perm_append_comm (l₁ := prs q w) (l₂ := prs p v)) h (Pr.app _ _ pr1 pr2)
      rw [(spls_app _ _ f).2, (spls_app _ _ f).2] at a2
      rw [(spls_app _ _ f).1, (spls_app _ _ f).1, rms_app] at a4
      rw [RR_congr l (Td.spls _ (Td.spls _ h pr1) pr2) a4 ((hq.tail w).tail v)]
      congr 1
      funext n
      omega
    have u : ∀ a b, RR f (a :: b :: l) = (List.range 3).flatMap fun w => (List.range 3).flatMap fun v => (RR (spls (spls f (prs a w)) (prs b v)) l).map (fun n => n + clos (spls f (prs a w)) (prs b v) + clos f (prs a w)) := fun a b => by
      show ((List.range 3).flatMap fun w => (((List.range 3).flatMap fun v => _).map _)) = _
      congr 1
      funext w
      rw [List.map_flatMap]
      congr 1
      funext v
      rw [List.map_map]
      rfl
    rw [u, u]
    simp only [e]
    rw [List.perm_iff_count]
    intro x
    simp only [show List.range 3 = [0, 1, 2] from rfl, List.flatMap_cons, List.flatMap_nil, List.count_append, List.count_nil]
    omega
  | trans h1 _ ih1 ih2 =>
    intro D f h hq
    exact (ih1 h hq).trans (ih2 h ⟨h1.nodup_iff.mp hq.1, fun p hp => hq.2 p (h1.mem_iff.mpr hp)⟩)
/-! ### counted -/
def mxN (L : List Nat) : Nat := L.foldr max 0
theorem mxN_le : ∀ {L : List Nat} {x : Nat}, x ∈ L → x ≤ mxN L
  | y :: L, x, h => by
    show x ≤ max y (mxN L)
    rcases List.mem_cons.mp h with e | h
    · rw [e]; omega
    · have := mxN_le h
      omega
theorem mxN_mem : ∀ {L : List Nat}, L ≠ [] → mxN L ∈ L
  | [y], _ => by simp [mxN]
  | y :: z :: L, _ => by
    show max y (mxN (z :: L)) ∈ y :: z :: L
    rcases Nat.le_total y (mxN (z :: L)) with h | h
    · rw [Nat.max_eq_right h]; exact List.mem_cons_of_mem _ (mxN_mem (by simp))
    · rw [Nat.max_eq_left h]; exact List.mem_cons_self
theorem mxN_perm {A B : List Nat} (h : A.Perm B) : mxN A = mxN B := by
  by_cases hA : A = []
  · subst hA; rw [h.nil_eq]
  · have hB : B ≠ [] := fun e => hA (by rw [e] at h; exact h.eq_nil)
    exact Nat.le_antisymm (mxN_le (h.mem_iff.mp (mxN_mem hA))) (mxN_le (h.mem_iff.mpr (mxN_mem hB)))
theorem mxN_app : ∀ A B : List Nat, mxN (A ++ B) = max (mxN A) (mxN B)
  | [], B => by show mxN B = max 0 _; omega
  | a :: A, B => by
    show max a (mxN (A ++ B)) = max (max a (mxN A)) (mxN B)
    rw [mxN_app A B]; omega
theorem mxN_add (c : Nat) : ∀ {A : List Nat}, A ≠ [] → mxN (A.map (· + c)) = mxN A + c
  | [a], _ => by simp [mxN]
  | a :: b :: A, _ => by
    show max (a + c) (mxN ((b :: A).map (· + c))) = max a (mxN (b :: A)) + c
    rw [mxN_add c (by simp)]; omega
open Ty in
def cnt (L : List Nat) : List Int := row (mxN L + 1) fun k => (L.count k : Int)
open Ty
theorem cnt_len (L : List Nat) : (cnt L).length = mxN L + 1 := row_len _ _
theorem cnt_perm {A B : List Nat} (h : A.Perm B) : cnt A = cnt B := by
  unfold cnt
  rw [mxN_perm h]
  exact row_congr fun k _ => by rw [h.count_eq]
theorem cnt_pad (A : List Nat) (m : Nat) : cnt A ++ List.replicate m (0 : Int) = row (mxN A + 1 + m) fun k => (A.count k : Int) := by
  refine row_ext (by rw [List.length_append, cnt_len, List.length_replicate]) fun i hi => ?_
  by_cases h : i < mxN A + 1
  · rw [List.getElem?_append_left (by rw [cnt_len]; exact h)]
    exact row_get h
  · rw [List.getElem?_append_right (by rw [cnt_len]; omega), cnt_len, List.getElem?_replicate, if_pos (by omega), List.count_eq_zero_of_not_mem fun z => by have := mxN_le z; omega]
    rfl
theorem cnt_map (c k : Nat) : ∀ A : List Nat, (A.map (· + c)).count (k + c) = A.count k
  | [] => rfl
  | a :: A => by
    rw [List.map_cons, List.count_cons, List.count_cons, cnt_map c k A]
    congr 1
    by_cases h : a = k
    · subst h; simp
    · simp [h]
theorem cnt_shift {A : List Nat} (hA : A ≠ []) (c : Nat) : List.replicate c (0 : Int) ++ cnt A = cnt (A.map (· + c)) := by
  unfold cnt
  rw [mxN_add c hA]
  refine row_ext (by rw [List.length_append, List.length_replicate, row_len]; omega) fun i hi => ?_
  by_cases h : i < c
  · rw [List.getElem?_append_left (by rw [List.length_replicate]; exact h), List.getElem?_replicate, if_pos h, List.count_eq_zero_of_not_mem fun z => by
      obtain ⟨n, _, e⟩ := List.mem_map.mp z
      omega]
    rfl
  · rw [List.getElem?_append_right (by rw [List.length_replicate]; omega), List.length_replicate, row_get (by omega)]
    congr 2
    rw [show i = (i - c) + c by omega, Nat.add_sub_cancel]
    exact (cnt_map c (i - c) A).symm
theorem sum_row (n : Nat) (f : Nat → Int) : (row (n + 1) f).sum = (row n f).sum + f n := by
  rw [row_succ, List.sum_append]
  simp
end Gf

/-! ## Gf26: solutions counted; webs' parts by choices -/
namespace Gf
def sh (a : Nat → Nat → Bool) : Nat → Nat → Bool := fun i j => a (i + 1) (j + 1)
def r0 (n : Nat) (a : Nat → Nat → Bool) (x : Nat → Bool) : Bool := qx n fun j => a 0 (j + 1) && x j
/-- the web without loops and alike across -/
structure Web (n : Nat) (a : Nat → Nat → Bool) : Prop where
  d : ∀ i, i < n → a i i = false
  s : ∀ i j, i < n → j < n → a i j = a j i
theorem Web.sh {n : Nat} {a : Nat → Nat → Bool} (h : Web (n + 1) a) : Web n (sh a) := ⟨fun i hi => h.d _ (by omega), fun i j hi hj => h.s _ _ (by omega) (by omega)⟩
end Gf

/-! ## Gf27: the solutions of all choices' parts -/
namespace Gf
open Ty
section
variable {n : Nat} {a : Nat → Nat → Bool} (h : Web (n + 1) a) (arr : Bool)
include h
end
end Gf

/-! ## Gf28: parts by choices, their solutions; choices told by their last way; elimination -/
namespace Gf
open Ty
/-! ### elimination -/
end Gf

/-! ## Gf29: rounds walked are as many as pairs' closings -/
namespace Gf
open PySem Ty
theorem Pr.sep {D : Int → Prop} {p : Int × Int} {l : List (Int × Int)} (h : Pr D (p :: l)) : ∀ q ∈ l, (q.1 ≠ p.1 ∧ q.1 ≠ p.2) ∧ q.2 ≠ p.1 ∧ q.2 ≠ p.2 := by
  have key : ∀ (l : List (Int × Int)) {E : Int → Prop}, Pr E l → ∀ q ∈ l, E q.1 ∧ E q.2 := by
    intro l
    induction l with
    | nil => intro E _ q hq; cases hq
    | cons r l ih =>
      intro E hE q hq
      rcases List.mem_cons.mp hq with e | hq
      · rw [e]; exact ⟨hE.1.1, hE.1.2.1⟩
      · obtain ⟨h1, h2⟩ := ih hE.2 q hq
        exact ⟨h1.1, h2.1⟩
  intro q hq
  obtain ⟨h1, h2⟩ := key l h.2 q hq
  exact ⟨h1.2, h2.2⟩
theorem Pr.of {D : Int → Prop} : ∀ {l : List (Int × Int)}, (∀ q ∈ l, D q.1 ∧ D q.2 ∧ q.1 ≠ q.2) → l.Pairwise (fun q r => (r.1 ≠ q.1 ∧ r.1 ≠ q.2) ∧ r.2 ≠ q.1 ∧ r.2 ≠ q.2) → Pr D l := by
  intro l
  induction l generalizing D with
  | nil => exact fun _ _ => trivial
  | cons q l ih =>
    intro h1 h2
    obtain ⟨h3, h4⟩ := List.pairwise_cons.mp h2
    refine ⟨h1 q List.mem_cons_self, ih (fun r hr => ?_) h4⟩
    obtain ⟨a, b, c⟩ := h1 r (List.mem_cons_of_mem _ hr)
    obtain ⟨d, e⟩ := h3 r hr
    exact ⟨⟨a, d⟩, ⟨b, e⟩, c⟩
theorem Pr.pw {D : Int → Prop} : ∀ {l : List (Int × Int)}, Pr D l → l.Pairwise (fun q r => (r.1 ≠ q.1 ∧ r.1 ≠ q.2) ∧ r.2 ≠ q.1 ∧ r.2 ≠ q.2) := by
  intro l
  induction l generalizing D with
  | nil => exact fun _ => .nil
  | cons q l ih => exact fun h => List.pairwise_cons.mpr ⟨h.sep, ih h.2⟩
theorem Pr.in {D : Int → Prop} : ∀ {l : List (Int × Int)}, Pr D l → ∀ q ∈ l, D q.1 ∧ D q.2 ∧ q.1 ≠ q.2 := by
  intro l
  induction l generalizing D with
  | nil => intro _ q hq; cases hq
  | cons r l ih =>
    intro h q hq
    rcases List.mem_cons.mp hq with e | hq
    · rw [e]; exact h.1
    · obtain ⟨a, b, c⟩ := ih h.2 q hq
      exact ⟨a.1, b.1, c⟩
/-! ### pairs told either way round -/
def nm (q : Int × Int) : Int × Int := if q.1 ≤ q.2 then q else (q.2, q.1)
theorem clos_nm : ∀ (l : List (Int × Int)) {D : Int → Prop} {f : Int → Int}, Td D f → Pr D l → Pr D (l.map nm) ∧ clos f (l.map nm) = clos f l
  | [], _, _, _, _ => ⟨trivial, rfl⟩
  | q :: l, D, f, h, hp => by
    obtain ⟨⟨a1, a2, a3⟩, hp2⟩ := hp
    obtain ⟨ih1, ih2⟩ := clos_nm l (h.spl a1 a2 a3) hp2
    rw [List.map_cons]
    generalize l.map nm = l' at ih1 ih2 ⊢
    unfold nm
    split
    · exact ⟨⟨⟨a1, a2, a3⟩, ih1⟩, by show clo _ _ _ + _ = clo _ _ _ + _; rw [ih2]⟩
    · have es : spl f q.2 q.1 = spl f q.1 q.2 := by
        funext x
        unfold spl
        by_cases e1 : f x = q.1
        · rw [if_neg (by rw [e1]; exact a3), if_pos e1, if_pos e1]
        · by_cases e2 : f x = q.2
          · rw [if_pos e2, if_neg e1, if_pos e2]
          · rw [if_neg e2, if_neg e1, if_neg e1, if_neg e2]
      have ec : clo f q.2 q.1 = clo f q.1 q.2 := by
        have h1 := (h q.1 a1).2.2
        have h2 := (h q.2 a2).2.2
        unfold clo
        by_cases e : f q.1 = q.2
        · rw [if_pos e, if_pos (by rw [← e]; exact h1)]
        · rw [if_neg e, if_neg fun z => e (by rw [← z]; exact h2)]
      have er : rm2 D q.2 q.1 = rm2 D q.1 q.2 := funext fun x => propext ⟨fun ⟨a, b, c⟩ => ⟨a, c, b⟩, fun ⟨a, b, c⟩ => ⟨a, c, b⟩⟩
      refine ⟨⟨⟨a2, a1, fun z => a3 z.symm⟩, by show Pr (rm2 D q.2 q.1) _; rw [er]; exact ih1⟩, ?_⟩
      show clo f q.2 q.1 + clos (spl f q.2 q.1) _ = clo f q.1 q.2 + _
      rw [es, ec]
      rw [ih2]
structure CV (D : Int → Prop) (p : Int → Int) (l : List (Int × Int)) : Prop where
  pr : Pr D l
  p2 : ∀ q ∈ l, q.2 = p q.1
  cv : ∀ x, D x → ∃ q ∈ l, x = q.1 ∨ x = q.2
theorem nm_cases (q : Int × Int) : nm q = q ∨ nm q = (q.2, q.1) := by unfold nm; split; exact .inl rfl; exact .inr rfl
theorem CV.nodup {D : Int → Prop} {p : Int → Int} {l : List (Int × Int)} (h : CV D p l) : (l.map nm).Nodup := by
  rw [List.nodup_iff_pairwise_ne, List.pairwise_map]
  refine h.pr.pw.imp fun {q r} ⟨⟨a, b⟩, c, d⟩ e => ?_
  have h1 := congrArg Prod.fst e
  rcases nm_cases q with x | x <;> rcases nm_cases r with y | y <;> rw [x, y] at h1
  · exact a h1.symm
  · exact c h1.symm
  · exact b h1.symm
  · exact d h1.symm
theorem CV.mem {D : Int → Prop} {p : Int → Int} (hp : ∀ x, D x → D (p x) ∧ p (p x) = x ∧ p x ≠ x) {l : List (Int × Int)} (h : CV D p l) (q : Int × Int) : q ∈ l.map nm ↔ D q.1 ∧ q.2 = p q.1 ∧ q.1 < q.2 := by
  constructor
  · intro hq
    obtain ⟨r, hr, rfl⟩ := List.mem_map.mp hq
    obtain ⟨a, b, c⟩ := h.pr.in r hr
    have e := h.p2 r hr
    unfold nm
    split
    · exact ⟨a, e, by omega⟩
    · refine ⟨b, ?_, by show r.2 < r.1; omega⟩
      show r.1 = p r.2
      rw [e, (hp _ a).2.1]
  · rintro ⟨a, b, c⟩
    obtain ⟨r, hr, e⟩ := h.cv q.1 a
    obtain ⟨d1, d2, d3⟩ := h.pr.in r hr
    have e2 := h.p2 r hr
    refine List.mem_map.mpr ⟨r, hr, ?_⟩
    rcases e with e | e
    · have : r = q := by
        refine Prod.ext e.symm ?_
        rw [e2, b, e]
      rw [this]
      unfold nm
      rw [if_pos (by omega)]
    · have e3 : q.2 = r.1 := by rw [b, e, e2, (hp _ d1).2.1]
      unfold nm
      rw [if_neg (by omega)]
      exact Prod.ext e.symm e3.symm
theorem CV.clos {D : Int → Prop} {p f : Int → Int} (hf : Td D f) (hp : ∀ x, D x → D (p x) ∧ p (p x) = x ∧ p x ≠ x) {l m : List (Int × Int)} (h : CV D p l) (h' : CV D p m) : clos f l = clos f m := by
  obtain ⟨a1, a2⟩ := clos_nm l hf h.pr
  obtain ⟨b1, b2⟩ := clos_nm m hf h'.pr
  have hP : (l.map nm).Perm (m.map nm) := (List.perm_ext_iff_of_nodup h.nodup h'.nodup).mpr fun q => by rw [h.mem hp, h'.mem hp]
  rw [← a2, ← b2]
  exact (clos_perm hP hf a1).2.1
/-! ### the rounds of a net -/
section
variable {s p f : Int → Int} {m : Nat} (hs : ∀ x, s x = f (p x)) (hpi : ∀ x : Int, 0 ≤ x → x < m → 0 ≤ p x ∧ p x < m ∧ p (p x) = x ∧ p x ≠ x) (hfi : ∀ x : Int, 0 ≤ x → x < m → 0 ≤ f x ∧ f x < m ∧ f (f x) = x ∧ f x ≠ x)
include hs hpi hfi
def rg (m : Nat) : Int → Prop := fun x => 0 ≤ x ∧ x < (m : Int)
end
end Gf

/-! ## Gf30: counts by rounds -/
namespace Gf
open PySem Ty
end Gf

/-! ## Gf31: a word's choices: rounds and solutions -/
namespace Gf
open PySem Ty
section
variable {l : List Nat} {n : Nat} (R : Ring l n)
include R
end
end Gf

/-! ## Gf32: sums over all x, products: the worth at 2 -/
namespace Gf
open Ty
end Gf

/-! ## Gf33: the worths at -2 -/
namespace Gf
open Ty
def wv (L : List Nat) (x : Int) : Int := (L.map fun r => x ^ r).sum
theorem wv_app (A B : List Nat) (x : Int) : wv (A ++ B) x = wv A x + wv B x := by
  unfold wv
  rw [List.map_append, List.sum_append]
/-! ### the three ways of one number -/
def Tri3 (x y z : Nat) : Prop := ∃ m, (x = 2 ^ m ∧ y = 2 ^ m ∧ z = 2 ^ (m + 1)) ∨ (x = 2 ^ m ∧ y = 2 ^ (m + 1) ∧ z = 2 ^ m) ∨ (x = 2 ^ (m + 1) ∧ y = 2 ^ m ∧ z = 2 ^ m)
theorem Tri3.two {x y z : Nat} (h : Tri3 x y z) : Tri3 (2 * x) (2 * y) (2 * z) := by
  have e : ∀ m, 2 * 2 ^ m = 2 ^ (m + 1) := fun m => by rw [Nat.pow_succ, Nat.mul_comm]
  obtain ⟨m, h | h | h⟩ := h
  · exact ⟨m + 1, .inl ⟨by rw [h.1, e], by rw [h.2.1, e], by rw [h.2.2, e]⟩⟩
  · exact ⟨m + 1, .inr (.inl ⟨by rw [h.1, e], by rw [h.2.1, e], by rw [h.2.2, e]⟩)⟩
  · exact ⟨m + 1, .inr (.inr ⟨by rw [h.1, e], by rw [h.2.1, e], by rw [h.2.2, e]⟩)⟩
/-! ### the first number as the last -/
def rotW (n : Nat) (a : Nat → Nat → Bool) : Nat → Nat → Bool := fun i j => a (if i = n then 0 else i + 1) (if j = n then 0 else j + 1)
theorem Web.rot {n : Nat} {a : Nat → Nat → Bool} (h : Web (n + 1) a) : Web (n + 1) (rotW n a) := by
  refine ⟨fun i hi => h.d _ ?_, fun i j hi hj => h.s _ _ ?_ ?_⟩ <;> split <;> omega
theorem Tri3.worth {x y z : Nat} (h : Tri3 x y z) : (-2 : Int) ^ Nat.log2 x + (-2 : Int) ^ Nat.log2 y + (-2 : Int) ^ Nat.log2 z = 0 := by
  have e : ∀ m : Nat, (-2 : Int) ^ (m + 1) = -2 * (-2 : Int) ^ m := fun m => by rw [Int.pow_succ, Int.mul_comm]
  obtain ⟨m, h | h | h⟩ := h <;> (rw [h.1, h.2.1, h.2.2, Nat.log2_two_pow, Nat.log2_two_pow, e]; omega)
def ones (n : Nat) : List Nat := List.replicate n 1
end Gf

/-! ## Gf34: crossings of words moved and renamed -/
namespace Gf
open Ty PySem
theorem Ring.perm {l l2 : List Nat} {n : Nat} (R : Ring l n) (h : l2.Perm l) : Ring l2 n := by
  have h2 : l.Perm (dbl (cs l)) := by
    refine List.perm_iff_count.mpr fun c => ?_
    by_cases hc : c ∈ l
    · rw [R.two c hc, count_dbl (cs_nd l) (mem_cs.mpr hc)]
    · rw [List.count_eq_zero.mpr hc, List.count_eq_zero.mpr fun z => hc (mem_cs.mp (mem_dbl.mp z))]
  have := Ring.of_perm (h.trans h2) (cs_nd l) (by rw [R.few]; exact R.n1) (by rw [R.few]; exact R.n10) fun c hc => R.low c (mem_cs.mp hc)
  rwa [R.few] at this
theorem rot_perm (k : Nat) (l : List Nat) : (rot k l).Perm l := by
  unfold rot
  exact List.perm_append_comm.trans (by rw [List.take_append_drop])
theorem Ring.map {l : List Nat} {n : Nat} (R : Ring l n) {σ : Nat → Nat} (hi : ∀ a ∈ l, ∀ b ∈ l, σ a = σ b → a = b) (hr : ∀ a ∈ l, 97 ≤ σ a ∧ σ a < 123) : Ring (l.map σ) n := by
  have h2 : l.Perm (dbl (cs l)) := by
    refine List.perm_iff_count.mpr fun c => ?_
    by_cases hc : c ∈ l
    · rw [R.two c hc, count_dbl (cs_nd l) (mem_cs.mpr hc)]
    · rw [List.count_eq_zero.mpr hc, List.count_eq_zero.mpr fun z => hc (mem_cs.mp (mem_dbl.mp z))]
  have h3 : (l.map σ).Perm (dbl ((cs l).map σ)) := by
    refine (h2.map σ).trans ?_
    unfold dbl
    rw [List.map_flatMap, List.flatMap_map]
    exact List.Perm.refl _
  have hnd : ((cs l).map σ).Nodup := by
    rw [List.nodup_iff_pairwise_ne, List.pairwise_map]
    refine (List.nodup_iff_pairwise_ne.mp (cs_nd l)).imp_of_mem fun {a b} ha hb hab e => hab (hi a (mem_cs.mp ha) b (mem_cs.mp hb) e)
  have := Ring.of_perm h3 hnd (by rw [List.length_map, R.few]; exact R.n1) (by rw [List.length_map, R.few]; exact R.n10) fun c hc => by
    obtain ⟨d, hd, rfl⟩ := List.mem_map.mp hc
    exact hr d (mem_cs.mp hd)
  rwa [List.length_map, R.few] at this
/-! ### crossing, by places -/
def xB (i j i' j' : Nat) : Bool := decide (i < i' ∧ i' < j) != decide (i < j' ∧ j' < j)
theorem crB_two {l : List Nat} {c d i j i' j' : Nat} (h : Two l c i j) (h' : Two l d i' j') : crB l c d = xB i j i' j' := by
  unfold crB
  rw [h.pl, h'.pl]
  rfl
theorem Two.apart {l : List Nat} {c d i j i' j' : Nat} (h : Two l c i j) (h' : Two l d i' j') (hne : c ≠ d) : i ≠ i' ∧ i ≠ j' ∧ j ≠ i' ∧ j ≠ j' := by
  have a := h.hi
  have b := h.hj
  have a' := h'.hi
  have b' := h'.hj
  refine ⟨fun e => ?_, fun e => ?_, fun e => ?_, fun e => ?_⟩
  · rw [e, a'] at a; exact hne (Option.some.inj a).symm
  · rw [e, b'] at a; exact hne (Option.some.inj a).symm
  · rw [e, a'] at b; exact hne (Option.some.inj b).symm
  · rw [e, b'] at b; exact hne (Option.some.inj b).symm
theorem Ring.two_mk {l : List Nat} {n c p q : Nat} (R : Ring l n) (hp : l[p]? = some c) (hq : l[q]? = some c) (hpq : p < q) : Two l c p q := by
  have h := R.at (List.mem_of_getElem? hp)
  have s1 := h.seat hp
  have s2 := h.seat hq
  have t1 : p = (pl l c).1 ∨ p = (pl l c).2 := by
    by_cases z : c ∈ l.take p
    · exact .inr (s1.1.mp z)
    · exact .inl (s1.2.mp z)
  have t2 : q = (pl l c).1 ∨ q = (pl l c).2 := by
    by_cases z : c ∈ l.take q
    · exact .inr (s2.1.mp z)
    · exact .inl (s2.2.mp z)
  have hlt := h.lt
  have e1 : p = (pl l c).1 := by omega
  have e2 : q = (pl l c).2 := by omega
  rw [← e1, ← e2] at h
  exact h
theorem rot1_get {x : Nat} {t : List Nat} (p : Nat) (hp : p < t.length + 1) : (t ++ [x])[if p = 0 then t.length else p - 1]? = (x :: t)[p]? := by
  cases p with
  | zero => rw [if_pos rfl, List.getElem?_append_right (Nat.le_refl _), Nat.sub_self]; rfl
  | succ p => rw [if_neg (by omega), Nat.add_sub_cancel, List.getElem?_append_left (by omega)]; rfl
theorem crB_rot1 {x : Nat} {t : List Nat} {n : Nat} (R : Ring (x :: t) n) {c d : Nat} (hc : c ∈ x :: t) (hd : d ∈ x :: t) : crB (t ++ [x]) c d = crB (x :: t) c d := by
  by_cases hne : c = d
  · subst hne
    rw [crB_self, crB_self]
  have R2 : Ring (t ++ [x]) n := R.perm (by simpa using List.perm_append_comm (l₁ := t) (l₂ := [x]))
  have key : ∀ e ∈ x :: t, ∀ i j, Two (x :: t) e i j → Two (t ++ [x]) e (if i = 0 then j - 1 else i - 1) (if i = 0 then t.length else j - 1) := fun e he i j h => by
    have hlt := h.lt
    have bi : i < t.length + 1 := h.bi
    have bj : j < t.length + 1 := h.bj
    have gi := (rot1_get (x := x) i bi).trans h.hi
    have gj := (rot1_get (x := x) j bj).trans h.hj
    by_cases z : i = 0
    · rw [if_pos z] at gi
      rw [if_neg (by omega)] at gj
      rw [if_pos z, if_pos z]
      exact R2.two_mk gj gi (by omega)
    · rw [if_neg z] at gi
      rw [if_neg (by omega)] at gj
      rw [if_neg z, if_neg z]
      exact R2.two_mk gi gj (by omega)
  have h := R.at hc
  have h' := R.at hd
  have ap := h.apart h' hne
  have l1 := h.lt
  have l2 := h'.lt
  have b1 : (pl (x :: t) c).2 < t.length + 1 := h.bj
  have b2 : (pl (x :: t) d).2 < t.length + 1 := h'.bj
  rw [crB_two (key c hc _ _ h) (key d hd _ _ h'), crB_two h h']
  generalize (pl (x :: t) c).1 = i at *
  generalize (pl (x :: t) c).2 = j at *
  generalize (pl (x :: t) d).1 = i' at *
  generalize (pl (x :: t) d).2 = j' at *
  have xi : ∀ a b a' b', xB a b a' b' = true ↔ ¬ ((a < a' ∧ a' < b) ↔ (a < b' ∧ b' < b)) := fun a b a' b' => by
    unfold xB
    rw [bne_iff_ne, ne_eq, decide_eq_decide]
  rw [Bool.eq_iff_iff, xi, xi]
  by_cases z : i = 0
  · rw [if_pos z, if_pos z, if_neg (by omega), if_neg (by omega)]
    omega
  · by_cases z' : i' = 0
    · rw [if_neg z, if_neg z, if_pos z', if_pos z']
      omega
    · rw [if_neg z, if_neg z, if_neg z', if_neg z']
      omega
theorem rot_succ {k : Nat} {l : List Nat} (hk : k < l.length) : ∃ x t, rot k l = x :: t ∧ rot (k + 1) l = t ++ [x] := by
  refine ⟨l[k], l.drop (k + 1) ++ l.take k, ?_, ?_⟩
  · unfold rot
    rw [List.drop_eq_getElem_cons hk]
    rfl
  · unfold rot
    rw [List.take_succ_eq_append_getElem hk, List.append_assoc]
theorem crB_rot {l : List Nat} {n : Nat} (R : Ring l n) {c d : Nat} (hc : c ∈ l) (hd : d ∈ l) : ∀ k, k ≤ l.length → crB (rot k l) c d = crB l c d
  | 0, _ => by rw [rot_zero]
  | k + 1, h => by
    obtain ⟨x, t, e1, e2⟩ := rot_succ (show k < l.length by omega)
    have R1 : Ring (rot k l) n := R.perm (rot_perm k l)
    have hc1 := (mem_rot (k := k)).mpr hc
    have hd1 := (mem_rot (k := k)).mpr hd
    rw [← crB_rot R hc hd k (by omega), e2]
    rw [e1] at R1 hc1 hd1 ⊢
    exact crB_rot1 R1 hc1 hd1
end Gf

/-! ## Gf35: two letters that stand by turns, their stretches exchanged -/
namespace Gf
open PySem Ty
structure Alt (A B C D E : List Nat) (x y : Nat) : Prop where
  ne : x ≠ y
  hx : x ∉ A ∧ x ∉ B ∧ x ∉ C ∧ x ∉ D ∧ x ∉ E
  hy : y ∉ A ∧ y ∉ B ∧ y ∉ C ∧ y ∉ D ∧ y ∉ E
theorem Alt.sw {A B C D E : List Nat} {x y : Nat} (h : Alt A B C D E x y) : Alt A D C B E x y := ⟨h.ne, ⟨h.hx.1, h.hx.2.2.2.1, h.hx.2.2.1, h.hx.2.1, h.hx.2.2.2.2⟩, ⟨h.hy.1, h.hy.2.2.2.1, h.hy.2.2.1, h.hy.2.1, h.hy.2.2.2.2⟩⟩
end Gf

/-! ## Gf36: a web changed at points; an exchange is three changes -/
namespace Gf
open PySem Ty
/-- changed for each two near v -/
def loc (f : Nat → Nat → Int) (v : Nat) : Nat → Nat → Int := fun i j => if i ≠ j ∧ f v i = 1 ∧ f v j = 1 then 1 - f i j else f i j
/-- what changes beside u and v -/
def CsW (f : Nat → Nat → Int) (u v a b : Nat) : Prop := a ≠ b ∧ (a ≠ u ∧ a ≠ v) ∧ (b ≠ u ∧ b ≠ v) ∧ ¬ (f u a = 0 ∧ f v a = 0) ∧ ¬ (f u b = 0 ∧ f v b = 0) ∧ ¬ (f u a = f u b ∧ f v a = f v b)
instance {f : Nat → Nat → Int} {u v a b : Nat} : Decidable (CsW f u v a b) := by unfold CsW; exact inferInstance
def sw (u v x : Nat) : Nat := if x = u then v else if x = v then u else x
def Ex (u v a b : Nat) : Prop := ((a = u ∨ a = v) ∧ b ≠ u ∧ b ≠ v) ∨ ((b = u ∨ b = v) ∧ a ≠ u ∧ a ≠ v)
instance {u v a b : Nat} : Decidable (Ex u v a b) := by unfold Ex; exact inferInstance
/-- u's and v's exchanged -/
def exF (g : Nat → Nat → Int) (u v : Nat) : Nat → Nat → Int := fun a b => if Ex u v a b then g (sw u v a) (sw u v b) else g a b
def SymW (n : Nat) (f : Nat → Nat → Int) : Prop := ∀ i j, i < n → j < n → f i j = f j i
structure Wbf (n : Nat) (f : Nat → Nat → Int) : Prop where
  bits : Bits n f
  sym : SymW n f
  dia : ∀ i, i < n → f i i = 0
theorem b1 {x : Int} (h : x = 0 ∨ x = 1) : 1 - x = 0 ∨ 1 - x = 1 := by omega
theorem Wbf.loc {n v : Nat} {f : Nat → Nat → Int} (h : Wbf n f) (hv : v < n) : Wbf n (loc f v) := by
  refine ⟨fun i j hi hj => ?_, fun i j hi hj => ?_, fun i hi => ?_⟩
  · unfold Gf.loc
    split
    · exact b1 (h.bits i j hi hj)
    · exact h.bits i j hi hj
  · unfold Gf.loc
    by_cases q : i ≠ j ∧ f v i = 1 ∧ f v j = 1
    · rw [if_pos q, if_pos ⟨q.1.symm, q.2.2, q.2.1⟩, h.sym i j hi hj]
    · rw [if_neg q, if_neg fun z => q ⟨z.1.symm, z.2.2, z.2.1⟩, h.sym i j hi hj]
  · unfold Gf.loc
    rw [if_neg fun z => z.1 rfl]
    exact h.dia i hi
end Gf

/-! ## Gf37: a word turned thrice; tables changed at a set of places -/
namespace Gf
open PySem Ty
/-- the stretch between turned -/
def trnW (l : List Nat) (i j : Nat) : List Nat := l.take (i + 1) ++ (btw l i j).reverse ++ l.drop j
theorem Alt.rx {A B C D E : List Nat} {x y : Nat} (h : Alt A B C D E x y) : Alt A C.reverse B.reverse D E x y := ⟨h.ne, by have := h.hx; simp [this], by have := h.hy; simp [this]⟩
theorem Alt.ry {A B C D E : List Nat} {x y : Nat} (h : Alt A B C D E x y) : Alt A B D.reverse C.reverse E x y := ⟨h.ne, by have := h.hx; simp [this], by have := h.hy; simp [this]⟩
/-- changed where P -/
noncomputable def tg (f : Nat → Nat → Int) (P : Nat → Nat → Prop) : Nat → Nat → Int := fun a b => haveI := Classical.propDecidable (P a b); if P a b then 1 - f a b else f a b
end Gf

/-! ## Gf38: crossings of a word turned at a letter -/
namespace Gf
open PySem Ty
theorem trnW_get {l : List Nat} {i j : Nat} (hlt : i < j) (hj : j < l.length) (k : Nat) : (trnW l i j)[k]? = if i < k ∧ k < j then l[i + j - k]? else l[k]? := by
  have hb : (btw l i j).length = j - (i + 1) := btw_len (by omega)
  have ht : (l.take (i + 1)).length = i + 1 := by rw [List.length_take]; omega
  unfold trnW
  by_cases k1 : k < i + 1
  · rw [if_neg (by omega), List.append_assoc, List.getElem?_append_left (by omega), List.getElem?_take, if_pos k1]
  · rw [List.append_assoc, List.getElem?_append_right (by omega), ht]
    by_cases k2 : k < j
    · rw [if_pos ⟨by omega, k2⟩, List.getElem?_append_left (by rw [List.length_reverse]; omega), List.getElem?_reverse (by omega), btw_get (by omega)]
      congr 1
      omega
    · rw [if_neg (by omega), List.getElem?_append_right (by rw [List.length_reverse]; omega), List.length_reverse, List.getElem?_drop]
      congr 1
      omega
theorem trnW_perm {l : List Nat} {i j : Nat} (h : i < j) (hj : j < l.length) : (trnW l i j).Perm l := by
  have e : l = l.take (i + 1) ++ btw l i j ++ l.drop j := by
    have e : btw l i j ++ l.drop j = l.drop (i + 1) := by
      unfold btw
      have := List.take_append_drop (j - (i + 1)) (l.drop (i + 1))
      rw [List.drop_drop, show i + 1 + (j - (i + 1)) = j by omega] at this
      exact this
    rw [List.append_assoc, e, List.take_append_drop]
  unfold trnW
  conv => rhs; rw [e]
  exact (List.Perm.append_left _ (List.reverse_perm _)).append_right _
/-- where a place is, behind the turn -/
def mir (i j p : Nat) : Nat := if i < p ∧ p < j then i + j - p else p
theorem mir_mir {i j p : Nat} : mir i j (mir i j p) = p := by
  unfold mir
  by_cases h : i < p ∧ p < j
  · rw [if_pos h, if_pos (by omega)]; omega
  · rw [if_neg h, if_neg h]
theorem trnW_mir {l : List Nat} {i j : Nat} (hlt : i < j) (hj : j < l.length) (p : Nat) : (trnW l i j)[mir i j p]? = l[p]? := by
  rw [trnW_get hlt hj]
  unfold mir
  by_cases h : i < p ∧ p < j
  · rw [if_pos h, if_pos (by omega)]
    congr 1
    omega
  · rw [if_neg h, if_neg h]
theorem trnW_two {l : List Nat} {n i j c p q : Nat} (R : Ring l n) (hlt : i < j) (hj : j < l.length) (h : Two l c p q) : Two (trnW l i j) c (min (mir i j p) (mir i j q)) (max (mir i j p) (mir i j q)) := by
  have R2 : Ring (trnW l i j) n := R.perm (trnW_perm hlt hj)
  have a := (trnW_mir hlt hj p).trans h.hi
  have b := (trnW_mir hlt hj q).trans h.hj
  have hpq := h.lt
  have hne : mir i j p ≠ mir i j q := fun e => by
    have := congrArg (mir i j) e
    rw [mir_mir, mir_mir] at this
    omega
  rcases Nat.lt_or_gt_of_ne hne with z | z
  · rw [Nat.min_eq_left (by omega), Nat.max_eq_right (by omega)]
    exact R2.two_mk a b z
  · rw [Nat.min_eq_right (by omega), Nat.max_eq_left (by omega)]
    exact R2.two_mk b a z
theorem xB_iff (a b a' b' : Nat) : xB a b a' b' = true ↔ ¬ ((a < a' ∧ a' < b) ↔ (a < b' ∧ b' < b)) := by
  unfold xB
  rw [bne_iff_ne, ne_eq, decide_eq_decide]
theorem xB_mir {i j p q r s : Nat} (h1 : i < j) (h2 : p < q) (h3 : r < s) (n1 : p ≠ r ∧ p ≠ s ∧ q ≠ r ∧ q ≠ s) (n2 : i ≠ p ∧ i ≠ q ∧ j ≠ p ∧ j ≠ q) (n3 : i ≠ r ∧ i ≠ s ∧ j ≠ r ∧ j ≠ s) :
    xB (min (mir i j p) (mir i j q)) (max (mir i j p) (mir i j q)) (min (mir i j r) (mir i j s)) (max (mir i j r) (mir i j s)) = (xB p q r s != (xB i j p q && xB i j r s)) := by
  by_cases a1 : i < p ∧ p < j <;> by_cases a2 : i < q ∧ q < j <;> by_cases a3 : i < r ∧ r < j <;> by_cases a4 : i < s ∧ s < j
  all_goals
    unfold mir
    simp only [a1, a2, a3, a4, and_self, if_true, if_false, xB, decide_true, decide_false, bne_self_eq_false, Bool.false_and, Bool.and_false, Bool.bne_false, Bool.true_and, Bool.and_true, show (true != false) = true from rfl, show (false != true) = true from rfl, Bool.bne_true]
    rw [Bool.eq_iff_iff]
    simp only [bne_iff_ne, ne_eq, decide_eq_decide, Bool.not_eq_true']
    try rw [bne_eq_false_iff_eq, decide_eq_decide]
    omega
theorem xB_mir0 {i j r s : Nat} (h1 : i < j) (h3 : r < s) (n3 : i ≠ r ∧ i ≠ s ∧ j ≠ r ∧ j ≠ s) :
    xB i j (min (mir i j r) (mir i j s)) (max (mir i j r) (mir i j s)) = xB i j r s := by
  rw [Bool.eq_iff_iff, xB_iff, xB_iff]
  unfold mir
  by_cases a3 : i < r ∧ r < j <;> by_cases a4 : i < s ∧ s < j
  · rw [if_pos a3, if_pos a4]; omega
  · rw [if_pos a3, if_neg a4]; omega
  · rw [if_neg a3, if_pos a4]; omega
  · rw [if_neg a3, if_neg a4]
    omega
theorem crB_trn {l : List Nat} {n v i j c d : Nat} (R : Ring l n) (hv : Two l v i j) (hc : c ∈ l) (hd : d ∈ l) (hne : c ≠ d) : crB (trnW l i j) c d = (crB l c d != (crB l v c && crB l v d)) := by
  have hlt := hv.lt
  have hj := hv.bj
  have R2 : Ring (trnW l i j) n := R.perm (trnW_perm hlt hj)
  have hv2 : Two (trnW l i j) v i j := by
    have := trnW_two R hlt hj hv
    unfold mir at this
    rw [if_neg (by omega), if_neg (by omega), Nat.min_eq_left (by omega), Nat.max_eq_right (by omega)] at this
    exact this
  have tc := R.at hc
  have td := R.at hd
  by_cases cv : c = v
  · subst cv
    rw [crB_self, Bool.false_and, Bool.bne_false, crB_two hv2 (trnW_two R hlt hj td), crB_two hv td]
    exact xB_mir0 hlt td.lt (hv.apart td hne)
  by_cases dv : d = v
  · subst dv
    rw [crB_self, Bool.and_false, Bool.bne_false, crB_symm R hc hd, crB_symm R2 ((trnW_perm hlt hj).mem_iff.mpr hc) hv2.mem, crB_two hv2 (trnW_two R hlt hj tc), crB_two hv tc]
    exact xB_mir0 hlt tc.lt (hv.apart tc (Ne.symm cv))
  rw [crB_two (trnW_two R hlt hj tc) (trnW_two R hlt hj td), crB_two tc td, crB_two hv tc, crB_two hv td]
  exact xB_mir hlt tc.lt td.lt (tc.apart td hne) (hv.apart tc (Ne.symm cv)) (hv.apart td (Ne.symm dv))
end Gf

/-! ## Gf39: a search by layers -/
namespace Gf
open PySem Ty
section
variable {σ : Type} (n : Nat) (T : σ → Nat → σ) (P : σ → Prop)
/-- along a way -/
def wk (x : σ) : List Int → σ
  | [] => x
  | q :: r => wk (T x q.toNat) r
theorem wk_snoc (x : σ) (q : Int) : ∀ l : List Int, ∀ x : σ, wk T x (l ++ [q]) = T (wk T x l) q.toNat
  | [], x => rfl
  | a :: l, x => by rw [List.cons_append]; exact wk_snoc x q l _
def okp (ps : List Int) : Prop := ∀ p ∈ ps, 0 ≤ p ∧ p < (n : Int)
variable {n T P}
/-- what is found: rows below i are gone through, row i at the places below k -/
structure Bs (n : Nat) (T : σ → Nat → σ) (P : σ → Prop) (x0 : σ) (W : List (σ × List Int)) (i k : Nat) : Prop where
  nd : (W.map (·.1)).Nodup
  hd : W[0]? = some (x0, [])
  ok : ∀ w ∈ W, P w.1 ∧ okp n w.2 ∧ wk T x0 w.2 = w.1
  so : W.Pairwise fun a b => a.2.length ≤ b.2.length
  up : ∀ c, W[i]? = some c → ∀ w ∈ W, w.2.length ≤ c.2.length + 1
  up0 : k = 0 → 0 < i → ∀ c, W[i - 1]? = some c → ∀ w ∈ W, w.2.length ≤ c.2.length + 1
  nb : ∀ j q c, (j < i ∧ q < n ∨ j = i ∧ q < k) → W[j]? = some c → ∃ w ∈ W, w.1 = T c.1 q ∧ w.2.length ≤ c.2.length + 1
  le : i ≤ W.length
  ln : ∀ j (c : σ × List Int), W[j]? = some c → c.2.length ≤ j
variable {x0 : σ} {W : List (σ × List Int)} {i k : Nat}
theorem Bs.start (h : P x0) : Bs n T P x0 [(x0, [])] 0 0 where
  nd := by simp
  hd := rfl
  ok := fun w hw => by
    rw [List.mem_singleton.mp hw]
    exact ⟨h, fun p hp => (nomatch hp), rfl⟩
  so := List.pairwise_singleton _ _
  up := fun c hc w hw => by
    rw [List.mem_singleton.mp hw]
    exact Nat.zero_le _
  up0 := fun _ h => absurd h (Nat.lt_irrefl 0)
  nb := fun j q c h _ => by omega
  le := Nat.zero_le _
  ln := fun j c h => by
    have := List.mem_singleton.mp (List.mem_of_getElem? h)
    rw [this]; exact Nat.zero_le _
theorem Bs.old {c : σ × List Int} (B : Bs n T P x0 W i k) (hc : W[i]? = some c) (hin : T c.1 k ∈ W.map (·.1)) : Bs n T P x0 W i (k + 1) where
  nd := B.nd
  hd := B.hd
  ok := B.ok
  so := B.so
  up := B.up
  up0 := fun h => absurd h (Nat.succ_ne_zero k)
  nb := fun j q d h hd => by
    by_cases e : j = i ∧ q = k
    · obtain ⟨rfl, rfl⟩ := e
      have : d = c := Option.some.inj (hd.symm.trans hc)
      subst this
      obtain ⟨w, hw, e⟩ := List.mem_map.mp hin
      exact ⟨w, hw, e, B.up d hc w hw⟩
    · exact B.nb j q d (by omega) hd
  le := B.le
  ln := B.ln
theorem get_app {α : Type} {l : List α} {a : α} {j : Nat} {c : α} (h : l[j]? = some c) : (l ++ [a])[j]? = some c := by
  have := (List.getElem?_eq_some_iff.mp h).1
  rw [List.getElem?_append_left this]; exact h
theorem Bs.new {c : σ × List Int} (hP : ∀ x, P x → ∀ q, q < n → P (T x q)) (B : Bs n T P x0 W i k) (hk : k < n) (hc : W[i]? = some c) (hin : T c.1 k ∉ W.map (·.1)) : Bs n T P x0 (W ++ [(T c.1 k, c.2 ++ [(k : Int)])]) i (k + 1) := by
  have hi := (List.getElem?_eq_some_iff.mp hc).1
  have hcm := List.mem_of_getElem? hc
  obtain ⟨c1, c2, c3⟩ := B.ok c hcm
  refine ⟨?_, get_app B.hd, ?_, ?_, ?_, fun h => absurd h (Nat.succ_ne_zero k), ?_, by rw [List.length_append]; have := B.le; omega, fun j d hd => ?_⟩
  · rw [List.map_append]
    refine List.nodup_append.mpr ⟨B.nd, by simp, fun a ha b hb e => ?_⟩
    have hb : b = T c.1 k := by simpa using hb
    subst e hb
    exact hin ha
  · intro w hw
    rcases List.mem_append.mp hw with hw | hw
    · exact B.ok w hw
    · rw [List.mem_singleton.mp hw]
      refine ⟨hP _ c1 k hk, fun p hp => ?_, ?_⟩
      · rcases List.mem_append.mp hp with hp | hp
        · exact c2 p hp
        · rw [List.mem_singleton.mp hp]; omega
      · show wk T x0 (c.2 ++ [(k : Int)]) = T c.1 k
        rw [wk_snoc _ x0, c3, Int.toNat_natCast]
  · refine List.pairwise_append.mpr ⟨B.so, List.pairwise_singleton _ _, fun a ha b hb => ?_⟩
    rw [List.mem_singleton.mp hb]
    show a.2.length ≤ (c.2 ++ [(k : Int)]).length
    rw [List.length_append]
    exact B.up c hc a ha
  · intro d hd w hw
    have : d = c := by
      rw [List.getElem?_append_left hi] at hd
      exact Option.some.inj (hd.symm.trans hc)
    subst this
    rcases List.mem_append.mp hw with hw | hw
    · exact B.up d hc w hw
    · rw [List.mem_singleton.mp hw]
      show (d.2 ++ [(k : Int)]).length ≤ _
      rw [List.length_append]; exact Nat.le_refl _
  · intro j q d h hd
    rw [List.getElem?_append_left (by omega)] at hd
    by_cases e : j = i ∧ q = k
    · obtain ⟨rfl, rfl⟩ := e
      have : d = c := by
        rw [hc] at hd
        exact (Option.some.inj hd).symm
      subst this
      refine ⟨_, List.mem_append_right _ (List.mem_singleton.mpr rfl), rfl, ?_⟩
      show (d.2 ++ [(q : Int)]).length ≤ _
      rw [List.length_append]; exact Nat.le_refl _
    · obtain ⟨w, hw, e⟩ := B.nb j q d (by omega) hd
      exact ⟨w, List.mem_append_left _ hw, e⟩
  · by_cases hj : j < W.length
    · rw [List.getElem?_append_left hj] at hd
      exact B.ln j d hd
    · rw [List.getElem?_append_right (by omega)] at hd
      have := List.mem_singleton.mp (List.mem_of_getElem? hd)
      rw [this]
      have := B.ln i c hc
      show (c.2 ++ [(k : Int)]).length ≤ j
      rw [List.length_append, List.length_singleton]
      omega
theorem Bs.sorted (B : Bs n T P x0 W i k) {a b : Nat} {c d : σ × List Int} (h : a ≤ b) (ha : W[a]? = some c) (hb : W[b]? = some d) : c.2.length ≤ d.2.length := by
  obtain ⟨a1, rfl⟩ := List.getElem?_eq_some_iff.mp ha
  obtain ⟨b1, rfl⟩ := List.getElem?_eq_some_iff.mp hb
  rcases Nat.lt_or_eq_of_le h with h | h
  · exact List.pairwise_iff_getElem.mp B.so a b a1 b1 h
  · subst h; exact Nat.le_refl _
/-- all is gone through: whatever is come to is found -/
theorem Bs.all (B : Bs n T P x0 W i 0) (hi : W.length ≤ i) : ∀ {ps : List Int} {x : σ}, x ∈ W.map (·.1) → okp n ps → wk T x ps ∈ W.map (·.1)
  | [], x, hx, _ => hx
  | q :: r, x, hx, h => by
    have hq : q.toNat < n := by have := h q (List.mem_cons_self ..); omega
    refine Bs.all (ps := r) (x := T x q.toNat) B hi ?_ fun p hp => h p (List.mem_cons_of_mem _ hp)
    obtain ⟨c, hc, rfl⟩ := List.mem_map.mp hx
    obtain ⟨j, hj⟩ := List.getElem?_of_mem hc
    have := (List.getElem?_eq_some_iff.mp hj).1
    obtain ⟨w, hw, e, -⟩ := B.nb j q.toNat c (by omega) hj
    exact List.mem_map.mpr ⟨w, hw, e⟩
/-- no way is shorter -/
theorem Bs.least (B : Bs n T P x0 W i 0) {y : σ} {ps qs : List Int} (hy : (y, ps) ∈ W) (hq : okp n qs) (e : wk T x0 qs = y) : ps.length ≤ qs.length := by
  have uniq : ∀ w ∈ W, w.1 = y → w.2 = ps := fun w hw h => by
    have hp := List.nodup_iff_pairwise_ne.mp B.nd
    rw [List.pairwise_map] at hp
    obtain ⟨a, ha⟩ := List.getElem?_of_mem hw
    obtain ⟨b, hb⟩ := List.getElem?_of_mem hy
    obtain ⟨a1, a2⟩ := List.getElem?_eq_some_iff.mp ha
    obtain ⟨b1, b2⟩ := List.getElem?_eq_some_iff.mp hb
    rcases Nat.lt_trichotomy a b with z | z | z
    · have := List.pairwise_iff_getElem.mp hp a b a1 b1 z
      rw [a2, b2] at this
      exact absurd h this
    · subst z
      rw [ha] at hb
      rw [Option.some.inj hb]
    · have := List.pairwise_iff_getElem.mp hp b a b1 a1 z
      rw [a2, b2] at this
      exact absurd h.symm this
  refine Nat.le_of_not_lt fun hlt => ?_
  by_cases h0 : i = 0
  · -- nothing is gone through
    subst h0
    have := B.up _ B.hd _ hy
    have hp : ps.length ≤ 1 := this
    have hqs : qs = [] := List.length_eq_zero_iff.mp (by omega)
    subst hqs
    have := uniq _ (List.mem_of_getElem? B.hd) e
    rw [← this] at hlt
    exact absurd hlt (Nat.not_lt_zero _)
  · have hle := B.le
    have hc := List.getElem?_eq_getElem (l := W) (i := i - 1) (by omega)
    generalize W[i - 1]'(by omega) = c at hc
    have h1 := B.up0 rfl (by omega) c hc _ hy
    have h1 : ps.length ≤ c.2.length + 1 := h1
    have key : ∀ m, m ≤ qs.length → ∃ w ∈ W, w.1 = wk T x0 (qs.take m) ∧ w.2.length ≤ m := by
      intro m
      induction m with
      | zero => exact fun _ => ⟨_, List.mem_of_getElem? B.hd, rfl, Nat.le_refl _⟩
      | succ m ih =>
        intro hm
        obtain ⟨w, hw, e1, e2⟩ := ih (by omega)
        obtain ⟨j, hj⟩ := List.getElem?_of_mem hw
        have hji : j < i := by
          refine Nat.lt_of_not_le fun z => ?_
          have := B.sorted (show i - 1 ≤ j by omega) hc hj
          omega
        have hqm := List.getElem?_eq_getElem (l := qs) (i := m) (by omega)
        generalize qs[m]'(by omega) = q at hqm
        have hqr := hq q (List.mem_of_getElem? hqm)
        obtain ⟨w', hw', e3, e4⟩ := B.nb j q.toNat w (by omega) hj
        refine ⟨w', hw', ?_, by omega⟩
        rw [List.take_add_one, hqm, Option.toList_some, wk_snoc _ x0, e3, e1]
    obtain ⟨w, hw, e1, e2⟩ := key qs.length (Nat.le_refl _)
    rw [List.take_length, e] at e1
    rw [uniq w hw e1] at e2
    omega
end
/-! ### choices told as lists -/
end Gf

/-! ## Gf40: from any choice that leaves one round some turns lead nearer to any other one -/
namespace Gf
open PySem Ty
theorem turns_sym {a b c d : Nat} (h1 : a < b) (h2 : c < d) (h3 : a ≠ c) (h4 : a ≠ d) (h5 : b ≠ c) (h6 : b ≠ d) : (decide (a < c ∧ c < b) != decide (a < d ∧ d < b)) = (decide (c < a ∧ a < d) != decide (c < b ∧ b < d)) := by
  rcases Nat.lt_or_gt_of_ne h3 with x | x <;> rcases Nat.lt_or_gt_of_ne h4 with y | y <;> rcases Nat.lt_or_gt_of_ne h5 with z | z <;> rcases Nat.lt_or_gt_of_ne h6 with w | w <;> first | omega | (simp [x, y, z, w, Nat.lt_asymm x, Nat.lt_asymm y, Nat.lt_asymm z, Nat.lt_asymm w]; done) | (simp [x, y, z, w]; omega)
/-- another way at a place -/
def upw (c : Nat → Int) (q w : Int) : Nat → Int := fun k => if (k : Int) = q then w else c k
section
variable {n : Nat} {f c I O : Nat → Int} {A B : Nat → Nat} (C : CW n f c I O A B) (hn : Net (4 * n) f)
include C
theorem crw_sym {q p : Nat} (hq : q < n) (hp : p < n) (hqp : q ≠ p) : crw A B q p = crw A B p q := by
  obtain ⟨a1, a2, a3, a4⟩ := C.hA q hq
  obtain ⟨b1, b2, b3, b4⟩ := C.hA p hp
  have ne : ∀ {x y : Nat}, I x / 4 = (q : Int) → I y / 4 = (p : Int) → x ≠ y := fun hx hy z => by
    rw [z] at hx; omega
  exact turns_sym a1 b1 (ne a3 b3) (ne a3 b4) (ne a4 b3) (ne a4 b4)
theorem tpw_0 {q : Nat} (hq : q < n) : tpw I O A B c q = 0 := by
  obtain ⟨a1, a2, -⟩ := C.hA q hq
  unfold tpw
  rw [C.hp (A q) (by omega), if_pos rfl]
/-- the joins at a place rest on the way there -/
theorem tpw_at {d e : Nat → Int} {q : Nat} (hq : q < n) (h : d q = e q) : tpw I O A B d q = tpw I O A B e q := by
  obtain ⟨a1, a2, a3, a4⟩ := C.hA q hq
  have : par d (I (A q)) = par e (I (A q)) := by
    unfold par
    rw [a3, Int.toNat_natCast, h]
  unfold tpw
  rw [this]
theorem tpw_inj {d e : Nat → Int} {q : Nat} (hq : q < n) (hd : 0 ≤ d q ∧ d q < 3) (he : 0 ≤ e q ∧ e q < 3) (h : tpw I O A B d q = tpw I O A B e q) : d q = e q := by
  obtain ⟨a1, a2, a3, a4⟩ := C.hA q hq
  have r := C.rI (A q) (by omega)
  have hp : par d (I (A q)) = par e (I (A q)) := by
    rcases C.joins hq d with ⟨t, x, -⟩ | ⟨t, x, -⟩ | ⟨t, x, -⟩ <;> rcases C.joins hq e with ⟨u, y, -⟩ | ⟨u, y, -⟩ | ⟨u, y, -⟩ <;> first | (rw [x, y]; done) | (rw [t, u] at h; exact absurd h (by decide))
  unfold par at hp
  rw [a3, Int.toNat_natCast] at hp
  have hj : jn (d q) (I (A q) % 4) = jn (e q) (I (A q) % 4) := by omega
  have hs : I (A q) % 4 = 0 ∨ I (A q) % 4 = 1 ∨ I (A q) % 4 = 2 ∨ I (A q) % 4 = 3 := by omega
  have h1 : d q = 0 ∨ d q = 1 ∨ d q = 2 := by omega
  have h2 : e q = 0 ∨ e q = 1 ∨ e q = 2 := by omega
  rcases h1 with h1 | h1 | h1 <;> rcases h2 with h2 | h2 | h2 <;> first | (rw [h1, h2]; done) | (exfalso; rw [h1, h2] at hj; rcases hs with s | s | s | s <;> rw [s] at hj <;> revert hj <;> decide)
include hn
/-- one round is left just where nothing but nought is held against the crossings -/
theorem oneK (hf2 : ∀ i, i < 4 * n → f i ≠ i) (d : Nat → Int) : OneR (4 * n) (par d) (fJ f) ↔ ∀ x : Nat → Bool, Ker n (amw I O A B d) (suw I O A B d) x → ∀ k, k < n → x k = false := by
  have h1 := C.n1
  have r0 := C.rI 0 (by omega)
  constructor
  · intro ho x hx k hk
    obtain ⟨z1, z2, z3⟩ := C.ofK hn hx
    have := ho (fun e => zOf n I O x e = false) (fun e e0 e1 h => by
      obtain ⟨a, b⟩ := z1 e e0 e1
      exact ⟨a.trans h, b.trans h⟩) ⟨I 0, r0.1, r0.2, z2⟩
    obtain ⟨a1, a2, -⟩ := C.hA k hk
    have rA := C.rI (A k) (by omega)
    have sA := C.rO (A k) (by omega)
    rw [← z3 k hk, this _ rA.1 rA.2, this _ sA.1 sA.2]; rfl
  · intro h W hW ⟨e0, b0, b1, hw0⟩
    have hclo : ∀ e : Int, 0 ≤ e → e < ((4 * n : Nat) : Int) → (W (par d e) ↔ W e) ∧ (W (fJ f e) ↔ W e) := fun e e0 e1 => by
      have p := par_in (c := d) e0 e1
      have q := net_hJ hn hf2 e e0 e1
      refine ⟨⟨fun z => ?_, fun z => (hW e e0 e1 z).1⟩, ⟨fun z => ?_, fun z => (hW e e0 e1 z).2⟩⟩
      · have := (hW _ p.1 p.2 z).1
        rwa [par_par e0] at this
      · have := (hW _ q.1 q.2.1 z).2
        rwa [q.2.2.1] at this
    classical
    have key : ∀ Z : Int → Bool, Clo n f d Z → Z (I 0) = false → ∀ e : Int, 0 ≤ e → e < ((4 * n : Nat) : Int) → Z e = false := fun Z hZ h0 => C.none hZ h0 (h _ (C.toK hZ))
    by_cases hI : W (I 0)
    · have := key (fun e => !decide (W e)) (fun e e0 e1 => by
        obtain ⟨a, b⟩ := hclo e e0 e1
        exact ⟨by show (!decide (W (par d e))) = !decide (W e); rw [decide_eq_decide.mpr a], by show (!decide (W (fJ f e))) = !decide (W e); rw [decide_eq_decide.mpr b]⟩) (by show (!decide (W (I 0))) = false; rw [decide_eq_true hI]; rfl)
      intro e e0 e1
      have := this e e0 e1
      simpa using this
    · have := key (fun e => decide (W e)) (fun e e0 e1 => by
        obtain ⟨a, b⟩ := hclo e e0 e1
        exact ⟨decide_eq_decide.mpr a, decide_eq_decide.mpr b⟩) (decide_eq_false hI) e0 b0 b1
      exact absurd hw0 (of_decide_eq_false this)
theorem one_single (hf2 : ∀ i, i < 4 * n → f i ≠ i) {d : Nat → Int} {q : Nat} (hq : q < n) (hoff : ∀ k, k ≠ q → d k = c k) (h : tpw I O A B d q = 1) : OneR (4 * n) (par d) (fJ f) := by
  refine (oneK C hn hf2 d).mpr fun x hx k hk => ?_
  have hz : ∀ j, j < n → j ≠ q → x j = false := fun j hj hne => hx.1 j hj (by
    unfold suw
    rw [tpw_at C hj (hoff j hne), tpw_0 C hj]; rfl)
  by_cases e : k = q
  · subst e
    have := hx.2 k hk (by unfold suw; rw [h]; rfl)
    rw [qx_one hk fun j hj hne => by rw [hz j hj hne, Bool.and_false]] at this
    unfold amw at this
    rw [if_pos rfl, h] at this
    simpa using this
  · exact hz k hk e
theorem one_two (hf2 : ∀ i, i < 4 * n → f i ≠ i) {d : Nat → Int} {q p : Nat} (hq : q < n) (hp : p < n) (hqp : q ≠ p) (hoff : ∀ k, k ≠ q → k ≠ p → d k = c k) (hcr : crw A B q p = true) (tq : tpw I O A B d q ≠ 0) (tp : tpw I O A B d p ≠ 0) (h : tpw I O A B d q ≠ 1 ∨ tpw I O A B d p ≠ 1) : OneR (4 * n) (par d) (fJ f) := by
  have hcr' : crw A B p q = true := by rw [← crw_sym C hq hp hqp]; exact hcr
  refine (oneK C hn hf2 d).mpr fun x hx k hk => ?_
  have hz : ∀ j, j < n → j ≠ q → j ≠ p → x j = false := fun j hj h1 h2 => hx.1 j hj (by
    unfold suw
    rw [tpw_at C hj (hoff j h1 h2), tpw_0 C hj]; rfl)
  have r1 := hx.2 q hq (by unfold suw; exact decide_eq_true tq)
  have r2 := hx.2 p hp (by unfold suw; exact decide_eq_true tp)
  rw [qx_two hq hp hqp fun j hj h1 h2 => by rw [hz j hj h1 h2, Bool.and_false]] at r1 r2
  unfold amw at r1 r2
  rw [if_pos rfl, if_neg hqp, hcr] at r1
  rw [if_pos rfl, if_neg (Ne.symm hqp), hcr'] at r2
  have both : x q = false ∧ x p = false := by
    rcases h with h | h
    · rw [decide_eq_false h] at r1
      have : x p = false := by simpa using r1
      rw [this] at r2
      exact ⟨by simpa using r2, this⟩
    · rw [decide_eq_false h] at r2
      have : x q = false := by simpa using r2
      rw [this] at r1
      exact ⟨this, by simpa using r1⟩
  by_cases e : k = q
  · rw [e]; exact both.1
  · by_cases e2 : k = p
    · rw [e2]; exact both.2
    · exact hz k hk e e2
end
/-- a turn, or three, nearer -/
theorem nearer {n : Nat} {f c c' : Nat → Int} (hn1 : 1 ≤ n) (hn : Net (4 * n) f) (hf2 : ∀ i, i < 4 * n → f i ≠ i) (hc : ∀ i, i < n → 0 ≤ c i ∧ c i < 3) (hc' : ∀ i, i < n → 0 ≤ c' i ∧ c' i < 3) (ho : OneR (4 * n) (par c) (fJ f)) (ho' : OneR (4 * n) (par c') (fJ f)) {k : Nat} (hk : k < n) (hne : c k ≠ c' k) :
    (∃ q, q < n ∧ c q ≠ c' q ∧ OneR (4 * n) (par (upw c q (c' q))) (fJ f)) ∨
    ∃ q p w, q < n ∧ p < n ∧ q ≠ p ∧ c q ≠ c' q ∧ c p ≠ c' p ∧ 0 ≤ w ∧ w < 3 ∧ w ≠ c q ∧ w ≠ c' q ∧ OneR (4 * n) (par (upw c q w)) (fJ f) ∧ OneR (4 * n) (par (upw (upw c q w) p (c' p))) (fJ f) ∧ OneR (4 * n) (par (upw (upw (upw c q w) p (c' p)) q (c' q))) (fJ f) := by
  obtain ⟨A, B, C⟩ := cw_one hn1 hn hf2 ho
  generalize hI : (fun k => orb (sJ f c) 0 k) = I at C
  generalize hO : (fun k => par c (orb (sJ f c) 0 k)) = O at C
  have t0 : ∀ q, q < n → (tpw I O A B c' q = 0 ↔ c' q = c q) := fun q hq => ⟨fun h => tpw_inj C hq (hc' q hq) (hc q hq) (by rw [h, tpw_0 C hq]), fun h => by rw [tpw_at C hq h, tpw_0 C hq]⟩
  have hat : ∀ (c : Nat → Int) (q : Nat) (w : Int), upw c q w q = w := fun c q w => if_pos rfl
  have hof : ∀ (c : Nat → Int) (q : Nat) (w : Int) (k : Nat), k ≠ q → upw c q w k = c k := fun c q w k h => if_neg (by omega)
  by_cases h1 : ∃ q, q < n ∧ tpw I O A B c' q = 1
  · obtain ⟨q, hq, h⟩ := h1
    refine .inl ⟨q, hq, fun e => ?_, one_single C hn hf2 hq (fun k hk => hof _ _ _ _ hk) ?_⟩
    · rw [(t0 q hq).mpr e.symm] at h; cases h
    · rw [tpw_at (d := upw c q (c' q)) (e := c') C hq (hat _ _ _)]; exact h
  · right
    have ht : tpw I O A B c' k ≠ 0 := fun z => hne ((t0 k hk).mp z).symm
    have hcr : ∃ p, p < n ∧ tpw I O A B c' p ≠ 0 ∧ p ≠ k ∧ crw A B k p = true := by
      refine Decidable.byContradiction fun hno => ?_
      have hx : Ker n (amw I O A B c') (suw I O A B c') fun j => decide (j = k) := by
        refine ⟨fun j hj hs => decide_eq_false fun e => ?_, fun i hi hs => ?_⟩
        · rw [e] at hs
          unfold suw at hs
          exact ht (by simpa using hs)
        · rw [qx_one hk fun j hj hne => by show (amw I O A B c' i j && decide (j = k)) = false; rw [decide_eq_false hne, Bool.and_false]]
          show (amw I O A B c' i k && decide (k = k)) = false
          rw [decide_eq_true rfl, Bool.and_true]
          unfold amw
          by_cases e : i = k
          · rw [if_pos e]
            exact decide_eq_false fun z => h1 ⟨i, hi, z⟩
          · rw [if_neg e, crw_sym C hi hk e]
            unfold suw at hs
            have hti : tpw I O A B c' i ≠ 0 := of_decide_eq_true hs
            cases hb : crw A B k i with
            | false => rfl
            | true => exact absurd ⟨i, hi, hti, e, hb⟩ hno
      have := (oneK C hn hf2 c').mp ho' _ hx k hk
      simp at this
    obtain ⟨p, hp, tp, hpk, hc2⟩ := hcr
    obtain ⟨a1, a2, a3, a4⟩ := C.hA k hk
    obtain ⟨d1, d2, d3, d4, d5, d6⟩ := C.dis hk
    obtain ⟨w, w0, w1, hw⟩ := way_of (q := (k : Int)) (a := I (A k)) (b := I (B k)) a3 a4 (by omega) d2 c
    have tw : tpw I O A B (upw c k w) k = 1 := by
      unfold tpw
      have hw : par (upw c k w) (I (A k)) = I (B k) := hw
      rw [hw, if_neg (fun z => d4 z.symm), if_pos rfl]
    have wc : w ≠ c k := fun e => by
      have : tpw I O A B (upw c k w) k = tpw I O A B c k := tpw_at C hk (by rw [hat]; exact e)
      rw [tw, tpw_0 C hk] at this; cases this
    have wc' : w ≠ c' k := fun e => by
      have : tpw I O A B (upw c k w) k = tpw I O A B c' k := tpw_at C hk (by rw [hat]; exact e)
      rw [tw] at this
      exact h1 ⟨k, hk, this.symm⟩
    have hkp : k ≠ p := fun e => hpk e.symm
    have cp : c p ≠ c' p := fun e => tp ((t0 p hp).mpr e.symm)
    have tp2 : ∀ d : Nat → Int, d p = c' p → tpw I O A B d p ≠ 0 ∧ tpw I O A B d p ≠ 1 := fun d hd => by
      rw [tpw_at C hp hd]
      exact ⟨tp, fun z => h1 ⟨p, hp, z⟩⟩
    refine ⟨k, p, w, hk, hp, hkp, hne, cp, w0, w1, wc, wc', one_single C hn hf2 hk (fun j hj => hof _ _ _ _ hj) tw, ?_, ?_⟩
    · refine one_two C hn hf2 hk hp hkp (fun j j1 j2 => by rw [hof _ _ _ _ j2, hof _ _ _ _ j1]) hc2 ?_ (tp2 _ (hat _ _ _)).1 (.inr (tp2 _ (hat _ _ _)).2)
      rw [tpw_at (e := upw c k w) C hk (hof _ _ _ _ hkp), tw]; decide
    · have hpp : upw (upw (upw c k w) p (c' p)) k (c' k) p = c' p := by rw [hof _ _ _ _ hpk, hat]
      refine one_two C hn hf2 hk hp hkp (fun j j1 j2 => by rw [hof _ _ _ _ j1, hof _ _ _ _ j2, hof _ _ _ _ j1]) hc2 ?_ (tp2 _ hpp).1 (.inr (tp2 _ hpp).2)
      rw [tpw_at (e := c') C hk (hat _ _ _)]; exact ht
end Gf

/-! ## Gf41: rounds found from starts in any order -/
namespace Gf
open PySem Ty
theorem flat_disj {R R' : List Int} {x : Int} (h1 : x ∈ R) (h2 : x ∈ R') : ∀ (W : List (List Int)), W.flatten.Nodup → R ∈ W → R' ∈ W → R = R'
  | [], _, h, _ => by cases h
  | A :: W, nd, a, b => by
    rw [List.flatten_cons, List.nodup_append] at nd
    have key : ∀ {B : List Int}, B ∈ W → x ∈ A → x ∈ B → False := fun hB h1 h2 => nd.2.2 x h1 x (List.mem_flatten.mpr ⟨_, hB, h2⟩) rfl
    rcases List.mem_cons.mp a with ea | ea
    · rcases List.mem_cons.mp b with eb | eb
      · rw [ea, eb]
      · exact (key eb (by rw [← ea]; exact h1) h2).elim
    · rcases List.mem_cons.mp b with eb | eb
      · exact (key ea (by rw [← eb]; exact h2) h1).elim
      · exact flat_disj h1 h2 W nd.2.1 ea eb
structure Rdl (s p : Int → Int) (S : List Int) (m : Nat) (V : List (List Int)) : Prop where
  rd : ∀ R ∈ V, ∃ e, 0 ≤ e ∧ e < (m : Int) ∧ Rd s p e R
  nd : V.flatten.Nodup
  all : ∀ x ∈ S, x ∈ V.flatten
theorem Rdl.zero {s p : Int → Int} {m : Nat} : Rdl s p [] m [] := ⟨by simp, by simp, fun x h => by cases h⟩
theorem Rdl.old {s p : Int → Int} {S : List Int} {m : Nat} {V : List (List Int)} {e : Int} (h : Rdl s p S m V) (he : e ∈ V.flatten) : Rdl s p (S ++ [e]) m V := ⟨h.rd, h.nd, fun x hx => by
  rcases List.mem_append.mp hx with hx | hx
  · exact h.all x hx
  · rw [List.mem_singleton.mp hx]; exact he⟩
theorem Rds.rdl {s p : Int → Int} {m : Nat} {W : List (List Int)} (h : Rds s p m W) : Rdl s p (row m fun k => (k : Int)) m W := ⟨fun R hR => by
  obtain ⟨e, a, b, c, _⟩ := h.rd R hR
  exact ⟨e, a, b, c⟩, h.nd, fun x hx => by
  obtain ⟨k, hk, rfl⟩ := List.mem_map.mp (show x ∈ (List.range m).map fun k : Nat => (k : Int) from hx)
  exact h.all _ (by omega) (by have := List.mem_range.mp hk; omega)⟩
section
variable {s p f : Int → Int} {m : Nat} (hs : ∀ x, s x = f (p x)) (hpi : ∀ x : Int, 0 ≤ x → x < m → 0 ≤ p x ∧ p x < m ∧ p (p x) = x ∧ p x ≠ x) (hfi : ∀ x : Int, 0 ≤ x → x < m → 0 ≤ f x ∧ f x < m ∧ f (f x) = x ∧ f x ≠ x)
include hs hpi hfi
theorem Rdl.rng {S : List Int} {V : List (List Int)} (h : Rdl s p S m V) : ∀ x ∈ V.flatten, 0 ≤ x ∧ x < (m : Int) := fun x hx => by
  obtain ⟨R, hR, hx⟩ := List.mem_flatten.mp hx
  obtain ⟨e, a, b, c⟩ := h.rd R hR
  exact Rd.rng hs hpi hfi a b c x hx
theorem Rdl.new {S : List Int} {V : List (List Int)} {e : Int} {R : List Int} (h0 : 0 ≤ e) (h1 : e < m) (h : Rdl s p S m V) (hn : e ∉ V.flatten) (hR : Rd s p e R) : Rdl s p (S ++ [e]) m (V ++ [R]) := by
  have hd : ∀ x ∈ R, x ∉ V.flatten := by
    intro x hx hw
    obtain ⟨k, k1, rfl, k2, k3⟩ := hR
    obtain ⟨R', hR', hx'⟩ := List.mem_flatten.mp hw
    obtain ⟨e', a, b, ⟨k', k1', rfl, k2', k3'⟩⟩ := h.rd _ hR'
    refine hn (List.mem_flatten.mpr ⟨_, hR', ?_⟩)
    exact wl_back' hs hpi hfi h0 h1 (Z := fun x => x ∈ wl s p e' k') (fun y _ _ hy => (wl_closed hs hpi hfi a b k1' k2' hy).2.2) hx hx'
  have he : e ∈ R := hR.hd.2
  refine ⟨fun R' hR' => ?_, ?_, fun x hx => ?_⟩
  · rcases List.mem_append.mp hR' with z | z
    · exact h.rd R' z
    · rw [List.mem_singleton.mp z]; exact ⟨e, h0, h1, hR⟩
  · rw [List.flatten_append, List.flatten_cons, List.flatten_nil, List.append_nil]
    exact List.nodup_append.mpr ⟨h.nd, Rd.nd hs hpi hfi h0 h1 hR, fun a ha b hb e => hd b hb (e ▸ ha)⟩
  · rw [List.flatten_append, List.flatten_cons, List.flatten_nil, List.append_nil]
    rcases List.mem_append.mp hx with hx | hx
    · exact List.mem_append_left _ (h.all x hx)
    · rw [List.mem_singleton.mp hx]; exact List.mem_append_right _ he
open Classical in
theorem Rdl.le {S T : List Int} {V W : List (List Int)} (hV : Rdl s p S m V) (hW : Rdl s p T m W) (hT : ∀ x, 0 ≤ x → x < (m : Int) → x ∈ T) : V.length ≤ W.length := by
  refine Nat.le_of_not_lt fun hl => ?_
  have ex : ∀ R ∈ V, ∃ R', R' ∈ W ∧ hd R ∈ R' := fun R hR => by
    obtain ⟨e, a, b, c⟩ := hV.rd R hR
    rw [c.hd.1]
    obtain ⟨R', h1, h2⟩ := List.mem_flatten.mp (hW.all e (hT e a b))
    exact ⟨R', h1, h2⟩
  let k : List Int → Int := fun R => if h : ∃ R', R' ∈ W ∧ hd R ∈ R' then hd (Classical.choose h) else 0
  have hk : ∀ R ∈ V, ∃ R', R' ∈ W ∧ hd R ∈ R' ∧ k R = hd R' := fun R hR => by
    have h := ex R hR
    refine ⟨Classical.choose h, (Classical.choose_spec h).1, (Classical.choose_spec h).2, ?_⟩
    show (if h : ∃ R', R' ∈ W ∧ hd R ∈ R' then hd (Classical.choose h) else 0) = _
    rw [dif_pos h]
  obtain ⟨pre, R1, mid, R2, post, eV, ek⟩ := two_alike (k := k) (l := V) (m := W.map hd) (fun R hR => by
    obtain ⟨R', h1, _, h2⟩ := hk R hR
    rw [h2]; exact List.mem_map.mpr ⟨R', h1, rfl⟩) (by rw [List.length_map]; exact hl)
  have m1 : R1 ∈ V := by rw [eV]; simp
  have m2 : R2 ∈ V := by rw [eV]; simp
  obtain ⟨A, a1, a2, a3⟩ := hk R1 m1
  obtain ⟨B, b1, b2, b3⟩ := hk R2 m2
  obtain ⟨eA, _, _, cA⟩ := hW.rd A a1
  obtain ⟨eB, _, _, cB⟩ := hW.rd B b1
  have hAB : A = B := flat_disj (x := hd A) (by rw [cA.hd.1]; exact cA.hd.2) (by rw [← a3, ek, b3, cB.hd.1]; exact cB.hd.2) W hW.nd a1 b1
  subst hAB
  obtain ⟨e1, p1, p2, ⟨k1, q1, rfl, q2, q3⟩⟩ := hV.rd R1 m1
  obtain ⟨e2, r1, r2, c2⟩ := hV.rd R2 m2
  obtain ⟨e3, t1, t2, ⟨k3, u1, rfl, u2, u3⟩⟩ := hW.rd A a1
  have hZ : ∀ x : Int, 0 ≤ x → x < (m : Int) → x ∈ wl s p e1 k1 → p x ∈ wl s p e1 k1 ∧ f x ∈ wl s p e1 k1 := fun y _ _ hy => (wl_closed hs hpi hfi p1 p2 q1 q2 hy).2.2
  have hin : hd (wl s p e1 k1) ∈ wl s p e1 k1 := by
    have c1 : Rd s p e1 (wl s p e1 k1) := ⟨k1, q1, rfl, q2, q3⟩
    rw [c1.hd.1]; exact c1.hd.2
  have hb := wl_back' hs hpi hfi t1 t2 (Z := fun x => x ∈ wl s p e1 k1) hZ a2 hin
  have hall := wl_fwd hs hpi hfi t1 t2 (Z := fun x => x ∈ wl s p e1 k1) hZ hb k3 _ b2
  have hin2 : hd R2 ∈ R2 := by rw [c2.hd.1]; exact c2.hd.2
  have nd := hV.nd
  rw [eV, List.flatten_append, List.flatten_cons, List.flatten_append, List.flatten_cons] at nd
  have nd2 := (List.nodup_append.mp nd).2.1
  exact (List.nodup_append.mp nd2).2.2 _ hall _ (List.mem_append_right _ (List.mem_append_left _ hin2)) rfl
theorem Rdl.count {S : List Int} {V W : List (List Int)} (hV : Rdl s p S m V) (hS : ∀ x, 0 ≤ x → x < (m : Int) → x ∈ S) (hW : Rds s p m W) : V.length = W.length :=
  Nat.le_antisymm (hV.le hs hpi hfi hW.rdl fun x a b => List.mem_map.mpr ⟨x.toNat, List.mem_range.mpr (by omega), by omega⟩) (hW.rdl.le hs hpi hfi hV hS)
end
end Gf

/-! ## Gf42: words that have a web; letters put in and left out -/
namespace Gf
open PySem Ty
theorem two_mid {A B C : List Nat} {c : Nat} (hA : c ∉ A) (hB : c ∉ B) (hC : c ∉ C) : Two (A ++ c :: (B ++ c :: C)) c A.length (A.length + 1 + B.length) where
  lt := by omega
  hi := by rw [List.getElem?_append_right (Nat.le_refl _), Nat.sub_self]; rfl
  hj := by
    rw [List.getElem?_append_right (by omega), show A.length + 1 + B.length - A.length = B.length + 1 by omega, List.getElem?_cons_succ, List.getElem?_append_right (Nat.le_refl _), Nat.sub_self]; rfl
  only k hk := by
    by_cases h1 : k < A.length
    · rw [List.getElem?_append_left h1] at hk
      exact absurd (List.mem_of_getElem? hk) hA
    · rw [List.getElem?_append_right (by omega)] at hk
      obtain ⟨r, rfl⟩ : ∃ r, k = A.length + r := ⟨k - A.length, by omega⟩
      rw [Nat.add_sub_cancel_left] at hk
      cases r with
      | zero => exact .inl (by omega)
      | succ r =>
        rw [List.getElem?_cons_succ] at hk
        by_cases h2 : r < B.length
        · rw [List.getElem?_append_left h2] at hk
          exact absurd (List.mem_of_getElem? hk) hB
        · rw [List.getElem?_append_right (by omega)] at hk
          obtain ⟨t, rfl⟩ : ∃ t, r = B.length + t := ⟨r - B.length, by omega⟩
          rw [Nat.add_sub_cancel_left] at hk
          cases t with
          | zero => exact .inr (by omega)
          | succ t =>
            rw [List.getElem?_cons_succ] at hk
            exact absurd (List.mem_of_getElem? hk) hC
theorem btw_mid {A B C : List Nat} {c : Nat} : btw (A ++ c :: (B ++ c :: C)) A.length (A.length + 1 + B.length) = B := by
  unfold btw
  rw [List.drop_append, List.drop_of_length_le (by omega), List.nil_append, show A.length + 1 - A.length = 1 by omega, List.drop_succ_cons, List.drop_zero, show A.length + 1 + B.length - (A.length + 1) = B.length by omega, List.take_left]
theorem crB_mid {A B C : List Nat} {c d n : Nat} (R : Ring (A ++ c :: (B ++ c :: C)) n) (hA : c ∉ A) (hB : c ∉ B) (hC : c ∉ C) (hd : d ∈ A ++ c :: (B ++ c :: C)) : crB (A ++ c :: (B ++ c :: C)) c d = decide (B.count d = 1) := by
  rw [← btw_cr R (by simp) hd, (two_mid hA hB hC).pl]
  simp only []
  rw [btw_mid]
  exact decide_eq_decide.mpr (by omega)
/-- a word cut at the two places of a letter -/
theorem cut_two {l : List Nat} {c : Nat} (h : l.count c = 2) : ∃ A B C, l = A ++ c :: (B ++ c :: C) ∧ c ∉ A ∧ c ∉ B ∧ c ∉ C := by
  have hm : c ∈ l := List.count_pos_iff.mp (by omega)
  obtain ⟨A, l', e, hA⟩ := List.eq_append_cons_of_mem hm
  rw [e, List.count_append, List.count_cons_self, List.count_eq_zero.mpr hA] at h
  have hm2 : c ∈ l' := List.count_pos_iff.mp (by omega)
  obtain ⟨B, C, e2, hB⟩ := List.eq_append_cons_of_mem hm2
  rw [e2, List.count_append, List.count_cons_self, List.count_eq_zero.mpr hB] at h
  exact ⟨A, B, C, by rw [e, e2], hA, hB, List.count_eq_zero.mp (by omega)⟩
theorem crB_filter {u : List Nat} {n m c d : Nat} {S : Nat → Bool} (R : Ring u n) (R2 : Ring (u.filter S) m) (hc : c ∈ u) (hd : d ∈ u) (sc : S c = true) (sd : S d = true) : crB (u.filter S) c d = crB u c d := by
  obtain ⟨A, B, C, rfl, hA, hB, hC⟩ := cut_two (R.two c hc)
  have e : (A ++ c :: (B ++ c :: C)).filter S = A.filter S ++ c :: (B.filter S ++ c :: C.filter S) := by
    rw [List.filter_append, List.filter_cons_of_pos sc, List.filter_append, List.filter_cons_of_pos sc]
  have hd2 : d ∈ (A ++ c :: (B ++ c :: C)).filter S := List.mem_filter.mpr ⟨hd, sd⟩
  rw [e] at R2 hd2 ⊢
  rw [crB_mid R hA hB hC hd, crB_mid R2 (fun z => hA (List.mem_filter.mp z).1) (fun z => hB (List.mem_filter.mp z).1) (fun z => hC (List.mem_filter.mp z).1) hd2, List.count_filter sd]
/-- a word with each letter of P twice whose crossings are f -/
structure WF (f : Nat → Nat → Int) (P : List Nat) (w : List Nat) : Prop where
  cnt : ∀ c, w.count c = if c ∈ P.map (97 + ·) then 2 else 0
  web : ∀ p ∈ P, ∀ q ∈ P, p ≠ q → (crB w (97 + p) (97 + q) = true ↔ f p q = 1)
/-- places that a choice of letters may have -/
structure Pts (P : List Nat) : Prop where
  nd : P.Nodup
  few : P.length ≤ 10
  low : ∀ p ∈ P, p < 26
theorem mem97 {P : List Nat} {p : Nat} : 97 + p ∈ P.map (97 + ·) ↔ p ∈ P := by
  rw [List.mem_map]
  constructor
  · rintro ⟨a, h, e⟩
    have e : 97 + a = 97 + p := e
    rw [show p = a by omega]; exact h
  · intro h; exact ⟨p, h, rfl⟩
theorem WF.mem {f : Nat → Nat → Int} {P w : List Nat} (h : WF f P w) {c : Nat} : c ∈ w ↔ c ∈ P.map (97 + ·) := by
  rw [← List.count_pos_iff, h.cnt c]
  split <;> simp_all
theorem WF.mem' {f : Nat → Nat → Int} {P w : List Nat} (h : WF f P w) {p : Nat} : 97 + p ∈ w ↔ p ∈ P := by rw [h.mem, mem97]
theorem ring_cnt {P w : List Nat} (h : ∀ c, w.count c = if c ∈ P.map (97 + ·) then 2 else 0) (hp : Pts P) (hne : P ≠ []) : Ring w P.length := by
  have hnd : (P.map (97 + ·)).Nodup := by
    rw [List.nodup_iff_pairwise_ne, List.pairwise_map]
    exact (List.nodup_iff_pairwise_ne.mp hp.nd).imp fun h e => h (by omega)
  have hpm : w.Perm (dbl (P.map (97 + ·))) := by
    refine List.perm_iff_count.mpr fun c => ?_
    rw [h c]
    split
    · rename_i z; rw [count_dbl hnd z]
    · rename_i z; rw [List.count_eq_zero.mpr fun y => z (mem_dbl.mp y)]
  have := Ring.of_perm hpm hnd (by rw [List.length_map]; exact List.length_pos_iff.mpr hne) (by rw [List.length_map]; exact hp.few) fun c hc => by
    obtain ⟨p, hp', rfl⟩ := List.mem_map.mp hc
    have := hp.low p hp'
    omega
  rwa [List.length_map] at this
theorem WF.ring {f : Nat → Nat → Int} {P w : List Nat} (h : WF f P w) (hp : Pts P) (hne : P ≠ []) : Ring w P.length := ring_cnt h.cnt hp hne
theorem WF.len {f : Nat → Nat → Int} {P w : List Nat} (h : WF f P w) (hp : Pts P) : w.length = 2 * P.length := by
  by_cases hne : P = []
  · subst hne
    have : w = [] := List.eq_nil_iff_forall_not_mem.mpr fun c hc => by simpa using h.mem.mp hc
    rw [this]; rfl
  · exact (h.ring hp hne).len
theorem WF.congr {f : Nat → Nat → Int} {P Q w : List Nat} (h : WF f P w) (e : ∀ p, p ∈ P ↔ p ∈ Q) : WF f Q w where
  cnt c := by
    rw [h.cnt c]
    have : c ∈ P.map (97 + ·) ↔ c ∈ Q.map (97 + ·) := by simp only [List.mem_map, e]
    simp only [this]
  web p hp q hq := h.web p ((e p).mpr hp) q ((e q).mpr hq)
/-- the letters of fewer points -/
theorem WF.sub {f : Nat → Nat → Int} {P Q w : List Nat} (h : WF f P w) (hp : Pts P) (hQ : ∀ q ∈ Q, q ∈ P) (hq : Pts Q) : WF f Q (w.filter fun c => decide (c ∈ Q.map (97 + ·))) := by
  have hc : ∀ c, (w.filter fun c => decide (c ∈ Q.map (97 + ·))).count c = if c ∈ Q.map (97 + ·) then 2 else 0 := fun c => by
    split
    · rename_i z
      rw [List.count_filter (by simpa using z), h.cnt c, if_pos]
      obtain ⟨q, hq', rfl⟩ := List.mem_map.mp z
      exact mem97.mpr (hQ q hq')
    · rename_i z
      rw [List.count_eq_zero]
      intro y
      exact z (by simpa using (List.mem_filter.mp y).2)
  refine ⟨hc, fun p hp' q hq' hne => ?_⟩
  have R := h.ring hp (List.ne_nil_of_mem (hQ p hp'))
  have R2 := ring_cnt hc hq (List.ne_nil_of_mem hp')
  rw [crB_filter R R2 (h.mem'.mpr (hQ p hp')) (h.mem'.mpr (hQ q hq')) (by simpa using hp') (by simpa using hq')]
  exact h.web p (hQ p hp') q (hQ q hq') hne
/-- a letter put in at two places -/
def ins (w : List Nat) (a b c : Nat) : List Nat := w.take a ++ c :: ((w.drop a).take (b - a) ++ c :: w.drop b)
theorem ins_perm {w : List Nat} {a b c : Nat} (hab : a ≤ b) : (ins w a b c).Perm (c :: c :: w) := by
  refine List.perm_iff_count.mpr fun d => ?_
  have e : w = w.take a ++ ((w.drop a).take (b - a) ++ w.drop b) := by
    conv => lhs; rw [← List.take_append_drop a w, ← List.take_append_drop (b - a) (w.drop a), List.drop_drop, show a + (b - a) = b by omega]
  have e2 := congrArg (List.count d) e
  rw [List.count_append, List.count_append] at e2
  unfold ins
  rw [List.count_append, List.count_cons, List.count_append, List.count_cons, List.count_cons, List.count_cons, e2]
  omega
theorem ins_filter {w : List Nat} {a b c : Nat} (hab : a ≤ b) (hc : c ∉ w) : (ins w a b c).filter (fun d => decide (d ≠ c)) = w := by
  have hk : ∀ l : List Nat, (∀ x ∈ l, x ∈ w) → l.filter (fun d => decide (d ≠ c)) = l := fun l hl => List.filter_eq_self.mpr fun x hx => by
    have : x ≠ c := fun e => hc (e ▸ hl x hx)
    simpa using this
  unfold ins
  rw [List.filter_append, List.filter_cons_of_neg (by simp), List.filter_append, List.filter_cons_of_neg (by simp), hk _ fun x hx => List.mem_of_mem_take hx, hk _ fun x hx => List.mem_of_mem_drop (List.mem_of_mem_take hx), hk _ fun x hx => List.mem_of_mem_drop hx]
  conv => rhs; rw [← List.take_append_drop a w, ← List.take_append_drop (b - a) (w.drop a), List.drop_drop, show a + (b - a) = b by omega]
theorem WF.ins {f : Nat → Nat → Int} {P w : List Nat} {p a b : Nat} (h : WF f P w) (hp : Pts (P ++ [p])) (hs : ∀ q ∈ P, f q p = f p q) (hab : a ≤ b) (ht : ∀ q ∈ P, ((w.drop a).take (b - a)).count (97 + q) = 1 ↔ f p q = 1) : WF f (P ++ [p]) (ins w a b (97 + p)) := by
  have hpP : p ∉ P := fun z => (List.nodup_append.mp hp.nd).2.2 p z p (List.mem_singleton.mpr rfl) rfl
  have hpw : 97 + p ∉ w := fun z => hpP (h.mem'.mp z)
  have hc : ∀ c, (Gf.ins w a b (97 + p)).count c = if c ∈ (P ++ [p]).map (97 + ·) then 2 else 0 := fun c => by
    rw [(ins_perm hab).count_eq, List.count_cons, List.count_cons, h.cnt c, List.map_append]
    by_cases z : c = 97 + p
    · subst z
      rw [if_neg (fun y => hpP (mem97.mp y))]
      simp
    · have z2 : (97 + p == c) = false := beq_eq_false_iff_ne.mpr fun y => z y.symm
      rw [z2]
      simp only [Bool.false_eq_true, if_false, Nat.add_zero]
      by_cases y : c ∈ P.map (97 + ·)
      · rw [if_pos y, if_pos (List.mem_append_left _ y)]
      · rw [if_neg y, if_neg fun x => (List.mem_append.mp x).elim y fun x => z (by simpa using x)]
  have R := ring_cnt hc hp (by simp)
  have mem2 : ∀ {q}, q ∈ P ++ [p] → 97 + q ∈ Gf.ins w a b (97 + p) := fun {q} hq => List.count_pos_iff.mp (by rw [hc, if_pos (mem97.mpr hq)]; omega)
  have hw : ∀ x, x ∈ w.take a ∨ x ∈ (w.drop a).take (b - a) ∨ x ∈ w.drop b → x ∈ w := fun x hx => by
    rcases hx with hx | hx | hx
    · exact List.mem_of_mem_take hx
    · exact List.mem_of_mem_drop (List.mem_of_mem_take hx)
    · exact List.mem_of_mem_drop hx
  have key : ∀ q ∈ P, (crB (Gf.ins w a b (97 + p)) (97 + p) (97 + q) = true ↔ f p q = 1) := fun q hq => by
    have e := crB_mid (d := 97 + q) (show Ring (w.take a ++ (97 + p) :: ((w.drop a).take (b - a) ++ (97 + p) :: w.drop b)) _ from R) (fun z => hpw (hw _ (.inl z))) (fun z => hpw (hw _ (.inr (.inl z)))) (fun z => hpw (hw _ (.inr (.inr z)))) (mem2 (List.mem_append_left _ hq))
    rw [show Gf.ins w a b (97 + p) = w.take a ++ (97 + p) :: ((w.drop a).take (b - a) ++ (97 + p) :: w.drop b) from rfl, e, decide_eq_true_iff]
    exact ht q hq
  refine ⟨hc, fun x hx y hy hne => ?_⟩
  rcases List.mem_append.mp hx with hx1 | hx1
  · rcases List.mem_append.mp hy with hy1 | hy1
    · have hne0 := List.ne_nil_of_mem hx1
      have hP : Pts P := ⟨(List.nodup_append.mp hp.nd).1, by have := hp.few; rw [List.length_append] at this; omega, fun q hq => hp.low q (List.mem_append_left _ hq)⟩
      have R1 := h.ring hP hne0
      have e := crB_filter (c := 97 + x) (d := 97 + y) (S := fun d => decide (d ≠ 97 + p)) R (by rw [ins_filter hab hpw]; exact R1) (mem2 hx) (mem2 hy) (by
        have : x ≠ p := fun e => hpP (e ▸ hx1)
        simp; omega) (by
        have : y ≠ p := fun e => hpP (e ▸ hy1)
        simp; omega)
      rw [ins_filter hab hpw] at e
      rw [← e]
      exact h.web x hx1 y hy1 hne
    · rw [List.mem_singleton.mp hy1] at hy ⊢
      rw [crB_symm R (mem2 hx) (mem2 hy), hs x hx1]
      exact key x hx1
  · rw [List.mem_singleton.mp hx1] at hne ⊢
    rcases List.mem_append.mp hy with hy1 | hy1
    · exact key y hy1
    · exact absurd (List.mem_singleton.mp hy1).symm hne
/-- the word may begin with any letter -/
theorem WF.from {f : Nat → Nat → Int} {P u : List Nat} {p : Nat} (h : WF f P u) (hp : Pts P) (hm : p ∈ P) : ∃ v, WF f P v ∧ v.head? = some (97 + p) := by
  have R := h.ring hp (List.ne_nil_of_mem hm)
  have hc := h.mem'.mpr hm
  obtain ⟨k, hk, e⟩ := List.getElem_of_mem hc
  refine ⟨rot k u, ⟨fun c => by rw [(rot_perm k u).count_eq]; exact h.cnt c, fun x hx y hy hne => ?_⟩, ?_⟩
  · rw [crB_rot R (h.mem'.mpr hx) (h.mem'.mpr hy) k (by omega)]
    exact h.web x hx y hy hne
  · unfold rot
    rw [List.drop_eq_getElem_cons hk, e]; rfl
/-- a web turned at a point -/
def trnf (v : Nat) (f : Nat → Nat → Int) : Nat → Nat → Int := fun i j => if f v i = 1 ∧ f v j = 1 ∧ i ≠ j then 1 - f i j else f i j
theorem WF.turn {f : Nat → Nat → Int} {P u : List Nat} {p : Nat} (h : WF f P u) (hp : Pts P) (hm : p ∈ P) (hf : ∀ i ∈ P, ∀ j ∈ P, f i j = 0 ∨ f i j = 1) (hd : ∀ i ∈ P, f i i = 0) : ∃ v, WF (trnf p f) P v := by
  have R := h.ring hp (List.ne_nil_of_mem hm)
  obtain ⟨i, j, ht⟩ := two_of_count (R.two _ (h.mem'.mpr hm))
  refine ⟨trnW u i j, fun c => by rw [(trnW_perm ht.lt ht.bj).count_eq]; exact h.cnt c, fun x hx y hy hne => ?_⟩
  have hx' := h.mem'.mpr hx
  have hy' := h.mem'.mpr hy
  have e1 := crB_trn R ht hx' hy' (show 97 + x ≠ 97 + y by omega)
  have w1 := h.web x hx y hy hne
  have w2 : crB u (97 + p) (97 + x) = true ↔ f p x = 1 := by
    by_cases z : p = x
    · subst z; rw [crB_self, hd p hm]; simp
    · exact h.web p hm x hx z
  have w3 : crB u (97 + p) (97 + y) = true ↔ f p y = 1 := by
    by_cases z : p = y
    · subst z; rw [crB_self, hd p hm]; simp
    · exact h.web p hm y hy z
  have f0 := hf x hx y hy
  rw [e1]
  unfold trnf
  cases hb1 : crB u (97 + x) (97 + y) <;> cases hb2 : crB u (97 + p) (97 + x) <;> cases hb3 : crB u (97 + p) (97 + y) <;> rw [hb1] at w1 <;> rw [hb2] at w2 <;> rw [hb3] at w3 <;> simp at w1 w2 w3 <;> simp [w1, w2, w3, hne] <;> omega
end Gf

/-! ## Gf43: webs of up to six points by codes: each has a word, or is one of the 132 that turn to the wheel -/
namespace Gf
open PySem Ty
/-- the bit of two points -/
def bt (g i j : Nat) : Bool := if i = j then false else if j < i then g.testBit (i * (i - 1) / 2 + j) else g.testBit (j * (j - 1) / 2 + i)
def fc (g i j : Nat) : Int := if bt g i j then 1 else 0
def Z : List Nat := [7915, 7916, 7922, 7925, 8027, 8028, 8049, 8054, 8090, 8093, 8105, 8110, 11755, 11756, 11762, 11765, 12111, 12118, 12133, 12156, 12174, 12183, 12195, 12218, 13787, 13788, 13809, 13814, 14031, 14038, 14053, 14076, 14221, 14227, 14247, 14265, 14810, 14813, 14825, 14830, 15054, 15063, 15075, 15098, 15181, 15187, 15207, 15225, 19835, 19836, 19898, 19901, 20079, 20086, 20142, 20151, 20269, 20275, 20460, 20466, 21755, 21756, 21945, 21950, 22111, 22133, 22174, 22195, 22301, 22327, 22492, 22513, 22778, 22781, 22905, 22910, 23134, 23149, 23199, 23211, 23323, 23343, 23514, 23529, 25839, 25846, 25951, 25973, 26014, 26029, 26279, 26302, 26391, 26429, 26582, 26597, 26862, 26871, 26974, 26995, 27039, 27051, 27239, 27262, 27407, 27451, 27598, 27619, 28909, 28915, 29021, 29047, 29083, 29103, 29271, 29309, 29327, 29371, 29645, 29651, 31980, 31986, 32092, 32113, 32154, 32169, 32342, 32357, 32398, 32419, 32525, 32531]
end Gf

/-! ## Gf44: the 132 webs turned: among themselves, each to one of them -/
namespace Gf
open PySem Ty
/-! ### turned twice -/
end Gf

/-! ## Gf45: the ways along a step, marked from starts in any order: twice as many as the rounds -/
namespace Gf
open PySem Ty
/-- on the same way -/
def Sm (s : Int → Int) (x y : Int) : Prop := ∃ i j, orb s x i = orb s y j
theorem orb_shf (s : Int → Int) (e : Int) (i : Nat) : ∀ j, orb s (orb s e i) j = orb s e (i + j)
  | 0 => rfl
  | j + 1 => by
    show s (orb s (orb s e i) j) = s (orb s e (i + j))
    rw [orb_shf s e i j]
theorem orb_front (s : Int → Int) (e : Int) (j : Nat) : orb s e (j + 1) = orb s (s e) j := by
  have := orb_shf s e 1 j
  rw [show 1 + j = j + 1 by omega] at this
  exact this.symm
theorem Sm.refl (s : Int → Int) (x : Int) : Sm s x x := ⟨0, 0, rfl⟩
theorem Sm.symm {s : Int → Int} {x y : Int} : Sm s x y → Sm s y x := fun ⟨i, j, h⟩ => ⟨j, i, h.symm⟩
theorem Sm.trans {s : Int → Int} {x y z : Int} : Sm s x y → Sm s y z → Sm s x z := fun ⟨i, j, h⟩ ⟨k, l, h'⟩ => ⟨i + k, l + j, by
  rw [← orb_shf, h, orb_shf, Nat.add_comm, ← orb_shf, h', orb_shf]⟩
open Classical in
theorem tv_le {r : Int → Int → Prop} (h3 : ∀ a b d, r a d → r b d → r a b) {C D : List Int} (hp : C.Pairwise fun x y => ¬ r x y) (hc : ∀ c ∈ C, ∃ d, d ∈ D ∧ r c d) : C.length ≤ D.length := by
  refine Nat.le_of_not_lt fun hl => ?_
  let k : Int → Int := fun c => if h : ∃ d, d ∈ D ∧ r c d then Classical.choose h else 0
  have hk : ∀ c ∈ C, k c ∈ D ∧ r c (k c) := fun c hcC => by
    have h := hc c hcC
    show (if h : ∃ d, d ∈ D ∧ r c d then Classical.choose h else 0) ∈ D ∧ r c (if h : ∃ d, d ∈ D ∧ r c d then Classical.choose h else 0)
    rw [dif_pos h]
    exact Classical.choose_spec h
  obtain ⟨pre, x, mid, y, post, e, ek⟩ := two_alike (k := k) (l := C) (m := D) (fun c hcC => (hk c hcC).1) hl
  have h1 := (hk x (by rw [e]; simp)).2
  have h2 := (hk y (by rw [e]; simp)).2
  rw [e, List.pairwise_append] at hp
  have := (List.pairwise_cons.mp hp.2.1).1 y (by simp)
  exact this (h3 _ _ _ h1 (ek ▸ h2))
section
variable {s p f : Int → Int} {m : Nat} (hs : ∀ x, s x = f (p x)) (hpi : ∀ x : Int, 0 ≤ x → x < m → 0 ≤ p x ∧ p x < m ∧ p (p x) = x ∧ p x ≠ x) (hfi : ∀ x : Int, 0 ≤ x → x < m → 0 ≤ f x ∧ f x < m ∧ f (f x) = x ∧ f x ≠ x)
include hs hpi hfi
theorem step_back {e : Int} (h0 : 0 ≤ e) (h1 : e < m) (j : Nat) : s (p (orb s e (j + 1))) = p (orb s e j) := by
  have rg := orb_rng hs hpi hfi h0 h1
  have a := hpi _ (rg (j + 1)).1 (rg (j + 1)).2
  rw [hs, a.2.2.1]
  show f (s (orb s e j)) = _
  have c := hpi _ (rg j).1 (rg j).2
  rw [hs]
  exact (hfi _ c.1 c.2.1).2.2.1
theorem back_all {e : Int} (h0 : 0 ≤ e) (h1 : e < m) : ∀ i, orb s (p (orb s e i)) i = p e
  | 0 => rfl
  | i + 1 => by
    rw [orb_front, step_back hs hpi hfi h0 h1]
    exact back_all h0 h1 i
theorem back_ex {e : Int} (h0 : 0 ≤ e) (h1 : e < m) {k : Nat} (k1 : 1 ≤ k) (hk : orb s e k = e) : ∀ j, ∃ i, orb s (p e) j = p (orb s e i)
  | 0 => ⟨0, rfl⟩
  | j + 1 => by
    obtain ⟨i, hi⟩ := back_ex h0 h1 k1 hk j
    show ∃ i', s (orb s (p e) j) = _
    rw [hi]
    cases i with
    | zero =>
      refine ⟨k - 1, ?_⟩
      have := step_back hs hpi hfi h0 h1 (k - 1)
      rw [show k - 1 + 1 = k by omega, hk] at this
      exact this
    | succ i => exact ⟨i, step_back hs hpi hfi h0 h1 i⟩
theorem wl_orb {e : Int} (h0 : 0 ≤ e) (h1 : e < m) {k : Nat} (k1 : 1 ≤ k) (hk : orb s e k = e) {x : Int} (hx : x ∈ wl s p e k) : ∀ i, orb s x i ∈ wl s p e k
  | 0 => hx
  | i + 1 => by
    have ih := wl_orb h0 h1 k1 hk hx i
    have a := wl_closed hs hpi hfi h0 h1 k1 hk ih
    have b := wl_closed hs hpi hfi h0 h1 k1 hk a.2.2.1
    show s (orb s x i) ∈ _
    rw [hs]
    exact b.2.2.2
def reps (p : Int → Int) (W : List (List Int)) : List Int := W.flatMap fun R => [hd R, p (hd R)]
omit hs hpi hfi in
theorem reps_len (p : Int → Int) : ∀ W, (reps p W).length = 2 * W.length
  | [] => rfl
  | R :: W => by
    have := reps_len p W
    unfold reps at this ⊢
    rw [List.flatMap_cons, List.length_append, this, List.length_cons]
    simp; omega
theorem reps_pw {W : List (List Int)} (h : Rds s p m W) : (reps p W).Pairwise fun x y => ¬ Sm s x y := by
  unfold reps
  rw [List.pairwise_flatMap]
  refine ⟨fun R hR => ?_, ?_⟩
  · obtain ⟨e, a, b, c, _⟩ := h.rd R hR
    rw [c.hd.1]
    obtain ⟨k, k1, rfl, k2, k3⟩ := c
    simp only [List.pairwise_cons, List.mem_singleton, List.not_mem_nil, false_imp_iff, implies_true, List.Pairwise.nil, and_true, forall_eq]
    rintro ⟨i, j, hij⟩
    obtain ⟨i', hi'⟩ := back_ex hs hpi hfi a b k1 k2 j
    rw [hi'] at hij
    exact orb_par' hs hpi hfi a b i' i hij.symm
  · have nd := h.nd
    rw [List.nodup_iff_pairwise_ne, List.pairwise_flatten] at nd
    refine List.Pairwise.imp_of_mem (fun {R R'} hR hR' hd => ?_) nd.2
    obtain ⟨e, a, b, c, _⟩ := h.rd R hR
    obtain ⟨e', a', b', c', _⟩ := h.rd R' hR'
    rw [c.hd.1, c'.hd.1]
    have m1 := c.hd.2
    have m2 := c'.hd.2
    obtain ⟨k, k1, rfl, k2, k3⟩ := c
    obtain ⟨k', k1', rfl, k2', k3'⟩ := c'
    have q1 := (wl_closed hs hpi hfi a b k1 k2 m1).2.2.1
    have q2 := (wl_closed hs hpi hfi a' b' k1' k2' m2).2.2.1
    intro x hx y hy ⟨i, j, hij⟩
    have hx' : x ∈ wl s p e k := by
      simp only [List.mem_cons, List.not_mem_nil, or_false] at hx
      rcases hx with rfl | rfl
      · exact m1
      · exact q1
    have hy' : y ∈ wl s p e' k' := by
      simp only [List.mem_cons, List.not_mem_nil, or_false] at hy
      rcases hy with rfl | rfl
      · exact m2
      · exact q2
    exact hd _ (wl_orb hs hpi hfi a b k1 k2 hx' i) _ (wl_orb hs hpi hfi a' b' k1' k2' hy' j) hij
theorem reps_cv {W : List (List Int)} (h : Rds s p m W) {x : Int} (x0 : 0 ≤ x) (x1 : x < m) : ∃ d, d ∈ reps p W ∧ Sm s x d := by
  obtain ⟨R, hR, hx⟩ := List.mem_flatten.mp (h.all x x0 x1)
  obtain ⟨e, a, b, c, _⟩ := h.rd R hR
  have e1 := c.hd.1
  obtain ⟨k, k1, rfl, k2, k3⟩ := c
  obtain ⟨i, hi, q | q⟩ := (mem_wl k).mp hx
  · exact ⟨e, List.mem_flatMap.mpr ⟨_, hR, by rw [e1]; simp⟩, 0, i, q⟩
  · exact ⟨p e, List.mem_flatMap.mpr ⟨_, hR, by rw [e1]; simp⟩, i, 0, by rw [q, back_all hs hpi hfi a b i]; rfl⟩
/-- marked so far: the ends G, the starts C of ways, the starts asked -/
structure Mk (s : Int → Int) (m : Nat) (G C pre : List Int) : Prop where
  rg : ∀ x ∈ G, 0 ≤ x ∧ x < (m : Int)
  nd : G.Nodup
  cv : ∀ x ∈ G, ∃ c, c ∈ C ∧ Sm s x c
  cl : ∀ x c, 0 ≤ x → x < (m : Int) → c ∈ C → Sm s x c → x ∈ G
  pw : C.Pairwise fun x y => ¬ Sm s x y
  cr : ∀ c ∈ C, 0 ≤ c ∧ c < (m : Int)
  al : ∀ x ∈ pre, x ∈ G
omit hs hpi hfi in
theorem Mk.zero : Mk s m [] [] [] := ⟨by simp, by simp, by simp, by simp, by simp, by simp, by simp⟩
omit hs hpi hfi in
theorem Mk.old {G C pre : List Int} {e : Int} (h : Mk s m G C pre) (he : e ∈ G) : Mk s m G C (pre ++ [e]) := ⟨h.rg, h.nd, h.cv, h.cl, h.pw, h.cr, fun x hx => by
  rcases List.mem_append.mp hx with hx | hx
  · exact h.al x hx
  · rw [List.mem_singleton.mp hx]; exact he⟩
/-- the way from e -/
def way (s : Int → Int) (e : Int) (k : Nat) : List Int := row k fun i => orb s e i
omit hs hpi hfi in
theorem mem_way {e x : Int} {k : Nat} : x ∈ way s e k ↔ ∃ i, i < k ∧ x = orb s e i := by
  unfold way row
  rw [List.mem_map]
  exact ⟨fun ⟨i, hi, h⟩ => ⟨i, List.mem_range.mp hi, h.symm⟩, fun ⟨i, hi, h⟩ => ⟨i, List.mem_range.mpr hi, h.symm⟩⟩
omit hs hpi hfi in
theorem way_s (e : Int) (i : Nat) : way s e (i + 1) = way s e i ++ [orb s e i] := by
  unfold way row
  rw [List.range_succ, List.map_append]; rfl
omit hs hpi hfi in
theorem way_all {e : Int} {k : Nat} (k1 : 1 ≤ k) (hk : orb s e k = e) : ∀ j, orb s e j ∈ way s e k
  | 0 => mem_way.mpr ⟨0, by omega, rfl⟩
  | j + 1 => by
    obtain ⟨t, ht, h⟩ := mem_way.mp (way_all k1 hk j)
    have e1 : orb s e (j + 1) = orb s e (t + 1) := by
      show s (orb s e j) = s (orb s e t)
      rw [h]
    by_cases q : t + 1 = k
    · rw [e1, q, hk]; exact mem_way.mpr ⟨0, by omega, rfl⟩
    · exact mem_way.mpr ⟨t + 1, by omega, e1⟩
theorem way_in {e : Int} (h0 : 0 ≤ e) (h1 : e < m) {k : Nat} (k1 : 1 ≤ k) (hk : orb s e k = e) {x : Int} (x0 : 0 ≤ x) (x1 : x < m) : ∀ i j, orb s x i = orb s e j → x ∈ way s e k
  | 0, j, h => by
    have h : x = orb s e j := h
    rw [h]; exact way_all k1 hk j
  | i + 1, j, h => by
    have h : s (orb s x i) = orb s e j := h
    have rx := orb_rng hs hpi hfi x0 x1 i
    obtain ⟨j', hj⟩ : ∃ j', orb s e j = s (orb s e j') := by
      cases j with
      | zero =>
        refine ⟨k - 1, ?_⟩
        show e = orb s e (k - 1 + 1)
        rw [show k - 1 + 1 = k by omega, hk]
      | succ j => exact ⟨j, rfl⟩
    have re := orb_rng hs hpi hfi h0 h1 j'
    exact way_in h0 h1 k1 hk x0 x1 i j' (s_inj hs hpi hfi h0 h1 rx.1 rx.2 re.1 re.2 (h.trans hj))
theorem Mk.out {G C pre : List Int} {e : Int} (h : Mk s m G C pre) (h0 : 0 ≤ e) (h1 : e < m) (he : e ∉ G) (i : Nat) : orb s e i ∉ G := fun hi => by
  obtain ⟨c, hc, h2⟩ := h.cv _ hi
  exact he (h.cl e c h0 h1 hc (Sm.trans ⟨i, 0, rfl⟩ h2))
theorem way_new {e : Int} (h0 : 0 ≤ e) (h1 : e < m) {k : Nat} (hk : ∀ j, 1 ≤ j → j < k → orb s e j ≠ e) {i : Nat} (hi : i < k) : orb s e i ∉ way s e i := fun h => by
  obtain ⟨t, ht, e1⟩ := mem_way.mp h
  have := orb_sub hs hpi hfi h0 h1 t (i - t) (by rw [show t + (i - t) = i by omega]; exact e1.symm)
  exact hk (i - t) (by omega) (by omega) this
theorem Mk.new {G C pre : List Int} {e : Int} (h : Mk s m G C pre) (h0 : 0 ≤ e) (h1 : e < m) (he : e ∉ G) {k : Nat} (k1 : 1 ≤ k) (k2 : orb s e k = e) (k3 : ∀ j, 1 ≤ j → j < k → orb s e j ≠ e) : Mk s m (G ++ way s e k) (C ++ [e]) (pre ++ [e]) := by
  have rg := orb_rng hs hpi hfi h0 h1
  refine ⟨fun x hx => ?_, ?_, fun x hx => ?_, fun x c x0 x1 hc hr => ?_, ?_, fun c hc => ?_, fun x hx => ?_⟩
  · rcases List.mem_append.mp hx with hx | hx
    · exact h.rg x hx
    · obtain ⟨i, _, rfl⟩ := mem_way.mp hx
      exact rg i
  · refine List.nodup_append.mpr ⟨h.nd, ?_, fun a ha b hb e2 => ?_⟩
    · have : ∀ i, i ≤ k → (way s e i).Nodup := fun i => by
        induction i with
        | zero => intro _; exact List.nodup_nil
        | succ i ih =>
          intro hi
          rw [way_s]
          exact List.nodup_append.mpr ⟨ih (by omega), by simp, fun a ha b hb e2 => way_new hs hpi hfi h0 h1 k3 (show i < k by omega) (by rw [List.mem_singleton.mp hb] at e2; exact e2 ▸ ha)⟩
      exact this k (Nat.le_refl k)
    · obtain ⟨i, _, rfl⟩ := mem_way.mp hb
      exact h.out hs hpi hfi h0 h1 he i (e2 ▸ ha)
  · rcases List.mem_append.mp hx with hx | hx
    · obtain ⟨c, hc, hr⟩ := h.cv x hx
      exact ⟨c, List.mem_append_left _ hc, hr⟩
    · obtain ⟨i, _, rfl⟩ := mem_way.mp hx
      exact ⟨e, by simp, 0, i, rfl⟩
  · rcases List.mem_append.mp hc with hc | hc
    · exact List.mem_append_left _ (h.cl x c x0 x1 hc hr)
    · rw [List.mem_singleton.mp hc] at hr
      obtain ⟨i, j, hij⟩ := hr
      exact List.mem_append_right _ (way_in hs hpi hfi h0 h1 k1 k2 x0 x1 i j hij)
  · rw [List.pairwise_append]
    refine ⟨h.pw, by simp, fun a ha b hb hr => ?_⟩
    rw [List.mem_singleton.mp hb] at hr
    exact he (h.cl e a h0 h1 ha hr.symm)
  · rcases List.mem_append.mp hc with hc | hc
    · exact h.cr c hc
    · rw [List.mem_singleton.mp hc]; exact ⟨h0, h1⟩
  · rcases List.mem_append.mp hx with hx | hx
    · exact List.mem_append_left _ (h.al x hx)
    · rw [List.mem_singleton.mp hx]
      exact List.mem_append_right _ (mem_way.mpr ⟨0, by omega, rfl⟩)
theorem Mk.count {G C pre : List Int} {W : List (List Int)} (h : Mk s m G C pre) (hp : ∀ x, 0 ≤ x → x < (m : Int) → x ∈ pre) (hW : Rds s p m W) : C.length = 2 * W.length := by
  rw [← reps_len p W]
  refine Nat.le_antisymm (tv_le (r := Sm s) (fun a b d h1 h2 => h1.trans h2.symm) h.pw fun c hc => reps_cv hs hpi hfi hW (h.cr c hc).1 (h.cr c hc).2) (tv_le (r := Sm s) (fun a b d h1 h2 => h1.trans h2.symm) (reps_pw hs hpi hfi hW) fun c hc => ?_)
  have hr : 0 ≤ c ∧ c < (m : Int) := by
    obtain ⟨R, hR, hx⟩ := List.mem_flatMap.mp hc
    obtain ⟨e, a, b, q, _⟩ := hW.rd R hR
    rw [q.hd.1] at hx
    simp only [List.mem_cons, List.not_mem_nil, or_false] at hx
    rcases hx with rfl | rfl
    · exact ⟨a, b⟩
    · have := hpi e a b
      exact ⟨this.1, this.2.1⟩
  exact h.cv c (h.al c (hp c hr.1 hr.2))
end
end Gf

/-! ## Gf46: two nets side by side, places with new numbers: the rounds' numbers add up -/
namespace Gf
open Ty
def sumL (A B : List Nat) : List Nat := A.flatMap fun a => B.map (· + a)
theorem sumL_shift (A B : List Nat) (c : Nat) : sumL (A.map (· + c)) B = (sumL A B).map (· + c) := by
  unfold sumL
  rw [List.flatMap_map, List.map_flatMap]
  congr 1
  funext a
  rw [List.map_map]
  congr 1
  funext b
  show b + (a + c) = b + a + c
  omega
theorem sumL_flat {α : Type} (l : List α) (g : α → List Nat) (B : List Nat) : sumL (l.flatMap g) B = l.flatMap fun w => sumL (g w) B := by
  unfold sumL
  rw [List.flatMap_assoc]
theorem spls_off {D2 : Int → Prop} (p : Int) (h : ∀ x, D2 x → x / 4 ≠ p) (w : Nat) {f : Int → Int} (hf : ∀ x, D2 x → D2 (f x)) : ∀ x, D2 x → spls f (prs p w) x = f x := by
  have key : ∀ a b c d : Int, a / 4 = p → b / 4 = p → c / 4 = p → d / 4 = p → ∀ x, D2 x → spls f [(a, b), (c, d)] x = f x := fun a b c d ha hb hc hd x hx => by
    have h1 := h _ (hf x hx)
    show spl (spl f a b) c d x = f x
    have e1 : spl f a b x = f x := by
      unfold spl
      rw [if_neg (fun z => h1 (by rw [z]; exact ha)), if_neg (fun z => h1 (by rw [z]; exact hb))]
    have e2 : spl (spl f a b) c d x = spl f a b x := by
      unfold spl at e1 ⊢
      rw [e1, if_neg (fun z => h1 (by rw [z]; exact hc)), if_neg (fun z => h1 (by rw [z]; exact hd))]
    rw [e2, e1]
  unfold prs
  split
  · exact key _ _ _ _ (by omega) (by omega) (by omega) (by omega)
  · split
    · exact key _ _ _ _ (by omega) (by omega) (by omega) (by omega)
    · exact key _ _ _ _ (by omega) (by omega) (by omega) (by omega)
/-- the places o are taken apart from the ends D2, which are tied among themselves -/
theorem RR_beside {D2 : Int → Prop} {o2 : List Int} (h2 : Pls D2 o2) : ∀ (o : List Int) {D : Int → Prop} {f : Int → Int}, Td D f → Pls D o → (∀ x, D2 x → D x) → (∀ x, D2 x → D2 (f x)) → (∀ p ∈ o, ∀ x, D2 x → x / 4 ≠ p) → RR f (o ++ o2) = sumL (RR f o) (RR f o2)
  | [], D, f, _, _, _, _, _ => by
    show RR f o2 = [0].flatMap fun a => (RR f o2).map (· + a)
    simp
  | p :: o, D, f, h, hp, hs, hc, ho => by
    have hpo := ho p List.mem_cons_self
    show ((List.range 3).flatMap fun w => (RR (spls f (prs p w)) (o ++ o2)).map (· + clos f (prs p w))) = sumL ((List.range 3).flatMap fun w => (RR (spls f (prs p w)) o).map (· + clos f (prs p w))) (RR f o2)
    rw [sumL_flat]
    congr 1
    funext w
    have hw := spls_off p hpo w hc
    have td2 : Td D2 f := fun x hx => ⟨hc x hx, (h x (hs x hx)).2⟩
    rw [sumL_shift, RR_beside h2 o (Td.spls _ h (hp.pr w)) (hp.tail w) (fun x hx => (prs_rm w x).mpr ⟨hs x hx, hpo x hx⟩) (fun x hx => by rw [hw x hx]; exact hc x hx) fun q hq => ho q (List.mem_cons_of_mem _ hq),
      RR_congr o2 td2 (fun x hx => (hw x hx).symm) h2]
/-- an end at a place with a new number -/
def phi (s : Int → Int) (x : Int) : Int := 4 * s (x / 4) + x % 4
theorem phi_at (s : Int → Int) (p k : Int) (h0 : 0 ≤ k) (h1 : k < 4) : phi s (4 * p + k) = 4 * s p + k := by
  unfold phi
  rw [show (4 * p + k) / 4 = p by omega, show (4 * p + k) % 4 = k by omega]
theorem prs_phi (s : Int → Int) (p : Int) (w : Nat) : prs (s p) w = (prs p w).map fun q => (phi s q.1, phi s q.2) := by
  have h0 : phi s (4 * p) = 4 * s p := by
    have := phi_at s p 0 (by decide) (by decide)
    rw [Int.add_zero, Int.add_zero] at this
    exact this
  unfold prs
  split
  · simp only [List.map_cons, List.map_nil, h0, phi_at s p 1 (by decide) (by decide), phi_at s p 2 (by decide) (by decide), phi_at s p 3 (by decide) (by decide)]
  · split
    · simp only [List.map_cons, List.map_nil, h0, phi_at s p 1 (by decide) (by decide), phi_at s p 2 (by decide) (by decide), phi_at s p 3 (by decide) (by decide)]
    · simp only [List.map_cons, List.map_nil, h0, phi_at s p 1 (by decide) (by decide), phi_at s p 2 (by decide) (by decide), phi_at s p 3 (by decide) (by decide)]
theorem spls_phi {φ : Int → Int} : ∀ (l : List (Int × Int)) {D : Int → Prop} {f g : Int → Int}, Td D f → (∀ x, D x → g (φ x) = φ (f x)) → (∀ x y, D x → D y → φ x = φ y → x = y) → Pr D l →
    clos g (l.map fun q => (φ q.1, φ q.2)) = clos f l ∧ ∀ x, rms D l x → spls g (l.map fun q => (φ q.1, φ q.2)) (φ x) = φ (spls f l x)
  | [], D, f, g, _, hg, _, _ => ⟨rfl, hg⟩
  | p :: l, D, f, g, h, hg, hi, ⟨⟨a, b, c⟩, d⟩ => by
    have iff : ∀ x y, D x → D y → (φ x = φ y ↔ x = y) := fun x y hx hy => ⟨hi x y hx hy, fun e => by rw [e]⟩
    have step : ∀ x, rm2 D p.1 p.2 x → spl g (φ p.1) (φ p.2) (φ x) = φ (spl f p.1 p.2 x) := fun x ⟨hx, _, _⟩ => by
      unfold spl
      have hfx := (h x hx).1
      rw [hg x hx, hg _ a, hg _ b]
      by_cases e1 : f x = p.1
      · rw [if_pos e1, if_pos (by rw [e1])]
      · rw [if_neg e1, if_neg fun z => e1 (hi _ _ hfx a z)]
        by_cases e2 : f x = p.2
        · rw [if_pos e2, if_pos (by rw [e2])]
        · rw [if_neg e2, if_neg fun z => e2 (hi _ _ hfx b z)]
    have ih := spls_phi l (h.spl a b c) step (fun x y hx hy => hi x y hx.1 hy.1) d
    refine ⟨?_, ih.2⟩
    show clo g (φ p.1) (φ p.2) + clos _ _ = clo f p.1 p.2 + clos _ _
    rw [ih.1]
    congr 1
    unfold clo
    rw [hg _ a]
    by_cases e : f p.1 = p.2
    · rw [if_pos e, if_pos (by rw [e])]
    · rw [if_neg e, if_neg fun z => e (hi _ _ (h _ a).1 b z)]
theorem RR_phi (s : Int → Int) : ∀ (o : List Int) {D : Int → Prop} {f g : Int → Int}, Td D f → (∀ x, D x → g (phi s x) = phi s (f x)) → (∀ x y, D x → D y → phi s x = phi s y → x = y) → Pls D o → RR g (o.map s) = RR f o
  | [], _, _, _, _, _, _, _ => rfl
  | p :: o, D, f, g, h, hg, hi, hp => by
    rw [List.map_cons]
    show ((List.range 3).flatMap fun w => _) = (List.range 3).flatMap fun w => _
    congr 1
    funext w
    obtain ⟨c1, c2⟩ := spls_phi (φ := phi s) (prs p w) h hg hi (hp.pr w)
    rw [← prs_phi] at c1 c2
    rw [c1, RR_phi s o (Td.spls _ h (hp.pr w)) c2 (fun x y hx hy => hi x y ((prs_rm w x).mp hx).1 ((prs_rm w y).mp hy).1) (hp.tail w)]
/-! ### counts multiplied -/
theorem mxN_sumL {A B : List Nat} (hA : A ≠ []) (hB : B ≠ []) : mxN (sumL A B) = mxN A + mxN B := by
  have hm : mxN A + mxN B ∈ sumL A B := List.mem_flatMap.mpr ⟨_, mxN_mem hA, List.mem_map.mpr ⟨_, mxN_mem hB, by omega⟩⟩
  have hle : ∀ x ∈ sumL A B, x ≤ mxN A + mxN B := fun x hx => by
    obtain ⟨a, ha, hx⟩ := List.mem_flatMap.mp hx
    obtain ⟨b, hb, rfl⟩ := List.mem_map.mp hx
    have := mxN_le ha
    have := mxN_le hb
    show b + a ≤ _
    omega
  have hne : sumL A B ≠ [] := fun e => by rw [e] at hm; cases hm
  exact Nat.le_antisymm (hle _ (mxN_mem hne)) (mxN_le hm)
theorem wv_shift (x : Int) (c : Nat) : ∀ A : List Nat, wv (A.map (· + c)) x = wv A x * x ^ c
  | [] => by simp [wv]
  | r :: A => by
    have ih := wv_shift x c A
    unfold wv at ih ⊢
    rw [List.map_cons, List.map_cons, List.map_cons, List.sum_cons, List.sum_cons, ih, Int.add_mul, Int.pow_add]
theorem wv_sumL (x : Int) (B : List Nat) : ∀ A : List Nat, wv (sumL A B) x = wv A x * wv B x
  | [] => by simp [sumL, wv]
  | a :: A => by
    have ih := wv_sumL x B A
    have e : sumL (a :: A) B = B.map (· + a) ++ sumL A B := by unfold sumL; rw [List.flatMap_cons]
    rw [e, wv_app, ih, wv_shift]
    have e2 : wv (a :: A) x = x ^ a + wv A x := by unfold wv; rw [List.map_cons, List.sum_cons]
    rw [e2, Int.add_mul, Int.mul_comm (x ^ a)]
theorem count_shift (B : List Nat) (a k : Nat) : ((B.map (· + a)).count k : Int) = if a ≤ k then (B.count (k - a) : Int) else 0 := by
  by_cases h : a ≤ k
  · rw [if_pos h]
    have := cnt_map a (k - a) B
    rw [show k - a + a = k by omega] at this
    rw [this]
  · rw [if_neg h, List.count_eq_zero_of_not_mem fun z => by
      obtain ⟨b, _, e⟩ := List.mem_map.mp z
      omega]
    rfl
/-- a number's share: the numbers of A by B -/
theorem count_sumL (B : List Nat) (k : Nat) : ∀ A : List Nat, ((sumL A B).count k : Int) = (A.map fun a => if a ≤ k then (B.count (k - a) : Int) else 0).sum
  | [] => by simp [sumL]
  | a :: A => by
    have e : sumL (a :: A) B = B.map (· + a) ++ sumL A B := by unfold sumL; rw [List.flatMap_cons]
    rw [e, List.count_append, List.map_cons, List.sum_cons, ← count_sumL B k A, ← count_shift]
    omega
end Gf
namespace Gf
open Ty
theorem sum_count (g : Nat → Int) : ∀ (A : List Nat) (m : Nat), (∀ a ∈ A, a < m) → (A.map g).sum = (row m fun i => (A.count i : Int) * g i).sum
  | [], m, _ => by
    have : ∀ m : Nat, (row m fun i => (([] : List Nat).count i : Int) * g i).sum = 0 := fun m => by
      induction m with
      | zero => rfl
      | succ m ih =>
        rw [sum_row, ih]
        simp
    rw [this m]
    rfl
  | a :: A, m, h => by
    have ih := sum_count g A m fun y hy => h y (List.mem_cons_of_mem _ hy)
    have ha := h a List.mem_cons_self
    have : ∀ m : Nat, (row m fun i => ((a :: A).count i : Int) * g i).sum = (row m fun i => (A.count i : Int) * g i).sum + if a < m then g a else 0 := fun m => by
      induction m with
      | zero => rfl
      | succ m ih =>
        rw [sum_row, sum_row, ih, List.count_cons]
        by_cases e : a = m
        · subst e
          simp [Int.add_mul]
          omega
        · by_cases l : a < m
          · rw [if_pos l, if_pos (Nat.lt_succ_of_lt l), if_neg (by simpa using e)]
            simp
            omega
          · rw [if_neg l, if_neg (show ¬ a < m + 1 by omega), if_neg (by simpa using e)]
            simp
    rw [this m, if_pos ha, List.map_cons, List.sum_cons, ih]
    omega
/-- the product's entry when the numbers below i are multiplied -/
def pdt (A B : List Nat) (i k : Nat) : Int := (row i fun a => (A.count a : Int) * if a ≤ k then (B.count (k - a) : Int) else 0).sum
theorem pdt_succ (A B : List Nat) (i k : Nat) : pdt A B (i + 1) k = pdt A B i k + (A.count i : Int) * if i ≤ k then (B.count (k - i) : Int) else 0 := sum_row _ _
theorem pdt_all (A B : List Nat) (k : Nat) : pdt A B (mxN A + 1) k = ((sumL A B).count k : Int) := by
  rw [count_sumL, sum_count _ _ (mxN A + 1) fun a ha => by have := mxN_le ha; omega]
  rfl
end Gf

/-! ## LGcnt: counts by ties -/
namespace Law
open PySem Ty Gf
theorem cadded_ok {A B : List Nat} (hA : mxN A ≤ 1000) (hB : mxN B ≤ 1000) : mir_added (cnt A) (cnt B) = .ok (cnt (A ++ B)) := by
  apply Ev.eq
  unfold mir_added
  simp only [pureB, bindA, cnt_len]
  refine Ev.run ?_
  obtain ⟨s, hs, hs1, hs2⟩ : ∃ s : Nat, (if ((mxN B + 1 : Nat) : Int) > ((mxN A + 1 : Nat) : Int) then ((mxN B + 1 : Nat) : Int) else ((mxN A + 1 : Nat) : Int)) = (s : Int) ∧ s = max (mxN A) (mxN B) + 1 ∧ s ≤ 1001 := by
    refine ⟨max (mxN A) (mxN B) + 1, ?_, rfl, by omega⟩
    split <;> omega
  rw [hs]
  rw [lstM_ok (by simp)]
  simp only [okB]
  rw [rep1_ok (by omega) (by omega), rep1_ok (by omega) (by omega)]
  simp only [okB]
  rw [show ((s : Int) - ((mxN A + 1 : Nat) : Int)).toNat = s - (mxN A + 1) by omega, show ((s : Int) - ((mxN B + 1 : Nat) : Int)).toNat = s - (mxN B + 1) by omega]
  have eA := cnt_pad A (s - (mxN A + 1))
  have eB := cnt_pad B (s - (mxN B + 1))
  rw [show mxN A + 1 + (s - (mxN A + 1)) = s by omega] at eA
  rw [show mxN B + 1 + (s - (mxN B + 1)) = s by omega] at eB
  have rp : ∀ m, row m (fun _ => (0 : Int)) = List.replicate m 0 := fun m => by
    unfold row
    rw [List.map_const', List.length_range]
  rw [rp, rp]
  rw [catM_ok (by rw [List.length_replicate, cnt_len]; omega), catM_ok (by rw [List.length_replicate, cnt_len]; omega)]
  simp only [okB]
  rw [eA, eB, row_zip, comp_rows (f := fun (x : Int × Int) => pure (x.1 + x.2)) (fun k => (A.count k : Int) + (B.count k : Int)) (by omega) fun k _ => rfl]
  refine ⟨_, rfl, _, rfl, ?_⟩
  unfold cnt
  rw [mxN_app, ← hs1]
  exact row_congr fun k _ => by rw [List.count_append]; omega
def DT (d : Dc Int Int) (D : Int → Prop) (f : Int → Int) : Prop := (∀ x, D x → dget d.l x = some (f x)) ∧ ∀ x, ¬ D x → dget d.l x = none
theorem dget_ddrop (l : List (Int × Int)) (k x : Int) : dget (ddrop l k) x = if x = k then none else dget l x := by
  unfold dget ddrop
  rw [List.find?_filter]
  by_cases h : x = k
  · rw [if_pos h, List.find?_eq_none.mpr]
    · rfl
    · intro p _
      simp
      omega
  · rw [if_neg h]
    congr 2
    funext p
    by_cases e : p.1 = x
    · simp [e, h]
    · simp [e]
theorem ddrop_len (l : List (Int × Int)) (k : Int) : (ddrop l k).length ≤ l.length := List.length_filter_le _ _
/-- one pair joined: closed, or spliced -/
theorem pair_ok {d : Dc Int Int} {D : Int → Prop} {f : Int → Int} (hd : DT d D f) (h : Td D f) {a b : Int} (ha : D a) (hb : D b) (hab : a ≠ b) (hl : d.l.length ≤ 100000) :
    ∃ d', DT d' (rm2 D a b) (spl f a b) ∧ d'.l.length ≤ d.l.length + 2 ∧ dpopM d a = .ok (f a, ⟨ddrop d.l a⟩) ∧
      ((f a = b ∧ dpopM ⟨ddrop d.l a⟩ b = .ok (a, d')) ∨ (f a ≠ b ∧ ∃ d2 d3, dpopM ⟨ddrop d.l a⟩ b = .ok (f b, d2) ∧ dputM d2 (f a) (f b) = .ok d3 ∧ dputM d3 (f b) (f a) = .ok d')) := by
  obtain ⟨a1, a2, a3⟩ := h a ha
  obtain ⟨b1, b2, b3⟩ := h b hb
  have p1 : dpopM d a = .ok (f a, ⟨ddrop d.l a⟩) := by
    unfold dpopM
    rw [hd.1 a ha]
    rfl
  have gb : dget (ddrop d.l a) b = some (f b) := by
    rw [dget_ddrop, if_neg (Ne.symm hab), hd.1 b hb]
  have p2 : dpopM ⟨ddrop d.l a⟩ b = .ok (f b, ⟨ddrop (ddrop d.l a) b⟩) := by
    unfold dpopM
    rw [gb]
    rfl
  have l1 := ddrop_len d.l a
  have l2 := ddrop_len (ddrop d.l a) b
  have hg : ∀ x, dget (ddrop (ddrop d.l a) b) x = if x = b then none else if x = a then none else dget d.l x := fun x => by rw [dget_ddrop, dget_ddrop]
  by_cases e : f a = b
  · refine ⟨⟨ddrop (ddrop d.l a) b⟩, ⟨fun x ⟨hx, xa, xb⟩ => ?_, fun x hx => ?_⟩, ?_, p1, .inl ⟨e, by rw [p2, ← e, a3]⟩⟩
    · rw [hg, if_neg xb, if_neg xa, hd.1 x hx]
      obtain ⟨x1, x2, x3⟩ := h x hx
      unfold spl
      grind
    · rw [hg]
      split
      · rfl
      · split
        · rfl
        · exact hd.2 x fun z => hx ⟨z, by assumption, by assumption⟩
    · show (ddrop (ddrop d.l a) b).length ≤ _; omega
  · have hl3 := dput_len (ddrop (ddrop d.l a) b) (f a) (f b)
    have hl4 := dput_len (dput (ddrop (ddrop d.l a) b) (f a) (f b)) (f b) (f a)
    refine ⟨⟨dput (dput (ddrop (ddrop d.l a) b) (f a) (f b)) (f b) (f a)⟩, ⟨fun x ⟨hx, xa, xb⟩ => ?_, fun x hx => ?_⟩, by show (dput _ _ _).length ≤ _; omega, p1, .inr ⟨e, _, _, p2, dputM_ok (by show (ddrop (ddrop d.l a) b).length < _; omega), dputM_ok (by show (dput (ddrop (ddrop d.l a) b) (f a) (f b)).length < _; omega)⟩⟩
    · obtain ⟨x1, x2, x3⟩ := h x hx
      rw [dget_dput, dget_dput, hg, if_neg xb, if_neg xa, hd.1 x hx]
      unfold spl
      grind
    · rw [dget_dput, dget_dput, hg]
      have n1 : x ≠ f b := fun z => hx ⟨by rw [z]; exact b1, by rw [z]; grind, by rw [z]; exact b2⟩
      have n2 : x ≠ f a := fun z => hx ⟨by rw [z]; exact a1, by rw [z]; exact a2, by rw [z]; exact e⟩
      rw [if_neg n1, if_neg n2]
      split
      · rfl
      · split
        · rfl
        · exact hd.2 x fun z => hx ⟨z, by assumption, by assumption⟩
theorem joined4 : mir_joined 0 0 = .ok 1 ∧ mir_joined 0 1 = .ok 0 ∧ mir_joined 0 2 = .ok 3 ∧ mir_joined 0 3 = .ok 2 ∧ mir_joined 1 0 = .ok 2 ∧ mir_joined 1 1 = .ok 3 ∧ mir_joined 1 2 = .ok 0 ∧ mir_joined 1 3 = .ok 1 ∧ mir_joined 2 0 = .ok 3 ∧ mir_joined 2 1 = .ok 2 ∧ mir_joined 2 2 = .ok 1 ∧ mir_joined 2 3 = .ok 0 :=
  ⟨rfl, rfl, rfl, rfl, rfl, rfl, rfl, rfl, rfl, rfl, rfl, rfl⟩
theorem tied_ok {d : Dc Int Int} {D : Int → Prop} {f : Int → Int} (hd : DT d D f) (h : Td D f) {p : Int} (hp : ∀ s : Int, 0 ≤ s → s < 4 → D (4 * p + s)) (hl : d.l.length ≤ 1000) {w : Nat} (hw : w < 3) :
    ∃ d', DT d' (rms D (prs p w)) (spls f (prs p w)) ∧ d'.l.length ≤ d.l.length + 4 ∧ mir_tied_on d p w = .ok (d', ((clos f (prs p w) : Nat) : Int)) := by
  have h0 := hp 0 (by decide) (by decide)
  have h1 := hp 1 (by decide) (by decide)
  have h2 := hp 2 (by decide) (by decide)
  have h3 := hp 3 (by decide) (by decide)
  obtain ⟨j1, j2, j3, j4, j5, j6, j7, j8, j9, j10, j11, j12⟩ := joined4
  have hpr := prs_pr w hp
  have hw' : w = 0 ∨ w = 1 ∨ w = 2 := by omega
  have t0 : ∀ a b : Int, spl (spl f a b) = spl (spl f a b) := fun _ _ => rfl
  have main : ∀ a b c e : Int, prs p w = [(a, b), (c, e)] → (∀ (d1 d2 : Dc Int Int) (n : Int), dpopM d a = .ok (f a, ⟨ddrop d.l a⟩) → dpopM d1 c = .ok (spl f a b c, ⟨ddrop d1.l c⟩) →
      ((f a = b ∧ dpopM ⟨ddrop d.l a⟩ b = .ok (a, d1)) ∨ (f a ≠ b ∧ ∃ d2 d3, dpopM ⟨ddrop d.l a⟩ b = .ok (f b, d2) ∧ dputM d2 (f a) (f b) = .ok d3 ∧ dputM d3 (f b) (f a) = .ok d1)) →
      ((spl f a b c = e ∧ dpopM ⟨ddrop d1.l c⟩ e = .ok (c, d2)) ∨ (spl f a b c ≠ e ∧ ∃ d3 d4, dpopM ⟨ddrop d1.l c⟩ e = .ok (spl f a b e, d3) ∧ dputM d3 (spl f a b c) (spl f a b e) = .ok d4 ∧ dputM d4 (spl f a b e) (spl f a b c) = .ok d2)) →
      mir_tied_on d p w = .ok (d2, (if f a = b then 1 else 0) + if spl f a b c = e then 1 else 0)) → ∃ d', DT d' (rms D (prs p w)) (spls f (prs p w)) ∧ d'.l.length ≤ d.l.length + 4 ∧ mir_tied_on d p w = .ok (d', ((clos f (prs p w) : Nat) : Int)) := by
    intro a b c e hE hM
    rw [hE] at hpr ⊢
    obtain ⟨⟨a1, a2, a3⟩, ⟨b1, b2, b3⟩, _⟩ := hpr
    obtain ⟨d1, g1, g2, g3, g4⟩ := pair_ok hd h a1 a2 a3 (by omega)
    obtain ⟨d2, k1, k2, k3, k4⟩ := pair_ok g1 (h.spl a1 a2 a3) b1 b2 b3 (by omega)
    refine ⟨d2, k1, by omega, ?_⟩
    rw [hM d1 d2 0 g3 k3 g4 k4]
    congr 2
    show _ = ((clo f a b + (clo (spl f a b) c e + 0) : Nat) : Int)
    unfold clo
    split <;> split <;> rfl
  have kinds : decide ((0 : Int) < 1) = true ∧ decide ((1 : Int) < 0) = false ∧ decide ((2 : Int) < 3) = true ∧ decide ((3 : Int) < 2) = false ∧ decide ((0 : Int) < 2) = true ∧ decide ((1 : Int) < 3) = true ∧ decide ((2 : Int) < 0) = false ∧ decide ((3 : Int) < 1) = false ∧ decide ((0 : Int) < 3) = true ∧ decide ((1 : Int) < 2) = true ∧ decide ((2 : Int) < 1) = false ∧ decide ((3 : Int) < 0) = false := ⟨rfl, rfl, rfl, rfl, rfl, rfl, rfl, rfl, rfl, rfl, rfl, rfl⟩
  obtain ⟨e1, e2, e3, e4, e5, e6, e7, e8, e9, e10, e11, e12⟩ := kinds
  rcases hw' with rfl | rfl | rfl
  · refine main (4 * p) (4 * p + 1) (4 * p + 2) (4 * p + 3) rfl fun d1 d2 n k1 k2 k3 k4 => ?_
    unfold mir_tied_on
    simp only [pureB, bindA]
    rw [range1_ok (by decide) (by decide)]
    simp only [okB, show rangeL 0 4 = [0, 1, 2, 3] from rfl, loopM, Int.add_zero]
    simp only [show ((0 : Nat) : Int) = 0 from rfl, j1, j2, j3, j4, okB, decide_true, if_true, pureB, bindA, e1, e2, e3, e4, Bool.false_eq_true, if_false, k1]
    rcases k3 with ⟨q1, q2⟩ | ⟨q1, x2, x3, q2, q3, q4⟩ <;> rcases k4 with ⟨r1, r2⟩ | ⟨r1, y2, y3, r2, r3, r4⟩
    · simp only [pureB, bindA, thenL, runC, decide_true, decide_eq_true q1, if_true, q1, q2, okB, k2, decide_eq_true r1, r1, r2]; rfl
    · simp only [pureB, bindA, thenL, runC, decide_true, decide_eq_true q1, if_true, q1, q2, okB, k2, decide_eq_false r1, Bool.false_eq_true, if_false, if_neg r1, r2, r3, r4]; rfl
    · simp only [pureB, bindA, thenL, runC, decide_true, decide_eq_false q1, if_true, Bool.false_eq_true, if_false, if_neg q1, q2, q3, q4, okB, k2, decide_eq_true r1, r1, r2]; rfl
    · simp only [pureB, bindA, thenL, runC, decide_true, decide_eq_false q1, Bool.false_eq_true, if_false, if_neg q1, q2, q3, q4, okB, k2, decide_eq_false r1, if_neg r1, r2, r3, r4]; rfl
  · refine main (4 * p) (4 * p + 2) (4 * p + 1) (4 * p + 3) rfl fun d1 d2 n k1 k2 k3 k4 => ?_
    unfold mir_tied_on
    simp only [pureB, bindA]
    rw [range1_ok (by decide) (by decide)]
    simp only [okB, show rangeL 0 4 = [0, 1, 2, 3] from rfl, loopM, Int.add_zero]
    simp only [show ((1 : Nat) : Int) = 1 from rfl, j5, j6, j7, j8, okB, decide_true, if_true, pureB, bindA, e5, e6, e7, e8, Bool.false_eq_true, if_false, k1]
    rcases k3 with ⟨q1, q2⟩ | ⟨q1, x2, x3, q2, q3, q4⟩ <;> rcases k4 with ⟨r1, r2⟩ | ⟨r1, y2, y3, r2, r3, r4⟩
    · simp only [pureB, bindA, thenL, runC, decide_true, decide_eq_true q1, if_true, q1, q2, okB, k2, decide_eq_true r1, r1, r2]; rfl
    · simp only [pureB, bindA, thenL, runC, decide_true, decide_eq_true q1, if_true, q1, q2, okB, k2, decide_eq_false r1, Bool.false_eq_true, if_false, if_neg r1, r2, r3, r4]; rfl
    · simp only [pureB, bindA, thenL, runC, decide_true, decide_eq_false q1, if_true, Bool.false_eq_true, if_false, if_neg q1, q2, q3, q4, okB, k2, decide_eq_true r1, r1, r2]; rfl
    · simp only [pureB, bindA, thenL, runC, decide_true, decide_eq_false q1, Bool.false_eq_true, if_false, if_neg q1, q2, q3, q4, okB, k2, decide_eq_false r1, if_neg r1, r2, r3, r4]; rfl
  · refine main (4 * p) (4 * p + 3) (4 * p + 1) (4 * p + 2) rfl fun d1 d2 n k1 k2 k3 k4 => ?_
    unfold mir_tied_on
    simp only [pureB, bindA]
    rw [range1_ok (by decide) (by decide)]
    simp only [okB, show rangeL 0 4 = [0, 1, 2, 3] from rfl, loopM, Int.add_zero]
    simp only [show ((2 : Nat) : Int) = 2 from rfl, j9, j10, j11, j12, okB, decide_true, if_true, pureB, bindA, e9, e10, e11, e12, Bool.false_eq_true, if_false, k1]
    rcases k3 with ⟨q1, q2⟩ | ⟨q1, x2, x3, q2, q3, q4⟩ <;> rcases k4 with ⟨r1, r2⟩ | ⟨r1, y2, y3, r2, r3, r4⟩
    · simp only [pureB, bindA, thenL, runC, decide_true, decide_eq_true q1, if_true, q1, q2, okB, k2, decide_eq_true r1, r1, r2]; rfl
    · simp only [pureB, bindA, thenL, runC, decide_true, decide_eq_true q1, if_true, q1, q2, okB, k2, decide_eq_false r1, Bool.false_eq_true, if_false, if_neg r1, r2, r3, r4]; rfl
    · simp only [pureB, bindA, thenL, runC, decide_true, decide_eq_false q1, if_true, Bool.false_eq_true, if_false, if_neg q1, q2, q3, q4, okB, k2, decide_eq_true r1, r1, r2]; rfl
    · simp only [pureB, bindA, thenL, runC, decide_true, decide_eq_false q1, Bool.false_eq_true, if_false, if_neg q1, q2, q3, q4, okB, k2, decide_eq_false r1, if_neg r1, r2, r3, r4]; rfl
theorem RR_ne (o : List Int) (f : Int → Int) : RR f o ≠ [] := fun e => by
  have := RR_len o f
  rw [e] at this
  have h : 0 < 3 ^ o.length := Nat.pow_pos (by decide)
  rw [← this] at h
  exact absurd h (by decide)
theorem clos2 (f : Int → Int) (p : Int) (w : Nat) : clos f (prs p w) ≤ 2 := by
  have : ∀ a b c e : Int, clos f [(a, b), (c, e)] ≤ 2 := fun a b c e => by
    show clo f a b + (clo (spl f a b) c e + 0) ≤ 2
    unfold clo
    split <;> split <;> omega
  unfold prs
  split
  · exact this _ _ _ _
  · split <;> exact this _ _ _ _
theorem mxN_le' {L : List Nat} {B : Nat} (h : ∀ x ∈ L, x ≤ B) : mxN L ≤ B := by
  by_cases e : L = []
  · subst e; exact Nat.zero_le _
  · exact h _ (mxN_mem e)
theorem mxN_RR : ∀ (o : List Int) (f : Int → Int) , mxN (RR f o) ≤ 2 * o.length
  | [], f => by show max 0 0 ≤ _; omega
  | p :: o, f => by
    have hne : RR f (p :: o) ≠ [] := RR_ne _ _
    obtain ⟨w, _, hr⟩ := List.mem_flatMap.mp (mxN_mem hne)
    obtain ⟨n, hn, e⟩ := List.mem_map.mp hr
    have h1 := mxN_le hn
    have h2 := mxN_RR o (spls f (prs p w))
    have h3 := clos2 f p w
    have e : n + clos f (prs p w) = mxN (RR f (p :: o)) := e
    rw [← e, List.length_cons]
    omega
/-- counts_by: as many turns as there are places, and one -/
theorem cby_ok : ∀ (o : List Int) (kf : Nat) (d : Dc Int Int) (D : Int → Prop) (f : Int → Int), o.length < kf → o.length ≤ 20 → DT d D f → Td D f → Pls D o → d.l.length + 4 * o.length ≤ 1000 → mirf_counts_by kf d o = .ok (cnt (RR f o))
  | [], kf + 1, d, D, f, _, _, _, _, _, _ => rfl
  | p :: o, kf + 1, d, D, f, hk, ho, hd, h, hp, hl => by
    apply Ev.eq
    unfold mirf_counts_by
    simp only [pureB, bindA]
    refine Ev.run ?_
    rw [decide_eq_false (show ¬ ((((p :: o).length : Nat) : Int) = 0) by rw [List.length_cons]; omega)]
    simp only [Bool.false_eq_true, if_false]
    rw [lstM_ok (by simp)]
    simp only [okB]
    rw [range1_ok (by decide) (by decide)]
    simp only [okB]
    refine Ev.loopN (fun k s => s = cnt ((List.range k).flatMap fun w => (RR (spls f (prs p w)) o).map (· + clos f (prs p w)))) rfl ?_ ?_
    · rintro w _ hw rfl
      rw [show atM (p :: o) 0 = .ok p by rw [atM_ok (Int.le_refl 0) (by rw [List.length_cons]; omega)]; rfl]
      simp only [okB]
      rw [List.length_cons] at hl hk ho
      obtain ⟨d', g1, g2, g3⟩ := tied_ok hd h (fun s s0 s1 => hp.2 p List.mem_cons_self s s0 s1) (by omega) (w := w) (by omega)
      rw [g3]
      simp only [okB]
      have hc3 := clos2 f p w
      rw [rep1_ok (by omega) (by omega), Int.toNat_natCast]
      simp only [okB]
      rw [cutL_from _ _ (by decide), show (p :: o).drop (1 : Int).toNat = o from rfl]
      rw [cby_ok o kf d' _ _ (by omega) (by omega) g1 (Td.spls _ h (hp.pr w)) (hp.tail w) (by omega)]
      simp only [okB]
      have hm := mxN_RR o (spls f (prs p w))
      have rp : row (clos f (prs p w)) (fun _ => (0 : Int)) = List.replicate (clos f (prs p w)) 0 := by
        unfold row
        rw [List.map_const', List.length_range]
      rw [rp, catM_ok (by rw [List.length_replicate, cnt_len]; omega)]
      simp only [okB]
      rw [cnt_shift (RR_ne _ _)]
      rw [cadded_ok (mxN_le' (B := 1000) fun x hx => by
        obtain ⟨v, _, hx⟩ := List.mem_flatMap.mp hx
        obtain ⟨n, hn, rfl⟩ := List.mem_map.mp hx
        have := mxN_le hn
        have := mxN_RR o (spls f (prs p v))
        have := clos2 f p v
        show n + clos f (prs p v) ≤ 1000
        omega) (by rw [mxN_add _ (RR_ne _ _)]; omega)]
      refine ⟨_, rfl, _, rfl, ?_⟩
      rw [List.range_succ, List.flatMap_append]
      simp
    · rintro _ rfl
      exact ⟨_, rfl, _, rfl, rfl⟩
theorem dget_enum (m : Nat) (f : Nat → Int) (x : Int) : dget (enumL (row m f)) x = if 0 ≤ x ∧ x < (m : Int) then some (f x.toNat) else none := by
  have e : enumL (row m f) = row m fun k => ((k : Int), f k) := by
    unfold enumL
    refine row_ext (by rw [List.length_map, List.length_zipIdx, row_len]) fun i hi => ?_
    rw [List.getElem?_map, List.getElem?_zipIdx, row_get hi]
    simp
  rw [e]
  unfold dget
  by_cases h : 0 ≤ x ∧ x < (m : Int)
  · rw [if_pos h]
    have : (row m fun k => ((k : Int), f k)).find? (fun p => decide (p.1 = x)) = some (x, f x.toNat) := by
      have key : ∀ (n : Nat), n ≤ m → x.toNat < n → (row n fun k => ((k : Int), f k)).find? (fun p => decide (p.1 = x)) = some (x, f x.toNat) := by
        intro n
        induction n with
        | zero => intro _ h; omega
        | succ n ih =>
          intro hn hx
          rw [row_succ, List.find?_append]
          by_cases q : x.toNat < n
          · rw [ih (by omega) q]; rfl
          · have e : n = x.toNat := by omega
            have : (row n fun k => ((k : Int), f k)).find? (fun p => decide (p.1 = x)) = none := by
              rw [List.find?_eq_none]
              intro p hp
              obtain ⟨k, hk, rfl⟩ := List.mem_map.mp hp
              have := List.mem_range.mp hk
              simp
              omega
            rw [this]
            subst e
            simp
            omega
      exact key m (Nat.le_refl _) (by omega)
    rw [this]; rfl
  · rw [if_neg h]
    have : (row m fun k => ((k : Int), f k)).find? (fun p => decide (p.1 = x)) = none := by
      rw [List.find?_eq_none]
      intro p hp
      obtain ⟨k, hk, rfl⟩ := List.mem_map.mp hp
      have := List.mem_range.mp hk
      simp
      omega
    rw [this]; rfl
def Dn (n : Nat) : Int → Prop := fun x => 0 ≤ x ∧ x < ((4 * n : Nat) : Int)
theorem td_net {n : Nat} {f : Nat → Int} (hf : Net (4 * n) f) (hf2 : ∀ i, i < 4 * n → f i ≠ i) : Td (Dn n) (fJ f) := fun x ⟨x0, x1⟩ => by
  obtain ⟨a, b, c, d⟩ := net_hJ hf hf2 x x0 x1
  exact ⟨⟨a, b⟩, d, c⟩
theorem pls_perm {n : Nat} {o : List Int} (h : o.Perm (row n fun k => (k : Int))) : Pls (Dn n) o := by
  have hn : (row n fun k => (k : Int)).Nodup := by
    unfold row
    rw [List.nodup_iff_pairwise_ne, List.pairwise_map]
    exact List.pairwise_lt_range.imp fun h => by omega
  refine ⟨h.nodup_iff.mpr hn, fun p hp s s0 s1 => ?_⟩
  obtain ⟨k, hk, rfl⟩ := List.mem_map.mp (h.mem_iff.mp hp)
  have := List.mem_range.mp hk
  unfold Dn
  omega
theorem counts_ok {n : Nat} (hn : n ≤ 6) {f : Nat → Int} (hf : Net (4 * n) f) (hf2 : ∀ i, i < 4 * n → f i ≠ i) {o : List Int} (ho : o.Perm (row n fun k => (k : Int))) : mir_counts_of (row (4 * n) f) ⟨some o⟩ = .ok (cnt (RR (fJ f) (row n fun k => (k : Int)))) ∧ mir_counts_of (row (4 * n) f) ⟨none⟩ = .ok (cnt (RR (fJ f) (row n fun k => (k : Int)))) := by
  have hp : mir_places_in (row (4 * n) f) = .ok (n : Int) := by
    apply Ev.eq
    unfold mir_places_in
    simp only [pureB, bindA, row_len]
    rw [show (((4 * n : Nat) : Int) / 4) = (n : Int) by omega]
    exact ⟨_, rfl, rfl⟩
  have hd : DT (⟨enumL (row (4 * n) f)⟩ : Dc Int Int) (Dn n) (fJ f) := ⟨fun x hx => by rw [dget_enum, if_pos (show 0 ≤ x ∧ x < ((4 * n : Nat) : Int) from hx)]; rfl, fun x hx => by rw [dget_enum, if_neg (show ¬ (0 ≤ x ∧ x < ((4 * n : Nat) : Int)) from hx)]⟩
  have hl : (enumL (row (4 * n) f)).length = 4 * n := by unfold enumL; rw [List.length_map, List.length_zipIdx, row_len]
  have main : ∀ o : List Int, o.Perm (row n fun k => (k : Int)) → mir_counts_by ⟨enumL (row (4 * n) f)⟩ o = .ok (cnt (RR (fJ f) (row n fun k => (k : Int)))) := fun o ho => by
    have hol : o.length = n := by rw [ho.length_eq, row_len]
    unfold mir_counts_by
    rw [cby_ok o 7 _ _ _ (by omega) (by omega) hd (td_net hf hf2) (pls_perm ho) (by rw [hl, hol]; omega)]
    rw [cnt_perm (RR_perm ho (td_net hf hf2) (pls_perm ho))]
  constructor
  · apply Ev.eq
    unfold mir_counts_of
    simp only [pureB, bindA]
    rw [hp]
    simp only [okB]
    rw [decide_eq_false (show ¬ ((6 : Int) < n) by omega)]
    simp only [Bool.false_eq_true, if_false, Option.isNone, thenC, pureB, ofO, okB]
    rw [main o ho]
    exact ⟨_, rfl, rfl⟩
  · apply Ev.eq
    unfold mir_counts_of
    simp only [pureB, bindA]
    rw [hp]
    simp only [okB]
    rw [decide_eq_false (show ¬ ((6 : Int) < n) by omega)]
    simp only [Bool.false_eq_true, if_false, Option.isNone, if_true]
    have hr : lrange 0 (n : Int) = .ok (row n fun k => (k : Int)) := by
      have : n = 0 ∨ n = 1 ∨ n = 2 ∨ n = 3 ∨ n = 4 ∨ n = 5 ∨ n = 6 := by omega
      rcases this with h | h | h | h | h | h | h <;> subst h <;> rfl
    rw [hr]
    simp only [okB, pureB, thenC, ofO]
    rw [main _ (List.Perm.refl _)]
    exact ⟨_, rfl, rfl⟩
end Law

/-! ## LGlnet: nets by cells -/
namespace Law
open PySem Ty
/-- a net of n places -/
def NN (n : Nat) (N : List Int) : Prop := ∃ f, N = row (4 * n) f ∧ Net (4 * n) f ∧ ∀ i, i < 4 * n → f i ≠ i
theorem rep0 (n : Nat) (hn : n ≤ 8) : repM [(0 : Int)] ((4 : Int) * n) = .ok (row (4 * n) fun _ => 0) := by
  rw [show (4 : Int) * n = ((4 * n : Nat) : Int) by omega, rep1_ok (by omega) (by omega), Int.toNat_natCast]
theorem lnet_ok (cs : List Int) (n : Nat) (hc : 1 ≤ cs.length) (hc2 : cs.length ≤ 1000) (hn : n ≤ 8) : Ev (mir__law_net cs n) (NN n) := by
  unfold mir__law_net
  simp only [pureB, bindA]
  rw [lrange_ok (by omega) (by omega)]
  simp only [okB, pureB]
  rw [lstM_ok (by simp)]
  simp only [okB]
  rw [rep0 n hn]
  simp only [okB, pureB]
  rw [range1_ok (by omega) (by omega), show (4 : Int) * n = ((4 * n : Nat) : Int) by omega]
  simp only [okB]
  refine Ev.run (Ev.loopN (fun k s => s.1.length = 4 * n - 2 * k ∧ ∃ f, s.2 = row (4 * n) f ∧ Prt (4 * n) s.1 f) ⟨by simp [rangeL]; omega, _, rfl, prt_start _ _⟩ ?_ ?_)
  · rintro i ⟨l, N⟩ hi ⟨h2, f, h4, h5⟩
    simp only at h2 h4 h5 ⊢
    subst h4
    match l, h2, h5 with
    | [], h2, _ => simp at h2; omega
    | a :: l, h2, h5 =>
      rw [popAtM_ok (by omega) (by simp <;> omega) (by omega)]
      simp only [okB, pureB]
      rw [show (a :: l).eraseIdx (Int.toNat 0) = l from rfl, show (a :: l).getD (Int.toNat 0) default = a from rfl]
      have hl : 1 ≤ l.length ∧ l.length ≤ 32 := by simp at h2; omega
      rw [modM_ok (by omega), divM_s (by omega) (by omega)]
      simp only [okB]
      have m0 : 0 ≤ (i : Int) % (cs.length : Int) := Int.emod_nonneg _ (by omega)
      have m1 : (i : Int) % (cs.length : Int) < cs.length := Int.emod_lt_of_pos _ (by omega)
      have d0 : 0 ≤ (i : Int) / (cs.length : Int) := Int.ediv_nonneg (by omega) (by omega)
      have d1 : (i : Int) / (cs.length : Int) ≤ i := Int.ediv_le_self _ (by omega)
      rw [atM_ok m0 m1]
      simp only [okB]
      rw [divM_s (by omega) (by omega)]
      simp only [okB]
      rw [modM_ok (by omega)]
      simp only [okB]
      generalize cs.getD ((i : Int) % (cs.length : Int)).toNat default / (1 + (i : Int) / (cs.length : Int)) = z
      have hj0 : 0 ≤ z % (l.length : Int) := Int.emod_nonneg _ (by omega)
      have hj1 : z % (l.length : Int) < l.length := Int.emod_lt_of_pos _ (by omega)
      generalize z % (l.length : Int) = j at hj0 hj1
      rw [popAtM_ok hj0 hj1 (by omega)]
      simp only [okB, pureB]
      have hj : j.toNat < l.length := by omega
      obtain ⟨q1, q2, q3, q4, q5⟩ := prt_step h5 hj
      have e : l.getD j.toNat default = l[j.toNat] := by rw [List.getD_eq_getElem?_getD, List.getElem?_eq_getElem hj]; rfl
      rw [e, ← bindA, set_tie q1 q2 q3 q4]
      refine ⟨_, rfl, _, rfl, ?_, _, rfl, q5⟩
      show (l.eraseIdx j.toNat).length = _
      rw [List.length_eraseIdx_of_lt hj]; simp at h2; omega
  · rintro ⟨l, N⟩ ⟨h2, f, h4, h5⟩
    simp only at h2 h4 h5
    have : l = [] := List.length_eq_zero_iff.mp (by omega)
    subst this h4
    have := prt_end h5
    exact ⟨_, rfl, _, rfl, f, rfl, this.1, this.2⟩
theorem dnet_ok (z : Int) (n : Nat) (hn : n ≤ 8) : Ev (mir__law_digit_net z n) (NN n) := by
  unfold mir__law_digit_net
  simp only [pureB, bindA]
  rw [lrange_ok (by omega) (by omega)]
  simp only [okB, pureB]
  rw [lstM_ok (by simp)]
  simp only [okB]
  rw [rep0 n hn]
  simp only [okB, pureB]
  rw [range1_ok (by omega) (by omega), show (4 : Int) * n = ((4 * n : Nat) : Int) by omega]
  simp only [okB]
  refine Ev.run (Ev.loopN (fun k s => s.1.length = 4 * n - 2 * k ∧ ∃ f, s.2.2 = row (4 * n) f ∧ Prt (4 * n) s.1 f) ⟨by simp [rangeL]; omega, _, rfl, prt_start _ _⟩ ?_ ?_)
  · rintro i ⟨l, y, N⟩ hi ⟨h2, f, h4, h5⟩
    simp only at h2 h4 h5 ⊢
    subst h4
    match l, h2, h5 with
    | [], h2, _ => simp at h2; omega
    | a :: l, h2, h5 =>
      rw [popAtM_ok (by omega) (by simp <;> omega) (by omega)]
      simp only [okB, pureB]
      rw [show (a :: l).eraseIdx (Int.toNat 0) = l from rfl, show (a :: l).getD (Int.toNat 0) default = a from rfl]
      have hl : 1 ≤ l.length ∧ l.length ≤ 32 := by simp at h2; omega
      rw [modM_ok (by omega)]
      simp only [okB]
      have hj0 : 0 ≤ y % (l.length : Int) := Int.emod_nonneg _ (by omega)
      have hj1 : y % (l.length : Int) < l.length := Int.emod_lt_of_pos _ (by omega)
      generalize y % (l.length : Int) = j at hj0 hj1
      have hj : j.toNat < l.length := by omega
      rw [popAtM_ok hj0 hj1 (by omega)]
      simp only [okB, pureB]
      rw [divM_s (by omega) (by rw [List.length_eraseIdx_of_lt hj]; omega)]
      simp only [okB, pureB]
      obtain ⟨q1, q2, q3, q4, q5⟩ := prt_step h5 hj
      have e : l.getD j.toNat default = l[j.toNat] := by rw [List.getD_eq_getElem?_getD, List.getElem?_eq_getElem hj]; rfl
      rw [e, ← bindA, set_tie q1 q2 q3 q4]
      refine ⟨_, rfl, _, rfl, ?_, _, rfl, q5⟩
      show (l.eraseIdx j.toNat).length = _
      rw [List.length_eraseIdx_of_lt hj]; simp at h2; omega
  · rintro ⟨l, y, N⟩ ⟨h2, f, h4, h5⟩
    simp only at h2 h4 h5
    have : l = [] := List.length_eq_zero_iff.mp (by omega)
    subst this h4
    have := prt_end h5
    exact ⟨_, rfl, _, rfl, f, rfl, this.1, this.2⟩
end Law

/-! ## LGmxc: cells for themselves or mixed -/
namespace Law
open PySem Ty
theorem mixc_ok (s : Scr) (h : s.l.length ≤ 63) {least : Int} (hle : 0 ≤ least) (hle2 : least ≤ 63) : Ev (mir__law_mixed s least) fun cs => least ≤ (cs.length : Int) ∧ cs.length ≤ 63 := by
  unfold mir__law_mixed
  simp only [pureB]
  generalize hn : (if (if (s.l.length : Int) < 63 then (s.l.length : Int) else 63) > least then (if (s.l.length : Int) < 63 then (s.l.length : Int) else 63) else least) = n
  have hn1 : least ≤ n ∧ 0 ≤ n ∧ n ≤ 63 := by
    rw [← hn]
    split <;> split <;> omega
  rw [lstM_ok (by simp), range1_ok (by omega) (by omega)]
  simp only [okB, pureB]
  refine Ev.run (Ev.loopL (fun pre (l : List Int) => l.length = pre.length) rfl ?_ ?_)
  · rintro pre x post l e p1
    have hx := mem_range1 (pre_mem e)
    have hp := pre_lt e
    rw [rangeL_len] at hp
    refine Ev.bind (P := fun c => ∃ v : Int, c = .nx v) (Ev.bif (fun hc => ?_) fun hc => ⟨_, rfl, _, rfl⟩) ?_
    · have hc := of_decide_eq_true hc
      rw [modM_ok hc]
      simp only [okB]
      rw [atM_ok (Int.emod_nonneg _ (by omega)) (Int.emod_lt_of_pos _ (by omega))]
      exact ⟨_, rfl, _, rfl⟩
    rintro _ ⟨v, rfl⟩
    simp only [thenCn]
    rw [mulM_ok (mulB_r (by omega) (by omega))]
    simp only [okB, pureB]
    rw [appM_ok (by omega)]
    exact Ev.ok ⟨_, rfl, by simp [p1]⟩
  · rintro l p1
    rw [rangeL_len] at p1
    exact Ev.ok ⟨_, rfl, by omega, by omega⟩
theorem cells2_ok (s : Scr) (h : s.l.length ≤ 63) {least : Int} (hle : 0 ≤ least) (hle2 : least ≤ 63) : Ev (mir__law_cells s least) fun cs => least ≤ (cs.length : Int) ∧ cs.length ≤ 63 := by
  unfold mir__law_cells
  simp only [pureB, bindA]
  have h1 : Ev (do
      let r ← mir__law_mixed s least
      (pure (.rt r) : M (Ctl Unit Empty (List Int)))) fun c => ∃ cs, c = .rt cs ∧ least ≤ (cs.length : Int) ∧ cs.length ≤ 63 :=
    Ev.bind (mixc_ok s h hle hle2) fun cs hcs => ⟨_, rfl, _, rfl, hcs⟩
  have h2 : Ev (do
      let made2 ← compM (cutL s.l none (some 63)) (fun _ => pure true) fun cell1 => do
        let a ← powM 10 60
        modM cell1 a
      let a ← lstM [(0 : Int)]
      let a ← repM a (least - (made2.length : Int))
      let r ← catM made2 a
      (pure (.rt r) : M (Ctl Unit Empty (List Int)))) fun c => ∃ cs, c = .rt cs ∧ least ≤ (cs.length : Int) ∧ cs.length ≤ 63 := by
    rw [cutL_to _ _ (by decide), List.take_of_length_le (by omega), compM_map (f := fun cell1 => do
        let a ← powM 10 60
        modM cell1 a) (fun x => x % 10 ^ 60) (by omega) (fun x _ => by
      rw [powM_ok (by decide +kernel)]
      simp only [okB]
      rw [modM_ok (by decide)]
      rfl)]
    simp only [okB, List.length_map]
    rw [lstM_ok (by simp)]
    simp only [okB]
    by_cases hc : least ≤ (s.l.length : Int)
    · have e : repM [(0 : Int)] (least - (s.l.length : Int)) = .ok [] := by
        unfold repM
        rw [show (least - (s.l.length : Int)).toNat = 0 by omega, decide_eq_true (show -(2 ^ 63) ≤ least - (s.l.length : Int) by omega), decide_eq_true (show least - (s.l.length : Int) < 2 ^ 63 by omega)]
        rfl
      rw [e]
      simp only [okB]
      rw [catM_ok (by rw [List.length_map, List.length_nil]; omega), List.append_nil]
      exact ⟨_, rfl, _, rfl, by rw [List.length_map]; exact hc, by rw [List.length_map]; exact h⟩
    · rw [rep1_ok (by omega) (by omega)]
      simp only [okB]
      rw [catM_ok (by rw [List.length_map, row_len]; omega)]
      exact ⟨_, rfl, _, rfl, by rw [List.length_append, List.length_map, row_len]; omega, by rw [List.length_append, List.length_map, row_len]; omega⟩
  refine Ev.run ?_
  by_cases h0 : (s.l.length : Int) = 0
  · rw [decide_eq_true h0]
    simp only [bOr, pureB, if_true, thenC, bindA]
    exact h1
  · rw [decide_eq_false h0]
    simp only [bOr, pureB, Bool.false_eq_true, if_false, bindA]
    rw [atM_ok (by omega) (by omega)]
    simp only [okB, pureB]
    by_cases h3 : s.l.getD (0 : Int).toNat default % 2 = 0
    · rw [decide_eq_true h3]
      simp only [if_true, thenC, bindA, pureB]
      exact h1
    · rw [decide_eq_false h3]
      simp only [Bool.false_eq_true, if_false]
      exact h2
end Law

/-! ## LGwthw: worths of counts -/
namespace Law
open PySem Ty Gf
/-- whole = whole * x + count -/
theorem row_cons {α : Type} (n : Nat) (f : Nat → α) : row (n + 1) f = f 0 :: row n fun k => f (k + 1) := by
  unfold row
  rw [List.range_succ_eq_map, List.map_cons, List.map_map]
  rfl
def wth (x : Int) : List Int → Int
  | [] => 0
  | c :: cs => wth x cs * x + c
theorem wth_rev (x : Int) (cs : List Int) : cs.reverse.foldl (fun s c => s * x + c) 0 = wth x cs := by
  induction cs with
  | nil => rfl
  | cons c cs ih => simp [List.foldl_append, wth, ih]
theorem worth_ok {cs : List Int} {x : Int} (h1 : -10 ^ 12 ≤ x) (h2 : x ≤ 10 ^ 12) : mir_worth_at cs x = .ok (wth x cs) := by
  unfold mir_worth_at
  simp only [pureB]
  rw [loop_all (fun s c => s * x + c)]
  · simp only [okB, thenLi, pureE, runRt, wth_rev]
  · intro c _ s
    rw [mulM_ok (mulB_r (by omega) (by omega))]
    rfl
theorem wth_add (x : Int) : ∀ (m : Nat) (f g : Nat → Int), wth x (row m fun k => f k + g k) = wth x (row m f) + wth x (row m g)
  | 0, f, g => rfl
  | m + 1, f, g => by
    rw [row_cons, row_cons, row_cons]
    show wth x (row m fun k => f (k + 1) + g (k + 1)) * x + (f 0 + g 0) = (wth x (row m fun k => f (k + 1)) * x + f 0) + (wth x (row m fun k => g (k + 1)) * x + g 0)
    rw [wth_add x m (fun k => f (k + 1)) fun k => g (k + 1), Int.add_mul]
    omega
theorem wth_no (x : Int) : ∀ m : Nat, wth x (row m fun _ => 0) = 0
  | 0 => rfl
  | m + 1 => by
    rw [row_cons]
    show wth x (row m fun _ => 0) * x + 0 = 0
    rw [wth_no x m]
    simp
theorem wth_delta (x : Int) : ∀ (m r : Nat), r < m → wth x (row m fun k => if r = k then 1 else 0) = x ^ r
  | 0, r, h => absurd h (by omega)
  | m + 1, 0, _ => by
    rw [row_cons]
    show wth x (row m fun k => if 0 = k + 1 then 1 else 0) * x + (if 0 = 0 then 1 else 0) = _
    rw [show (row m fun k => if 0 = k + 1 then (1 : Int) else 0) = row m fun _ => 0 from row_congr fun k _ => by rw [if_neg (by omega)], wth_no]
    simp
  | m + 1, r + 1, h => by
    rw [row_cons]
    show wth x (row m fun k => if r + 1 = k + 1 then 1 else 0) * x + (if r + 1 = 0 then 1 else 0) = _
    rw [show (row m fun k => if r + 1 = k + 1 then (1 : Int) else 0) = row m fun k => if r = k then 1 else 0 from row_congr fun k _ => by
      by_cases e : r = k
      · rw [if_pos e, if_pos (by omega)]
      · rw [if_neg e, if_neg (by omega)], wth_delta x m r (by omega), if_neg (by omega), Int.pow_succ]
    omega
theorem wth_count (x : Int) (m : Nat) : ∀ L : List Nat, (∀ r ∈ L, r < m) → wth x (row m fun k => (L.count k : Int)) = wv L x
  | [], _ => by
    show wth x (row m fun k => ((([] : List Nat).count k : Nat) : Int)) = 0
    rw [show (row m fun k => ((([] : List Nat).count k : Nat) : Int)) = row m fun _ => 0 from row_congr fun k _ => by simp, wth_no]
  | r :: L, h => by
    have ih := wth_count x m L fun y hy => h y (List.mem_cons_of_mem _ hy)
    rw [show (row m fun k => (((r :: L).count k : Nat) : Int)) = row m fun k => (if r = k then 1 else 0) + ((L.count k : Nat) : Int) from row_congr fun k _ => by
      rw [List.count_cons]
      by_cases e : r = k
      · rw [if_pos e, if_pos (by simpa using e)]; omega
      · rw [if_neg e, if_neg (by simpa using e)]; omega, wth_add, wth_delta x m r (h r List.mem_cons_self), ih]
    unfold wv
    rw [List.map_cons, List.sum_cons]
theorem wth_cnt (x : Int) (L : List Nat) : wth x (cnt L) = wv L x := wth_count x _ L fun r hr => by
  have := mxN_le hr
  omega
end Law

/-! ## LGbes: two nets side by side (k77) -/
namespace Law
open PySem Ty Gf
abbrev idr (n : Nat) : List Int := row n fun k => (k : Int)
/-- one net on the first places, the other one behind it -/
def besD (n1 : Nat) (f1 f2 : Nat → Int) (x : Int) : Int := if x < ((4 * n1 : Nat) : Int) then fJ f1 x else ((4 * n1 : Nat) : Int) + fJ f2 (x - ((4 * n1 : Nat) : Int))
theorem map_row {α β : Type} (m : Nat) (f : Nat → α) (g : α → β) : (row m f).map g = row m fun k => g (f k) := by
  unfold row
  rw [List.map_map]
  rfl
section
variable {n1 n2 : Nat} {f1 f2 : Nat → Int}
theorem bes_lo {x : Int} (h : x < ((4 * n1 : Nat) : Int)) : besD n1 f1 f2 x = fJ f1 x := if_pos h
theorem bes_hi {x : Int} (h : 0 ≤ x) : besD n1 f1 f2 (((4 * n1 : Nat) : Int) + x) = ((4 * n1 : Nat) : Int) + fJ f2 x := by
  unfold besD
  rw [if_neg (by omega), show ((4 * n1 : Nat) : Int) + x - ((4 * n1 : Nat) : Int) = x by omega]
theorem td_bes (t1 : Td (Dn n1) (fJ f1)) (t2 : Td (Dn n2) (fJ f2)) : Td (Dn (n1 + n2)) (besD n1 f1 f2) := by
  rintro x ⟨x0, x1⟩
  by_cases h : x < ((4 * n1 : Nat) : Int)
  · obtain ⟨⟨a, a'⟩, b, c⟩ := t1 x ⟨x0, h⟩
    rw [bes_lo h, bes_lo a']
    exact ⟨⟨a, by omega⟩, b, c⟩
  · obtain ⟨y, rfl⟩ : ∃ y, x = ((4 * n1 : Nat) : Int) + y := ⟨x - ((4 * n1 : Nat) : Int), by omega⟩
    obtain ⟨⟨a, a'⟩, b, c⟩ := t2 y ⟨by omega, by omega⟩
    rw [bes_hi (by omega), bes_hi a, c]
    exact ⟨⟨by omega, by omega⟩, by omega, rfl⟩
theorem idr_add (n1 n2 : Nat) : idr (n1 + n2) = idr n1 ++ (idr n2).map ((n1 : Int) + ·) := by
  refine (row_ext (by simp [row_len]) fun i hi => ?_).symm
  by_cases h : i < n1
  · rw [List.getElem?_append_left (by rw [row_len]; exact h), row_get h]
  · rw [List.getElem?_append_right (by rw [row_len]; omega), row_len, List.getElem?_map, row_get (by omega)]
    show some ((n1 : Int) + ((i - n1 : Nat) : Int)) = some (i : Int)
    congr 1
    omega
theorem RR_bes (t1 : Td (Dn n1) (fJ f1)) (t2 : Td (Dn n2) (fJ f2)) : RR (besD n1 f1 f2) (idr (n1 + n2)) = sumL (RR (fJ f1) (idr n1)) (RR (fJ f2) (idr n2)) := by
  have tb := td_bes t1 t2
  have p1 : Pls (Dn n1) (idr n1) := pls_perm (List.Perm.refl _)
  have p2 : Pls (Dn n2) (idr n2) := pls_perm (List.Perm.refl _)
  have pa : Pls (Dn (n1 + n2)) (idr (n1 + n2)) := pls_perm (List.Perm.refl _)
  rw [idr_add] at pa ⊢
  have pb : Pls (fun x => ((4 * n1 : Nat) : Int) ≤ x ∧ x < ((4 * (n1 + n2) : Nat) : Int)) ((idr n2).map ((n1 : Int) + ·)) := by
    refine ⟨(List.nodup_append.mp pa.1).2.1, fun p hp s s0 s1 => ?_⟩
    obtain ⟨q, hq, rfl⟩ := List.mem_map.mp hp
    obtain ⟨k, hk, rfl⟩ := List.mem_map.mp hq
    have := List.mem_range.mp hk
    omega
  rw [RR_beside pb (idr n1) tb ⟨(List.nodup_append.mp pa.1).1, fun p hp => pa.2 p (List.mem_append_left _ hp)⟩ (fun x hx => ⟨by omega, hx.2⟩) (fun x hx => ?_) fun p hp x hx => ?_]
  · rw [RR_congr (idr n1) t1 (fun x hx => (bes_lo hx.2).symm) p1]
    congr 1
    have e : ∀ x, phi ((n1 : Int) + ·) x = ((4 * n1 : Nat) : Int) + x := fun x => by
      unfold phi
      simp only
      omega
    exact RR_phi ((n1 : Int) + ·) (idr n2) (g := besD n1 f1 f2) t2 (fun x hx => by rw [e, e, bes_hi hx.1]) (fun x y _ _ h => by rw [e, e] at h; omega) p2
  · obtain ⟨y, rfl⟩ : ∃ y, x = ((4 * n1 : Nat) : Int) + y := ⟨x - ((4 * n1 : Nat) : Int), by omega⟩
    obtain ⟨⟨a, a'⟩, _⟩ := t2 y ⟨by omega, by omega⟩
    rw [bes_hi (by omega)]
    exact ⟨by omega, by omega⟩
  · obtain ⟨k, hk, rfl⟩ := List.mem_map.mp hp
    have := List.mem_range.mp hk
    omega
end
section
variable {n : Nat} {s : Nat → Int}
theorem spots_r (hs : (row n s).Perm (idr n)) : ∀ k, k < n → 0 ≤ s k ∧ s k < n := fun k hk => by
  obtain ⟨j, hj, e⟩ := List.mem_map.mp (hs.mem_iff.mp (List.mem_map.mpr ⟨k, List.mem_range.mpr hk, rfl⟩))
  have := List.mem_range.mp hj
  omega
theorem spots_i (hs : (row n s).Perm (idr n)) : ∀ i j, i < n → j < n → s i = s j → i = j := fun i j hi hj e => by
  have snd : (row n s).Nodup := hs.nodup_iff.mpr (pls_perm (n := n) (List.Perm.refl _)).1
  have a := List.getElem?_inj (i := i) (j := j) (by rw [row_len]; exact hi) snd
  rw [row_get hi, row_get hj] at a
  exact a.mp (by rw [e])
abbrev ph (s : Nat → Int) : Int → Int := phi (fun p => s p.toNat)
theorem ph_r (hs : (row n s).Perm (idr n)) {x : Int} (hx : Dn n x) : Dn n (ph s x) := by
  obtain ⟨x0, x1⟩ := hx
  have := spots_r hs (x / 4).toNat (by omega)
  unfold ph phi
  simp only
  exact ⟨by omega, by omega⟩
theorem ph_i (hs : (row n s).Perm (idr n)) {x y : Int} (hx : Dn n x) (hy : Dn n y) (e : ph s x = ph s y) : x = y := by
  obtain ⟨x0, x1⟩ := hx
  obtain ⟨y0, y1⟩ := hy
  unfold ph phi at e
  simp only at e
  have a := spots_r hs (x / 4).toNat (by omega)
  have b := spots_r hs (y / 4).toNat (by omega)
  have := spots_i hs (x / 4).toNat (y / 4).toNat (by omega) (by omega) (by omega)
  omega
theorem ph_s (hs : (row n s).Perm (idr n)) {y : Int} (hy : Dn n y) : ∃ x, Dn n x ∧ ph s x = y := by
  obtain ⟨y0, y1⟩ := hy
  have hm : ((y / 4).toNat : Int) ∈ row n s := hs.mem_iff.mpr (List.mem_map.mpr ⟨(y / 4).toNat, List.mem_range.mpr (by omega), rfl⟩)
  obtain ⟨k, hk, e⟩ := List.mem_map.mp hm
  have hk := List.mem_range.mp hk
  refine ⟨4 * (k : Int) + y % 4, ⟨by omega, by omega⟩, ?_⟩
  unfold ph phi
  simp only
  rw [show ((4 * (k : Int) + y % 4) / 4).toNat = k by omega, e]
  omega
end
/-- a net whose places have new numbers -/
theorem RR_spots {n : Nat} {s : Nat → Int} {h : Int → Int} {g : Nat → Int} (hs : (row n s).Perm (idr n)) (th : Td (Dn n) h) (hg : ∀ x : Nat, x < 4 * n → fJ g (ph s x) = ph s (h x)) :
    Net (4 * n) g ∧ (∀ i, i < 4 * n → g i ≠ i) ∧ (RR (fJ g) (idr n)).Perm (RR h (idr n)) := by
  have hgD : ∀ x, Dn n x → fJ g (ph s x) = ph s (h x) := fun x ⟨x0, x1⟩ => by
    have := hg x.toNat (by omega)
    rw [Int.toNat_of_nonneg x0] at this
    exact this
  have net : ∀ y, Dn n y → Dn n (fJ g y) ∧ fJ g y ≠ y ∧ fJ g (fJ g y) = y := fun y hy => by
    obtain ⟨x, hx, rfl⟩ := ph_s hs hy
    obtain ⟨a, b, c⟩ := th x hx
    rw [hgD x hx, hgD _ a, c]
    exact ⟨ph_r hs a, fun z => b (ph_i hs a hx z), rfl⟩
  have gN : ∀ i : Nat, g i = fJ g (i : Int) := fun i => by unfold fJ; rw [Int.toNat_natCast]
  refine ⟨fun i hi => ?_, fun i hi => ?_, ?_⟩
  · obtain ⟨⟨a, a'⟩, _, c⟩ := net (i : Int) ⟨by omega, by omega⟩
    rw [← gN] at a a' c
    exact ⟨a, a', c⟩
  · obtain ⟨_, b, _⟩ := net (i : Int) ⟨by omega, by omega⟩
    rw [← gN] at b
    exact b
  · have e := RR_phi (fun p => s p.toNat) (idr n) (g := fJ g) th hgD (fun x y hx hy q => ph_i hs hx hy q) (pls_perm (List.Perm.refl _))
    have e2 : (idr n).map (fun p => s p.toNat) = row n s := by
      show (row n fun k => (k : Int)).map (fun p => s p.toNat) = row n s
      rw [map_row]
      rfl
    rw [e2] at e
    have tg : Td (Dn n) (fJ g) := net
    rw [← e]
    exact RR_perm hs.symm tg (pls_perm (List.Perm.refl _))
end Law

/-! ## LGbes2: the law's product and its nets side by side (k77) -/
namespace Law
open PySem Ty Gf
theorem prod_ok {A B : List Nat} (hA : A ≠ []) (hB : B ≠ []) (lA : A.length ≤ 1000000) (mA : mxN A ≤ 100) (mB : mxN B ≤ 100) : mir__law_product (cnt A) (cnt B) = .ok (cnt (sumL A B)) := by
  apply Ev.eq
  unfold mir__law_product
  simp only [pureB, bindA, cnt_len]
  rw [lstM_ok (by simp)]
  simp only [okB]
  rw [rep1_ok (by omega) (by omega)]
  simp only [okB]
  rw [show (((mxN A + 1 : Nat) : Int) + ((mxN B + 1 : Nat) : Int) - 1).toNat = mxN A + mxN B + 1 by omega]
  rw [range1_ok (by omega) (by omega)]
  simp only [okB]
  refine Ev.run (Ev.loopN (fun i s => s = row (mxN A + mxN B + 1) fun k => pdt A B i k) (row_congr fun k _ => rfl) ?_ ?_)
  · rintro i _ hi rfl
    rw [range1_ok (by omega) (by omega)]
    simp only [okB]
    refine Ev.loopN (fun j s => s = row (mxN A + mxN B + 1) fun k => pdt A B i k + if i ≤ k ∧ k < i + j then (A.count i : Int) * (B.count (k - i) : Int) else 0) (row_congr fun k _ => ?_) ?_ ?_
    · rw [if_neg (by omega), Int.add_zero]
    · rintro j _ hj rfl
      rw [atM_row (by omega) (by omega)]
      simp only [okB]
      have ca : atM (cnt A) (i : Int) = .ok (A.count i : Int) := by unfold cnt; rw [atM_rowN (by omega)]
      have cb : atM (cnt B) (j : Int) = .ok (B.count j : Int) := by unfold cnt; rw [atM_rowN (by omega)]
      rw [ca]
      simp only [okB]
      rw [cb]
      simp only [okB]
      have hcl := List.count_le_length (a := i) (l := A)
      rw [mulM_ok (mulB_l (by omega) (by omega))]
      simp only [okB]
      rw [setM_row (by omega) (by omega)]
      refine ⟨_, rfl, _, rfl, row_congr fun k hk => ?_⟩
      rw [show ((i : Int) + (j : Int)).toNat = i + j by omega]
      by_cases h1 : k = i + j
      · subst h1
        rw [if_pos rfl, if_neg (by omega), if_pos (by omega), show i + j - i = j by omega]
        omega
      · rw [if_neg h1]
        by_cases h2 : i ≤ k ∧ k < i + j
        · rw [if_pos h2, if_pos (by omega)]
        · rw [if_neg h2, if_neg (by omega)]
    · rintro _ rfl
      refine ⟨_, rfl, _, rfl, row_congr fun k hk => ?_⟩
      rw [pdt_succ]
      congr 1
      rw [show ((mxN B + 1 : Nat) : Int).toNat = mxN B + 1 by omega]
      by_cases h1 : i ≤ k
      · rw [if_pos h1]
        by_cases h2 : k < i + (mxN B + 1)
        · rw [if_pos ⟨h1, h2⟩]
        · rw [if_neg fun z => h2 z.2, List.count_eq_zero_of_not_mem (a := k - i) (l := B) fun z => by have := mxN_le z; omega]
          simp
      · rw [if_neg h1, if_neg fun z => h1 z.1]
        simp
  · rintro _ rfl
    refine ⟨_, rfl, _, rfl, ?_⟩
    rw [show ((mxN A + 1 : Nat) : Int).toNat = mxN A + 1 by omega]
    unfold cnt
    rw [mxN_sumL hA hB]
    exact row_congr fun k _ => pdt_all A B k
theorem sortL_perm (n : Int) (m : Nat) : (L2.sortL n (m : Int)).Perm (idr m) := by
  unfold L2.sortL
  refine (List.mergeSort_perm _ _).trans ?_
  rw [range_row, Int.toNat_natCast]
/-- the spots: each place once -/
theorem idx_perm {l : List Int} {m : Nat} (h : l.Perm (idr m)) : (row m fun k => (l.idxOf (k : Int) : Int)).Perm (idr m) := by
  have nd : l.Nodup := h.nodup_iff.mpr (pls_perm (n := m) (List.Perm.refl _)).1
  have ll : l.length = m := by rw [h.length_eq, row_len]
  have e : l.map (fun k => (l.idxOf k : Int)) = idr m := by
    refine row_ext (by rw [List.length_map, ll]) fun i hi => ?_
    rw [List.getElem?_map, List.getElem?_eq_getElem (by omega)]
    show some ((l.idxOf l[i] : Nat) : Int) = some (i : Int)
    rw [List.Nodup.idxOf_getElem nd]
  have e2 : (row m fun k => (l.idxOf (k : Int) : Int)) = (idr m).map fun k => (l.idxOf k : Int) := by
    show _ = (row m fun k => (k : Int)).map fun k => (l.idxOf k : Int)
    rw [map_row]
  rw [e2]
  exact (h.symm.map _).trans (List.Perm.of_eq e)
theorem cutL_mid {α : Type} (xs : List α) (a b : Int) (h0 : 0 ≤ a) (h1 : a ≤ b) (h2 : b ≤ xs.length) : cutL xs (some a) (some b) = (xs.drop a.toNat).take (b.toNat - a.toNat) := by
  unfold cutL
  show (xs.drop (if a < 0 then _ else min a.toNat xs.length)).take ((if b < 0 then _ else min b.toNat xs.length) - (if a < 0 then _ else min a.toNat xs.length)) = _
  rw [if_neg (by omega), if_neg (by omega), Nat.min_eq_left (by omega), Nat.min_eq_left (by omega)]
theorem enum_row (m : Nat) (f : Nat → Int) : enumL (row m f) = row m fun k => ((k : Int), f k) := by
  unfold enumL
  refine row_ext (by rw [List.length_map, List.length_zipIdx, row_len]) fun i hi => ?_
  rw [List.getElem?_map, List.getElem?_zipIdx, row_get hi]
  simp
theorem ties_row (n1 n2 : Nat) (f1 f2 : Nat → Int) : (row (4 * n1) fun k => ((k : Int), f1 k)) ++ (row (4 * n2) fun k => (((4 * n1 : Nat) : Int) + (k : Int), ((4 * n1 : Nat) : Int) + f2 k)) = row (4 * (n1 + n2)) fun x => ((x : Int), besD n1 f1 f2 x) := by
  refine row_ext (by rw [List.length_append, row_len, row_len]; omega) fun i hi => ?_
  by_cases h : i < 4 * n1
  · rw [List.getElem?_append_left (by rw [row_len]; exact h), row_get h, bes_lo (by omega)]
    unfold fJ
    rw [Int.toNat_natCast]
  · rw [List.getElem?_append_right (by rw [row_len]; omega), row_len, row_get (by omega), show (i : Int) = ((4 * n1 : Nat) : Int) + ((i - 4 * n1 : Nat) : Int) by omega, bes_hi (by omega)]
    unfold fJ
    rw [Int.toNat_natCast]
theorem beside_ok {n1 n2 : Nat} {f1 f2 : Nat → Int} (hn : n1 + n2 ≤ 6) (t1 : Td (Dn n1) (fJ f1)) (t2 : Td (Dn n2) (fJ f2)) (b : Bool) :
    Ev (mir__law_beside (row (4 * n1) f1) (row (4 * n2) f2) b) fun N => ∃ g, N = row (4 * (n1 + n2)) g ∧ Net (4 * (n1 + n2)) g ∧ (∀ i, i < 4 * (n1 + n2) → g i ≠ i) ∧ (RR (fJ g) (idr (n1 + n2))).Perm (sumL (RR (fJ f1) (idr n1)) (RR (fJ f2) (idr n2))) := by
  unfold mir__law_beside
  simp only [pureB, bindA, row_len]
  rw [show ((4 * n1 : Nat) : Int) / 4 = (n1 : Int) by omega, show ((4 * n2 : Nat) : Int) / 4 = (n2 : Int) by omega, show (n1 : Int) + (n2 : Int) = ((n1 + n2 : Nat) : Int) by omega]
  have tb := td_bes t1 t2
  have rb := RR_bes t1 t2
  generalize hN : n1 + n2 = n at hn tb rb ⊢
  rw [lrange_ok (by omega) (by omega)]
  simp only [okB]
  refine Ev.run (Ev.bind (P := fun c => ∃ s : Nat → Int, c = .nx (row n s) ∧ (row n s).Perm (idr n)) ?_ ?_)
  · cases b with
    | false =>
      refine ⟨_, rfl, fun k => (k : Int), ?_, List.Perm.refl _⟩
      rw [range_row, Int.toNat_natCast]
    | true =>
      simp only [if_true]
      have e : sortLM (n1 : Int) ⟨0, (n : Int)⟩ = .ok (L2.sortL (n1 : Int) (n : Int)) := by
        unfold sortLM
        rw [decide_eq_true (show (0 : Int) ≤ (n : Int) by omega), decide_eq_true (show (n : Int) ≤ 16777216 by omega)]
        rfl
      rw [e]
      simp only [okB]
      rw [range1_ok (by omega) (by omega)]
      simp only [okB]
      have hp := sortL_perm (n1 : Int) n
      generalize L2.sortL (n1 : Int) (n : Int) = l at hp
      rw [comp_row (fun k => (l.idxOf (k : Int) : Int)) (by omega) fun k hk => lidx_ok (hp.mem_iff.mpr (List.mem_map.mpr ⟨k, List.mem_range.mpr (by omega), rfl⟩)), Int.toNat_natCast]
      exact ⟨_, rfl, _, rfl, idx_perm hp⟩
  rintro _ ⟨s, rfl, hs⟩
  simp only [thenC]
  rw [lstM_ok (by simp)]
  simp only [okB]
  rw [rep0 n (by omega)]
  simp only [okB]
  rw [enum_row, enum_row, compM_map (f := fun (e : Int × Int) => pure (e.1, e.2)) (fun x => x) (by rw [row_len]; omega) fun x _ => rfl]
  simp only [okB]
  rw [compM_map (f := fun (e : Int × Int) => pure ((4 : Int) * (n1 : Int) + e.1, (4 : Int) * (n1 : Int) + e.2)) (fun x => (((4 * n1 : Nat) : Int) + x.1, ((4 * n1 : Nat) : Int) + x.2)) (by rw [row_len]; omega) fun x _ => by rw [show (4 : Int) * (n1 : Int) = ((4 * n1 : Nat) : Int) by omega]; rfl]
  simp only [okB]
  rw [map_row, map_row, catM_ok (by rw [row_len, row_len]; omega)]
  simp only [okB]
  rw [ties_row, hN]
  refine Ev.loopL (fun pre N => ∃ g, N = row (4 * n) g ∧ ∀ x : Nat, x < pre.length → fJ g (ph s x) = ph s (besD n1 f1 f2 x)) ⟨_, rfl, fun x hx => absurd hx (by simp)⟩ ?_ ?_
  · rintro pre x post N e ⟨g, rfl, hg⟩
    obtain ⟨e1, rfl, _⟩ := row_pre e
    generalize hkk : pre.length = k at e1 hg
    have dk : Dn n (k : Int) := ⟨by omega, by omega⟩
    obtain ⟨dm, _, _⟩ := tb _ dk
    have pk := ph_r hs dk
    obtain ⟨dm0, dm1⟩ := dm
    simp only
    rw [atM_row (by omega) (by omega)]
    simp only [okB]
    rw [atM_row (by omega) (by omega)]
    simp only [okB]
    show Ev (setM (row (4 * n) g) (ph s (k : Int)) (ph s (besD n1 f1 f2 (k : Int))) >>= _) _
    rw [setM_row pk.1 pk.2]
    refine ⟨_, rfl, _, rfl, _, rfl, fun x hx => ?_⟩
    rw [List.length_append] at hx
    simp only [List.length_cons, List.length_nil, hkk] at hx
    show (if (ph s (x : Int)).toNat = (ph s (k : Int)).toNat then _ else g (ph s (x : Int)).toNat) = _
    by_cases hx' : x = k
    · subst hx'
      rw [if_pos rfl]
    · have dx : Dn n (x : Int) := ⟨by omega, by omega⟩
      have px := ph_r hs dx
      have ne : ph s (x : Int) ≠ ph s (k : Int) := fun z => hx' (by have := ph_i hs dx dk z; omega)
      obtain ⟨p0, _⟩ := px
      obtain ⟨q0, _⟩ := pk
      rw [if_neg (by omega)]
      exact hg x (by omega)
  · rintro N ⟨g, rfl, hg⟩
    rw [row_len] at hg
    obtain ⟨a, b, c⟩ := RR_spots hs tb hg
    rw [rb] at c
    exact ⟨_, rfl, _, rfl, g, rfl, a, b, c⟩
end Law

/-! ## k77 -/
namespace Law
open PySem Ty Gf
theorem rowis_ok (l : List Int) : mir__law_row_is l l = .ok true := by
  apply Ev.eq
  unfold mir__law_row_is
  simp only [pureB, bindA, bNot, bOr, Bool.not_true, Bool.false_eq_true, if_false, decide_true]
  refine Ev.run (Ev.loopL (fun _ _ => True) trivial (fun pre x post s e _ => ?_) fun s _ => ?_)
  · exact ⟨_, rfl, _, rfl, trivial⟩
  · rw [eqM_ok, decide_eq_true rfl]
    exact ⟨_, rfl, _, rfl, rfl⟩
theorem wv_b {x : Int} (h1 : -20 ≤ x) (h2 : x ≤ 20) : ∀ (L : List Nat), (∀ r ∈ L, r ≤ 6) → (wv L x).natAbs ≤ L.length * 64000000
  | [], _ => by simp [wv]
  | r :: L, h => by
    have ih := wv_b h1 h2 L fun y hy => h y (List.mem_cons_of_mem _ hy)
    have hr := h r List.mem_cons_self
    have e : wv (r :: L) x = x ^ r + wv L x := by unfold wv; rw [List.map_cons, List.sum_cons]
    have p : (x ^ r).natAbs ≤ 64000000 := by
      rw [Int.natAbs_pow]
      exact Nat.le_trans (Nat.pow_le_pow_left (show x.natAbs ≤ 20 by omega) r) (Nat.le_trans (Nat.pow_le_pow_right (by decide) hr) (by decide))
    rw [e, List.length_cons]
    have := Int.natAbs_add_le (x ^ r) (wv L x)
    omega
theorem law_true (ns : List Int) (hl : ns.length ≤ 63) : mir_law ⟨ns⟩ = .ok true := by
  apply Ev.eq
  unfold mir_law
  simp only [pureB, bindA, bNot]
  refine Ev.run (Ev.bind (cells2_ok ⟨ns⟩ hl (by decide) (by decide)) fun cs hcs => ?_)
  have c0 : atM cs 0 = .ok (cs.getD (0 : Int).toNat default) := atM_ok (by decide) (by omega)
  rw [c0]
  simp only [okB]
  generalize cs.getD (0 : Int).toNat default = z at c0
  obtain ⟨n1, hn1, hn1a, hn1b⟩ : ∃ n : Nat, 1 + z / 2 % 3 = (n : Int) ∧ 1 ≤ n ∧ n ≤ 3 := ⟨(1 + z / 2 % 3).toNat, by omega, by omega, by omega⟩
  obtain ⟨n2, hn2, hn2a, hn2b⟩ : ∃ n : Nat, 1 + z / 6 % 3 = (n : Int) ∧ 1 ≤ n ∧ n ≤ 3 := ⟨(1 + z / 6 % 3).toNat, by omega, by omega, by omega⟩
  rw [hn1, hn2, cutL_mid _ _ _ (by decide) (by decide) (by omega), cutL_mid _ _ _ (by decide) (by decide) (by omega)]
  refine Ev.bind (lnet_ok _ n1 (by rw [List.length_take, List.length_drop]; omega) (by rw [List.length_take, List.length_drop]; omega) (by omega)) fun N1 hN1 => ?_
  refine Ev.bind (lnet_ok _ n2 (by rw [List.length_take, List.length_drop]; omega) (by rw [List.length_take, List.length_drop]; omega) (by omega)) fun N2 hN2 => ?_
  refine Ev.bind (P := fun _ => True) ?_ fun b _ => ?_
  · by_cases h0 : (0 : Int) < (ns.length : Int)
    · rw [decide_eq_true h0]
      simp only [bAnd, pureB, if_true]
      rw [atM_ok (by decide) (by omega)]
      exact ⟨_, rfl, trivial⟩
    · rw [decide_eq_false h0]
      exact ⟨_, rfl, trivial⟩
  refine Ev.bind (P := fun c => ∃ N1 N2, c = .nx (N1, N2) ∧ NN n1 N1 ∧ NN n2 N2) (Ev.bif (fun hc => ?_) fun hc => ⟨_, rfl, _, _, rfl, hN1, hN2⟩) ?_
  · rw [atM_ok (by decide) (by omega)]
    simp only [okB]
    refine Ev.bind (dnet_ok _ n1 (by omega)) fun N1 h1 => ?_
    rw [atM_ok (by decide) (by omega)]
    simp only [okB]
    exact Ev.bind (dnet_ok _ n2 (by omega)) fun N2 h2 => ⟨_, rfl, _, _, rfl, h1, h2⟩
  clear hN1 hN2 N1 N2
  rintro _ ⟨_, _, rfl, ⟨f1, rfl, a1, b1⟩, ⟨f2, rfl, a2, b2⟩⟩
  simp only [thenC]
  have t1 := td_net a1 b1
  have t2 := td_net a2 b2
  refine Ev.bind (beside_ok (by omega) t1 t2 _) ?_
  rintro _ ⟨g, rfl, ag, bg, pg⟩
  have k1 := (counts_ok (show n1 ≤ 6 by omega) a1 b1 (List.Perm.refl _)).2
  have k2 := (counts_ok (show n2 ≤ 6 by omega) a2 b2 (List.Perm.refl _)).2
  have kg := fun o ho => counts_ok (show n1 + n2 ≤ 6 by omega) ag bg (o := o) ho
  have l1 : (RR (fJ f1) (row n1 fun k => (k : Int))).length = 3 ^ n1 := by rw [RR_len, row_len]
  have l2 : (RR (fJ f2) (row n2 fun k => (k : Int))).length = 3 ^ n2 := by rw [RR_len, row_len]
  have e1 := RR_ne (row n1 fun k => (k : Int)) (fJ f1)
  have e2 := RR_ne (row n2 fun k => (k : Int)) (fJ f2)
  have m1 := mxN_RR (row n1 fun k => (k : Int)) (fJ f1)
  have m2 := mxN_RR (row n2 fun k => (k : Int)) (fJ f2)
  rw [row_len] at m1 m2
  have cg := cnt_perm pg
  generalize RR (fJ f1) (row n1 fun k => (k : Int)) = A at k1 l1 e1 m1 pg cg
  generalize RR (fJ f2) (row n2 fun k => (k : Int)) = B at k2 l2 e2 m2 pg cg
  generalize RR (fJ g) (row (n1 + n2) fun k => (k : Int)) = G at kg pg cg
  have p27 : ∀ n : Nat, n ≤ 3 → 3 ^ n ≤ 27 := fun n hn => Nat.pow_le_pow_right (by decide) hn
  have q1 := p27 n1 hn1b
  have q2 := p27 n2 hn2b
  rw [k1]
  simp only [okB]
  rw [k2]
  simp only [okB]
  rw [lstM_ok (by simp)]
  simp only [okB]
  refine Ev.loopL (fun _ _ => True) trivial ?_ ?_
  · rintro pre x post s e _
    rw [rowis_ok]
    exact ⟨_, rfl, _, rfl, trivial⟩
  rintro s _
  rw [show atM [cnt A, cnt B] 0 = .ok (cnt A) from rfl, show atM [cnt A, cnt B] 1 = .ok (cnt B) from rfl]
  simp only [okB]
  rw [prod_ok e1 e2 (by omega) (by omega) (by omega)]
  simp only [okB, row_len]
  rw [show ((4 * (n1 + n2) : Nat) : Int) / 4 = ((n1 + n2 : Nat) : Int) by omega]
  have c1 : atM cs 1 = .ok (cs.getD (1 : Int).toNat default) := atM_ok (by decide) (by omega)
  rw [c1]
  simp only [okB]
  generalize cs.getD (1 : Int).toNat default = y
  rw [modM_ok (by omega)]
  simp only [okB]
  have y0 : 0 ≤ y % ((n1 + n2 : Nat) : Int) := Int.emod_nonneg _ (by omega)
  generalize y % ((n1 + n2 : Nat) : Int) = t at y0
  rw [lrange_ok (by omega) (by omega)]
  simp only [okB]
  rw [cutL_from _ _ y0, cutL_to _ _ y0, catM_ok (by simp; rw [rangeL_len]; omega)]
  simp only [okB]
  have ho : ((rangeL 0 ((n1 + n2 : Nat) : Int)).drop t.toNat ++ ((rangeL 0 ((n1 + n2 : Nat) : Int)).take t.toNat).reverse).Perm (row (n1 + n2) fun k => (k : Int)) := by
    rw [range_row, Int.toNat_natCast]
    refine ((List.Perm.append_left _ (List.reverse_perm _)).trans List.perm_append_comm).trans ?_
    rw [List.take_append_drop]
  rw [(kg _ ho).2]
  simp only [okB]
  rw [(kg _ ho).1, cg]
  simp only [okB]
  rw [rowis_ok]
  simp only [okB, bOr, pureB, Bool.not_true, Bool.false_eq_true, if_false]
  have c2 : atM cs 2 = .ok (cs.getD (2 : Int).toNat default) := atM_ok (by decide) (by omega)
  rw [c2]
  simp only [okB]
  generalize cs.getD (2 : Int).toNat default = v
  have v1 : -20 ≤ v % 41 - 20 := by omega
  have v2 : v % 41 - 20 ≤ 20 := by omega
  generalize v % 41 - 20 = x at v1 v2
  rw [worth_ok (by omega) (by omega), worth_ok (by omega) (by omega), worth_ok (by omega) (by omega), wth_cnt, wth_cnt, wth_cnt, wv_sumL]
  simp only [okB]
  have hb := wv_b v1 v2 A fun r hr => by have := mxN_le hr; omega
  rw [mulM_ok (mulB_l (by omega) (by omega))]
  exact ⟨_, rfl, _, rfl, by simp⟩
end Law

open PySem PySem.W PySem.Calls PyProof.Rows
set_option maxRecDepth 100000 in
set_option maxHeartbeats 0 in
theorem PySem.Challenge.cw_fourway_k77_whole_parted_nets_holds : PySem.Challenge.rw_fourway_k77_whole_parted_nets.Holds := by
  w_on; o_law
  refine HandSHeadRun.head_any (r := OpenLaw.row PySem.Challenge.rw_fourway_k77_whole_parted_nets) (q := view (OpenLaw.row PySem.Challenge.rw_fourway_k77_whole_parted_nets).prog [23]) (H := Law.hk) (ob := Law.ob) (M := 4000) (loose := (["RoundError", "TooMany", "JOINS", "joined", "places_in", "MOST", "added", "tied_on", "counts_by", "counts_of", "worth_at", "_law_mixed", "_law_cells", "_law_net", "_law_digit_net", "_law_row_is", "_law_beside", "_law_product"] : List PySem.Str)) (d := HandSHeadRun.topDef (OpenLaw.row PySem.Challenge.rw_fourway_k77_whole_parted_nets).prog 23) (kwd := []) Law.ob_eq
    (by kernel_rfl) (fun s => by kernel_rfl) Law.run (by kernel_rfl) (by kernel_rfl) (by kernel_rfl) (by rfl) (by first | assumption | decide +kernel) (by decide +kernel) ⟨rfl, rfl, rfl, rfl, rfl, by decide +kernel⟩ ?hw ?hc
  case hw => w_witness2
  case hc =>
    refine LamX.walk_ofTsE (l := PySem.Challenge.rw_fourway_k77_whole_parted_nets) (n := 63) (k := 12) (x := "_law_script") (CX := fun _ => L2.CX0) rfl (by decide) (by kernel_rfl) ⟨rfl, by decide, by decide⟩ ?F (fun _ _ _ _ _ z => z)
    intro w mg fa h Y G hmg0
    obtain ⟨K, KX, c⟩ := Y
    have hmg : mg ("law" : PySem.Str) = some (.ref fa) := by
      have e : (HandSHeadRun.topDef (OpenLaw.row PySem.Challenge.rw_fourway_k77_whole_parted_nets).prog 23).name = ("law" : PySem.Str) := by kernel_rfl
      rw [← e]
      exact hmg0
    obtain ⟨fd, hb, hF⟩ := Law.facts (P := (PySem.Challenge.rw_fourway_k77_whole_parted_nets).prog) (w := w) KX G hmg c
    have tm : Law.tbD ∈ [Law.tbD] := List.mem_singleton.mpr rfl
    exact ⟨K, KX, fd, [He.cT K Law.tbD], Law.sp_law K, fun p hp => by rw [List.mem_singleton.mp hp]; exact c.empty _ tm, fun p hp => by rw [List.mem_singleton.mp hp]; exact c.out _ tm, fun p hp => by rw [List.mem_singleton.mp hp]; exact PySem.W.codeHd_of_K KX (c.hd _ tm), hb,
      fun H a ns hl hb hT hS => Ty.law_startT (Law.law_true ns hl) (hT _ (List.mem_singleton.mpr rfl)) hS, fun base hK hG hT => hF base hK hG (hT _ (List.mem_singleton.mpr rfl))⟩

