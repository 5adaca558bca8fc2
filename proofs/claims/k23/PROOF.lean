import PyProof.Rows.All
import Wide.All
import OpenK.AllK
import Wide.FinOn
import HandS.ForMost
import HandS.IsInst
import HandS.Wide
import HandS.Defaults
import HandS.More
import HandS.WordsExc
import HandS.Conv
import HandS.SortInts
import HandS.NoneIn
import HandS.HeadHook4
import HandS.TupLe
import HandS.Zip
import HandS.WordsDict
import HandS.Rev
import HandS.Exc
import HandS.ExcOwn
import HandS.ExcIs
import HandS.HeadHook1
import HandS.SetFor
import HandS.Strs
import HandS.Deep
import HandS.HotCalls
import HandS.StrMore
import HandS.ExcInit
import HandS.ExcField
import KE.KExcIs
import HandS.Head0
import HandS.Head1
import HandS.Head2
import HandS.HeadEnd
import HandS.HeadHook2
import HandS.HeadNt
import HandS.EndBits
import PyProof.ListStr
import KE.KRevSl
import HandS.Style
import KE.DatumOrd
import HandS.SetKeys
import HandS.RevTup
import PyProof.JoinWalk
import PyProof.Rows.CountFlat
import PyProof.CollectStr
import KE.KDictZip
import HandS.RevRange
import PyProof.FactsAll.range_iterator_1
import KE.KDictList
import KE.KDictSum
import KE.DataMinMax
import KE.SortData
import PyProof.TupleOfSeq
import PyProof.EqAt
import HandS.CallLocal
import HandS.CallSlots
import KE.KDictDisplayH
import KE.KSortTupG
import KE.KSortTupUse
import HandS.TupSets
import KE.GoesMore
import HandS.HeadHook3
import HandS.ExcValue
import KE.KDictKeyed
import HandS.DictComp
import PySem.Challenge.RW_fourway_k23_what_is_a_table
set_option Elab.async false
set_option linter.all false
set_option maxRecDepth 100000
namespace Ty
open PySem L2

/-! ### the mirror's monad -/
inductive Err where
  | no
  | exc (c : Nat) (i : Int) (x : Str)
abbrev M := Except Err
def no {α : Type} : M α := .error .no
def gd (b : Bool) : M Unit := if b then .ok () else .error .no
def ofO {α : Type} : Option α → M α
  | some a => .ok a
  | none => .error .no
theorem bind_ok {α β : Type} {m : M α} {k : α → M β} {b : β} (h : (m >>= k) = .ok b) : ∃ a, m = .ok a ∧ k a = .ok b := by
  cases m with
  | error e => cases h
  | ok a => exact ⟨a, rfl, h⟩
theorem gd_ok {b : Bool} {u : Unit} (h : gd b = .ok u) : b = true := by
  cases b with
  | true => rfl
  | false => cases h
theorem ofO_ok {α : Type} {o : Option α} {a : α} (h : ofO o = .ok a) : o = some a := by
  cases o with
  | none => cases h
  | some x => cases h; rfl
theorem pure_ok {α : Type} {a b : α} (h : (pure a : M α) = .ok b) : a = b := by
  cases h; rfl

/-! ### what stands for a Lean value -/
class Rp (α : Type) where
  sh : PySem.W.Frag → Hp → V → α → Prop
  mono : ∀ {K : PySem.W.Frag} {H H' : Hp} {v : V} {a : α}, Same H H' → sh K H v a → sh K H' v a
/-- a value that needs no heap -/
class Fl (α : Type) extends Rp α where
  enc : α → V
  sh_iff : ∀ {K : PySem.W.Frag} {H : Hp} {v : V} {a : α}, sh K H v a ↔ v = enc a
@[reducible] def flOf {α : Type} (enc : α → V) : Fl α where
  sh _ _ v a := v = enc a
  mono _ h := h
  enc := enc
  sh_iff := Iff.rfl
instance : Fl Int := flOf V.int
instance : Fl Bool := flOf V.bl
instance : Fl Str := flOf V.str
instance : Fl Unit := flOf fun _ => V.non
instance : Fl (Option Int) := flOf fun o => match o with
  | some i => .int i
  | none => .non
instance : Fl (Option Str) := flOf fun o => match o with
  | some i => .str i
  | none => .non

def Fa {α : Type} (R : V → α → Prop) : List V → List α → Prop
  | [], [] => True
  | v :: vs, a :: as => R v a ∧ Fa R vs as
  | _, _ => False
theorem Fa.mono {α : Type} {R R' : V → α → Prop} (h : ∀ v a, R v a → R' v a) : ∀ {vs : List V} {as : List α}, Fa R vs as → Fa R' vs as
  | [], [], _ => True.intro
  | v :: vs, a :: as, ⟨x, y⟩ => ⟨h _ _ x, Fa.mono h y⟩
  | [], _ :: _, x => x.elim
  | _ :: _, [], x => x.elim
theorem Fa.len {α : Type} {R : V → α → Prop} : ∀ {vs : List V} {as : List α}, Fa R vs as → vs.length = as.length
  | [], [], _ => rfl
  | v :: vs, a :: as, ⟨_, y⟩ => congrArg (· + 1) (Fa.len y)
  | [], _ :: _, x => x.elim
  | _ :: _, [], x => x.elim
theorem Fa.get {α : Type} {R : V → α → Prop} : ∀ {vs : List V} {as : List α} {i : Nat} {v : V}, Fa R vs as → vs[i]? = some v → ∃ a, as[i]? = some a ∧ R v a
  | v :: vs, a :: as, 0, w, ⟨x, _⟩, e => by
    have e' : v = w := Option.some.inj e
    exact ⟨a, rfl, e' ▸ x⟩
  | v :: vs, a :: as, i + 1, w, ⟨_, y⟩, e => Fa.get (i := i) y e
  | [], _, _, _, _, e => by simp at e
  | _ :: _, [], _, _, x, _ => x.elim
theorem Fa.get' {α : Type} {R : V → α → Prop} : ∀ {vs : List V} {as : List α} {i : Nat} {a : α}, Fa R vs as → as[i]? = some a → ∃ v, vs[i]? = some v ∧ R v a
  | v :: vs, a :: as, 0, w, ⟨x, _⟩, e => by
    have e' : a = w := Option.some.inj e
    exact ⟨v, rfl, e' ▸ x⟩
  | v :: vs, a :: as, i + 1, w, ⟨_, y⟩, e => Fa.get' (i := i) y e
  | _, [], _, _, _, e => by simp at e
  | [], _ :: _, _, _, x, _ => x.elim
theorem Fa.append {α : Type} {R : V → α → Prop} : ∀ {vs ws : List V} {as bs : List α}, Fa R vs as → Fa R ws bs → Fa R (vs ++ ws) (as ++ bs)
  | [], _, [], _, _, h => h
  | v :: vs, _, a :: as, _, ⟨x, y⟩, h => ⟨x, Fa.append y h⟩
  | [], _, _ :: _, _, x, _ => x.elim
  | _ :: _, _, [], _, x, _ => x.elim
theorem Fa.take {α : Type} {R : V → α → Prop} : ∀ (n : Nat) {vs : List V} {as : List α}, Fa R vs as → Fa R (vs.take n) (as.take n)
  | 0, _, _, _ => by simp only [List.take_zero]; exact True.intro
  | n + 1, [], [], _ => True.intro
  | n + 1, v :: vs, a :: as, ⟨x, y⟩ => ⟨x, Fa.take n y⟩
  | _ + 1, [], _ :: _, x => x.elim
  | _ + 1, _ :: _, [], x => x.elim
theorem Fa.drop {α : Type} {R : V → α → Prop} : ∀ (n : Nat) {vs : List V} {as : List α}, Fa R vs as → Fa R (vs.drop n) (as.drop n)
  | 0, _, _, h => h
  | n + 1, [], [], _ => True.intro
  | n + 1, v :: vs, a :: as, ⟨_, y⟩ => Fa.drop n y
  | _ + 1, [], _ :: _, x => x.elim
  | _ + 1, _ :: _, [], x => x.elim
theorem Fa.set {α : Type} {R : V → α → Prop} {v : V} {a : α} (h : R v a) : ∀ {vs : List V} {as : List α} (i : Nat), Fa R vs as → Fa R (vs.set i v) (as.set i a)
  | [], [], _, _ => True.intro
  | w :: vs, b :: as, 0, ⟨_, y⟩ => ⟨h, y⟩
  | w :: vs, b :: as, i + 1, ⟨x, y⟩ => ⟨x, Fa.set h i y⟩
  | [], _ :: _, _, x => x.elim
  | _ :: _, [], _, x => x.elim
theorem Fa.reverse {α : Type} {R : V → α → Prop} : ∀ {vs : List V} {as : List α}, Fa R vs as → Fa R vs.reverse as.reverse
  | [], [], _ => True.intro
  | v :: vs, a :: as, ⟨x, y⟩ => by
    rw [List.reverse_cons, List.reverse_cons]
    exact Fa.append (Fa.reverse y) ⟨x, True.intro⟩
  | [], _ :: _, x => x.elim
  | _ :: _, [], x => x.elim
theorem Fa.rep {α : Type} {R : V → α → Prop} {vs : List V} {as : List α} (h : Fa R vs as) : ∀ k : Nat, Fa R (List.replicate k vs).flatten (List.replicate k as).flatten
  | 0 => True.intro
  | k + 1 => by
    rw [List.replicate_succ, List.replicate_succ, List.flatten_cons, List.flatten_cons]
    exact Fa.append h (Fa.rep h k)
theorem Fa.flat {α : Type} [Fl α] {K : PySem.W.Frag} {H : Hp} : ∀ {vs : List V} {as : List α}, Fa (Rp.sh K H) vs as ↔ vs = as.map Fl.enc
  | [], [] => ⟨fun _ => rfl, fun _ => True.intro⟩
  | v :: vs, a :: as => by
    show (Rp.sh K H v a ∧ Fa (Rp.sh K H) vs as) ↔ _
    rw [Fl.sh_iff, Fa.flat (vs := vs) (as := as)]
    simp
  | [], _ :: _ => ⟨fun x => x.elim, fun e => by simp at e⟩
  | _ :: _, [] => ⟨fun x => x.elim, fun e => by simp at e⟩

instance rpList {α : Type} [Rp α] : Rp (List α) where
  sh K H v as := ∃ p vs, v = .ref p ∧ H p = some (.lst vs) ∧ Fa (Rp.sh K H) vs as
  mono := fun {K H H' v a} e ⟨p, vs, h1, h2, h3⟩ => ⟨p, vs, h1, e _ _ h2, Fa.mono (fun _ _ h => Rp.mono e h) h3⟩
theorem sqT_mono {K : PySem.W.Frag} {H H' : Hp} {a : Addr} {xs : List V} (e : Same H H') (h : SqT K H a xs) : SqT K H' a xs := by
  rcases h with (h | ⟨o, h⟩) | h
  · exact .inl (.inl (e _ _ h))
  · exact .inl (.inr ⟨o, e _ _ h⟩)
  · exact .inr h
instance rpPair {α β : Type} [Rp α] [Rp β] : Rp (α × β) where
  sh K H v x := ∃ p va vb, v = .ref p ∧ SqT K H p [va, vb] ∧ Rp.sh K H va x.1 ∧ Rp.sh K H vb x.2
  mono := fun {K H H' v a} e ⟨p, va, vb, h1, h2, h3, h4⟩ => ⟨p, va, vb, h1, sqT_mono e h2, Rp.mono e h3, Rp.mono e h4⟩
structure T3 (α β γ : Type) where
  a : α
  b : β
  c : γ
  deriving DecidableEq
instance rpT3 {α β γ : Type} [Rp α] [Rp β] [Rp γ] : Rp (T3 α β γ) where
  sh K H v x := ∃ p va vb vc, v = .ref p ∧ SqT K H p [va, vb, vc] ∧ Rp.sh K H va x.a ∧ Rp.sh K H vb x.b ∧ Rp.sh K H vc x.c
  mono := fun {K H H' v a} e ⟨p, va, vb, vc, h1, h2, h3, h4, h5⟩ => ⟨p, va, vb, vc, h1, sqT_mono e h2, Rp.mono e h3, Rp.mono e h4, Rp.mono e h5⟩
/-- a tuple of things of one kind -/
structure Tu (α : Type) where
  l : List α
  deriving DecidableEq
instance rpTu {α : Type} [Rp α] : Rp (Tu α) where
  sh K H v x := ∃ p vs, v = .ref p ∧ SqT K H p vs ∧ Fa (Rp.sh K H) vs x.l
  mono := fun {K H H' v a} e ⟨p, vs, h1, h2, h3⟩ => ⟨p, vs, h1, sqT_mono e h2, Fa.mono (fun _ _ h => Rp.mono e h) h3⟩
/-- the script: a list of ints that is only read -/
structure Scr where
  l : List Int
instance : Rp Scr where
  sh K H v x := ∃ p, v = .ref p ∧ SqL K H p (x.l.map V.int)
  mono := fun e ⟨p, h1, h2⟩ => ⟨p, h1, e.seq h2⟩

/-! ### what is owned -/
structure Ow (α : Type) [Rp α] where
  rep : PySem.W.Frag → Hp → Hp → V → α → List Addr → Prop
  mono : ∀ {K : PySem.W.Frag} {HF HF' H H' : Hp} {v : V} {a : α} {fp : List Addr}, Same HF HF' → (∀ p ∈ fp, ∀ o, H p = some o → H' p = some o) → rep K HF H v a fp → rep K HF' H' v a fp
  dom : ∀ {K : PySem.W.Frag} {HF H : Hp} {v : V} {a : α} {fp : List Addr}, rep K HF H v a fp → ∀ p ∈ fp, ∃ o, H p = some o
  frz : ∀ {K : PySem.W.Frag} {HF HF' H : Hp} {v : V} {a : α} {fp : List Addr}, Same HF HF' → (∀ p ∈ fp, ∀ o, H p = some o → HF' p = some o) → rep K HF H v a fp → Rp.sh K HF' v a
  out : α → (V → Hp → Prop) → V → Hp → Prop := fun _ R v H => R v H
def Ow.v {α : Type} [Rp α] : Ow α where
  rep K HF _ v a fp := Rp.sh K HF v a ∧ fp = []
  mono := fun e _ ⟨h, f⟩ => ⟨Rp.mono e h, f⟩
  dom := fun ⟨_, f⟩ p hp => by subst f; cases hp
  frz := fun e _ ⟨h, _⟩ => Rp.mono e h
def Rl {α : Type} (R : V → α → List Addr → Prop) : List V → List α → List Addr → Prop
  | [], [], fp => fp = []
  | v :: vs, a :: as, fp => ∃ f1 f2, fp = f1 ++ f2 ∧ R v a f1 ∧ Rl R vs as f2
  | _, _, _ => False
theorem Rl.mono {α : Type} {R R' : V → α → List Addr → Prop} : ∀ {vs : List V} {as : List α} {fp : List Addr}, (∀ v a f, (∀ p ∈ f, p ∈ fp) → R v a f → R' v a f) → Rl R vs as fp → Rl R' vs as fp
  | [], [], _, _, e => e
  | v :: vs, a :: as, fp, h, ⟨f1, f2, e, x, y⟩ => ⟨f1, f2, e, h _ _ _ (fun p hp => by rw [e]; exact List.mem_append_left _ hp) x,
      Rl.mono (fun v a f hf => h v a f fun p hp => by rw [e]; exact List.mem_append_right _ (hf p hp)) y⟩
  | [], _ :: _, _, _, x => x.elim
  | _ :: _, [], _, _, x => x.elim
theorem Rl.fa {α : Type} {R : V → α → List Addr → Prop} {R' : V → α → Prop} : ∀ {vs : List V} {as : List α} {fp : List Addr}, (∀ v a f, (∀ p ∈ f, p ∈ fp) → R v a f → R' v a) → Rl R vs as fp → Fa R' vs as
  | [], [], _, _, _ => True.intro
  | v :: vs, a :: as, fp, h, ⟨f1, f2, e, x, y⟩ => ⟨h _ _ _ (fun p hp => by rw [e]; exact List.mem_append_left _ hp) x,
      Rl.fa (fun v a f hf => h v a f fun p hp => by rw [e]; exact List.mem_append_right _ (hf p hp)) y⟩
  | [], _ :: _, _, _, x => x.elim
  | _ :: _, [], _, _, x => x.elim
theorem Rl.dom {α : Type} {R : V → α → List Addr → Prop} {D : Addr → Prop} (h : ∀ v a f, R v a f → ∀ p ∈ f, D p) : ∀ {vs : List V} {as : List α} {fp : List Addr}, Rl R vs as fp → ∀ p ∈ fp, D p
  | [], [], fp, e, p, hp => by
    have e' : fp = [] := e
    subst e'; cases hp
  | v :: vs, a :: as, fp, ⟨f1, f2, e, x, y⟩, p, hp => by
    rw [e] at hp
    rcases List.mem_append.mp hp with hp | hp
    · exact h _ _ _ x p hp
    · exact Rl.dom h y p hp
  | [], _ :: _, _, x, _, _ => x.elim
  | _ :: _, [], _, x, _, _ => x.elim
theorem Rl.append {α : Type} {R : V → α → List Addr → Prop} : ∀ {vs ws : List V} {as bs : List α} {f g : List Addr}, Rl R vs as f → Rl R ws bs g → Rl R (vs ++ ws) (as ++ bs) (f ++ g)
  | [], _, [], _, f, g, e, h => by
    have e' : f = [] := e
    subst e'; exact h
  | v :: vs, _, a :: as, _, f, g, ⟨f1, f2, e, x, y⟩, h => ⟨f1, f2 ++ g, by rw [e, List.append_assoc], x, Rl.append y h⟩
  | [], _, _ :: _, _, _, _, x, _ => x.elim
  | _ :: _, _, [], _, _, _, x, _ => x.elim
theorem Rl.one {α : Type} {R : V → α → List Addr → Prop} {v : V} {a : α} {f : List Addr} (h : R v a f) : Rl R [v] [a] f := ⟨f, [], by simp, h, rfl⟩
theorem Rl.len {α : Type} {R : V → α → List Addr → Prop} : ∀ {vs : List V} {as : List α} {f : List Addr}, Rl R vs as f → vs.length = as.length
  | [], [], _, _ => rfl
  | v :: vs, a :: as, _, ⟨_, _, _, _, y⟩ => congrArg (· + 1) (Rl.len y)
  | [], _ :: _, _, x => x.elim
  | _ :: _, [], _, x => x.elim
/-- shared items -/
theorem Rl.ofFa {α : Type} [Rp α] {K : PySem.W.Frag} {HF H : Hp} : ∀ {vs : List V} {as : List α}, Fa (Rp.sh K HF) vs as → Rl (Ow.v.rep K HF H) vs as []
  | [], [], _ => rfl
  | v :: vs, a :: as, ⟨x, y⟩ => ⟨[], [], rfl, ⟨x, rfl⟩, Rl.ofFa y⟩
  | [], _ :: _, x => x.elim
  | _ :: _, [], x => x.elim
theorem Rl.toFa {α : Type} [Rp α] {K : PySem.W.Frag} {HF H : Hp} : ∀ {vs : List V} {as : List α} {fp : List Addr}, Rl (Ow.v.rep K HF H) vs as fp → Fa (Rp.sh K HF) vs as ∧ fp = []
  | [], [], _, e => ⟨True.intro, e⟩
  | v :: vs, a :: as, fp, ⟨f1, f2, e, ⟨x, e1⟩, y⟩ => by
    obtain ⟨y1, e2⟩ := Rl.toFa y
    exact ⟨⟨x, y1⟩, by rw [e, e1, e2]; rfl⟩
  | [], _ :: _, _, x => x.elim
  | _ :: _, [], _, x => x.elim
/-- an own list -/
def Ow.l {α : Type} [Rp α] (o : Ow α) : Ow (List α) where
  rep K HF H v as fp := ∃ p vs fq, v = .ref p ∧ fp = p :: fq ∧ H p = some (.lst vs) ∧ Rl (o.rep K HF H) vs as fq
  mono := fun e k ⟨p, vs, fq, h1, h2, h3, h4⟩ => by
    subst h2
    exact ⟨p, vs, fq, h1, rfl, k p (List.mem_cons_self ..) _ h3, Rl.mono (fun v a f hf h => o.mono e (fun q hq => k q (List.mem_cons_of_mem _ (hf q hq))) h) h4⟩
  dom := fun ⟨p, vs, fq, h1, h2, h3, h4⟩ q hq => by
    subst h2
    rcases List.mem_cons.mp hq with e | hq
    · exact ⟨_, e ▸ h3⟩
    · exact Rl.dom (fun v a f h => o.dom h) h4 q hq
  frz := fun e k ⟨p, vs, fq, h1, h2, h3, h4⟩ => by
    subst h2
    exact ⟨p, vs, h1, k p (List.mem_cons_self ..) _ h3, Rl.fa (fun v a f hf h => o.frz e (fun q hq => k q (List.mem_cons_of_mem _ (hf q hq))) h) h4⟩
def Ow.p {α β : Type} [Rp α] [Rp β] (o : Ow α) (u : Ow β) : Ow (α × β) where
  rep K HF H v x fp := ∃ p va vb f1 f2, v = .ref p ∧ fp = p :: (f1 ++ f2) ∧ H p = some (.tup [va, vb]) ∧ o.rep K HF H va x.1 f1 ∧ u.rep K HF H vb x.2 f2
  mono := fun e k ⟨p, va, vb, f1, f2, h1, h2, h3, h4, h5⟩ => by
    subst h2
    exact ⟨p, va, vb, f1, f2, h1, rfl, k p (List.mem_cons_self ..) _ h3, o.mono e (fun q hq => k q (List.mem_cons_of_mem _ (List.mem_append_left _ hq))) h4, u.mono e (fun q hq => k q (List.mem_cons_of_mem _ (List.mem_append_right _ hq))) h5⟩
  dom := fun ⟨p, va, vb, f1, f2, h1, h2, h3, h4, h5⟩ q hq => by
    subst h2
    rcases List.mem_cons.mp hq with e | hq
    · exact ⟨_, e ▸ h3⟩
    · rcases List.mem_append.mp hq with hq | hq
      · exact o.dom h4 q hq
      · exact u.dom h5 q hq
  frz := fun e k ⟨p, va, vb, f1, f2, h1, h2, h3, h4, h5⟩ => by
    subst h2
    exact ⟨p, va, vb, h1, .inl (.inl (k p (List.mem_cons_self ..) _ h3)), o.frz e (fun q hq => k q (List.mem_cons_of_mem _ (List.mem_append_left _ hq))) h4, u.frz e (fun q hq => k q (List.mem_cons_of_mem _ (List.mem_append_right _ hq))) h5⟩
def Ow.t3 {α β γ : Type} [Rp α] [Rp β] [Rp γ] (o : Ow α) (u : Ow β) (w : Ow γ) : Ow (T3 α β γ) where
  rep K HF H v x fp := ∃ p va vb vc f1 f2 f3, v = .ref p ∧ fp = p :: (f1 ++ (f2 ++ f3)) ∧ H p = some (.tup [va, vb, vc]) ∧ o.rep K HF H va x.a f1 ∧ u.rep K HF H vb x.b f2 ∧ w.rep K HF H vc x.c f3
  mono := fun e k ⟨p, va, vb, vc, f1, f2, f3, h1, h2, h3, h4, h5, h6⟩ => by
    subst h2
    exact ⟨p, va, vb, vc, f1, f2, f3, h1, rfl, k p (List.mem_cons_self ..) _ h3, o.mono e (fun q hq => k q (by simp [hq])) h4, u.mono e (fun q hq => k q (by simp [hq])) h5, w.mono e (fun q hq => k q (by simp [hq])) h6⟩
  dom := fun ⟨p, va, vb, vc, f1, f2, f3, h1, h2, h3, h4, h5, h6⟩ q hq => by
    subst h2
    rcases List.mem_cons.mp hq with e | hq
    · exact ⟨_, e ▸ h3⟩
    · rcases List.mem_append.mp hq with hq | hq
      · exact o.dom h4 q hq
      · rcases List.mem_append.mp hq with hq | hq
        · exact u.dom h5 q hq
        · exact w.dom h6 q hq
  frz := fun e k ⟨p, va, vb, vc, f1, f2, f3, h1, h2, h3, h4, h5, h6⟩ => by
    subst h2
    exact ⟨p, va, vb, vc, h1, .inl (.inl (k p (List.mem_cons_self ..) _ h3)), o.frz e (fun q hq => k q (by simp [hq])) h4, u.frz e (fun q hq => k q (by simp [hq])) h5, w.frz e (fun q hq => k q (by simp [hq])) h6⟩
/-- it leans on no shared object -/
class Ind {α : Type} [Rp α] (o : Ow α) : Prop where
  ind : ∀ {K : PySem.W.Frag} {HF HF' H : Hp} {v : V} {a : α} {fp : List Addr}, o.rep K HF H v a fp → o.rep K HF' H v a fp
instance indFl {α : Type} [Fl α] : Ind (Ow.v (α := α)) where
  ind := fun ⟨h, e⟩ => ⟨Fl.sh_iff.mpr (Fl.sh_iff.mp h), e⟩
instance indL {α : Type} [Rp α] {o : Ow α} [Ind o] : Ind o.l where
  ind := fun ⟨p, vs, fq, h1, h2, h3, h4⟩ => ⟨p, vs, fq, h1, h2, h3, Rl.mono (fun v a f _ h => Ind.ind h) h4⟩
instance indP {α β : Type} [Rp α] [Rp β] {o : Ow α} {u : Ow β} [Ind o] [Ind u] : Ind (o.p u) where
  ind := fun ⟨p, va, vb, f1, f2, h1, h2, h3, h4, h5⟩ => ⟨p, va, vb, f1, f2, h1, h2, h3, Ind.ind h4, Ind.ind h5⟩
instance indT3 {α β γ : Type} [Rp α] [Rp β] [Rp γ] {o : Ow α} {u : Ow β} {w : Ow γ} [Ind o] [Ind u] [Ind w] : Ind (o.t3 u w) where
  ind := fun ⟨p, va, vb, vc, f1, f2, f3, h1, h2, h3, h4, h5, h6⟩ => ⟨p, va, vb, vc, f1, f2, f3, h1, h2, h3, Ind.ind h4, Ind.ind h5, Ind.ind h6⟩

/-! ### the names at a place of the text -/
inductive Sl : Type 1 where
  | un
  | mk {α : Type} [i : Rp α] (o : Ow α) (a : α)
abbrev Ctx := List Sl
def look : Ctx → Nat → Sl
  | [], _ => .un
  | s :: _, 0 => s
  | _ :: Γ, i + 1 => look Γ i
def put : Ctx → Nat → Sl → Ctx
  | [], _, _ => []
  | _ :: Γ, 0, s => s :: Γ
  | t :: Γ, i + 1, s => t :: put Γ i s
def vw1 : Sl → Sl
  | .un => .un
  | .mk (α := α) (i := i) _ a => .mk (α := α) (i := i) .v a
def vw : Ctx → Ctx
  | [] => []
  | s :: Γ => vw1 s :: vw Γ
def HoldS (K : PySem.W.Frag) (HF H : Hp) : Sl → Option V → List Addr → Prop
  | .un, _, f => f = []
  | @Sl.mk α i o a, x, f => ∃ v, x = some v ∧ @Ow.rep α i o K HF H v a f
def Holds (K : PySem.W.Frag) (HF H : Hp) : Ctx → L2.St → List Addr → Prop
  | [], [], fs => fs = []
  | s :: Γ, x :: σ, fs => ∃ f1 f2, fs = f1 ++ f2 ∧ HoldS K HF H s x f1 ∧ Holds K HF H Γ σ f2
  | _, _, _ => False
/-- HF: what is shared; H: all; HF0, G: the same at the def's entry (G: what must stay) -/
structure Good (K : PySem.W.Frag) (HF0 G : Hp) (Γ : Ctx) (HF H : Hp) (σ : L2.St) : Prop where
  sub : Same HF H
  f0 : Same HF0 HF
  g0 : Same G H
  nf : ∀ p o, HF p = some o → HF0 p = none → G p = none
  held : ∃ fs, Holds K HF H Γ σ fs ∧ fs.Nodup ∧ ∀ p ∈ fs, HF p = none ∧ G p = none
/-- nothing that was there changes -/
structure Step (HF H HF' H' : Hp) : Prop where
  exF : Same HF HF'
  exH : Same H H'
  sub : Same HF' H'
  new : ∀ p o, HF' p = some o → HF p = none → H p = none
theorem Step.refl {HF H : Hp} (h : Same HF H) : Step HF H HF H := ⟨Same.refl _, Same.refl _, h, fun p o a b => by rw [a] at b; cases b⟩
theorem Step.trans {HF H HF1 H1 HF2 H2 : Hp} (a : Step HF H HF1 H1) (b : Step HF1 H1 HF2 H2) : Step HF H HF2 H2 :=
  ⟨a.exF.trans b.exF, a.exH.trans b.exH, b.sub, fun p o h n => by
    cases q : HF1 p with
    | some u => exact a.new p u q n
    | none => exact a.exH.free (b.new p o h q)⟩
/-- one new own object -/
theorem same_upd {H : Hp} {p : Addr} {o : HO} (h : H p = none) : Same H (upd H p o) := fun b x e => by
  rw [upd_ne (ne_of_none e h)]
  exact e
theorem Step.own {HF H : Hp} {p : Addr} {o : HO} (s : Same HF H) (h : H p = none) : Step HF H HF (upd H p o) :=
  ⟨Same.refl _, same_upd h, s.trans (same_upd h), fun p o a b => by rw [a] at b; cases b⟩
theorem HoldS.mono {K : PySem.W.Frag} {HF HF' H H' : Hp} (e : Same HF HF') : ∀ {s : Sl} {x : Option V} {f : List Addr}, (∀ p ∈ f, ∀ o, H p = some o → H' p = some o) → HoldS K HF H s x f → HoldS K HF' H' s x f
  | .un, _, _, _, h => h
  | @Sl.mk α i o a, _, _, k, ⟨v, h1, h2⟩ => ⟨v, h1, @Ow.mono α i o _ _ _ _ _ _ _ _ e k h2⟩
theorem HoldS.dom {K : PySem.W.Frag} {HF H : Hp} : ∀ {s : Sl} {x : Option V} {f : List Addr}, HoldS K HF H s x f → ∀ p ∈ f, ∃ o, H p = some o
  | .un, _, f, h, p, hp => by
    have e : f = [] := h
    subst e; cases hp
  | @Sl.mk α i o a, _, _, ⟨v, h1, h2⟩, p, hp => @Ow.dom α i o _ _ _ _ _ _ h2 p hp
theorem Holds.mono {K : PySem.W.Frag} {HF HF' H H' : Hp} (e : Same HF HF') : ∀ {Γ : Ctx} {σ : L2.St} {fs : List Addr}, (∀ p ∈ fs, ∀ o, H p = some o → H' p = some o) → Holds K HF H Γ σ fs → Holds K HF' H' Γ σ fs
  | [], [], _, _, h => h
  | s :: Γ, x :: σ, fs, k, ⟨f1, f2, h1, h2, h3⟩ => ⟨f1, f2, h1, HoldS.mono e (fun p hp => k p (by rw [h1]; exact List.mem_append_left _ hp)) h2, Holds.mono e (fun p hp => k p (by rw [h1]; exact List.mem_append_right _ hp)) h3⟩
  | [], _ :: _, _, _, h => h.elim
  | _ :: _, [], _, _, h => h.elim
theorem Holds.dom {K : PySem.W.Frag} {HF H : Hp} : ∀ {Γ : Ctx} {σ : L2.St} {fs : List Addr}, Holds K HF H Γ σ fs → ∀ p ∈ fs, ∃ o, H p = some o
  | [], [], fs, h, p, hp => by
    have e : fs = [] := h
    subst e; cases hp
  | s :: Γ, x :: σ, fs, ⟨f1, f2, h1, h2, h3⟩, p, hp => by
    rw [h1] at hp
    rcases List.mem_append.mp hp with hp | hp
    · exact h2.dom p hp
    · exact Holds.dom h3 p hp
  | [], _ :: _, _, h, _, _ => h.elim
  | _ :: _, [], _, h, _, _ => h.elim
theorem Holds.len {K : PySem.W.Frag} {HF H : Hp} : ∀ {Γ : Ctx} {σ : L2.St} {fs : List Addr}, Holds K HF H Γ σ fs → Γ.length = σ.length
  | [], [], _, _ => rfl
  | s :: Γ, x :: σ, _, ⟨_, _, _, _, h⟩ => congrArg (· + 1) (Holds.len h)
  | [], _ :: _, _, h => h.elim
  | _ :: _, [], _, h => h.elim
theorem Good.step {K : PySem.W.Frag} {HF0 G HF H HF' H' : Hp} {Γ : Ctx} {σ : L2.St} (g : Good K HF0 G Γ HF H σ) (s : Step HF H HF' H') : Good K HF0 G Γ HF' H' σ := by
  obtain ⟨fs, h1, h2, h3⟩ := g.held
  refine ⟨s.sub, g.f0.trans s.exF, g.g0.trans s.exH, fun p o a b => ?_, fs, h1.mono s.exF fun p _ o e => s.exH p o e, h2, fun p hp => ⟨?_, (h3 p hp).2⟩⟩
  · cases q : HF p with
    | some u => exact g.nf p u q b
    | none => exact g.g0.free (s.new p o a q)
  · cases q : HF' p with
    | none => rfl
    | some u =>
      have := s.new p u q (h3 p hp).1
      obtain ⟨o, ho⟩ := h1.dom p hp
      rw [ho] at this; cases this
theorem Holds.get {K : PySem.W.Frag} {HF H : Hp} {α : Type} [Rp α] {o : Ow α} {a : α} : ∀ {Γ : Ctx} {σ : L2.St} {fs : List Addr} {i : Nat}, Holds K HF H Γ σ fs → look Γ i = .mk o a → ∃ v f, σ[i]? = some (some v) ∧ o.rep K HF H v a f ∧ ∀ p ∈ f, p ∈ fs
  | [], [], _, _, _, e => by cases e
  | s :: Γ, x :: σ, fs, 0, ⟨f1, f2, h1, h2, h3⟩, e => by
    have e' : s = .mk o a := e
    subst e'
    obtain ⟨v, hv, r⟩ := h2
    exact ⟨v, f1, by rw [hv]; rfl, r, fun p hp => by rw [h1]; exact List.mem_append_left _ hp⟩
  | s :: Γ, x :: σ, fs, i + 1, ⟨f1, f2, h1, h2, h3⟩, e => by
    obtain ⟨v, f, q1, q2, q3⟩ := Holds.get (i := i) h3 e
    exact ⟨v, f, q1, q2, fun p hp => by rw [h1]; exact List.mem_append_right _ (q3 p hp)⟩
  | [], _ :: _, _, _, h, _ => h.elim
  | _ :: _, [], _, _, h, _ => h.elim
/-- the slot i without its things -/
theorem Holds.put {K : PySem.W.Frag} {HF H : Hp} : ∀ {Γ : Ctx} {σ : L2.St} {fs : List Addr} {i : Nat}, Holds K HF H Γ σ fs → i < Γ.length →
    ∃ fo fr : List Addr, HoldS K HF H (look Γ i) (σ.getD i none) fo ∧ (∀ p, p ∈ fs ↔ p ∈ fo ∨ p ∈ fr) ∧ (fs.Nodup → fr.Nodup ∧ fo.Nodup ∧ ∀ p ∈ fo, p ∉ fr) ∧
      ∀ {HF' H' : Hp} {s : Sl} {x : Option V} {f : List Addr}, (∀ {Γ : Ctx} {σ : L2.St} {f : List Addr}, (∀ p ∈ f, p ∈ fr) → Holds K HF H Γ σ f → Holds K HF' H' Γ σ f) → (∀ {s : Sl} {x : Option V} {f : List Addr}, (∀ p ∈ f, p ∈ fr) → HoldS K HF H s x f → HoldS K HF' H' s x f) → HoldS K HF' H' s x f →
        ∃ fs', Holds K HF' H' (put Γ i s) (σ.set i x) fs' ∧ (∀ p, p ∈ fs' ↔ p ∈ f ∨ p ∈ fr) ∧ (fr.Nodup → f.Nodup → (∀ p ∈ f, p ∉ fr) → fs'.Nodup)
  | [], [], _, i, _, hi => absurd hi (Nat.not_lt_zero _)
  | s :: Γ, x :: σ, fs, 0, ⟨f1, f2, h1, h2, h3⟩, _ => by
    refine ⟨f1, f2, h2, fun p => by rw [h1]; exact List.mem_append, fun nd => ?_, fun k1 k2 h => ?_⟩
    · rw [h1] at nd
      obtain ⟨a, b, c⟩ := List.nodup_append.mp nd
      exact ⟨b, a, fun p hp hq => c p hp p hq rfl⟩
    · rename_i f
      refine ⟨f ++ f2, ⟨f, f2, rfl, h, k1 (fun p hp => hp) h3⟩, fun p => List.mem_append, fun n1 n2 n3 => List.nodup_append.mpr ⟨n2, n1, fun p hp q hq e => n3 p hp (e ▸ hq)⟩⟩
  | s :: Γ, x :: σ, fs, i + 1, ⟨f1, f2, h1, h2, h3⟩, hi => by
    obtain ⟨fo, fr, q1, q2, q3, q4⟩ := Holds.put (i := i) h3 (Nat.lt_of_succ_lt_succ hi)
    refine ⟨fo, f1 ++ fr, q1, fun p => ?_, fun nd => ?_, fun k1 k2 h => ?_⟩
    · rw [h1, List.mem_append, q2, List.mem_append]
      constructor
      · rintro (a | a | a)
        · exact .inr (.inl a)
        · exact .inl a
        · exact .inr (.inr a)
      · rintro (a | a | a)
        · exact .inr (.inl a)
        · exact .inl a
        · exact .inr (.inr a)
    · rw [h1] at nd
      obtain ⟨a, b, c⟩ := List.nodup_append.mp nd
      obtain ⟨r1, r2, r3⟩ := q3 b
      refine ⟨List.nodup_append.mpr ⟨a, r1, fun p hp q hq e => c p hp q ((q2 q).mpr (.inr hq)) e⟩, r2, fun p hp hq => ?_⟩
      rcases List.mem_append.mp hq with hq | hq
      · exact c p hq p ((q2 p).mpr (.inl hp)) rfl
      · exact r3 p hp hq
    · rename_i f
      obtain ⟨fs', w1, w2, w3⟩ := q4 (f := f) (fun hp => k1 fun p z => List.mem_append_right _ (hp p z)) (fun hp => k2 fun p z => List.mem_append_right _ (hp p z)) h
      refine ⟨f1 ++ fs', ⟨f1, fs', rfl, k2 (fun p z => List.mem_append_left _ z) h2, w1⟩, fun p => ?_, fun n1 n2 n3 => ?_⟩
      · rw [List.mem_append, w2, List.mem_append]
        constructor
        · rintro (a | a | a)
          · exact .inr (.inl a)
          · exact .inl a
          · exact .inr (.inr a)
        · rintro (a | a | a)
          · exact .inr (.inl a)
          · exact .inl a
          · exact .inr (.inr a)
      · obtain ⟨a, b, c⟩ := List.nodup_append.mp n1
        refine List.nodup_append.mpr ⟨a, w3 b n2 fun p hp hq => n3 p hp (List.mem_append_right _ hq), fun p hp q hq e => ?_⟩
        subst e
        rcases (w2 p).mp hq with z | z
        · exact n3 p z (List.mem_append_left _ hp)
        · exact c p hp p z rfl
  | [], _ :: _, _, _, h, _ => h.elim
  | _ :: _, [], _, _, h, _ => h.elim
end Ty

namespace Ty
open PySem L2

/-- what a value of c, made of nothing that can change, is wanted to do -/
def RetK {α : Type} [Rp α] (K : PySem.W.Frag) (HF H : Hp) (o : Ow α) (c : α) (Q : VK) : Prop :=
  ∀ v HF' H' fp, Step HF H HF' H' → o.rep K HF' H' v c fp → fp.Nodup → (∀ p ∈ fp, H p = none ∧ HF' p = none) → Q v H'
theorem RetK.flat {α : Type} [Fl α] {K : PySem.W.Frag} {HF H : Hp} {c : α} {Q : VK} (k : RetK K HF H Ow.v c Q) (s : Same HF H) : Q (Fl.enc c) H :=
  k _ HF H [] (Step.refl s) ⟨Fl.sh_iff.mpr rfl, rfl⟩ List.nodup_nil (fun p hp => by cases hp)
theorem RetK.shv {α : Type} [Rp α] {K : PySem.W.Frag} {HF H : Hp} {c : α} {v : V} {Q : VK} (k : RetK K HF H Ow.v c Q) (s : Same HF H) (h : Rp.sh K HF v c) : Q v H :=
  k _ HF H [] (Step.refl s) ⟨h, rfl⟩ List.nodup_nil (fun p hp => by cases hp)
/-- a new list of shared things -/
theorem RetK.lst {α : Type} [Rp α] {K : PySem.W.Frag} {HF H : Hp} {c : List α} {vs : List V} {p : Addr} {Q : VK} (k : RetK K HF H (Ow.l Ow.v) c Q) (s : Same HF H) (h : Fa (Rp.sh K HF) vs c) (hp : H p = none) : Q (.ref p) (upd H p (.lst vs)) :=
  k _ HF _ [p] (Step.own s hp) ⟨p, vs, [], rfl, rfl, upd_same, Rl.ofFa h⟩ (by simp) (fun q hq => by
    have e : q = p := by simpa using hq
    subst e
    exact ⟨hp, s.free hp⟩)
def SemE {α : Type} [Rp α] (K : PySem.W.Frag) (Γ : Ctx) (t : TE) (o : Ow α) (m : M α) : Prop :=
  ∀ HF0 G HF H σ, Good K HF0 G Γ HF H σ → ∀ a, m = .ok a → ∀ Q : VK, RetK K HF H o a Q → t σ H Q
structure EX {α : Type} [Rp α] (X : Cx) (Γ : Ctx) (e : Expr) (o : Ow α) (m : M α) (t : TE) : Prop where
  pe : PE X e t
  sem : SemE X.K Γ t o m
def SemT (K : PySem.W.Frag) (Γ : Ctx) (t : TT) (m : M Bool) : Prop :=
  ∀ HF0 G HF H σ, Good K HF0 G Γ HF H σ → ∀ a, m = .ok a → ∀ Q : Bool → Hp → Prop, (∀ HF' H', Step HF H HF' H' → Q a H') → t σ H Q
structure ET (X : Cx) (Γ : Ctx) (e : Expr) (m : M Bool) (t : TT) : Prop where
  pt : PT X e t
  sem : SemT X.K Γ t m
structure EW (X : Cx) (Γ : Ctx) (e : Expr) (m : M Bool) (t : TT) : Prop where
  pw : PW X e t
  sem : SemT X.K Γ t m

section
variable {X : Cx} {Γ : Ctx} {α β γ : Type}

/-! ### names, constants -/
theorem ex_var [Rp α] (i : Nat) {x : Str} {pos : Pos} {a : α} (hl : look Γ i = .mk Ow.v a := by rfl) (hN : X.N[i]? = some x := by rfl) (hv : Vis X.env.scope x := by first | exact Or.inl rfl | exact Or.inr (Or.inl rfl) | exact Or.inr (Or.inr rfl)) (hd : (x == ("__debug__" : Str)) = false := by decide)
    (hcd : (x == ("__classdict__" : Str)) = false := by decide) : EX X Γ (.Name x pos) Ow.v (pure a) (tVar i) :=
  ⟨pe_var hN hv hd hcd, fun HF0 G HF H σ g c hc Q k => by
    cases pure_ok hc
    obtain ⟨fs, h1, _, _⟩ := g.held
    obtain ⟨v, f, h2, h3, _⟩ := h1.get hl
    exact ⟨v, h2, k.shv g.sub h3.1⟩⟩
theorem ex_int {i : Int} {j pos} : EX X Γ (.Constant (.int i) j pos) Ow.v (pure i) (tC (.int i)) :=
  ⟨pe_int, fun HF0 G HF H σ g c hc Q k => by cases pure_ok hc; exact k.flat g.sub⟩
theorem ex_bl {b : Bool} {j pos} : EX X Γ (.Constant (.bool b) j pos) Ow.v (pure b) (tC (.bl b)) :=
  ⟨pe_bl, fun HF0 G HF H σ g c hc Q k => by cases pure_ok hc; exact k.flat g.sub⟩
theorem ex_str {x : Str} {j pos} : EX X Γ (.Constant (.str x) j pos) Ow.v (pure x) (tC (.str x)) :=
  ⟨pe_str, fun HF0 G HF H σ g c hc Q k => by cases pure_ok hc; exact k.flat g.sub⟩
theorem ex_non {j pos} : EX X Γ (.Constant .none j pos) Ow.v (pure ()) (tC .non) :=
  ⟨pe_non, fun HF0 G HF H σ g c hc Q k => by cases pure_ok hc; exact k.flat g.sub⟩
/-! ### own things looked at; own things made shared -/
theorem Holds.vw {K : PySem.W.Frag} {HF H : Hp} (s : Same HF H) : ∀ {Γ : Ctx} {σ : L2.St} {fs : List Addr}, Holds K HF H Γ σ fs → Holds K H H (vw Γ) σ []
  | [], [], _, _ => rfl
  | .un :: Γ, x :: σ, fs, ⟨f1, f2, h1, h2, h3⟩ => ⟨[], [], rfl, rfl, Holds.vw s h3⟩
  | @Sl.mk α i o a :: Γ, x :: σ, fs, ⟨f1, f2, h1, ⟨v, e, h2⟩, h3⟩ => ⟨[], [], rfl, ⟨v, e, @Ow.frz α i o _ _ _ _ _ _ _ s (fun p _ o e => e) h2, rfl⟩, Holds.vw s h3⟩
  | [], _ :: _, _, h => h.elim
  | _ :: _, [], _, h => h.elim
theorem Good.vw {K : PySem.W.Frag} {HF0 G HF H : Hp} {σ : L2.St} (g : Good K HF0 G Γ HF H σ) : Good K H H (vw Γ) H H σ := by
  obtain ⟨fs, h1, h2, h3⟩ := g.held
  exact ⟨Same.refl _, Same.refl _, Same.refl _, fun p o a b => b, [], h1.vw g.sub, List.nodup_nil, fun p hp => by cases hp⟩
theorem ex_view [Rp α] {o : Ow α} [Ind o] {e : Expr} {m : M α} {t : TE} (h : EX X (vw Γ) e o m t) : EX X Γ e o m t :=
  ⟨h.pe, fun HF0 G HF H σ g c hc Q k => h.sem H H H H σ g.vw c hc Q fun v HF' H' fp st r n f =>
    k v HF H' fp ⟨Same.refl _, st.exH, g.sub.trans st.exH, fun p o a b => by rw [a] at b; cases b⟩ (Ind.ind r) n fun p hp => ⟨(f p hp).1, g.sub.free (f p hp).1⟩⟩
theorem et_view {e : Expr} {m : M Bool} {t : TT} (h : ET X (vw Γ) e m t) : ET X Γ e m t :=
  ⟨h.pt, fun HF0 G HF H σ g c hc Q k => h.sem H H H H σ g.vw c hc Q fun HF' H' st =>
    k HF H' ⟨Same.refl _, st.exH, g.sub.trans st.exH, fun p o a b => by rw [a] at b; cases b⟩⟩
/-- HF and what stands at fp -/
def plus (HF H : Hp) (fp : List Addr) : Hp := fun p => if p ∈ fp then H p else HF p
theorem plus_same {HF H : Hp} {fp : List Addr} (h : ∀ p ∈ fp, HF p = none) : Same HF (plus HF H fp) := fun p o e => by
  unfold plus
  by_cases hp : p ∈ fp
  · rw [h p hp] at e; cases e
  · rw [if_neg hp]; exact e
theorem plus_sub {HF H : Hp} {fp : List Addr} (s : Same HF H) : Same (plus HF H fp) H := fun p o e => by
  unfold plus at e
  by_cases hp : p ∈ fp
  · rw [if_pos hp] at e; exact e
  · rw [if_neg hp] at e; exact s p o e
theorem plus_at {HF H : Hp} {fp : List Addr} : ∀ p ∈ fp, ∀ o, H p = some o → plus HF H fp p = some o := fun p hp o e => by
  unfold plus
  rw [if_pos hp]; exact e
theorem plus_out {HF H : Hp} {fp : List Addr} {p : Addr} (hp : p ∉ fp) : plus HF H fp p = HF p := by
  unfold plus
  rw [if_neg hp]
theorem ex_frz [Rp α] {o : Ow α} {e : Expr} {m : M α} {t : TE} (h : EX X Γ e o m t) : EX X Γ e Ow.v m t :=
  ⟨h.pe, fun HF0 G HF H σ g c hc Q k => h.sem HF0 G HF H σ g c hc Q fun v HF' H' fp st r n f =>
    k v (plus HF' H' fp) H' [] ⟨st.exF.trans (plus_same fun p hp => (f p hp).2), st.exH, plus_sub st.sub, fun p o a b => by
      by_cases hp : p ∈ fp
      · exact (f p hp).1
      · rw [plus_out hp] at a
        exact st.new p o a b⟩ ⟨o.frz (plus_same fun p hp => (f p hp).2) plus_at r, rfl⟩ List.nodup_nil fun p hp => by cases hp⟩

/-! ### operators on shared things -/
def SemR2 [Rp α] [Rp β] [Rp γ] (K : PySem.W.Frag) (r : R2) (o : Ow γ) (f : α → β → M γ) : Prop :=
  ∀ HF H v w a b c, Same HF H → Rp.sh K HF v a → Rp.sh K HF w b → f a b = .ok c → ∀ Q : VK, RetK K HF H o c Q → r v w H Q
def SemR1 [Rp α] [Rp γ] (K : PySem.W.Frag) (r : V → Hp → VK → Prop) (o : Ow γ) (f : α → M γ) : Prop :=
  ∀ HF H v a c, Same HF H → Rp.sh K HF v a → f a = .ok c → ∀ Q : VK, RetK K HF H o c Q → r v H Q
theorem RetK.back [Rp γ] {K : PySem.W.Frag} {HF H HF1 H1 : Hp} {o : Ow γ} {c : γ} {Q : VK} (k : RetK K HF H o c Q) (s : Step HF H HF1 H1) : RetK K HF1 H1 o c Q :=
  fun v HF' H' fp st r n f => k v HF' H' fp (s.trans st) r n fun p hp => ⟨s.exH.free (f p hp).1, (f p hp).2⟩
theorem sem_op [Rp α] [Rp β] [Rp γ] {K : PySem.W.Frag} {r : R2} {o : Ow γ} {f : α → β → M γ} {ta tb : TE} {ma : M α} {mb : M β} (hr : SemR2 K r o f) (ha : SemE K Γ ta Ow.v ma) (hb : SemE K Γ tb Ow.v mb) :
    SemE K Γ (tOp r ta tb) o (do let a ← ma; let b ← mb; f a b) := fun HF0 G HF H σ g c hc Q k => by
  obtain ⟨a, e1, hc⟩ := bind_ok hc
  obtain ⟨b, e2, hc⟩ := bind_ok hc
  refine ha HF0 G HF H σ g a e1 _ fun v HF1 H1 fp s1 r1 _ _ => ?_
  refine hb HF0 G HF1 H1 σ (g.step s1) b e2 _ fun w HF2 H2 fp2 s2 r2 _ _ => ?_
  exact hr HF2 H2 v w a b c s2.sub (Rp.mono s2.exF r1.1) r2.1 hc Q (k.back (s1.trans s2))
theorem sem_un [Rp α] [Rp γ] {K : PySem.W.Frag} {r : V → Hp → VK → Prop} {o : Ow γ} {f : α → M γ} {ta : TE} {ma : M α} (hr : SemR1 K r o f) (ha : SemE K Γ ta Ow.v ma) :
    SemE K Γ (tUn r ta) o (do let a ← ma; f a) := fun HF0 G HF H σ g c hc Q k => by
  obtain ⟨a, e1, hc⟩ := bind_ok hc
  refine ha HF0 G HF H σ g a e1 _ fun v HF1 H1 fp s1 r1 _ _ => ?_
  exact hr HF1 H1 v a c s1.sub r1.1 hc Q (k.back s1)
theorem ex_op [Rp α] [Rp β] [Rp γ] {op : Operator} {r : R2} {o : Ow γ} {f : α → β → M γ} {a b : Expr} {pos : Pos} {ta tb : TE} {ma : M α} {mb : M β} (ho : OpR X (binaryOp op) r) (hr : SemR2 X.K r o f) (ha : EX X Γ a Ow.v ma ta) (hb : EX X Γ b Ow.v mb tb) :
    EX X Γ (.BinOp a op b pos) o (do let a ← ma; let b ← mb; f a b) (tOp r ta tb) := ⟨pe_op ho ha.pe hb.pe, sem_op hr ha.sem hb.sem⟩
theorem ex_uop [Rp α] [Rp γ] {op : UnaryOp} {r : V → Hp → VK → Prop} {o : Ow γ} {f : α → M γ} {a : Expr} {pos : Pos} {ta : TE} {ma : M α} (ho : UnR X (unaryOp op) r) (hr : SemR1 X.K r o f) (ha : EX X Γ a Ow.v ma ta) :
    EX X Γ (.UnaryOp op a pos) o (do let a ← ma; f a) (tUn r ta) := ⟨pe_un ho ha.pe, sem_un hr ha.sem⟩
/-- ints -/
theorem sr_I0 [Fl γ] {K : PySem.W.Frag} {g : Int → Int → V} {f : Int → Int → γ} (h : ∀ i j, Fl.enc (f i j) = g i j) : SemR2 K (rI0 g) Ow.v (fun (a b : Int) => pure (f a b)) := fun HF H v w a b c s ra rb hc Q k => by
  cases pure_ok hc
  refine ⟨a, b, ra, rb, ?_⟩
  rw [← h]; exact k.flat s
theorem sr_I [Fl γ] {K : PySem.W.Frag} {C : Int → Int → Prop} {g : Int → Int → V} {f : Int → Int → γ} (B : Int → Int → Bool) (hB : ∀ i j, B i j = true → C i j) (h : ∀ i j, Fl.enc (f i j) = g i j) : SemR2 K (rI C g) Ow.v (fun (a b : Int) => do gd (B a b); pure (f a b)) := fun HF H v w a b c s ra rb hc Q k => by
  obtain ⟨u, e1, hc⟩ := bind_ok hc
  cases pure_ok hc
  refine ⟨a, b, ra, rb, hB _ _ (gd_ok e1), ?_⟩
  rw [← h]; exact k.flat s
theorem sr_U [Fl γ] {K : PySem.W.Frag} {g : Int → V} {f : Int → γ} (h : ∀ i, Fl.enc (f i) = g i) : SemR1 K (rU g) Ow.v (fun (a : Int) => pure (f a)) := fun HF H v a c s ra hc Q k => by
  cases pure_ok hc
  refine ⟨a, ra, ?_⟩
  rw [← h]; exact k.flat s
def CMul2 (i j : Int) : Prop := CMul i j ∨ CMulW i j
theorem op_mul2 {X : Cx} : OpR X (binaryOp .Mult) (rI CMul2 fun i j => .int (i * j)) := opI fun _ _ _ _ _ _ _ hc q => PyProof.Rows.mul_int q (hc.elim CMul.ok CMulW.ok)
def mulB (i j : Int) : Bool := ((decide (-(2 ^ 64) < i) && decide (i < 2 ^ 64)) || (decide (-(2 ^ 64) < j) && decide (j < 2 ^ 64))) || decide (i.natAbs.log2 + j.natAbs.log2 < 1000000)
def divB (_i j : Int) : Bool := decide (0 < j) && decide (j.natAbs.log2 < 9000)
def posB (_i j : Int) : Bool := decide (0 < j)
def mulM (a b : Int) : M Int := do gd (mulB a b); pure (a * b)
def divM (a b : Int) : M Int := do gd (divB a b); pure (a / b)
def modM (a b : Int) : M Int := do gd (posB a b); pure (a % b)
variable {a b e : Expr} {pos : Pos} {ta tb : TE}
theorem ex_add {ma mb : M Int} (ha : EX X Γ a Ow.v ma ta) (hb : EX X Γ b Ow.v mb tb) : EX X Γ (.BinOp a .Add b pos) Ow.v (do let a ← ma; let b ← mb; pure (a + b)) (tOp (rI0 fun i j => .int (i + j)) ta tb) := ex_op op_add (sr_I0 fun _ _ => rfl) ha hb
theorem ex_sub {ma mb : M Int} (ha : EX X Γ a Ow.v ma ta) (hb : EX X Γ b Ow.v mb tb) : EX X Γ (.BinOp a .Sub b pos) Ow.v (do let a ← ma; let b ← mb; pure (a - b)) (tOp (rI0 fun i j => .int (i - j)) ta tb) := ex_op op_sub (sr_I0 fun _ _ => rfl) ha hb
theorem ex_mul {ma mb : M Int} (ha : EX X Γ a Ow.v ma ta) (hb : EX X Γ b Ow.v mb tb) : EX X Γ (.BinOp a .Mult b pos) Ow.v (do let a ← ma; let b ← mb; mulM a b) (tOp (rI CMul2 fun i j => .int (i * j)) ta tb) :=
  ex_op op_mul2 (sr_I mulB (fun i j h => by simpa [mulB, CMul2, CMul, CMulW] using h) fun _ _ => rfl) ha hb
theorem ex_fdiv {ma mb : M Int} (ha : EX X Γ a Ow.v ma ta) (hb : EX X Γ b Ow.v mb tb) : EX X Γ (.BinOp a .FloorDiv b pos) Ow.v (do let a ← ma; let b ← mb; divM a b) (tOp (rI CDivW fun i j => .int (i / j)) ta tb) :=
  ex_op op_fdivW (sr_I divB (fun i j h => by simpa [divB, CDivW] using h) fun _ _ => rfl) ha hb
theorem ex_mod {ma mb : M Int} (ha : EX X Γ a Ow.v ma ta) (hb : EX X Γ b Ow.v mb tb) : EX X Γ (.BinOp a .Mod b pos) Ow.v (do let a ← ma; let b ← mb; modM a b) (tOp (rI (fun _ j => 0 < j) fun i j => .int (i % j)) ta tb) :=
  ex_op op_mod (sr_I posB (fun i j h => by simpa [posB] using h) fun _ _ => rfl) ha hb
theorem ex_neg {ma : M Int} (ha : EX X Γ a Ow.v ma ta) : EX X Γ (.UnaryOp .USub a pos) Ow.v (do let a ← ma; pure (-a)) (tUn (rU fun i => .int (-i)) ta) := ex_uop un_neg (sr_U fun _ => rfl) ha
/-- by a written number: no guard is left -/
theorem sr_Ic [Fl γ] {K : PySem.W.Frag} {C : Int → Int → Prop} {g : Int → Int → V} {f : Int → Int → γ} {n : Int} {ta : TE} {ma : M Int} (hC : ∀ i, C i n) (h : ∀ i j, Fl.enc (f i j) = g i j) (ha : SemE K Γ ta Ow.v ma) :
    SemE K Γ (tOp (rI C g) ta (tC (.int n))) Ow.v (do let a ← ma; pure (f a n)) := fun HF0 G HF H σ gg c hc Q k => by
  obtain ⟨i, e1, hc⟩ := bind_ok hc
  cases pure_ok hc
  refine ha HF0 G HF H σ gg i e1 _ fun v HF1 H1 fp s1 r1 _ _ => ?_
  refine ⟨i, n, r1.1, rfl, hC i, ?_⟩
  rw [← h]; exact (k.back s1).flat s1.sub
theorem ex_mulc {ma : M Int} {n : Int} {j p2} (ha : EX X Γ a Ow.v ma ta) (hn : (decide (-(2 ^ 64) < n) && decide (n < 2 ^ 64)) = true := by rfl) : EX X Γ (.BinOp a .Mult (.Constant (.int n) j p2) pos) Ow.v (do let a ← ma; pure (a * n)) (tOp (rI CMul fun i j => .int (i * j)) ta (tC (.int n))) :=
  ⟨pe_op op_mul ha.pe pe_int, sr_Ic (f := fun i j : Int => i * j) (fun i => .inr (by simpa using hn)) (fun _ _ => rfl) ha.sem⟩
theorem ex_fdivc {ma : M Int} {n : Int} {j p2} (ha : EX X Γ a Ow.v ma ta) (hn : (decide (0 < n) && decide (n < 1073741824)) = true := by rfl) : EX X Γ (.BinOp a .FloorDiv (.Constant (.int n) j p2) pos) Ow.v (do let a ← ma; pure (a / n)) (tOp (rI CDiv fun i j => .int (i / j)) ta (tC (.int n))) :=
  ⟨pe_op op_fdiv ha.pe pe_int, sr_Ic (f := fun i j : Int => i / j) (fun i => by simpa [CDiv] using hn) (fun _ _ => rfl) ha.sem⟩
theorem ex_modc {ma : M Int} {n : Int} {j p2} (ha : EX X Γ a Ow.v ma ta) (hn : decide (0 < n) = true := by rfl) : EX X Γ (.BinOp a .Mod (.Constant (.int n) j p2) pos) Ow.v (do let a ← ma; pure (a % n)) (tOp (rI (fun _ j => 0 < j) fun i j => .int (i % j)) ta (tC (.int n))) :=
  ⟨pe_op op_mod ha.pe pe_int, sr_Ic (f := fun i j : Int => i % j) (fun i => by simpa using hn) (fun _ _ => rfl) ha.sem⟩
theorem ex_cmul {mb : M Int} {n : Int} {j p2} (hb : EX X Γ b Ow.v mb tb) (hn : (decide (-(2 ^ 64) < n) && decide (n < 2 ^ 64)) = true := by rfl) : EX X Γ (.BinOp (.Constant (.int n) j p2) .Mult b pos) Ow.v (do let b ← mb; pure (n * b)) (tOp (rI CMul fun i j => .int (i * j)) (tC (.int n)) tb) :=
  ⟨pe_op op_mul pe_int hb.pe, fun HF0 G HF H σ gg c hc Q k => by
    obtain ⟨i, e1, hc⟩ := bind_ok hc
    cases pure_ok hc
    refine hb.sem HF0 G HF H σ gg i e1 _ fun v HF1 H1 fp s1 r1 _ _ => ?_
    exact ⟨n, i, rfl, r1.1, .inl (by simpa using hn), (k.back s1).flat s1.sub⟩⟩
/-! ### comparisons -/
/-- scalars -/
class Sc (α : Type) [Fl α] [DecidableEq α] : Prop where
  sc : ∀ a b : α, scal (Fl.enc a) (Fl.enc b) = true
  inj : ∀ a b : α, Fl.enc a = Fl.enc b → a = b
instance : Sc Int := ⟨fun _ _ => rfl, fun _ _ h => by cases h; rfl⟩
instance : Sc Bool := ⟨fun _ _ => rfl, fun _ _ h => by cases h; rfl⟩
instance : Sc Str := ⟨fun _ _ => rfl, fun _ _ h => by cases h; rfl⟩
theorem sc_dec [Fl α] [DecidableEq α] [Sc α] (a b : α) : decide (Fl.enc a = Fl.enc b) = decide (a = b) := by
  by_cases h : a = b
  · subst h; simp
  · rw [decide_eq_false h, decide_eq_false fun e => h (Sc.inj a b e)]
theorem sr_eq [Fl α] [DecidableEq α] [Sc α] {K : PySem.W.Frag} : SemR2 K rEq Ow.v (fun (a b : α) => pure (decide (a = b))) := fun HF H v w a b c s ra rb hc Q k => by
  cases pure_ok hc
  rw [Fl.sh_iff.mp ra, Fl.sh_iff.mp rb]
  refine ⟨Sc.sc a b, ?_⟩
  rw [sc_dec]; exact k.flat s
theorem sr_ne [Fl α] [DecidableEq α] [Sc α] {K : PySem.W.Frag} : SemR2 K rNe Ow.v (fun (a b : α) => pure (!decide (a = b))) := fun HF H v w a b c s ra rb hc Q k => by
  cases pure_ok hc
  rw [Fl.sh_iff.mp ra, Fl.sh_iff.mp rb]
  refine ⟨Sc.sc a b, ?_⟩
  rw [sc_dec]; exact k.flat s
end

/-! ### data compared as a whole -/
class Eqv (α : Type) [Rp α] [DecidableEq α] where
  py : α → PyData
  ok : α → Bool
  dep : Nat
  dp : ∀ {K : PySem.W.Frag} {H : Hp} {v : V} {a : α}, Rp.sh K H v a → Dp K H v (py a)
  lay : ∀ a, ok a = true → (py a).canLay0 = true
  deep : ∀ a, (py a).depth ≤ dep
  eqv : ∀ a b, PyData.eqv (py a) (py b) = decide (a = b)
instance : Eqv Int := ⟨fun i => .int i, fun _ => true, 0, fun h => by cases h; exact .int _, fun _ _ => rfl, fun _ => by simp [PyData.depth], fun a b => by simp only [PyData.eqv]; by_cases h : a = b <;> simp [h]⟩
instance : Eqv Bool := ⟨fun i => .bool i, fun _ => true, 0, fun h => by cases h; exact .bl _, fun _ _ => rfl, fun _ => by simp [PyData.depth], fun a b => by simp only [PyData.eqv]; by_cases h : a = b <;> simp [h]⟩
instance : Eqv Str := ⟨fun i => .str i, fun x => PySem.PyData.strOk x, 0, fun h => by cases h; exact .str _, fun _ h => by simpa [PyData.canLay0] using h, fun _ => by simp [PyData.depth], fun a b => by simp only [PyData.eqv]; by_cases h : a = b <;> simp [h]⟩
theorem dpAll_of {α : Type} [Rp α] [DecidableEq α] [Eqv α] {K : PySem.W.Frag} {H : Hp} : ∀ {vs : List V} {as : List α}, Fa (Rp.sh K H) vs as → DpAll K H vs (as.map Eqv.py)
  | [], [], _ => .nil
  | v :: vs, a :: as, ⟨x, y⟩ => .cons (Eqv.dp x) (dpAll_of y)
  | [], _ :: _, x => x.elim
  | _ :: _, [], x => x.elim
theorem layAll_of {α : Type} [Rp α] [DecidableEq α] [Eqv α] : ∀ {as : List α}, as.all Eqv.ok = true → PyData.canLayAll0 (as.map Eqv.py) = true
  | [], _ => by simp [PyData.canLayAll0]
  | a :: as, h => by
    rw [List.all_cons, Bool.and_eq_true] at h
    simp [PyData.canLayAll0, Eqv.lay a h.1, layAll_of h.2]
theorem depAll_of {α : Type} [Rp α] [DecidableEq α] [Eqv α] : ∀ as : List α, PyData.depthAll (as.map Eqv.py) ≤ Eqv.dep α
  | [] => by simp [PyData.depthAll]
  | a :: as => by
    have h1 := Eqv.deep a
    have h2 := depAll_of as
    simp only [List.map_cons, PyData.depthAll]
    omega
theorem eqvAll_of {α : Type} [Rp α] [DecidableEq α] [Eqv α] : ∀ as bs : List α, PyData.eqvAll (as.map Eqv.py) (bs.map Eqv.py) = decide (as = bs)
  | [], [] => by simp [PyData.eqvAll]
  | a :: as, b :: bs => by
    simp only [List.map_cons, PyData.eqvAll, Eqv.eqv, eqvAll_of as bs]
    by_cases h1 : a = b <;> by_cases h2 : as = bs <;> simp [h1, h2]
  | [], b :: bs => by simp [PyData.eqvAll]
  | a :: as, [] => by simp [PyData.eqvAll]
instance eqvList {α : Type} [Rp α] [DecidableEq α] [Eqv α] : Eqv (List α) where
  py as := .list (as.map Eqv.py)
  ok as := as.all Eqv.ok
  dep := Eqv.dep α + 1
  dp := fun ⟨p, vs, h1, h2, h3⟩ => by subst h1; exact .lst (SqL.of h2) (dpAll_of h3)
  lay := fun as h => by simpa [PyData.canLay0] using layAll_of h
  deep := fun as => by simpa [PyData.depth] using depAll_of as
  eqv := fun as bs => by simpa [PyData.eqv] using eqvAll_of as bs
instance eqvTu {α : Type} [Rp α] [DecidableEq α] [Eqv α] : Eqv (Tu α) where
  py as := .tuple (as.l.map Eqv.py)
  ok as := as.l.all Eqv.ok
  dep := Eqv.dep α + 1
  dp := fun ⟨p, vs, h1, h2, h3⟩ => by subst h1; exact .tup h2 (dpAll_of h3)
  lay := fun as h => by simpa [PyData.canLay0] using layAll_of h
  deep := fun as => by simpa [PyData.depth] using depAll_of as.l
  eqv := fun ⟨as⟩ ⟨bs⟩ => by
    simp only [PyData.eqv, eqvAll_of as bs]
    simp
instance eqvPair {α β : Type} [Rp α] [Rp β] [DecidableEq α] [DecidableEq β] [Eqv α] [Eqv β] : Eqv (α × β) where
  py x := .tuple [Eqv.py x.1, Eqv.py x.2]
  ok x := Eqv.ok x.1 && Eqv.ok x.2
  dep := max (Eqv.dep α) (Eqv.dep β) + 1
  dp := fun ⟨p, va, vb, h1, h2, h3, h4⟩ => by subst h1; exact .tup h2 (.cons (Eqv.dp h3) (.cons (Eqv.dp h4) .nil))
  lay := fun x h => by
    rw [Bool.and_eq_true] at h
    simp [PyData.canLay0, PyData.canLayAll0, Eqv.lay x.1 h.1, Eqv.lay x.2 h.2]
  deep := fun x => by
    have h1 := Eqv.deep x.1
    have h2 := Eqv.deep x.2
    simp only [PyData.depth, PyData.depthAll]
    omega
  eqv := fun ⟨a, b⟩ ⟨c, d⟩ => by
    simp only [PyData.eqv, PyData.eqvAll, Eqv.eqv]
    by_cases h1 : a = c <;> by_cases h2 : b = d <;> simp [h1, h2]
def eqM {α : Type} [Rp α] [DecidableEq α] [Eqv α] (a b : α) : M Bool := do gd (Eqv.ok a && Eqv.ok b); pure (decide (a = b))
section
variable {X : Cx} {Γ : Ctx} {α β γ : Type} {a b e : Expr} {pos : Pos} {ta tb : TE}
theorem eqv_shaped [Rp α] [DecidableEq α] [Eqv α] {a : α} (h : Eqv.ok a = true) (hd : Eqv.dep α ≤ 64) : SeqAt.shaped (Eqv.py a) = true := by
  show ((Eqv.py a).canLay0 && decide ((Eqv.py a).depth ≤ 64)) = true
  rw [Bool.and_eq_true]
  exact ⟨Eqv.lay a h, decide_eq_true (Nat.le_trans (Eqv.deep a) hd)⟩
theorem sr_eqD [Rp α] [DecidableEq α] [Eqv α] {K : PySem.W.Frag} (hd : Eqv.dep α ≤ 64) : SemR2 K (rEqD K) Ow.v (fun (a b : α) => eqM a b) := fun HF H v w a b c s ra rb hc Q k => by
  obtain ⟨u, e1, hc⟩ := bind_ok hc
  cases pure_ok hc
  have e2 := gd_ok e1
  rw [Bool.and_eq_true] at e2
  refine ⟨_, _, Eqv.dp (Rp.mono s ra), Eqv.dp (Rp.mono s rb), eqv_shaped e2.1 hd, eqv_shaped e2.2 hd, ?_⟩
  rw [Eqv.eqv]; exact k.flat s
/-! ### truth -/
theorem et_val {m : M Bool} {t : TE} (h : EX X Γ e Ow.v m t) (he : ∀ whole, isTrue e X.env whole = (do let v ← whole; standAt e.pos; holding [v] (truthy v)) := by intro _; rfl) : ET X Γ e m (tB t) :=
  ⟨pt_val h.pe he, fun HF0 G HF H σ g c hc Q k => h.sem HF0 G HF H σ g c hc _ fun v HF' H' fp s r _ _ => ⟨c, r.1, k HF' H' s⟩⟩
def bNot (m : M Bool) : M Bool := do let a ← m; pure (!a)
def bAnd (m n : M Bool) : M Bool := do let a ← m; if a then n else pure false
def bOr (m n : M Bool) : M Bool := do let a ← m; if a then pure true else n
variable {m n : M Bool} {t u : TT} {rest : List Expr}
theorem et_not (h : ET X Γ e m t) : ET X Γ (.UnaryOp .Not e pos) (bNot m) (tNot t) :=
  ⟨pt_not h.pt, fun HF0 G HF H σ g c hc Q k => by
    obtain ⟨x, e1, hc⟩ := bind_ok hc
    cases pure_ok hc
    exact h.sem HF0 G HF H σ g x e1 _ fun HF' H' s => k HF' H' s⟩
theorem ew_pt (h : EW X Γ e m t) : ET X Γ e m t := ⟨h.pw.pt, h.sem⟩
theorem ew_and1 (h : ET X Γ a m t) : EW X Γ (.BoolOp .And [a] pos) m t := ⟨pw_and1 h.pt, h.sem⟩
theorem ew_or1 (h : ET X Γ a m t) : EW X Γ (.BoolOp .Or [a] pos) m t := ⟨pw_or1 h.pt, h.sem⟩
theorem semT_and {K : PySem.W.Frag} (h : SemT K Γ t m) (h' : SemT K Γ u n) : SemT K Γ (tAnd t u) (bAnd m n) := fun HF0 G HF H σ g c hc Q k => by
  obtain ⟨x, e1, hc⟩ := bind_ok hc
  refine h HF0 G HF H σ g x e1 _ fun HF' H' s => ?_
  cases x with
  | true => exact iteT (h' HF0 G HF' H' σ (g.step s) c hc Q fun HF2 H2 s2 => k HF2 H2 (s.trans s2))
  | false =>
    cases pure_ok (show (pure false : M Bool) = .ok c from hc)
    exact iteF (k HF' H' s)
theorem semT_or {K : PySem.W.Frag} (h : SemT K Γ t m) (h' : SemT K Γ u n) : SemT K Γ (tOr t u) (bOr m n) := fun HF0 G HF H σ g c hc Q k => by
  obtain ⟨x, e1, hc⟩ := bind_ok hc
  refine h HF0 G HF H σ g x e1 _ fun HF' H' s => ?_
  cases x with
  | false => exact iteF (h' HF0 G HF' H' σ (g.step s) c hc Q fun HF2 H2 s2 => k HF2 H2 (s.trans s2))
  | true =>
    cases pure_ok (show (pure true : M Bool) = .ok c from hc)
    exact iteT (k HF' H' s)
theorem ew_and (h : ET X Γ a m t) (h' : EW X Γ (.BoolOp .And (b :: rest) pos) n u) : EW X Γ (.BoolOp .And (a :: b :: rest) pos) (bAnd m n) (tAnd t u) := ⟨pw_and h.pt h'.pw, semT_and h.sem h'.sem⟩
theorem ew_or (h : ET X Γ a m t) (h' : EW X Γ (.BoolOp .Or (b :: rest) pos) n u) : EW X Γ (.BoolOp .Or (a :: b :: rest) pos) (bOr m n) (tOr t u) := ⟨pw_or h.pt h'.pw, semT_or h.sem h'.sem⟩
theorem ex_one {op} {m : M Bool} {t : TE} (h : EX X Γ a Ow.v m t) : EX X Γ (.BoolOp op [a] pos) Ow.v m t := ⟨pe_one h.pe, h.sem⟩
variable {t u : TE}
theorem ex_not (h : EX X Γ e Ow.v m t) : EX X Γ (.UnaryOp .Not e pos) Ow.v (bNot m) (tNotV t) :=
  ⟨pe_not h.pe, fun HF0 G HF H σ g c hc Q k => by
    obtain ⟨x, e1, hc⟩ := bind_ok hc
    cases pure_ok hc
    exact h.sem HF0 G HF H σ g x e1 _ fun v HF' H' fp s r _ _ => ⟨x, r.1, (k.back s).flat s.sub⟩⟩
theorem ex_and (h : EX X Γ a Ow.v m t) (h' : EX X Γ (.BoolOp .And (b :: rest) pos) Ow.v n u) : EX X Γ (.BoolOp .And (a :: b :: rest) pos) Ow.v (bAnd m n) (tAndV t u) :=
  ⟨pe_and h.pe h'.pe, fun HF0 G HF H σ g c hc Q k => by
    obtain ⟨x, e1, hc⟩ := bind_ok hc
    refine h.sem HF0 G HF H σ g x e1 _ fun v HF' H' fp s r _ _ => ⟨x, r.1, ?_⟩
    cases x with
    | true => exact iteT (h'.sem HF0 G HF' H' σ (g.step s) c hc Q (k.back s))
    | false =>
      cases pure_ok (show (pure false : M Bool) = .ok c from hc)
      exact iteF ((k.back s).flat s.sub)⟩
theorem ex_or (h : EX X Γ a Ow.v m t) (h' : EX X Γ (.BoolOp .Or (b :: rest) pos) Ow.v n u) : EX X Γ (.BoolOp .Or (a :: b :: rest) pos) Ow.v (bOr m n) (tOrV t u) :=
  ⟨pe_or h.pe h'.pe, fun HF0 G HF H σ g c hc Q k => by
    obtain ⟨x, e1, hc⟩ := bind_ok hc
    refine h.sem HF0 G HF H σ g x e1 _ fun v HF' H' fp s r _ _ => ⟨x, r.1, ?_⟩
    cases x with
    | false => exact iteF (h'.sem HF0 G HF' H' σ (g.step s) c hc Q (k.back s))
    | true =>
      cases pure_ok (show (pure true : M Bool) = .ok c from hc)
      exact iteT ((k.back s).flat s.sub)⟩
end
end Ty

namespace Ty
open PySem L2

/-! ### arguments -/
structure As (A : Type) where
  rep : PySem.W.Frag → Hp → List V → A → Prop
  mono : ∀ {K : PySem.W.Frag} {H H' : Hp} {vs : List V} {a : A}, Same H H' → rep K H vs a → rep K H' vs a
  n : Nat
  len : ∀ {K : PySem.W.Frag} {H : Hp} {vs : List V} {a : A}, rep K H vs a → vs.length = n
  ctx : A → Ctx
  held : ∀ {K : PySem.W.Frag} {HF H : Hp} {vs : List V} {a : A} (k : Nat), rep K HF vs a → Holds K HF H (ctx a ++ List.replicate k .un) (vs.map some ++ List.replicate k none) []
theorem held_un {K : PySem.W.Frag} {HF H : Hp} : ∀ k : Nat, Holds K HF H (List.replicate k .un) (List.replicate k none) []
  | 0 => rfl
  | k + 1 => ⟨[], [], rfl, rfl, held_un k⟩
def As.nil : As Unit where
  rep _ _ vs _ := vs = []
  mono _ h := h
  n := 0
  len h := by rw [h]; rfl
  ctx _ := []
  held k h := by rw [h]; exact held_un k
def As.cons {α B : Type} [Rp α] (r : As B) : As (α × B) where
  rep K H vs x := ∃ v ws, vs = v :: ws ∧ Rp.sh K H v x.1 ∧ r.rep K H ws x.2
  mono := fun e ⟨v, ws, h1, h2, h3⟩ => ⟨v, ws, h1, Rp.mono e h2, r.mono e h3⟩
  n := r.n + 1
  len := fun ⟨v, ws, h1, h2, h3⟩ => by rw [h1, List.length_cons, r.len h3]
  ctx x := .mk Ow.v x.1 :: r.ctx x.2
  held := fun k ⟨v, ws, h1, h2, h3⟩ => by
    subst h1
    exact ⟨[], [], rfl, ⟨v, rfl, h2, rfl⟩, r.held k h3⟩
def SemA {A : Type} (K : PySem.W.Frag) (Γ : Ctx) (t : TA) (r : As A) (m : M A) : Prop :=
  ∀ HF0 G HF H σ, Good K HF0 G Γ HF H σ → ∀ a, m = .ok a → ∀ Q : List V → Hp → Prop, (∀ vs HF' H', Step HF H HF' H' → r.rep K HF' vs a → Q vs H') → t σ H Q
structure EA {A : Type} (X : Cx) (Γ : Ctx) (es : List Expr) (r : As A) (m : M A) (t : TA) : Prop where
  pa : PA X es t
  sem : SemA X.K Γ t r m
section
variable {X : Cx} {Γ : Ctx} {α β γ A B : Type} {a b e : Expr} {es : List Expr} {pos p apos : Pos} {ta tb te : TE} {t : TA}
theorem ea_nil : EA X Γ [] As.nil (pure ()) tNil := ⟨pa_nil, fun HF0 G HF H σ g c hc Q k => k [] HF H (Step.refl g.sub) rfl⟩
theorem ea_cons [Rp α] {r : As B} {m : M α} {n : M B} (h : EX X Γ e Ow.v m te) (h' : EA X Γ es r n t) (hs : starEach (e :: es) X.env = (false, eval e X.env) :: starEach es X.env := by rfl) :
    EA X Γ (e :: es) (As.cons (α := α) r) (do let a ← m; let b ← n; pure (a, b)) (tCons te t) :=
  ⟨pa_cons h.pe h'.pa hs, fun HF0 G HF H σ g c hc Q k => by
    obtain ⟨x, e1, hc⟩ := bind_ok hc
    obtain ⟨y, e2, hc⟩ := bind_ok hc
    cases pure_ok hc
    refine h.sem HF0 G HF H σ g x e1 _ fun v HF1 H1 fp s1 r1 _ _ => ?_
    refine h'.sem HF0 G HF1 H1 σ (g.step s1) y e2 _ fun vs HF2 H2 s2 r2 => ?_
    exact k (v :: vs) HF2 H2 (s1.trans s2) ⟨v, vs, rfl, Rp.mono s2.exF r1.1, r2⟩⟩
/-! ### a builtin called -/
def SemC1 [Rp α] [Rp γ] (K : PySem.W.Frag) (r : List V → Hp → VK → Prop) (o : Ow γ) (f : α → M γ) : Prop :=
  ∀ HF H v a c, Same HF H → Rp.sh K HF v a → f a = .ok c → ∀ Q : VK, RetK K HF H o c Q → r [v] H Q
def SemC2 [Rp α] [Rp β] [Rp γ] (K : PySem.W.Frag) (r : List V → Hp → VK → Prop) (o : Ow γ) (f : α → β → M γ) : Prop :=
  ∀ HF H v w a b c, Same HF H → Rp.sh K HF v a → Rp.sh K HF w b → f a b = .ok c → ∀ Q : VK, RetK K HF H o c Q → r [v, w] H Q
theorem semC1_run [Rp α] [Rp γ] {K : PySem.W.Frag} {r : List V → Hp → VK → Prop} {o : Ow γ} {f : α → M γ} {m : M α} (hr : SemC1 K r o f) (ha : SemE K Γ te Ow.v m) : SemE K Γ (tCB r (tCons te tNil)) o (do let a ← m; f a) := fun HF0 G HF H σ g c hc Q k => by
  obtain ⟨x, e1, hc⟩ := bind_ok hc
  exact ha HF0 G HF H σ g x e1 _ fun v HF1 H1 fp s1 r1 _ _ => hr HF1 H1 v x c s1.sub r1.1 hc Q (k.back s1)
theorem semC2_run [Rp α] [Rp β] [Rp γ] {K : PySem.W.Frag} {r : List V → Hp → VK → Prop} {o : Ow γ} {f : α → β → M γ} {m : M α} {n : M β} (hr : SemC2 K r o f) (ha : SemE K Γ ta Ow.v m) (hb : SemE K Γ tb Ow.v n) : SemE K Γ (tCB r (tCons ta (tCons tb tNil))) o (do let a ← m; let b ← n; f a b) := fun HF0 G HF H σ g c hc Q k => by
  obtain ⟨x, e1, hc⟩ := bind_ok hc
  obtain ⟨y, e2, hc⟩ := bind_ok hc
  refine ha HF0 G HF H σ g x e1 _ fun v HF1 H1 fp s1 r1 _ _ => ?_
  refine hb HF0 G HF1 H1 σ (g.step s1) y e2 _ fun w HF2 H2 fp2 s2 r2 _ _ => ?_
  exact hr HF2 H2 v w x y c s2.sub (Rp.mono s2.exF r1.1) r2.1 hc Q (k.back (s1.trans s2))
section
variable {id T : String} {x : Str} {r : List V → Hp → VK → Prop}
theorem ex_b1 [Rp α] [Rp γ] {o : Ow γ} {f : α → M γ} {m : M α} (hc : CallR X (.builtin id) r) (hr : SemC1 X.K r o f) (hv : bootBuiltins x = some (.builtin id)) (hm : X.mg x = none) (ha : EX X Γ a Ow.v m ta) (hg : Gl X x := by rfl) (hn : x ≠ "__name__" := by decide) (hdb : (x == ("__debug__" : Str)) = false := by decide)
    (h1 : starEach [a] X.env = (false, eval a X.env) :: starEach [] X.env := by rfl) (hpl : (backTo pos (starEach [] X.env)).any (·.1) = false := by rfl) : EX X Γ (.Call (.Name x p) [a] [] pos) o (do let a ← m; f a) (tCB r (tCons ta tNil)) :=
  ⟨pe_callB hc hg hm hv (pa_cons ha.pe pa_nil h1) hn hdb h1 hpl, semC1_run hr ha.sem⟩
theorem ex_t1 [Rp α] [Rp γ] {o : Ow γ} {f : α → M γ} {m : M α} (hc : CallR X (.type T) r) (hr : SemC1 X.K r o f) (hv : bootBuiltins x = some (.type T)) (hm : X.mg x = none) (ha : EX X Γ a Ow.v m ta) (hg : Gl X x := by rfl) (hn : x ≠ "__name__" := by decide) (hdb : (x == ("__debug__" : Str)) = false := by decide)
    (h1 : starEach [a] X.env = (false, eval a X.env) :: starEach [] X.env := by rfl) (hpl : (backTo pos (starEach [] X.env)).any (·.1) = false := by rfl) : EX X Γ (.Call (.Name x p) [a] [] pos) o (do let a ← m; f a) (tCB r (tCons ta tNil)) :=
  ⟨pe_callTy hc hg hm hv (pa_cons ha.pe pa_nil h1) hn hdb h1 hpl, semC1_run hr ha.sem⟩
theorem ex_b2 [Rp α] [Rp β] [Rp γ] {o : Ow γ} {f : α → β → M γ} {m : M α} {n : M β} (hc : CallR X (.builtin id) r) (hr : SemC2 X.K r o f) (hv : bootBuiltins x = some (.builtin id)) (hm : X.mg x = none) (ha : EX X Γ a Ow.v m ta) (hb : EX X Γ b Ow.v n tb) (hg : Gl X x := by rfl) (hn : x ≠ "__name__" := by decide) (hdb : (x == ("__debug__" : Str)) = false := by decide)
    (h1 : starEach [a, b] X.env = (false, eval a X.env) :: starEach [b] X.env := by rfl) (h2 : starEach [b] X.env = (false, eval b X.env) :: starEach [] X.env := by rfl) (hpl : (backTo pos (starEach [b] X.env)).any (·.1) = false := by rfl) : EX X Γ (.Call (.Name x p) [a, b] [] pos) o (do let a ← m; let b ← n; f a b) (tCB r (tCons ta (tCons tb tNil))) :=
  ⟨pe_callB hc hg hm hv (pa_cons ha.pe (pa_cons hb.pe pa_nil h2) h1) hn hdb h1 hpl, semC2_run hr ha.sem hb.sem⟩
end
/-! ### len -/
def rLenQ (K : PySem.W.Frag) : List V → Hp → VK → Prop := fun xs H Q => ∃ p ys, xs = [.ref p] ∧ (SqL K H p ys ∨ SqT K H p ys) ∧ Q (.int ys.length) H
theorem cr_lenQ : CallR X (.builtin "len") (rLenQ X.K) := call_len_seq
theorem sc_lenL [Rp α] {K : PySem.W.Frag} : SemC1 K (rLenQ K) Ow.v (fun (x : List α) => pure (x.length : Int)) := fun HF H v a c s ⟨q, us, e, h1, h2⟩ hc Q k => by
  cases pure_ok hc
  subst e
  refine ⟨q, us, rfl, .inl (SqL.of (s _ _ h1)), ?_⟩
  rw [h2.len]; exact k.flat s
theorem sc_lenScr {K : PySem.W.Frag} : SemC1 K (rLenQ K) Ow.v (fun (x : Scr) => pure (x.l.length : Int)) := fun HF H v a c s ⟨q, e, h1⟩ hc Q k => by
  cases pure_ok hc
  subst e
  refine ⟨q, _, rfl, .inl (s.seq h1), ?_⟩
  rw [List.length_map]; exact k.flat s
theorem ex_lenL {K : PySem.W.Frag} [Rp α] {m : M (List α)} (ml : X.mg "len" = none) (h : EX X Γ e Ow.v m te) (hg : Gl X "len" := by rfl) (h1 : starEach [e] X.env = (false, eval e X.env) :: starEach [] X.env := by rfl) (hK : X.K = K := by rfl) : EX X Γ (.Call (.Name "len" p) [e] [] pos) Ow.v (do let a ← m; pure (a.length : Int)) (tCB (rLenQ K) (tCons te tNil)) := by
  subst hK
  exact ex_b1 cr_lenQ sc_lenL PySem.boot_len ml h hg (h1 := h1)
theorem ex_lenScr {K : PySem.W.Frag} {m : M Scr} (ml : X.mg "len" = none) (h : EX X Γ e Ow.v m te) (hg : Gl X "len" := by rfl) (h1 : starEach [e] X.env = (false, eval e X.env) :: starEach [] X.env := by rfl) (hK : X.K = K := by rfl) : EX X Γ (.Call (.Name "len" p) [e] [] pos) Ow.v (do let a ← m; pure (a.l.length : Int)) (tCB (rLenQ K) (tCons te tNil)) := by
  subst hK
  exact ex_b1 cr_lenQ sc_lenScr PySem.boot_len ml h hg (h1 := h1)
/-! ### items -/
def atM {α : Type} (xs : List α) (i : Int) : M α := ofO (atI xs i)
theorem atI_fa {α : Type} {R : V → α → Prop} {vs : List V} {as : List α} {i : Int} {a : α} (h : Fa R vs as) (e : atI as i = some a) : ∃ v, atI vs i = some v ∧ R v a := by
  unfold atI at e ⊢
  rw [h.len]
  cases q : ixN as.length i with
  | none => rw [q] at e; cases e
  | some j =>
    rw [q] at e
    exact Fa.get' h e
theorem sr_ixL [Rp α] {K : PySem.W.Frag} : SemR2 K (rIxL K) Ow.v (fun (x : List α) (i : Int) => atM x i) := fun HF H v w a b c s ⟨q, us, e, h1, h2⟩ rb hc Q k => by
  subst e
  cases rb
  obtain ⟨y, e1, r1⟩ := atI_fa h2 (ofO_ok hc)
  exact ⟨q, us, b, y, rfl, rfl, SqL.of (s _ _ h1), e1, k.shv s r1⟩
theorem sr_ixScr {K : PySem.W.Frag} : SemR2 K (rIxL K) Ow.v (fun (x : Scr) (i : Int) => atM x.l i) := fun HF H v w a b c s ⟨q, e, h1⟩ rb hc Q k => by
  subst e
  cases rb
  obtain ⟨y, e1, r1⟩ := atI_fa (Fa.flat (K := K) (H := H).mpr rfl) (ofO_ok hc)
  exact ⟨q, _, b, y, rfl, rfl, s.seq h1, e1, by rw [Fl.sh_iff.mp r1]; exact k.flat s⟩
def sgS (c : Nat) : Str := ⟨#[c]⟩
theorem ex_ix [Rp α] [Rp β] [Rp γ] {r : R2} {f : α → β → M γ} {o : Ow γ} {m : M α} {n : M β} (hi : IxR X r) (hr : SemR2 X.K r o f) (ha : EX X Γ a Ow.v m ta) (hb : EX X Γ b Ow.v n tb) (hs : PlainIx b := by intro _ _; rfl) : EX X Γ (.Subscript a b pos) o (do let a ← m; let b ← n; f a b) (tOp r ta tb) := ⟨pe_ix hi ha.pe hb.pe hs, sem_op hr ha.sem hb.sem⟩
theorem ex_ixL {K : PySem.W.Frag} [Rp α] {m : M (List α)} {n : M Int} (ha : EX X Γ a Ow.v m ta) (hb : EX X Γ b Ow.v n tb) (hs : PlainIx b := by intro _ _; rfl) (hK : X.K = K := by rfl) : EX X Γ (.Subscript a b pos) Ow.v (do let a ← m; let b ← n; atM a b) (tOp (rIxL K) ta tb) := by
  subst hK
  exact ex_ix ix_list sr_ixL ha hb hs
theorem ex_ixScr {K : PySem.W.Frag} {m : M Scr} {n : M Int} (ha : EX X Γ a Ow.v m ta) (hb : EX X Γ b Ow.v n tb) (hs : PlainIx b := by intro _ _; rfl) (hK : X.K = K := by rfl) : EX X Γ (.Subscript a b pos) Ow.v (do let a ← m; let b ← n; atM a.l b) (tOp (rIxL K) ta tb) := by
  subst hK
  exact ex_ix ix_list sr_ixScr ha hb hs
/-! ### slices, +, *, list(..) -/
structure EO (X : Cx) (Γ : Ctx) (e : Option Expr) (m : M (Option Int)) (t : TO) : Prop where
  po : PO X e t
  sem : ∀ HF0 G HF H σ, Good X.K HF0 G Γ HF H σ → ∀ a, m = .ok a → ∀ Q : Option Int → Hp → Prop, (∀ HF' H', Step HF H HF' H' → Q a H') → t σ H Q
def szB (n : Nat) : Bool := decide (n ≤ sizeLine)
/-! ### displays -/
def SemL [Rp α] (K : PySem.W.Frag) (Γ : Ctx) (t : TA) (o : Ow α) (m : M (List α)) : Prop :=
  ∀ HF0 G HF H σ, Good K HF0 G Γ HF H σ → ∀ a, m = .ok a → ∀ Q : List V → Hp → Prop, (∀ vs HF' H' fp, Step HF H HF' H' → Rl (o.rep K HF' H') vs a fp → fp.Nodup → (∀ p ∈ fp, H p = none ∧ HF' p = none) → Q vs H') → t σ H Q
structure EL [Rp α] (X : Cx) (Γ : Ctx) (es : List Expr) (o : Ow α) (m : M (List α)) (t : TA) : Prop where
  pa : PA X es t
  sem : SemL X.K Γ t o m
theorem el_nil [Rp α] {o : Ow α} : EL X Γ [] o (pure []) tNil := ⟨pa_nil, fun HF0 G HF H σ g c hc Q k => by cases pure_ok hc; exact k [] HF H [] (Step.refl g.sub) rfl List.nodup_nil (fun p hp => by cases hp)⟩
theorem Rl.step [Rp α] {K : PySem.W.Frag} {o : Ow α} {HF H HF' H' : Hp} {vs : List V} {as : List α} {fp : List Addr} (h : Rl (o.rep K HF H) vs as fp) (s : Step HF H HF' H') : Rl (o.rep K HF' H') vs as fp := Rl.mono (fun v a f _ r => o.mono s.exF (fun p _ o e => s.exH p o e) r) h
theorem el_cons [Rp α] {o : Ow α} {m : M α} {n : M (List α)} (h : EX X Γ e o m te) (h' : EL X Γ es o n t) (hs : starEach (e :: es) X.env = (false, eval e X.env) :: starEach es X.env := by rfl) :
    EL X Γ (e :: es) o (do let a ← m; let b ← n; pure (a :: b)) (tCons te t) :=
  ⟨pa_cons h.pe h'.pa hs, fun HF0 G HF H σ g c hc Q k => by
    obtain ⟨x, e1, hc⟩ := bind_ok hc
    obtain ⟨y, e2, hc⟩ := bind_ok hc
    cases pure_ok hc
    refine h.sem HF0 G HF H σ g x e1 _ fun v HF1 H1 fp s1 r1 n1 f1 => ?_
    refine h'.sem HF0 G HF1 H1 σ (g.step s1) y e2 _ fun vs HF2 H2 fq s2 r2 n2 f2 => ?_
    have dm := o.dom r1
    refine k (v :: vs) HF2 H2 (fp ++ fq) (s1.trans s2) ⟨fp, fq, rfl, o.mono s2.exF (fun p _ o e => s2.exH p o e) r1, r2⟩ (List.nodup_append.mpr ⟨n1, n2, fun p hp q hq e => ?_⟩) fun p hp => ?_
    · subst e
      obtain ⟨u, hu⟩ := dm p hp
      rw [(f2 p hq).1] at hu; cases hu
    · rcases List.mem_append.mp hp with hp | hp
      · refine ⟨(f1 p hp).1, ?_⟩
        cases q : HF2 p with
        | none => rfl
        | some u =>
          have := s2.new p u q (f1 p hp).2
          obtain ⟨u', hu⟩ := dm p hp
          rw [this] at hu; cases hu
      · exact ⟨s1.exH.free (f2 p hp).1, (f2 p hp).2⟩⟩
/-- a new object over new things -/
theorem RetK.obj [Rp γ] {K : PySem.W.Frag} {HF0 H0 HF H : Hp} {o : Ow γ} {c : γ} {ho : HO} {p : Addr} {fp : List Addr} {Q : VK} (k : RetK K HF0 H0 o c Q) (s : Step HF0 H0 HF H) (hp : H p = none) (r : o.rep K HF (upd H p ho) (.ref p) c (p :: fp)) (n : fp.Nodup) (f : ∀ q ∈ fp, H0 q = none ∧ HF q = none) (hd : ∀ q ∈ fp, ∃ u, H q = some u) : Q (.ref p) (upd H p ho) :=
  k (.ref p) HF (upd H p ho) (p :: fp) (s.trans (Step.own s.sub hp)) r (List.nodup_cons.mpr ⟨fun hm => (by obtain ⟨u, hu⟩ := hd p hm; rw [hp] at hu; cases hu), n⟩) fun q hq => by
    rcases List.mem_cons.mp hq with e | hq
    · subst e; exact ⟨s.exH.free hp, s.sub.free hp⟩
    · exact f q hq
def lstM {α : Type} (as : List α) : M (List α) := do gd (szB as.length); pure as
theorem upd_keep {H : Hp} {p : Addr} {o : HO} (hp : H p = none) : ∀ q, ∀ u, H q = some u → upd H p o q = some u := fun q u e => by rw [upd_ne (ne_of_none e hp)]; exact e
theorem ex_lst [Rp α] {o : Ow α} {m : M (List α)} (h : EL X Γ es o m t) : EX X Γ (.List es pos) (Ow.l o) (do let a ← m; lstM a) (tLst t) :=
  ⟨pe_lst h.pa, fun HF0 G HF H σ g c hc Q k => by
    obtain ⟨x, e1, hc⟩ := bind_ok hc
    obtain ⟨u, e2, hc⟩ := bind_ok hc
    cases pure_ok hc
    refine h.sem HF0 G HF H σ g _ e1 _ fun vs HF1 H1 fp s1 r1 n1 f1 => ⟨by rw [r1.len]; exact of_decide_eq_true (gd_ok e2), fun p hp => ?_⟩
    exact k.obj s1 hp ⟨p, vs, fp, rfl, rfl, upd_same, Rl.mono (fun v a f _ r => o.mono (Same.refl _) (fun q _ u e => upd_keep hp q u e) r) r1⟩ n1 f1 (Rl.dom (fun v a f r => o.dom r) r1)⟩
end
end Ty

namespace Ty
open PySem L2

theorem of_blt {i n : Nat} (h : Nat.blt i n = true) : i < n := Nat.le_of_ble_eq_true h
/-! ### targets -/
/-- from a thing a, its value v, at Γ: behind the target stands Γ'; only the slots js change -/
def SemG {α : Type} [Rp α] (K : PySem.W.Frag) (Γ : Ctx) (g : TG) (a : α) (Γ' : Ctx) (js : List Nat) : Prop :=
  ∀ HF0 G HF H σ v, Good K HF0 G Γ HF H σ → Rp.sh K HF v a → ∀ Q : L2.St → Hp → Prop, (∀ σ', Good K HF0 G Γ' HF H σ' → σ'.length = σ.length → (∀ k, k ∉ js → σ'[k]? = σ[k]?) → Q σ' H) → g v σ H Q
structure EG {α : Type} [Rp α] (X : Cx) (Γ : Ctx) (tg : Expr) (g : TG) (a : α) (Γ' : Ctx) (js : List Nat) : Prop where
  pg : PG X tg g
  sem : SemG X.K Γ g a Γ' js
theorem Good.putO {α : Type} [Rp α] {K : PySem.W.Frag} {HF0 G HF H : Hp} {Γ : Ctx} {σ : L2.St} {i : Nat} {v : V} {a : α} {o : Ow α} {f : List Addr} (g : Good K HF0 G Γ HF H σ) (hi : i < Γ.length) (r : o.rep K HF H v a f) (nd : f.Nodup) (fr : ∀ fs, Holds K HF H Γ σ fs → ∀ p ∈ f, (HF p = none ∧ G p = none) ∧ p ∉ fs) : Good K HF0 G (put Γ i (.mk o a)) HF H (σ.set i (some v)) := by
  obtain ⟨fs, h1, h2, h3⟩ := g.held
  obtain ⟨fo, fr', q1, q2, q3, q4⟩ := h1.put hi
  obtain ⟨n1, n2, n3⟩ := q3 h2
  obtain ⟨fs', w1, w2, w3⟩ := q4 (HF' := HF) (H' := H) (s := .mk o a) (x := some v) (f := f) (fun _ h => h) (fun _ h => h) ⟨v, rfl, r⟩
  refine ⟨g.sub, g.f0, g.g0, g.nf, fs', w1, w3 n1 nd fun p hp hq => (fr fs h1 p hp).2 ((q2 p).mpr (.inr hq)), fun p hp => ?_⟩
  rcases (w2 p).mp hp with z | z
  · exact (fr fs h1 p z).1
  · exact h3 p ((q2 p).mpr (.inr z))
theorem Good.putv {α : Type} [Rp α] {K : PySem.W.Frag} {HF0 G HF H : Hp} {Γ : Ctx} {σ : L2.St} {i : Nat} {v : V} {a : α} (g : Good K HF0 G Γ HF H σ) (hi : i < Γ.length) (r : Rp.sh K HF v a) : Good K HF0 G (put Γ i (.mk Ow.v a)) HF H (σ.set i (some v)) :=
  g.putO hi (o := Ow.v) ⟨r, rfl⟩ List.nodup_nil fun _ _ p hp => by cases hp
theorem Good.len {K : PySem.W.Frag} {HF0 G HF H : Hp} {Γ : Ctx} {σ : L2.St} (g : Good K HF0 G Γ HF H σ) : Γ.length = σ.length := by
  obtain ⟨fs, h1, _, _⟩ := g.held
  exact h1.len
section
variable {X : Cx} {Γ : Ctx} {α β γ A B : Type} {a b e : Expr} {es : List Expr} {pos p apos : Pos} {ta tb te : TE} {t : TA}
theorem eg_name [Rp α] (i : Nat) {x : Str} {a : α} (hN : X.N.Nodup) (hlt : Nat.blt i Γ.length = true := by rfl) (hi : X.N[i]? = some x := by rfl) (hx : Loc X.env.scope x := by first | exact .inl rfl | exact .inr rfl) (hf : X.fn x = true ∨ X.env.scope.names.lookup x = some .local := by first | exact .inl rfl | exact .inr rfl) : EG X Γ (.Name x pos) (gName i) a (put Γ i (.mk Ow.v a)) [i] :=
  ⟨pg_name hN hi hx hf, fun HF0 G HF H σ v g r Q k => k _ (g.putv (of_blt hlt) r) (by rw [List.length_set]) fun j hj => by
    rw [List.getElem?_set_ne]
    intro e; subst e; exact hj (by simp)⟩
theorem eg_pair {K : PySem.W.Frag} [Rp α] [Rp β] {Γ1 Γ2 : Ctx} {js ks : List Nat} {x y : Expr} {kk : Nat} {g1 g2 : TG} {u : α × β} (hc : X.calm = true) (h1 : EG X Γ x g1 u.1 Γ1 js) (h2 : EG X Γ1 y g2 u.2 Γ2 ks)
    (hs : (assignEach [y] X.env).map (fun x => x.2) = assign y X.env :: (assignEach [] X.env).map (fun x => x.2) := by rfl) (hs2 : (assignEach [x, y] X.env).map (fun x => x.2) = assign x X.env :: (assignEach [y] X.env).map (fun x => x.2) := by rfl)
    (hpg : PGs X [x, y] (gCons g1 (gCons g2 gNil)) → PG X (.Tuple [x, y] kk pos) (gTup X.K 2 (gCons g1 (gCons g2 gNil))) := by exact fun h => pg_tup (by first | rfl | assumption) h) (hK : X.K = K := by rfl) : EG X Γ (.Tuple [x, y] kk pos) (gTup K 2 (gCons g1 (gCons g2 gNil))) u Γ2 (js ++ ks) := by
  subst hK
  exact ⟨hpg (pgs_cons h1.pg (pgs_cons h2.pg pgs_nil hs) hs2), fun HF0 G HF H σ v g ⟨q, va, vb, e1, e2, e3, e4⟩ Q k => by
    refine ⟨q, [va, vb], e1, sqT_mono g.sub e2, rfl, va, [vb], rfl, ?_⟩
    refine h1.sem HF0 G HF H σ va g e3 _ fun σ1 G1 l1 s1 => ⟨vb, [], rfl, ?_⟩
    refine h2.sem HF0 G HF H σ1 vb G1 e4 _ fun σ2 G2 l2 s2 => ⟨rfl, ?_⟩
    exact k σ2 G2 (l2.trans l1) fun j hj => (s2 j fun z => hj (List.mem_append_right _ z)).trans (s1 j fun z => hj (List.mem_append_left _ z))⟩
/-! ### what is walked -/
def Walks {α : Type} [Rp α] (K : PySem.W.Frag) (J : It) (HF1 : Hp) (xs : List α) : Prop :=
  ∀ HF2 H2 i, Same HF1 HF2 → Same HF2 H2 → (∀ x, xs[i]? = some x → J.go i H2 ∧ ∀ v H3, J.yld i H2 v H3 → ∃ HF3, Step HF2 H2 HF3 H3 ∧ Rp.sh K HF3 v x) ∧ (xs.length ≤ i → J.stop i H2)
def SemI {α : Type} [Rp α] (K : PySem.W.Frag) (Γ : Ctx) (wi : TI) (m : M (List α)) : Prop :=
  ∀ HF0 G HF H σ, Good K HF0 G Γ HF H σ → ∀ xs, m = .ok xs → ∀ R : It → Hp → Prop, (∀ J HF' H', Step HF H HF' H' → Walks K J HF' xs → R J H') → wi σ H R
structure EI {α : Type} [Rp α] (X : Cx) (Γ : Ctx) (tg iter : Expr) (m : M (List α)) (wi : TI) : Prop where
  pi : PI X tg iter wi
  sem : SemI X.K Γ wi m
variable {tg : Expr}
theorem ei_list' [Rp α] {K : PySem.W.Frag} {HF2 H2 HF : Hp} {q : Addr} {us : List V} {xs : List α} {i : Nat} (h1 : SqL K H2 q us) (h2 : Fa (Rp.sh K HF) us xs) (s1 : Same HF HF2) (s2 : Same HF2 H2) : (∀ x, xs[i]? = some x → (Itl K q).go i H2 ∧ ∀ v H3, (Itl K q).yld i H2 v H3 → ∃ HF3, Step HF2 H2 HF3 H3 ∧ Rp.sh K HF3 v x) ∧ (xs.length ≤ i → (Itl K q).stop i H2) := by
  refine ⟨fun x hx => ?_, fun hle => ⟨us, h1, by rw [h2.len]; exact hle⟩⟩
  obtain ⟨v, hv, r⟩ := h2.get' hx
  refine ⟨⟨us, v, h1, hv⟩, fun w H3 ⟨e, y⟩ => ?_⟩
  subst e
  have : us[i]? = some w := y us h1
  rw [hv] at this
  cases this
  exact ⟨HF2, Step.refl s2, Rp.mono s1 r⟩
theorem ei_list {K : PySem.W.Frag} [Rp α] {m : M (List α)} (h : EX X Γ e Ow.v m te) (hK : X.K = K := by rfl) : EI X Γ tg e m (iList K te) := by
  subst hK
  exact ⟨pi_list h.pe, fun HF0 G HF H σ g xs hc R k => by
    refine h.sem HF0 G HF H σ g xs hc _ fun v HF1 H1 fp s1 r1 _ _ => ?_
    obtain ⟨⟨q, us, e, h1, h2⟩, _⟩ := r1
    exact ⟨q, e, ⟨us, SqL.of (s1.sub _ _ h1)⟩, k _ HF1 H1 s1 fun HF2 H2 i a b => ei_list' (SqL.of (b _ _ (a _ _ h1))) h2 a b⟩⟩
/-- lo, lo + 1, .. below hi -/
def rangeL (lo hi : Int) : List Int := (List.range (hi - lo).toNat).map fun (k : Nat) => lo + (k : Int)
theorem rangeL_len (lo hi : Int) : (rangeL lo hi).length = (hi - lo).toNat := by unfold rangeL; rw [List.length_map, List.length_range]
theorem rangeL_get {lo hi x : Int} {i : Nat} (h : (rangeL lo hi)[i]? = some x) : i < (hi - lo).toNat ∧ x = lo + i := by
  unfold rangeL at h
  rw [List.getElem?_map] at h
  cases q : (List.range (hi - lo).toNat)[i]? with
  | none => rw [q] at h; cases h
  | some j =>
    rw [q] at h
    obtain ⟨hlt, e⟩ := List.getElem?_eq_some_iff.mp q
    rw [List.getElem_range] at e
    rw [List.length_range] at hlt
    cases h
    subst e
    exact ⟨hlt, rfl⟩
theorem walks_range {K : PySem.W.Frag} {HF : Hp} (lo hi : Int) : Walks K (Itr lo (hi - lo).toNat) HF (rangeL lo hi) := fun HF2 H2 i s1 s2 => by
  refine ⟨fun x hx => ?_, fun hle => by rw [rangeL_len] at hle; exact hle⟩
  obtain ⟨h1, h2⟩ := rangeL_get hx
  refine ⟨h1, fun v H3 ⟨e, y⟩ => ?_⟩
  subst e
  exact ⟨HF2, Step.refl s2, by rw [y, h2]; rfl⟩
def rgB (j : Int) : Bool := decide (-(2 ^ 62) ≤ j) && decide (j < 2 ^ 62)
def range1 (j : Int) : M (List Int) := do gd (rgB j); pure (rangeL 0 j)
theorem ei_range1 {m : M Int} (hm : X.mg "range" = none) (h : EX X Γ a Ow.v m ta) (hg : Gl X "range" := by rfl) (hs : starEach [a] X.env = [(false, eval a X.env)] := by rfl) : EI X Γ tg (.Call (.Name "range" p) [a] [] pos) (do let a ← m; range1 a) (iRng1 (tCons ta tNil)) :=
  ⟨pi_range1 hg hm (pa_cons h.pe pa_nil (by exact hs)) hs, fun HF0 G HF H σ g xs hc R k => by
    obtain ⟨x, e1, hc⟩ := bind_ok hc
    obtain ⟨u, e2, hc⟩ := bind_ok hc
    cases pure_ok hc
    have e3 := gd_ok e2
    unfold rgB at e3
    rw [Bool.and_eq_true, decide_eq_true_eq, decide_eq_true_eq] at e3
    refine h.sem HF0 G HF H σ g x e1 _ fun v HF1 H1 fp s1 r1 _ _ => ⟨x, by rw [Fl.sh_iff.mp r1.1]; rfl, e3.1, e3.2, ?_⟩
    have w := walks_range (K := X.K) (HF := HF1) 0 x
    rw [Int.sub_zero] at w
    exact k _ HF1 H1 s1 w⟩
/-- a new tuple, shared at once -/
theorem Step.shr {HF H : Hp} {p : Addr} {o : HO} (s : Same HF H) (h : H p = none) : Step HF H (upd HF p o) (upd H p o) := by
  have hF : HF p = none := s.free h
  refine ⟨same_upd hF, same_upd h, fun q u e => ?_, fun q u e1 e2 => ?_⟩
  · by_cases hq : q = p
    · subst hq; rw [upd_same] at e ⊢; exact e
    · rw [upd_ne hq] at e ⊢; exact s q u e
  · by_cases hq : q = p
    · subst hq; exact h
    · rw [upd_ne hq] at e1; rw [e2] at e1; cases e1
def enumL {α : Type} (xs : List α) : List (Int × α) := (xs.zipIdx).map fun x => ((x.2 : Int), x.1)
theorem enumL_get {α : Type} {xs : List α} {i : Nat} {x : Int × α} (h : (enumL xs)[i]? = some x) : x.1 = i ∧ xs[i]? = some x.2 := by
  unfold enumL at h
  rw [List.getElem?_map, List.getElem?_zipIdx] at h
  cases q : xs[i]? with
  | none => rw [q] at h; cases h
  | some y =>
    rw [q] at h
    cases h
    exact ⟨by simp, rfl⟩
theorem enumL_len {α : Type} (xs : List α) : (enumL xs).length = xs.length := by unfold enumL; rw [List.length_map, List.length_zipIdx]
theorem ei_enum {K : PySem.W.Frag} [Rp α] {m : M (List α)} {elts : List Expr} {kk : Nat} {tpos : Pos} (hm : X.mg "enumerate" = none) (h : EX X Γ e Ow.v m te) (hg : Gl X "enumerate" := by rfl) (hs : starEach [e] X.env = [(false, eval e X.env)] := by rfl) (hK : X.K = K := by rfl) : EI X Γ (.Tuple elts kk tpos) (.Call (.Name "enumerate" p) [e] [] pos) (do let a ← m; pure (enumL a)) (iEnum K (tCons te tNil)) := by
  subst hK
  exact ⟨pi_enum hg hm (pa_cons h.pe pa_nil (by exact hs)) hs, fun HF0 G HF H σ g xs hc R k => by
    obtain ⟨x, e1, hc⟩ := bind_ok hc
    cases pure_ok hc
    refine h.sem HF0 G HF H σ g x e1 _ fun v HF1 H1 fp s1 r1 _ _ => ?_
    obtain ⟨⟨q, us, e, h1, h2⟩, _⟩ := r1
    subst e
    refine ⟨q, us, rfl, SqL.of (s1.sub _ _ h1), k _ HF1 H1 s1 fun HF2 H2 i a b => ?_⟩
    have hq : SqL X.K H2 q us := SqL.of (b _ _ (a _ _ h1))
    refine ⟨fun y hy => ?_, fun hle => ⟨us, hq, by rw [enumL_len] at hle; rw [h2.len]; exact hle⟩⟩
    obtain ⟨hy1, hy2⟩ := enumL_get hy
    obtain ⟨v, hv, r⟩ := h2.get' hy2
    refine ⟨⟨us, v, hq, hv⟩, fun w H3 ⟨T, z, e, hT, eH, y⟩ => ?_⟩
    subst e eH
    have : us[i]? = some z := y us hq
    rw [hv] at this
    cases this
    have st := Step.shr (o := .tup [.int (i : Nat), v]) b hT
    exact ⟨_, st, T, .int (i : Nat), v, rfl, SqT.of upd_same, by rw [hy1]; rfl, Rp.mono (a.trans st.exF) r⟩⟩
/-! ### list comprehensions -/
def compL {α β : Type} (t : α → M Bool) (f : α → M β) : List α → M (List β)
  | [] => pure []
  | x :: xs => do
    let b ← t x
    if b then do
      let y ← f x
      let ys ← compL t f xs
      pure (y :: ys)
    else compL t f xs
def compM {α β : Type} (xs : List α) (t : α → M Bool) (f : α → M β) : M (List β) := do gd (decide (xs.length ≤ sizeLine)); compL t f xs
def wipeC (Γ : Ctx) : List Nat → Ctx
  | [] => Γ
  | v :: vs => put (wipeC Γ vs) v .un
theorem Good.un {K : PySem.W.Frag} {HF0 G HF H : Hp} {Γ : Ctx} {σ : L2.St} (g : Good K HF0 G Γ HF H σ) (i : Nat) (x : Option V) (hi : i < Γ.length) : Good K HF0 G (put Γ i .un) HF H (σ.set i x) := by
  obtain ⟨fs, h1, h2, h3⟩ := g.held
  obtain ⟨fo, fr', q1, q2, q3, q4⟩ := h1.put hi
  obtain ⟨n1, n2, n3⟩ := q3 h2
  obtain ⟨fs', w1, w2, w3⟩ := q4 (HF' := HF) (H' := H) (s := .un) (x := x) (f := []) (fun _ h => h) (fun _ h => h) rfl
  exact ⟨g.sub, g.f0, g.g0, g.nf, fs', w1, w3 n1 List.nodup_nil (fun p hp => by cases hp), fun p hp => by
    rcases (w2 p).mp hp with z | z
    · cases z
    · exact h3 p ((q2 p).mpr (.inr z))⟩
theorem put_len : ∀ (Γ : Ctx) (i : Nat) (s : Sl), (put Γ i s).length = Γ.length
  | [], _, _ => rfl
  | _ :: _, 0, _ => rfl
  | _ :: Γ, i + 1, s => congrArg (· + 1) (put_len Γ i s)
theorem wipeC_len (Γ : Ctx) : ∀ vs : List Nat, (wipeC Γ vs).length = Γ.length
  | [] => rfl
  | v :: vs => by unfold wipeC; rw [put_len, wipeC_len Γ vs]
theorem Good.wipe {K : PySem.W.Frag} {HF0 G HF H : Hp} {Γ : Ctx} {σ : L2.St} (g : Good K HF0 G Γ HF H σ) : ∀ vs : List Nat, (∀ i ∈ vs, i < Γ.length) → Good K HF0 G (wipeC Γ vs) HF H (wipe σ vs)
  | [], _ => g
  | v :: vs, h => (Good.wipe g vs fun i hi => h i (List.mem_cons_of_mem _ hi)).un v none (by rw [wipeC_len]; exact h v (List.mem_cons_self ..))
theorem wipe_out' {σ : L2.St} {i : Nat} : ∀ {vs : List Nat}, i ∉ vs → (L2.wipe σ vs)[i]? = σ[i]?
  | [], _ => rfl
  | v :: vs, h => by
    unfold L2.wipe
    rw [List.getElem?_set_ne (fun e => h (by rw [e]; exact List.mem_cons_self ..))]
    exact wipe_out' fun z => h (List.mem_cons_of_mem _ z)
theorem wipe_in {σ : L2.St} {i : Nat} : ∀ {vs : List Nat}, i ∈ vs → i < σ.length → (L2.wipe σ vs)[i]? = some none
  | v :: vs, h, hl => by
    unfold L2.wipe
    by_cases e : v = i
    · subst e
      rw [List.getElem?_set_self (by rw [L2.wipe_length]; exact hl)]
    · rw [List.getElem?_set_ne e]
      exact wipe_in ((List.mem_cons.mp h).resolve_left fun z => e z.symm) hl
theorem wipe_ext {σ σ' : L2.St} {vs : List Nat} (hl : σ'.length = σ.length) (h : ∀ k, k ∉ vs → σ'[k]? = σ[k]?) : L2.wipe σ' vs = L2.wipe σ vs := by
  apply List.ext_getElem?
  intro i
  by_cases hi : i ∈ vs
  · by_cases hlt : i < σ.length
    · rw [wipe_in hi hlt, wipe_in hi (by rw [hl]; exact hlt)]
    · rw [List.getElem?_eq_none (by rw [L2.wipe_length]; omega), List.getElem?_eq_none (by rw [L2.wipe_length]; omega)]
  · rw [wipe_out' hi, wipe_out' hi, h i hi]
structure EF (X : Cx) (Γ : Ctx) (ifs : List Expr) (m : M Bool) (t : TT) : Prop where
  pts : PTs X ifs t
  sem : SemT X.K Γ t m
theorem ef_nil : EF X Γ [] (pure true) tYes := ⟨pts_nil, fun HF0 G HF H σ g c hc Q k => by cases pure_ok hc; exact k HF H (Step.refl g.sub)⟩
/-- behind some turns: the items made, what is left -/
structure Cmp {α β : Type} [Rp α] [Rp β] (K : PySem.W.Frag) (HF1 H1 : Hp) (o : Ow β) (D : Addr) (tm : α → M Bool) (fm : α → M β) (xs : List α) (ys : List β) (i : Nat) (HF H : Hp) : Prop where
  st : Step HF1 H1 HF H
  fD : H1 D = none
  fF : HF D = none
  ex : ∃ vs fp zs rs, H D = some (.lst vs) ∧ Rl (o.rep K HF H) vs zs fp ∧ fp.Nodup ∧ (∀ p ∈ fp, H1 p = none ∧ HF p = none ∧ p ≠ D) ∧ zs.length ≤ i ∧ i ≤ xs.length ∧ compL tm fm (xs.drop i) = .ok rs ∧ zs ++ rs = ys
theorem Step.nn {HF1 H1 HF H : Hp} (s : Step HF1 H1 HF H) {p : Addr} {u : HO} (h : HF1 p = none) (e : H1 p = some u) : HF p = none := by
  cases q : HF p with
  | none => rfl
  | some w =>
    have := s.new p w q h
    rw [e] at this; cases this
theorem Rl.upd {α : Type} [Rp α] {K : PySem.W.Frag} {o : Ow α} {HF H : Hp} {vs : List V} {as : List α} {fp : List Addr} {p : Addr} {u : HO} (h : Rl (o.rep K HF H) vs as fp) (hp : p ∉ fp) : Rl (o.rep K HF (upd H p u)) vs as fp :=
  Rl.mono (fun v a f hf r => o.mono (Same.refl _) (fun q hq w e => by rw [upd_ne (fun z => hp (by rw [← z]; exact hf q hq))]; exact e) r) h
theorem Step.mutD {HF1 H1 HF H : Hp} {D : Addr} {u : HO} (s : Step HF1 H1 HF H) (h : H1 D = none) (hF : HF D = none) : Step HF1 H1 HF (upd H D u) :=
  ⟨s.exF, fun q w e => by rw [upd_ne (ne_of_none e h)]; exact s.exH q w e, fun q w e => by rw [upd_ne (ne_of_none e hF)]; exact s.sub q w e, s.new⟩
theorem ex_lc [Rp α] [Rp β] [Inhabited α] {o : Ow β} {elt iter : Expr} {ifs : List Expr} {scope : Scope} {own : List (Str × Nat)} {wi : TI} {g : TG} {tt : TT} {m : M (List α)} {tm : α → M Bool} {fm : α → M β} {Γt : α → Ctx} {js : List Nat} (hc : X.calm = true) (hN : X.N.Nodup)
    (hi : EI X Γ tg iter m wi) (ok : blkC X.N X.env.scope scope own = true) (hown : (own.map (·.2)).all (fun i => decide (i < Γ.length)) = true) (hjs : js.all (fun i => (own.map (·.2)).contains i) = true)
    (hg : ∀ (s : Shared) (H : Hp) (C : Addr) (cl : List (Str × Addr)) (fp : List Addr) (x : α), EG (X.blk s H scope (compEnvC scope cl C X.env) fp) (wipeC Γ (own.map (·.2))) tg g x (Γt x) js)
    (ht : ∀ (s : Shared) (H : Hp) (C : Addr) (cl : List (Str × Addr)) (fp : List Addr) (x : α), EF (X.blk s H scope (compEnvC scope cl C X.env) fp) (Γt x) ifs (tm x) tt)
    (he : ∀ (s : Shared) (H : Hp) (C : Addr) (cl : List (Str × Addr)) (fp : List Addr) (x : α), EX (X.blk s H scope (compEnvC scope cl C X.env) fp) (Γt x) elt o (fm x) te)
    (hs : ∀ x, foldedSetIterable iter X.env x = pure x := by intro _; rfl) :
    EX X Γ (.ListComp elt [⟨tg, iter, ifs, 0⟩] scope pos) (Ow.l o) (do let xs ← m; compM xs tm fm) (tLc wi g tt te (own.map (·.2))) :=
  ⟨pe_lc hc hN hi.pi (blkOk_by ok) (fun s H C cl fp => (hg s H C cl fp default).pg) (fun s H C cl fp => (ht s H C cl fp default).pts) (fun s H C cl fp => (he s H C cl fp default).pe) hs, fun HF0 G HF H σ gd' ys hys Q k => by
    obtain ⟨xs, e1, hys⟩ := bind_ok hys
    obtain ⟨u, e2, hys⟩ := bind_ok hys
    have hsz : xs.length ≤ sizeLine := of_decide_eq_true (gd_ok e2)
    have hown' : ∀ i ∈ own.map (·.2), i < Γ.length := fun i hi' => of_decide_eq_true (List.all_eq_true.mp hown i hi')
    have hjs' : ∀ k, k ∉ own.map (·.2) → k ∉ js := fun k hk z => hk (by simpa using List.all_eq_true.mp hjs k z)
    refine hi.sem HF0 G HF H σ gd' xs e1 _ fun J HF1 H1 s1 wk D hD => ?_
    have g1 := gd'.step s1
    refine ⟨fun i n H2 => n = xs.length - i ∧ ∃ HF2, Cmp X.K HF1 H1 o D tm fm xs ys i HF2 H2, ⟨xs.length, rfl, HF1, ?_⟩, ?_⟩
    · exact ⟨Step.own s1.sub hD, hD, s1.sub.free hD, [], [], [], ys, upd_same, rfl, List.nodup_nil, (fun p hp => by cases hp), Nat.le_refl _, Nat.zero_le _, hys, rfl⟩
    · rintro i n H2 ⟨rfl, HF2, st, fD, fF, vs, fp, zs, rs, eD, rl, nd, fr, hz, hix, hrs, hzr⟩
      have g2 := g1.step st
      have wk2 := wk HF2 H2 i st.exF st.sub
      have rdom := Rl.dom (fun v a f r => o.dom r) rl
      by_cases hlt : i < xs.length
      · refine .inr ?_
        have hx : xs[i]? = some xs[i] := List.getElem?_eq_getElem hlt
        obtain ⟨hgo, hy⟩ := wk2.1 _ hx
        rw [List.drop_eq_getElem_cons hlt] at hrs
        obtain ⟨b, eb, hrs⟩ := bind_ok hrs
        refine ⟨hgo, fun H' => ∃ HF', Cmp X.K HF1 H1 o D tm fm xs ys (i + 1) HF' H', fun H' h' => ⟨xs.length - (i + 1), by omega, rfl, h'⟩, fun x H3 hyl => ?_⟩
        obtain ⟨HF3, s3, rx⟩ := hy x H3 hyl
        have g3 := (g2.step s3).wipe (own.map (·.2)) hown'
        have hsem := (hg X.s_0 X.H_0 0 [] [] xs[i]).sem
        refine hsem HF0 G HF3 H3 (L2.wipe σ (own.map (·.2))) x g3 rx _ ?_
        intro σ' g4 hl hsame
        refine ⟨?_, ?_⟩
        · rw [wipe_ext (σ := L2.wipe σ (own.map (·.2))) hl fun k hk => hsame k (hjs' k hk)]
          exact wipe_ext (L2.wipe_length _ _) fun k hk => wipe_out' hk
        · have htsem := (ht X.s_0 X.H_0 0 [] [] xs[i]).sem
          refine htsem HF0 G HF3 H3 σ' g4 b eb _ fun HF4 H4 s4 => ?_
          have s34 := s3.trans s4
          have sT := st.trans s34
          cases b with
          | false =>
            refine iteF ⟨HF4, sT, fD, s34.nn fF eD, vs, fp, zs, rs, s34.exH _ _ eD, rl.step s34, nd, fun p hp => ?_, by omega, hlt, hrs, hzr⟩
            obtain ⟨f1, f2, f3⟩ := fr p hp
            obtain ⟨w, hw⟩ := rdom p hp
            exact ⟨f1, s34.nn f2 hw, f3⟩
          | true =>
            obtain ⟨y, ey, hrs⟩ := bind_ok hrs
            obtain ⟨rs', ers, hrs⟩ := bind_ok hrs
            have hr := pure_ok hrs
            have hesem := (he X.s_0 X.H_0 0 [] [] xs[i]).sem
            refine iteT (hesem HF0 G HF4 H4 σ' (g4.step s4) y ey _ fun v HF5 H5 fq s5 r5 n5 f5 => ?_)
            have s35 := s34.trans s5
            have sT5 := st.trans s35
            have eD5 := s35.exH _ _ eD
            have hDF : HF5 D = none := s35.nn fF eD
            have rl5 := rl.step s35
            have hDp : D ∉ fp := fun z => (fr D z).2.2 rfl
            have hDq : D ∉ fq := fun z => by
              have := (f5 D z).1
              rw [s34.exH _ _ eD] at this; cases this
            refine ⟨vs, eD5, ?_, HF5, sT5.mutD fD hDF, fD, hDF, vs ++ [v], fp ++ fq, zs ++ [y], rs', upd_same, ?_, ?_, fun p hp => ?_, ?_, hlt, ers, ?_⟩
            · rw [rl.len]; exact Nat.lt_of_le_of_lt hz (Nat.lt_of_lt_of_le hlt hsz)
            · exact Rl.append (rl5.upd hDp) (Rl.one (o.mono (Same.refl _) (fun q hq w e => by rw [upd_ne (fun z => hDq (by rw [← z]; exact hq))]; exact e) r5))
            · refine List.nodup_append.mpr ⟨nd, n5, fun p hp q hq e => ?_⟩
              subst e
              obtain ⟨w, hw⟩ := rdom p hp
              have := (f5 p hq).1
              rw [s34.exH _ _ hw] at this; cases this
            · rcases List.mem_append.mp hp with z | z
              · obtain ⟨f1, f2, f3⟩ := fr p z
                obtain ⟨w, hw⟩ := rdom p z
                exact ⟨f1, s35.nn f2 hw, f3⟩
              · exact ⟨(st.trans s34).exH.free (f5 p z).1, (f5 p z).2, fun e => hDq (e ▸ z)⟩
            · rw [List.length_append]; exact Nat.succ_le_succ hz
            · rw [List.append_assoc, ← hzr, ← hr]; rfl
      · refine .inl ⟨wk2.2 (by omega), ?_⟩
        have hnil : xs.drop i = [] := List.drop_eq_nil_of_le (by omega)
        rw [hnil] at hrs
        have hr := pure_ok hrs
        rw [← hr, List.append_nil] at hzr
        subst hzr
        exact k (.ref D) HF2 H2 (D :: fp) (s1.trans st) ⟨D, vs, fp, rfl, rfl, eD, rl⟩ (List.nodup_cons.mpr ⟨fun z => (fr D z).2.2 rfl, nd⟩) fun p hp => by
          rcases List.mem_cons.mp hp with e | z
          · subst e; exact ⟨s1.exH.free fD, fF⟩
          · exact ⟨s1.exH.free (fr p z).1, (fr p z).2.1⟩⟩
end
end Ty

namespace Ty
open PySem PySem.Spec PyProof.Rows L2

/-! ### statements -/
inductive Ctl (S L ρ : Type) where
  | nx (s : S)
  | bk (l : L)
  | ct (l : L)
  | rt (r : ρ)
/-- what is wanted of a block's ends: HFs: what was shared ahead of it -/
def EndsOk {S L ρ : Type} [Rp ρ] (K : PySem.W.Frag) (HF0 G HFs : Hp) (Γo : S → Ctx) (ΓL : L → Ctx) (o : Ow ρ) (D : Ends) : Ctl S L ρ → Prop
  | .nx s => ∀ HF H σ, Same HFs HF → Good K HF0 G (Γo s) HF H σ → D.nx σ H
  | .bk s => ∀ HF H σ, Same HFs HF → Good K HF0 G (ΓL s) HF H σ → D.bk σ H
  | .ct s => ∀ HF H σ, Same HFs HF → Good K HF0 G (ΓL s) HF H σ → D.ct σ H
  | .rt r => ∀ v HF H fp, Same HF H → Same HF0 HF → Same G H → (∀ p u, HF p = some u → HF0 p = none → G p = none) → o.rep K HF H v r fp → fp.Nodup → (∀ p ∈ fp, HF p = none ∧ G p = none) → o.out r D.rt v H
theorem EndsOk.mono {S L ρ : Type} [Rp ρ] {K : PySem.W.Frag} {HF0 G HFs HFt : Hp} {Γo : S → Ctx} {ΓL : L → Ctx} {o : Ow ρ} {D : Ends} {c : Ctl S L ρ} (e : Same HFs HFt) (h : EndsOk K HF0 G HFs Γo ΓL o D c) : EndsOk K HF0 G HFt Γo ΓL o D c := by
  cases c with
  | nx s => exact fun HF H σ a b => h HF H σ (e.trans a) b
  | bk s => exact fun HF H σ a b => h HF H σ (e.trans a) b
  | ct s => exact fun HF H σ a b => h HF H σ (e.trans a) b
  | rt r => exact h
def SemS {S L ρ : Type} [Rp ρ] (K : PySem.W.Frag) (Γ : Ctx) (t : TS) (Γo : S → Ctx) (ΓL : L → Ctx) (o : Ow ρ) (m : M (Ctl S L ρ)) : Prop :=
  ∀ HF0 G HF H σ, Good K HF0 G Γ HF H σ → ∀ c, m = .ok c → ∀ D : Ends, EndsOk K HF0 G HF Γo ΓL o D c → t D σ H
structure SS {S L ρ : Type} [Rp ρ] (X : Cx) (Γ : Ctx) (sts : List Stmt) (Γo : S → Ctx) (ΓL : L → Ctx) (o : Ow ρ) (m : M (Ctl S L ρ)) (t : TS) : Prop where
  pss : PSs X sts t
  sem : SemS X.K Γ t Γo ΓL o m
/-- Δ knows no more than Γ -/
inductive Sub : Ctx → Ctx → Prop where
  | n : Sub [] []
  | k {s : Sl} {Γ Δ : Ctx} : Sub Γ Δ → Sub (s :: Γ) (s :: Δ)
  | w {s : Sl} {Γ Δ : Ctx} : Sub Γ Δ → Sub (s :: Γ) (.un :: Δ)
theorem Sub.held {K : PySem.W.Frag} {HF H : Hp} {Γ Δ : Ctx} (h : Sub Γ Δ) : ∀ {σ : L2.St} {fs : List Addr}, Holds K HF H Γ σ fs → ∃ gs, Holds K HF H Δ σ gs ∧ (∀ p ∈ gs, p ∈ fs) ∧ (fs.Nodup → gs.Nodup) := by
  induction h with
  | n => exact fun {σ fs} h => ⟨fs, h, fun _ h => h, fun h => h⟩
  | @k s Γ Δ _ ih =>
    intro σ fs h
    cases σ with
    | nil => exact h.elim
    | cons x σ =>
      obtain ⟨f1, f2, h1, h2, h3⟩ := h
      obtain ⟨gs, q1, q2, q3⟩ := ih h3
      refine ⟨f1 ++ gs, ⟨f1, gs, rfl, h2, q1⟩, fun p hp => ?_, fun nd => ?_⟩
      · rw [h1]
        rcases List.mem_append.mp hp with z | z
        · exact List.mem_append_left _ z
        · exact List.mem_append_right _ (q2 p z)
      · rw [h1] at nd
        obtain ⟨a, b, c⟩ := List.nodup_append.mp nd
        exact List.nodup_append.mpr ⟨a, q3 b, fun p hp q hq e => c p hp q (q2 q hq) e⟩
  | @w s Γ Δ _ ih =>
    intro σ fs h
    cases σ with
    | nil => exact h.elim
    | cons x σ =>
      obtain ⟨f1, f2, h1, h2, h3⟩ := h
      obtain ⟨gs, q1, q2, q3⟩ := ih h3
      refine ⟨gs, ⟨[], gs, rfl, rfl, q1⟩, fun p hp => by rw [h1]; exact List.mem_append_right _ (q2 p hp), fun nd => ?_⟩
      rw [h1] at nd
      exact q3 (List.nodup_append.mp nd).2.1
theorem Sub.good {K : PySem.W.Frag} {HF0 G HF H : Hp} {Γ Δ : Ctx} {σ : L2.St} (h : Sub Γ Δ) (g : Good K HF0 G Γ HF H σ) : Good K HF0 G Δ HF H σ := by
  obtain ⟨fs, h1, h2, h3⟩ := g.held
  obtain ⟨gs, q1, q2, q3⟩ := h.held h1
  exact ⟨g.sub, g.f0, g.g0, g.nf, gs, q1, q3 h2, fun p hp => h3 p (q2 p hp)⟩
section
variable {X : Cx} {Γ : Ctx} {S L ρ α β γ A B S' : Type} [Rp ρ] {o : Ow ρ} {Γo : S → Ctx} {ΓL : L → Ctx} {a b e : Expr} {es : List Expr} {pos p apos : Pos} {ta tb te : TE} {t : TA} {sts : List Stmt} {tr tr' : TS}
theorem ss_nil (s : S) (h : Sub Γ (Γo s)) : SS X Γ [] Γo ΓL o (pure (.nx s)) tNext := ⟨pss_nil, fun HF0 G HF H σ g c hc D k => by cases pure_ok hc; exact k HF H σ (Same.refl _) (h.good g)⟩
theorem ss_ret {m : M ρ} (h : EX X Γ e o m te) (ho : ∀ r R v H, o.out r R v H → R v H := by exact fun _ _ _ _ h => h) : SS X Γ [.Return (some e) pos] Γo ΓL o (do let r ← m; pure (.rt r)) (tRet te) :=
  ⟨pss_one (ps_ret h.pe), fun HF0 G HF H σ g c hc D k => by
    obtain ⟨r, e1, hc⟩ := bind_ok hc
    cases pure_ok hc
    refine h.sem HF0 G HF H σ g r e1 _ fun v HF' H' fp st rr n f => ?_
    have g' := g.step st
    exact ho _ _ _ _ <| k v HF' H' fp st.sub g'.f0 g'.g0 g'.nf rr n fun p hp => ⟨(f p hp).2, g.g0.free (f p hp).1⟩⟩
theorem Good.set {K : PySem.W.Frag} {HF0 G HF H HF' H' : Hp} {σ : L2.St} {i : Nat} {v : V} [Rp α] {a : α} {u : Ow α} {fp : List Addr} (g : Good K HF0 G Γ HF H σ) (hi : i < Γ.length) (st : Step HF H HF' H') (r : u.rep K HF' H' v a fp) (n : fp.Nodup) (f : ∀ p ∈ fp, H p = none ∧ HF' p = none) : Good K HF0 G (put Γ i (.mk u a)) HF' H' (σ.set i (some v)) := by
  obtain ⟨fs, h1, h2, h3⟩ := g.held
  have g' := g.step st
  obtain ⟨fo, fr', q1, q2, q3, q4⟩ := h1.put hi
  obtain ⟨n1, n2, n3⟩ := q3 h2
  obtain ⟨fs', w1, w2, w3⟩ := q4 (HF' := HF') (H' := H') (s := .mk u a) (x := some v) (f := fp) (fun _ h => h.mono st.exF fun p _ o e => st.exH p o e) (fun _ h => h.mono st.exF fun p _ o e => st.exH p o e) ⟨v, rfl, r⟩
  refine ⟨g'.sub, g'.f0, g'.g0, g'.nf, fs', w1, w3 n1 n fun p hp hq => ?_, fun p hp => ?_⟩
  · obtain ⟨w, hw⟩ := h1.dom p ((q2 p).mpr (.inr hq))
    rw [(f p hp).1] at hw; cases hw
  · rcases (w2 p).mp hp with z | z
    · exact ⟨(f p z).2, g.g0.free (f p z).1⟩
    · obtain ⟨w, hw⟩ := h1.dom p ((q2 p).mpr (.inr z))
      exact ⟨st.nn (h3 p ((q2 p).mpr (.inr z))).1 hw, (h3 p ((q2 p).mpr (.inr z))).2⟩
/-- x = e -/
theorem ss_asg [Rp α] [Inhabited α] (i : Nat) {x : Str} {u : Ow α} {m : M α} {k : α → M (Ctl S L ρ)} {pos' : Pos} (hN : X.N.Nodup) (he : EX X Γ e u m te) (hr : ∀ a, SS X (put Γ i (.mk u a)) sts Γo ΓL o (k a) tr) (hlt : Nat.blt i Γ.length = true := by rfl) (hi : X.N[i]? = some x := by rfl) (hx : Loc X.env.scope x := by first | exact .inl rfl | exact .inr rfl)
    (hs : swapsWith e (some (.Name x pos')) pos.line X.env = pure false := by rfl) (hf : X.fn x = true ∨ X.env.scope.names.lookup x = some .local := by first | exact .inl rfl | exact .inr rfl) : SS X Γ (.Assign [.Name x pos'] e pos :: sts) Γo ΓL o (do let a ← m; k a) (tSeq (tAsg te (gName i)) tr) :=
  ⟨pss_cons (ps_set hN hi hx he.pe hs hf) (hr default).pss, fun HF0 G HF H σ g c hc D kk => by
    obtain ⟨y, e1, hc⟩ := bind_ok hc
    refine he.sem HF0 G HF H σ g y e1 _ fun v HF' H' fp st r n f => ?_
    exact (hr y).sem HF0 G HF' H' _ (g.set (of_blt hlt) st r n f) c hc D (kk.mono st.exF)⟩
/-- if with an else or not, then the rest -/
def thenC {S1 : Type} (c : Ctl S1 L ρ) (k : S1 → M (Ctl S L ρ)) : M (Ctl S L ρ) := match c with
  | .nx s => k s
  | .bk l => pure (.bk l)
  | .ct l => pure (.ct l)
  | .rt r => pure (.rt r)
theorem ss_if {S1 : Type} [Inhabited S1] {c : Expr} {sa sb : List Stmt} {tc : TT} {t1 t2 : TS} {mc : M Bool} {ma mb : M (Ctl S1 L ρ)} {Γ1 : S1 → Ctx} {k : S1 → M (Ctl S L ρ)} (hc : ET X Γ c mc tc) (ha : SS X Γ sa Γ1 ΓL o ma t1) (hb : SS X Γ sb Γ1 ΓL o mb t2) (hr : ∀ s, SS X (Γ1 s) sts Γo ΓL o (k s) tr) :
    SS X Γ (.If c sa sb pos :: sts) Γo ΓL o (do let x ← mc; let y ← (if x then ma else mb); thenC y k) (tSeq (tIfS tc t1 t2) tr) :=
  ⟨pss_cons (ps_if hc.pt ha.pss hb.pss) (hr default).pss, fun HF0 G HF H σ g cc hcc D kk => by
    obtain ⟨x, e1, hcc⟩ := bind_ok hcc
    obtain ⟨y, e2, hcc⟩ := bind_ok hcc
    refine hc.sem HF0 G HF H σ g x e1 _ fun HF' H' st => ?_
    have kk' := kk.mono st.exF
    have fin : EndsOk X.K HF0 G HF' Γ1 ΓL o { D with nx := tr D } y := by
      cases y with
      | nx s => exact fun HF2 H2 σ2 a g2 => (hr s).sem HF0 G HF2 H2 σ2 g2 cc hcc D (kk'.mono a)
      | bk l => cases pure_ok (show (pure (.bk l) : M (Ctl S L ρ)) = .ok cc from hcc); exact kk'
      | ct l => cases pure_ok (show (pure (.ct l) : M (Ctl S L ρ)) = .ok cc from hcc); exact kk'
      | rt r => cases pure_ok (show (pure (.rt r) : M (Ctl S L ρ)) = .ok cc from hcc); exact kk'
    cases x with
    | true => exact iteT (ha.sem HF0 G HF' H' σ (g.step st) y e2 _ fin)
    | false => exact iteF (hb.sem HF0 G HF' H' σ (g.step st) y e2 _ fin)⟩
/-- if whose first branch leaves: nothing is joined -/
theorem ss_ifR {c : Expr} {sa : List Stmt} {tc : TT} {t1 : TS} {mc : M Bool} {ma : M (Ctl Empty L ρ)} {k : M (Ctl S L ρ)} (hc : ET X Γ c mc tc) (ha : SS X Γ sa (fun (_ : Empty) => []) ΓL o ma t1) (hr : SS X Γ sts Γo ΓL o k tr) :
    SS X Γ (.If c sa [] pos :: sts) Γo ΓL o (do let x ← mc; if x then (do let y ← ma; thenC y nofun) else k) (tSeq (tIfS tc t1 tNext) tr) :=
  ⟨pss_cons (ps_if hc.pt ha.pss pss_nil) hr.pss, fun HF0 G HF H σ g cc hcc D kk => by
    obtain ⟨x, e1, hcc⟩ := bind_ok hcc
    refine hc.sem HF0 G HF H σ g x e1 _ fun HF' H' st => ?_
    have kk' := kk.mono st.exF
    cases x with
    | true =>
      obtain ⟨y, e2, hcc⟩ := bind_ok hcc
      refine iteT (ha.sem HF0 G HF' H' σ (g.step st) y e2 _ ?_)
      cases y with
      | nx s => exact nomatch s
      | bk l => cases pure_ok (show (pure (.bk l) : M (Ctl S L ρ)) = .ok cc from hcc); exact kk'
      | ct l => cases pure_ok (show (pure (.ct l) : M (Ctl S L ρ)) = .ok cc from hcc); exact kk'
      | rt r => cases pure_ok (show (pure (.rt r) : M (Ctl S L ρ)) = .ok cc from hcc); exact kk'
    | false => exact iteF (hr.sem HF0 G HF' H' σ (g.step st) cc hcc D kk')⟩
/-! ### loops -/
def loopM {α S ρ : Type} (f : α → S → M (Ctl S S ρ)) : List α → S → M (S ⊕ ρ)
  | [], s => pure (.inl s)
  | x :: xs, s => do
    let c ← f x s
    match c with
    | .nx s' => loopM f xs s'
    | .ct s' => loopM f xs s'
    | .bk s' => pure (.inl s')
    | .rt r => pure (.inr r)
def thenL (c : S' ⊕ ρ) (k : S' → M (Ctl S L ρ)) : M (Ctl S L ρ) := match c with
  | .inl s => k s
  | .inr r => pure (.rt r)
theorem ss_for [Rp α] [Inhabited α] {tg iter : Expr} {body : List Stmt} {wi : TI} {g : TG} {tb : TS} {js : List Nat} {m : M (List α)} {Γs : S' → Ctx} {Γt : S' → α → Ctx} {f : α → S' → M (Ctl S' S' ρ)} {k : S' → M (Ctl S L ρ)} (s0 : S') (hc : X.calm = true) (hxe : PassesOwn (model X.prog X.w) X.A X.env X.xe) (hi : EI X Γ tg iter m wi) (h0 : Sub Γ (Γs s0))
    (hg : ∀ s x, EG X (Γs s) tg g x (Γt s x) js) (hb : ∀ s x, SS X (Γt s x) body Γs Γs o (f x s) tb) (hr : ∀ s, SS X (Γs s) sts Γo ΓL o (k s) tr)
    (hs : ∀ x, foldedSetIterable iter X.env x = pure x := by intro _; rfl) : SS X Γ (.For tg iter body [] pos :: sts) Γo ΓL o (do let xs ← m; let c ← loopM f xs s0; thenL c k) (tSeq (tFor wi g tb) tr) :=
  ⟨pss_cons (ps_for hxe hc hi.pi (hg s0 default).pg (hb s0 default).pss hs) (hr s0).pss, fun HF0 G HF H σ gd cc hcc D kk => by
    obtain ⟨xs, e1, hcc⟩ := bind_ok hcc
    obtain ⟨c1, e2, hcc⟩ := bind_ok hcc
    refine hi.sem HF0 G HF H σ gd xs e1 _ fun J HF1 H1 st wk => ?_
    have kk' := kk.mono st.exF
    have nxt : ∀ s HF2 H2 σ2, c1 = .inl s → Same HF1 HF2 → Good X.K HF0 G (Γs s) HF2 H2 σ2 → tr D σ2 H2 := fun s HF2 H2 σ2 e a g2 => by
      subst e
      exact (hr s).sem HF0 G HF2 H2 σ2 g2 cc hcc D (kk'.mono a)
    refine ⟨fun i n σ2 H2 => n = xs.length - i ∧ i ≤ xs.length ∧ ∃ s HF2, Same HF1 HF2 ∧ Good X.K HF0 G (Γs s) HF2 H2 σ2 ∧ loopM f (xs.drop i) s = .ok c1, ⟨xs.length, rfl, Nat.zero_le _, s0, HF1, Same.refl _, h0.good (gd.step st), e2⟩, ?_⟩
    rintro i n σ2 H2 ⟨rfl, hix, s, HF2, a, g2, hl⟩
    have wk2 := wk HF2 H2 i a g2.sub
    by_cases hlt : i < xs.length
    · have hx : xs[i]? = some xs[i] := List.getElem?_eq_getElem hlt
      obtain ⟨hgo, hy⟩ := wk2.1 _ hx
      rw [List.drop_eq_getElem_cons hlt] at hl
      obtain ⟨c2, e3, hl⟩ := bind_ok hl
      refine .inr ⟨hgo, fun σ' H' => ∃ s' HF', Same HF1 HF' ∧ Good X.K HF0 G (Γs s') HF' H' σ' ∧ loopM f (xs.drop (i + 1)) s' = .ok c1, fun σ' H' h' => ⟨xs.length - (i + 1), by omega, rfl, hlt, h'⟩, fun x H3 hyl => ?_⟩
      obtain ⟨HF3, s3, rx⟩ := hy x H3 hyl
      refine (hg s xs[i]).sem HF0 G HF3 H3 σ2 x (g2.step s3) rx _ fun σ' g4 _ _ => ?_
      refine (hb s xs[i]).sem HF0 G HF3 H3 σ' g4 c2 e3 _ ?_
      have a3 := a.trans s3.exF
      cases c2 with
      | nx s' => exact fun HF5 H5 σ5 b g5 => ⟨s', HF5, a3.trans b, g5, hl⟩
      | ct s' => exact fun HF5 H5 σ5 b g5 => ⟨s', HF5, a3.trans b, g5, hl⟩
      | bk s' =>
        have e4 := pure_ok (show (pure (.inl s') : M (S' ⊕ ρ)) = .ok c1 from hl)
        exact fun HF5 H5 σ5 b g5 => nxt s' HF5 H5 σ5 e4.symm (a3.trans b) g5
      | rt r =>
        have e4 := pure_ok (show (pure (.inr r) : M (S' ⊕ ρ)) = .ok c1 from hl)
        subst e4
        cases pure_ok (show (pure (.rt r) : M (Ctl S L ρ)) = .ok cc from hcc)
        exact kk'
    · have hnil : xs.drop i = [] := List.drop_eq_nil_of_le (by omega)
      rw [hnil] at hl
      exact .inl ⟨wk2.2 (by omega), nxt s HF2 H2 σ2 (pure_ok hl).symm a g2⟩⟩
/-- an own thing made shared from here on -/
theorem ss_frz [Rp α] (i : Nat) {u : Ow α} {x : α} {m : M (Ctl S L ρ)} (hl : look Γ i = .mk u x) (h : SS X (put Γ i (.mk Ow.v x)) sts Γo ΓL o m tr) (hlt : Nat.blt i Γ.length = true := by rfl) : SS X Γ sts Γo ΓL o m tr :=
  ⟨h.pss, fun HF0 G HF H σ g c hc D k => by
    obtain ⟨fs, h1, h2, h3⟩ := g.held
    obtain ⟨fo, fr', q1, q2, q3, q4⟩ := h1.put (of_blt hlt)
    obtain ⟨n1, n2, n3⟩ := q3 h2
    rw [hl] at q1
    obtain ⟨v, e1, r1⟩ := q1
    have hF : ∀ p ∈ fo, HF p = none := fun p hp => (h3 p ((q2 p).mpr (.inl hp))).1
    have sF : Same HF (plus HF H fo) := plus_same hF
    obtain ⟨fs', w1, w2, w3⟩ := q4 (HF' := plus HF H fo) (H' := H) (s := .mk Ow.v x) (x := some v) (f := []) (fun _ h => h.mono sF fun p _ o e => e) (fun _ h => h.mono sF fun p _ o e => e) ⟨v, rfl, u.frz sF plus_at r1, rfl⟩
    have eσ : σ.set i (some v) = σ := by
      have hlen := h1.len
      have hlt := of_blt hlt
      apply List.ext_getElem?
      intro j
      by_cases hj : i = j
      · subst hj
        rw [List.getElem?_set_self (by omega), List.getElem?_eq_getElem (by omega)]
        rw [List.getD_eq_getElem?_getD, List.getElem?_eq_getElem (by omega)] at e1
        exact congrArg some e1.symm
      · rw [List.getElem?_set_ne hj]
    refine h.sem HF0 G (plus HF H fo) H σ ⟨plus_sub g.sub, g.f0.trans sF, g.g0, fun p w e en => ?_, fs', by rw [← eσ]; exact w1, w3 n1 List.nodup_nil (fun p hp => by cases hp), fun p hp => ?_⟩ c hc D (k.mono sF)
    · by_cases hp : p ∈ fo
      · exact (h3 p ((q2 p).mpr (.inl hp))).2
      · rw [plus_out hp] at e; exact g.nf p w e en
    · rcases (w2 p).mp hp with z | z
      · cases z
      · rw [plus_out fun z' => n3 p z' z]
        exact h3 p ((q2 p).mpr (.inr z))⟩
end

/-! ### a def -/
def runC {ρ : Type} (m : M (Ctl Unit Empty ρ)) : M ρ := do
  let c ← m
  match c with
  | .rt r => pure r
  | _ => no
def spF {A ρ : Type} [Rp ρ] (K : PySem.W.Frag) (r : As A) (o : Ow ρ) (f : A → M ρ) : Sp := fun vs H Q _ =>
  ∃ HF a c, Same HF H ∧ r.rep K HF vs a ∧ f a = .ok c ∧ RetK K HF H o c Q
section
variable {P : Program} {w : World} {K : PySem.W.Frag} {mg : Str → Option Value} {base : Heap}
end
section
variable {X : Cx} {Γ : Ctx} {A ρ : Type} {e : Expr} {es : List Expr} {p pos : Pos} {t : TA}
theorem ex_call [Rp ρ] {K : PySem.W.Frag} {k : Nat} {f : Addr} {fd : FuncData} {ps : List Str} {x : Str} {r : As A} {o : Ow ρ} {fm : A → M ρ} {m : M A} (F : FnOk X.prog X.w X.K X.mg X.base CX0 k f fd ps (spF K r o fm)) (hr : Room k X.A) (hm : X.mg x = some (.ref f)) (hk : PySem.W.keepIn X.K (.ref f) = true) (hb : Binds X.K fd ps [])
    (ha : EA X Γ (e :: es) r m t) (hg : Gl X x := by rfl) (hdb : (x == ("__debug__" : Str)) = false := by decide) (he : starEach (e :: es) X.env = (false, eval e X.env) :: starEach es X.env := by rfl) (hpl : (backTo pos (starEach es X.env)).any (·.1) = false := by rfl) (hK : X.K = K := by rfl) :
    EX X Γ (.Call (.Name x p) (e :: es) [] pos) o (do let a ← m; fm a) (tCall (spF K r o fm) [] E0 t) := by
  subst hK
  exact ⟨pe_call F hr hg hm hk hb .nil pass0 ha.pa hdb he hpl, fun HF0 G HF H σ g c hc Q kk => by
    obtain ⟨x, e1, hc⟩ := bind_ok hc
    refine ha.sem HF0 G HF H σ g x e1 _ fun vs HF1 H1 s1 r1 => ?_
    show spF X.K r o fm (vs ++ []) H1 Q E0
    rw [List.append_nil]
    exact ⟨HF1, x, c, s1.sub, r1, hc, kk.back s1⟩⟩
end
end Ty

namespace Ty
open PySem PySem.Spec PyProof.Rows L2

instance : Inhabited Str := ⟨Str.empty⟩
instance : Inhabited Scr := ⟨⟨[]⟩⟩
instance {α : Type} : Inhabited (Tu α) := ⟨⟨[]⟩⟩
instance {α β γ : Type} [Inhabited α] [Inhabited β] [Inhabited γ] : Inhabited (T3 α β γ) := ⟨⟨default, default, default⟩⟩
theorem look_lt : ∀ {Γ : Ctx} {i : Nat}, look Γ i ≠ .un → i < Γ.length
  | [], _, h => absurd rfl h
  | _ :: _, 0, _ => Nat.zero_lt_succ _
  | _ :: Γ, i + 1, h => Nat.succ_lt_succ (look_lt (Γ := Γ) (i := i) h)
theorem look_lt' {α : Type} [Rp α] {Γ : Ctx} {i : Nat} {u : Ow α} {a : α} (h : look Γ i = .mk u a) : i < Γ.length := look_lt (by rw [h]; exact fun e => nomatch e)
theorem set_self {σ : L2.St} {i : Nat} {v : V} (h : σ[i]? = some (some v)) : σ.set i (some v) = σ := by
  apply List.ext_getElem?
  intro j
  by_cases hj : i = j
  · subst hj
    rw [List.getElem?_set_self (List.getElem?_eq_some_iff.mp h).1, h]
  · rw [List.getElem?_set_ne hj]
/-- an own thing, taken out and put back changed -/
theorem Good.take {K : PySem.W.Frag} {HF0 G HF H : Hp} {Γ : Ctx} {σ : L2.St} {i : Nat} {α : Type} [Rp α] {u : Ow α} {a : α} (g : Good K HF0 G Γ HF H σ) (hl : look Γ i = .mk u a) :
    ∃ v fo, σ[i]? = some (some v) ∧ u.rep K HF H v a fo ∧ fo.Nodup ∧ (∀ p ∈ fo, HF p = none ∧ G p = none) ∧
      ∀ {HF1 H1 H' : Hp} {β : Type} [Rp β] {u' : Ow β} {b : β} {v' : V} {f' : List Addr}, Step HF H HF1 H1 → (∀ p w, p ∉ fo → H1 p = some w → H' p = some w) → u'.rep K HF1 H' v' b f' → f'.Nodup → (∀ p ∈ f', p ∈ fo ∨ (H p = none ∧ HF1 p = none)) →
        Good K HF0 G (put Γ i (.mk u' b)) HF1 H' (σ.set i (some v')) := by
  have hi := look_lt' hl
  obtain ⟨fs, h1, h2, h3⟩ := g.held
  obtain ⟨fo, fr', q1, q2, q3, q4⟩ := h1.put hi
  obtain ⟨n1, n2, n3⟩ := q3 h2
  rw [hl] at q1
  obtain ⟨v, e1, r1⟩ := q1
  have hlen := h1.len
  have hσ : σ[i]? = some (some v) := by
    rw [List.getElem?_eq_getElem (by omega)]
    rw [List.getD_eq_getElem?_getD, List.getElem?_eq_getElem (by omega)] at e1
    exact congrArg some e1
  have hfo : ∀ p ∈ fo, HF p = none ∧ G p = none := fun p hp => h3 p ((q2 p).mpr (.inl hp))
  have hfr : ∀ p ∈ fr', HF p = none ∧ G p = none := fun p hp => h3 p ((q2 p).mpr (.inr hp))
  refine ⟨v, fo, hσ, r1, n2, hfo, ?_⟩
  intro HF1 H1 H' β _ u' b v' f' st hk hr hnd hf
  have g' := g.step st
  have kp : ∀ {f : List Addr}, (∀ p ∈ f, p ∈ fr') → ∀ p ∈ f, ∀ o, H p = some o → H' p = some o := fun hp p hm o e => hk p o (fun z => n3 p z (hp p hm)) (st.exH p o e)
  obtain ⟨fs', w1, w2, w3⟩ := q4 (HF' := HF1) (H' := H') (s := .mk u' b) (x := some v') (f := f') (fun hp h => h.mono st.exF (kp hp)) (fun hp h => h.mono st.exF (kp hp)) ⟨v', rfl, hr⟩
  have dm := h1.dom
  refine ⟨fun p w e => hk p w (fun z => ?_) (st.sub p w e), g'.f0, fun p w e => hk p w (fun z => ?_) (g'.g0 p w e), g'.nf, fs', w1, w3 n1 hnd fun p hp hq => ?_, fun p hp => ?_⟩
  · obtain ⟨w', hw⟩ := dm p ((q2 p).mpr (.inl z))
    rw [st.nn (hfo p z).1 hw] at e; cases e
  · rw [(hfo p z).2] at e; cases e
  · rcases hf p hp with z | z
    · exact n3 p z hq
    · obtain ⟨w', hw⟩ := dm p ((q2 p).mpr (.inr hq))
      rw [z.1] at hw; cases hw
  · rcases (w2 p).mp hp with z | z
    · rcases hf p z with z | z
      · obtain ⟨w', hw⟩ := dm p ((q2 p).mpr (.inl z))
        exact ⟨st.nn (hfo p z).1 hw, (hfo p z).2⟩
      · exact ⟨z.2, g.g0.free z.1⟩
    · obtain ⟨w', hw⟩ := dm p ((q2 p).mpr (.inr z))
      exact ⟨st.nn (hfr p z).1 hw, (hfr p z).2⟩
def appM {α : Type} (as : List α) (a : α) : M (List α) := do gd (decide (as.length < sizeLine)); pure (as ++ [a])
section
variable {X : Cx} {Γ : Ctx} {S L ρ α β γ A B S' : Type} [Rp ρ] {o : Ow ρ} {Γo : S → Ctx} {ΓL : L → Ctx} {a b e : Expr} {es : List Expr} {pos p apos cpos : Pos} {ta tb te : TE} {t : TA} {sts : List Stmt} {tr tr' : TS}
/-- x.append(e) -/
theorem ss_app [Rp α] (i : Nat) {u : Ow α} {as : List α} {x : Str} {m : M α} {k : List α → M (Ctl S L ρ)} (he : EX X Γ e u m te) (hr : ∀ l, SS X (put Γ i (.mk (Ow.l u) l)) sts Γo ΓL o (k l) tr) (hl : look Γ i = .mk (Ow.l u) as := by rfl) (hN : X.N[i]? = some x := by rfl) (hv : Vis X.env.scope x := by first | exact Or.inl rfl | exact Or.inr (Or.inl rfl) | exact Or.inr (Or.inr rfl)) (hd : (x == ("__debug__" : Str)) = false := by decide)
    (hcd : (x == ("__classdict__" : Str)) = false := by decide)
    (hpe : ∀ {to : TE} {tt : TA}, PE X (.Name x p) to → PA X [e] tt → PE X (.Call (.Attribute (.Name x p) "append" apos) [e] [] cpos) (tBM X.K "list" rAppend to tt) := by exact fun h h' => pe_bm PySem.F.plainAttrs_list PySem.F.slot_list_append PySem.F.type_list_append mt_append h h')
    (h1 : starEach [e] X.env = (false, eval e X.env) :: starEach [] X.env := by rfl)
    (hs : swapsWith (.Call (.Attribute (.Name x p) "append" apos) [e] [] cpos) none pos.line X.env = pure false := by rfl) :
    SS X Γ (.Expr (.Call (.Attribute (.Name x p) "append" apos) [e] [] cpos) pos :: sts) Γo ΓL o (do let a ← m; let l ← appM as a; k l) (tSeq (tDrop (tBM X.K "list" rAppend (tVar i) (tCons te tNil))) tr) :=
  ⟨pss_cons (ps_expr (hpe (pe_var hN hv hd hcd) (pa_cons he.pe pa_nil h1)) hs) (hr []).pss, fun HF0 G HF H σ g c hc D kk => by
    obtain ⟨y, e1, hc⟩ := bind_ok hc
    obtain ⟨l, e2, hc⟩ := bind_ok hc
    obtain ⟨w, e3, e2⟩ := bind_ok e2
    have e4 := pure_ok e2
    subst e4
    obtain ⟨v, fo, hσ, ⟨q, vs, fq, h1, h2, h3, h4⟩, nd, hfo, back⟩ := g.take hl
    subst h1 h2
    refine ⟨.ref q, hσ, .inl ⟨rfl, vs, SqL.of h3⟩, ?_⟩
    refine he.sem HF0 G HF H σ g y e1 _ fun v' HF1 H1 fp st r n f => ?_
    refine ⟨q, vs, v', rfl, rfl, st.exH _ _ h3, by rw [h4.len]; exact of_decide_eq_true (gd_ok e3), ?_⟩
    have hqn : q ∉ fq := (List.nodup_cons.mp nd).1
    have hqp : q ∉ fp := fun z => by
      have := (f q z).1
      rw [h3] at this; cases this
    have gg := back (u' := Ow.l u) (b := as ++ [y]) (v' := .ref q) (f' := q :: (fq ++ fp)) (H' := upd H1 q (.lst (vs ++ [v']))) st (fun p w hp e => by rw [upd_ne (fun z => hp (by rw [z]; exact List.mem_cons_self ..))]; exact e)
      ⟨q, vs ++ [v'], fq ++ fp, rfl, rfl, upd_same, Rl.append ((Rl.step h4 st).upd hqn) (Rl.one (u.mono (Same.refl _) (fun p hp w e => by rw [upd_ne (fun z => hqp (by rw [← z]; exact hp))]; exact e) r))⟩
      (List.nodup_cons.mpr ⟨fun z => (List.mem_append.mp z).elim hqn hqp, List.nodup_append.mpr ⟨(List.nodup_cons.mp nd).2, n, fun p hp p' hp' e => by
        subst e
        obtain ⟨w', hw⟩ := Rl.dom (fun v a f r => u.dom r) h4 p hp
        rw [(f p hp').1] at hw; cases hw⟩⟩)
      (fun p hp => by
        rcases List.mem_cons.mp hp with z | z
        · exact .inl (by rw [z]; exact List.mem_cons_self ..)
        · rcases List.mem_append.mp z with z | z
          · exact .inl (List.mem_cons_of_mem _ z)
          · exact .inr (f p z))
    rw [set_self hσ] at gg
    exact (hr (as ++ [y])).sem HF0 G HF1 _ σ gg c hc D (kk.mono st.exF)⟩
end

/-! ### isinstance by the kind -/
class Kd (α : Type) [Rp α] where
  nm : String
  ok : ∀ {K : PySem.W.Frag} {H : Hp} {v : V} {a : α}, Rp.sh K H v a → TyX K H v (.type nm)
instance : Kd Int := ⟨"int", fun h => by cases h; exact .base (.int _)⟩
instance : Kd Bool := ⟨"bool", fun h => by cases h; exact .base (.bl _)⟩
instance : Kd Str := ⟨"str", fun h => by cases h; exact .base (.str _)⟩
instance : Kd Unit := ⟨"NoneType", fun h => by cases h; exact .base .non⟩
instance kdL {α : Type} [Rp α] : Kd (List α) := ⟨"list", fun ⟨p, vs, e, h, _⟩ => by subst e; exact .base (.lst h)⟩
section
variable {X : Cx} {Γ : Ctx} {S L ρ α β γ A B S' : Type} {a b e : Expr} {es : List Expr} {pos p apos cpos p1 p2 : Pos} {ta tb te : TE} {t : TA}
theorem ex_isi {K : PySem.W.Frag} [Rp α] [Kd α] {m : M α} {T : Str} {n : String} {r : Bool} (hm : X.mg "isinstance" = none) (hmT : X.mg T = none) (hT : bootBuiltins T = some (.type n)) (h : EX X Γ e Ow.v m te) (hk : kitB (Kd.nm α) n = some r) (hg : Gl X "isinstance" := by rfl) (hgT : Gl X T := by rfl) (hn : T ≠ "__name__" := by decide) (hdb : (T == ("__debug__" : Str)) = false := by decide)
    (h1 : starEach [e, .Name T p1] X.env = (false, eval e X.env) :: starEach [.Name T p1] X.env := by rfl) (h2 : starEach [.Name T p1] X.env = (false, eval (.Name T p1) X.env) :: starEach [] X.env := by rfl) (hpl : (backTo pos (starEach [.Name T p1] X.env)).any (·.1) = false := by rfl) (hK : X.K = K := by rfl) :
    EX X Γ (.Call (.Name "isinstance" p) [e, .Name T p1] [] pos) Ow.v (do let _ ← m; pure r) (tCB (rIsi K) (tCons te (tCons (tC (.ty n)) tNil))) := by
  subst hK
  exact ⟨pe_callB call_isi hg hm (by decide +kernel) (pa_cons h.pe (pa_cons (pe_bltn (v := .ty n) hgT hmT hT rfl hn hdb) pa_nil h2) h1) (by decide) (by decide) h1 hpl, fun HF0 G HF H σ g c hc Q k => by
    obtain ⟨x, e1, hc⟩ := bind_ok hc
    cases pure_ok hc
    refine h.sem HF0 G HF H σ g x e1 _ fun v HF1 H1 fp s1 r1 _ _ => ?_
    exact ⟨v, .ty n, .type (Kd.nm α), .type n, r, rfl, .ty n, Kd.ok (Rp.mono s1.sub r1.1), kit_ty hk, (k.back s1).flat s1.sub⟩⟩
theorem ex_max2 {m n : M Int} (hc : X.calm = true) (hm : X.mg "max" = none) (h : EX X Γ a Ow.v m ta) (h' : EX X Γ b Ow.v n tb) (hg : Gl X "max" := by rfl)
    (h1 : starEach [a, b] X.env = (false, eval a X.env) :: starEach [b] X.env := by rfl) (h2 : starEach [b] X.env = (false, eval b X.env) :: starEach [] X.env := by rfl) (hpl : (backTo pos (starEach [b] X.env)).any (·.1) = false := by rfl) :
    EX X Γ (.Call (.Name "max" p) [a, b] [] pos) Ow.v (do let a ← m; let b ← n; pure (if b > a then b else a)) (tCB (fun xs H Q => ∃ i j, xs = [.int i, .int j] ∧ Q (.int (if j > i then j else i)) H) (tCons ta (tCons tb tNil))) :=
  ex_b2 (call_max2 hc) (show SemC2 X.K _ Ow.v (fun (a b : Int) => pure (if b > a then b else a)) from fun HF H v w a b c s ra rb hc Q k => by
    cases pure_ok hc
    cases ra
    cases rb
    exact ⟨a, b, rfl, k.flat s⟩) boot_max hm h h' hg (h1 := h1) (h2 := h2) (hpl := hpl)
theorem ex_min2 {m n : M Int} (hc : X.calm = true) (hm : X.mg "min" = none) (h : EX X Γ a Ow.v m ta) (h' : EX X Γ b Ow.v n tb) (hg : Gl X "min" := by rfl)
    (h1 : starEach [a, b] X.env = (false, eval a X.env) :: starEach [b] X.env := by rfl) (h2 : starEach [b] X.env = (false, eval b X.env) :: starEach [] X.env := by rfl) (hpl : (backTo pos (starEach [b] X.env)).any (·.1) = false := by rfl) :
    EX X Γ (.Call (.Name "min" p) [a, b] [] pos) Ow.v (do let a ← m; let b ← n; pure (if b < a then b else a)) (tCB (fun xs H Q => ∃ i j, xs = [.int i, .int j] ∧ Q (.int (if j < i then j else i)) H) (tCons ta (tCons tb tNil))) :=
  ex_b2 (call_min2 hc) (show SemC2 X.K _ Ow.v (fun (a b : Int) => pure (if b < a then b else a)) from fun HF H v w a b c s ra rb hc Q k => by
    cases pure_ok hc
    cases ra
    cases rb
    exact ⟨a, b, rfl, k.flat s⟩) boot_min hm h h' hg (h1 := h1) (h2 := h2) (hpl := hpl)
end
end Ty

namespace Ty
open PySem PySem.Spec PyProof.Rows L2
section
variable {P : Program} {w : World} {K : PySem.W.Frag} {mg : Str → Option Value} {base : Heap}
theorem fn_okD {A ρ : Type} [Rp ρ] {x qual : Str} {params : Arguments} {bd : List Stmt} {scope : Scope} {dvs : List V} {kws : List (Str × V)} {f : Addr} {fd : FuncData} {N ps : List Str} {k : Nat} {r : As A} {o : Ow ρ} {m : A → M (Ctl Unit Empty ρ)} (F : FunD K x qual params bd scope dvs kws f fd) (S : FnScope N ps scope) (hn : r.n = ps.length) (hN : N.length = r.n + (N.length - r.n))
    (body : ∀ (cdv : Value) (A' : Around) (outer : List Env) (s : Shared) (H : Hp) (E : XK), Room k (A'.deeper (envOfC qual scope s.heap.objs.size f cdv)) → ∀ a : A, ∃ t : TS,
      SS (cxOf CX0 P w K mg base N qual scope f cdv A' outer s H E).nox (r.ctx a ++ List.replicate (N.length - r.n) .un) bd (fun (_ : Unit) => []) (fun (_ : Empty) => []) o (m a) t)
    (ho : ∀ r R v H, R v H → o.out r R v H := by exact fun _ _ _ _ h => h) :
    FnOk P w K mg base CX0 (k + 1) f fd ps (spF K r o fun a => runC (m a)) := by
  refine F.ok S (fun vs H Q E h => ?_) (fun cdv A' outer s H vs Q E hr h => ?_)
  · obtain ⟨HF, a, c, h1, h2, h3, h4⟩ := h
    rw [r.len h2, hn]
  · obtain ⟨HF, a, c, h1, h2, h3, h4⟩ := h
    obtain ⟨t, q⟩ := body cdv A' outer s H E hr a
    refine ⟨t, q.pss.nox, ?_⟩
    obtain ⟨c', e1, h3⟩ := bind_ok h3
    have hl := r.len h2
    have hd := r.held (HF := HF) (H := H) (N.length - r.n) h2
    have es : L2.start N vs = vs.map some ++ List.replicate (N.length - r.n) none := by unfold L2.start; rw [hl]
    refine q.sem HF H HF H (L2.start N vs) ⟨h1, Same.refl _, Same.refl _, (fun p u a b => by rw [a] at b; cases b), [], by rw [es]; exact hd, List.nodup_nil, fun p hp => by cases hp⟩ c' e1 _ ?_
    cases c' with
    | nx s => cases h3
    | bk l => exact nomatch l
    | ct l => exact nomatch l
    | rt r' =>
      cases pure_ok (show (pure r' : M ρ) = .ok c from h3)
      exact fun v HF' H' fp a b c' d rr n ff => ho _ _ _ _ <| h4 v HF' H' fp ⟨b, c', a, d⟩ rr n fun p hp => ⟨(ff p hp).2, (ff p hp).1⟩
/-- a def of the text that keeps its promise -/
def Has (P : Program) (w : World) (K : PySem.W.Frag) (mg : Str → Option Value) (base : Heap) (x : Str) (k : Nat) (ps : List Str) (sp : Sp) : Prop :=
  ∃ f fd, FnOk P w K mg base CX0 k f fd ps sp ∧ mg x = some (.ref f) ∧ PySem.W.keepIn K (.ref f) = true ∧ Binds K fd ps []
end
theorem law_start {K : PySem.W.Frag} {mir : Scr → M Bool} {ns : List Int} {a : Addr} {H : Hp} {E : XK} (e : mir ⟨ns⟩ = .ok true) (hS : SqL K H a (ns.map V.int)) : spF K (As.cons (α := Scr) As.nil) (Ow.v : Ow Bool) (fun a => mir a.1) [.ref a] H (fun v _ => v = .bl true) E :=
  ⟨H, (⟨ns⟩, ()), true, Same.refl _, ⟨.ref a, [], rfl, ⟨a, rfl, hS⟩, rfl⟩, e, fun v HF' H' fp st r n f => r.1⟩
/-! ### comparisons, as a value or a test -/
structure EC (X : Cx) (Γ : Ctx) (op : CmpOp) (a b : Expr) (m : M Bool) (r : R2) (ta tb : TE) : Prop where
  ho : OpR X (compareOp op) r
  pa : PE X a ta
  pb : PE X b tb
  hm : behindInMarks op b = false
  sem : SemE X.K Γ (tOp r ta tb) Ow.v m
section
variable {X : Cx} {Γ : Ctx} {α β : Type} {a b c e : Expr} {es : List Expr} {pos p : Pos} {ta tb tc te : TE} {op : CmpOp} {r : R2} {m : M Bool} {t : TE}
theorem ex_c (h : EC X Γ op a b m r ta tb) : EX X Γ (.Compare a [op] [b] pos) Ow.v m (tOp r ta tb) := ⟨pe_cmpR h.ho h.pa h.pb h.hm, h.sem⟩
theorem et_c (h : EC X Γ op a b m r ta tb) : ET X Γ (.Compare a [op] [b] pos) m (tTest (tOp r ta tb)) :=
  ⟨pt_cmpR h.ho h.pa h.pb h.hm, fun HF0 G HF H σ g c hc Q k => h.sem HF0 G HF H σ g c hc _ fun v HF' H' fp s r _ _ => ⟨c, r.1, k HF' H' s⟩⟩
theorem ec_of [Rp α] [Rp β] {f : α → β → M Bool} {ma : M α} {mb : M β} (ho : OpR X (compareOp op) r) (hr : SemR2 X.K r Ow.v f) (ha : EX X Γ a Ow.v ma ta) (hb : EX X Γ b Ow.v mb tb) (hm : behindInMarks op b = false) : EC X Γ op a b (do let a ← ma; let b ← mb; f a b) r ta tb :=
  ⟨ho, ha.pe, hb.pe, hm, sem_op hr ha.sem hb.sem⟩
theorem ec_lt {ma mb : M Int} (ha : EX X Γ a Ow.v ma ta) (hb : EX X Γ b Ow.v mb tb) : EC X Γ .Lt a b (do let a ← ma; let b ← mb; pure (decide (a < b))) (rI0 fun i j => .bl (decide (i < j))) ta tb := ec_of op_lt (sr_I0 fun _ _ => rfl) ha hb (nomark _)
theorem ec_gt {ma mb : M Int} (ha : EX X Γ a Ow.v ma ta) (hb : EX X Γ b Ow.v mb tb) : EC X Γ .Gt a b (do let a ← ma; let b ← mb; pure (decide (b < a))) (rI0 fun i j => .bl (decide (j < i))) ta tb := ec_of op_gt (sr_I0 fun _ _ => rfl) ha hb (nomark _)
theorem ec_eq [Fl α] [DecidableEq α] [Sc α] {ma mb : M α} (ha : EX X Γ a Ow.v ma ta) (hb : EX X Γ b Ow.v mb tb) : EC X Γ .Eq a b (do let a ← ma; let b ← mb; pure (decide (a = b))) rEq ta tb := ec_of op_eq sr_eq ha hb (nomark _)
theorem ec_ne [Fl α] [DecidableEq α] [Sc α] {ma mb : M α} (ha : EX X Γ a Ow.v ma ta) (hb : EX X Γ b Ow.v mb tb) : EC X Γ .NotEq a b (do let a ← ma; let b ← mb; pure (!decide (a = b))) rNe ta tb := ec_of op_ne sr_ne ha hb (nomark _)
theorem ec_eqD {K : PySem.W.Frag} [Rp α] [DecidableEq α] [Eqv α] {ma mb : M α} (hu : X.A.units + 64 < cLine) (ha : EX X Γ a Ow.v ma ta) (hb : EX X Γ b Ow.v mb tb) (hd : Eqv.dep α ≤ 64 := by decide) (hK : X.K = K := by rfl) : EC X Γ .Eq a b (do let a ← ma; let b ← mb; eqM a b) (rEqD K) ta tb := by
  subst hK
  exact ec_of (op_eqD hu) (sr_eqD hd) ha hb (nomark _)
class OpN (α : Type) [Fl (Option α)] : Prop where
  no : Fl.enc (none : Option α) = V.non
  so : ∀ a : α, Fl.enc (some a) ≠ V.non
instance : OpN Int := ⟨rfl, fun _ h => nomatch h⟩
instance : OpN Str := ⟨rfl, fun _ h => nomatch h⟩
/-- in, not in -/
class Mem (α : Type) [Fl α] [DecidableEq α] : Prop where
  fl : ∀ a : α, flatV (Fl.enc a) = true
  ev : ∀ a b : α, eqV (Fl.enc a) (Fl.enc b) = decide (a = b)
instance : Mem Int := ⟨fun _ => rfl, fun a b => by
  show (a == b) = decide (a = b)
  by_cases h : a = b <;> simp [h]⟩
instance : Mem Str := ⟨fun _ => rfl, fun a b => by
  show (a == b) = decide (a = b)
  by_cases h : a = b <;> simp [h]⟩
/-- a < b < c -/
def chainM (p q : Int → Int → Bool) (ma mb mc : M Int) : M Bool := do
  let a ← ma
  let b ← mb
  if p a b then do
    let c ← mc
    pure (q b c)
  else pure false
theorem semChain {K : PySem.W.Frag} {p q : Int → Int → Bool} {ma mb mc : M Int} (ha : SemE K Γ ta Ow.v ma) (hb : SemE K Γ tb Ow.v mb) (hc : SemE K Γ tc Ow.v mc) : SemE K Γ (tChain (rI0 fun i j => .bl (p i j)) (rI0 fun i j => .bl (q i j)) ta tb tc) Ow.v (chainM p q ma mb mc) := fun HF0 G HF H σ g c hcc Q k => by
  obtain ⟨x, e1, hcc⟩ := bind_ok hcc
  obtain ⟨y, e2, hcc⟩ := bind_ok hcc
  refine ha HF0 G HF H σ g x e1 _ fun v HF1 H1 fp s1 r1 _ _ => ?_
  refine hb HF0 G HF1 H1 σ (g.step s1) y e2 _ fun w HF2 H2 fp2 s2 r2 _ _ => ?_
  have s12 := s1.trans s2
  refine ⟨x, y, r1.1, r2.1, p x y, rfl, ?_⟩
  by_cases h : p x y = true
  · rw [if_pos h] at hcc ⊢
    obtain ⟨z, e3, hcc⟩ := bind_ok hcc
    cases pure_ok hcc
    refine hc HF0 G HF2 H2 σ (g.step s12) z e3 _ fun u HF3 H3 fp3 s3 r3 _ _ => ?_
    exact ⟨y, z, r2.1, r3.1, (k.back (s12.trans s3)).flat s3.sub⟩
  · rw [if_neg h] at hcc ⊢
    cases pure_ok hcc
    exact (k.back s12).flat s2.sub
theorem ex_chain {op op' : CmpOp} {p q : Int → Int → Bool} {ma mb mc : M Int} (ho : OpR X (compareOp op) (rI0 fun i j => .bl (p i j))) (ho' : OpR X (compareOp op') (rI0 fun i j => .bl (q i j))) (ha : EX X Γ a Ow.v ma ta) (hb : EX X Γ b Ow.v mb tb) (hc : EX X Γ c Ow.v mc tc) (hm : lastMarks [op, op'] [b, c] = false := by with_unfolding_all rfl) : EX X Γ (.Compare a [op, op'] [b, c] pos) Ow.v (chainM p q ma mb mc) (tChain (rI0 fun i j => .bl (p i j)) (rI0 fun i j => .bl (q i j)) ta tb tc) :=
  ⟨pe_chain ho ho' ha.pe hb.pe hc.pe hm, semChain ha.sem hb.sem hc.sem⟩
/-! ### sum, any, all, int -/
theorem ex_all {K : PySem.W.Frag} {m : M (List Bool)} (hc : X.calm = true) (hm : X.mg "all" = none) (h : EX X Γ e Ow.v m te) (hg : Gl X "all" := by rfl) (h1 : starEach [e] X.env = (false, eval e X.env) :: starEach [] X.env := by rfl) (hK : X.K = K := by rfl) : EX X Γ (.Call (.Name "all" p) [e] [] pos) Ow.v (do let a ← m; pure (a.all id)) (tCB (rAll K) (tCons te tNil)) := by
  subst hK
  exact ex_b1 (cr_all hc) (show SemC1 X.K (rAll X.K) Ow.v (fun (a : List Bool) => pure (a.all id)) from fun HF H v a c s ⟨q, us, e, h1, h2⟩ hc Q k => by
    cases pure_ok hc
    subst e
    have e2 := Fa.flat.mp h2
    subst e2
    exact ⟨q, a, rfl, SqL.of (s _ _ h1), k.flat s⟩) boot_all hm h hg (h1 := h1)
theorem ex_any {K : PySem.W.Frag} {m : M (List Bool)} (hc : X.calm = true) (hm : X.mg "any" = none) (h : EX X Γ e Ow.v m te) (hg : Gl X "any" := by rfl) (h1 : starEach [e] X.env = (false, eval e X.env) :: starEach [] X.env := by rfl) (hK : X.K = K := by rfl) : EX X Γ (.Call (.Name "any" p) [e] [] pos) Ow.v (do let a ← m; pure (a.any id)) (tCB (rAny K) (tCons te tNil)) := by
  subst hK
  exact ex_b1 (cr_any hc) (show SemC1 X.K (rAny X.K) Ow.v (fun (a : List Bool) => pure (a.any id)) from fun HF H v a c s ⟨q, us, e, h1, h2⟩ hc Q k => by
    cases pure_ok hc
    subst e
    have e2 := Fa.flat.mp h2
    subst e2
    exact ⟨q, a, rfl, SqL.of (s _ _ h1), k.flat s⟩) boot_any hm h hg (h1 := h1)
def rInt1 : List V → Hp → VK → Prop := fun xs H Q => (∃ i, xs = [.int i] ∧ Q (.int i) H) ∨ ∃ k, xs = [.bl k] ∧ Q (.int (if k then 1 else 0)) H
theorem ex_intB {m : M Bool} (hm : X.mg "int" = none) (h : EX X Γ e Ow.v m te) (hg : Gl X "int" := by rfl) (h1 : starEach [e] X.env = (false, eval e X.env) :: starEach [] X.env := by rfl) : EX X Γ (.Call (.Name "int" p) [e] [] pos) Ow.v (do let a ← m; pure (if a then (1 : Int) else 0)) (tCB rInt1 (tCons te tNil)) :=
  ex_t1 call_int1 (show SemC1 X.K rInt1 Ow.v (fun (a : Bool) => pure (if a then (1 : Int) else 0)) from fun HF H v a c s ra hc Q k => by
    cases pure_ok hc
    cases ra
    exact .inr ⟨a, rfl, k.flat s⟩) boot_int hm h hg (h1 := h1)
theorem Has.at {P : Program} {w : World} {K : PySem.W.Frag} {mg : Str → Option Value} {base : Heap} {x : Str} {k : Nat} {ps : List Str} {sp : Sp} {f : Addr} (h : Has P w K mg base x k ps sp) (hm : mg x = some (.ref f)) : ∃ fd, FnOk P w K mg base CX0 k f fd ps sp := by
  obtain ⟨f', fd, F, m, _, _⟩ := h
  rw [hm] at m
  cases m
  exact ⟨fd, F⟩
end
/-! ### stores -/
def setM {α : Type} (as : List α) (k : Int) (a : α) : M (List α) := do let j ← ofO (ixN as.length k); pure (as.set j a)
def set2M {α : Type} (as : List (List α)) (k l : Int) (a : α) : M (List (List α)) := do
  let j ← ofO (ixN as.length k)
  let r ← ofO as[j]?
  let i ← ofO (ixN r.length l)
  pure (as.set j (r.set i a))
theorem Rl.get {α : Type} {R : V → α → List Addr → Prop} : ∀ {vs : List V} {as : List α} {fp : List Addr} {j : Nat} {a : α}, Rl R vs as fp → as[j]? = some a → ∃ v f, vs[j]? = some v ∧ R v a f ∧ (∀ p ∈ f, p ∈ fp) ∧
    ∀ {v' : V} {a' : α} {f' : List Addr}, R v' a' f' → (∀ p ∈ f', p ∈ f ∨ p ∉ fp) → f'.Nodup → fp.Nodup → ∃ fp', Rl R (vs.set j v') (as.set j a') fp' ∧ fp'.Nodup ∧ (∀ p ∈ fp', p ∈ fp ∨ p ∈ f') ∧ ∀ p ∈ fp, p ∈ fp' ∨ p ∈ f
  | [], [], _, j, a, _, e => by simp at e
  | v :: vs, b :: as, fp, 0, a, ⟨f1, f2, e1, h1, h2⟩, e => by
    have e' : b = a := Option.some.inj e
    subst e'
    refine ⟨v, f1, rfl, h1, fun p hp => by rw [e1]; exact List.mem_append_left _ hp, fun {v' a' f'} r hf nd nf => ?_⟩
    rw [e1] at nf
    obtain ⟨n1, n2, n3⟩ := List.nodup_append.mp nf
    refine ⟨f' ++ f2, ⟨f', f2, rfl, r, h2⟩, List.nodup_append.mpr ⟨nd, n2, fun p hp q hq e => ?_⟩, fun p hp => ?_, fun p hp => ?_⟩
    · subst e
      rcases hf p hp with z | z
      · exact n3 p z p hq rfl
      · exact z (by rw [e1]; exact List.mem_append_right _ hq)
    · rcases List.mem_append.mp hp with z | z
      · exact .inr z
      · exact .inl (by rw [e1]; exact List.mem_append_right _ z)
    · rw [e1] at hp
      rcases List.mem_append.mp hp with z | z
      · exact .inr z
      · exact .inl (List.mem_append_right _ z)
  | v :: vs, b :: as, fp, j + 1, a, ⟨f1, f2, e1, h1, h2⟩, e => by
    obtain ⟨w, f, q1, q2, q3, q4⟩ := Rl.get (j := j) h2 e
    refine ⟨w, f, q1, q2, fun p hp => by rw [e1]; exact List.mem_append_right _ (q3 p hp), fun {v' a' f'} r hf nd nf => ?_⟩
    have nf' := nf
    rw [e1] at nf'
    obtain ⟨n1, n2, n3⟩ := List.nodup_append.mp nf'
    obtain ⟨fp', w1, w2, w3, w4⟩ := q4 r (fun p hp => (hf p hp).imp id fun z y => z (by rw [e1]; exact List.mem_append_right _ y)) nd n2
    refine ⟨f1 ++ fp', ⟨f1, fp', rfl, h1, w1⟩, List.nodup_append.mpr ⟨n1, w2, fun p hp q hq e => ?_⟩, fun p hp => ?_, fun p hp => ?_⟩
    · subst e
      rcases w3 p hq with z | z
      · exact n3 p hp p z rfl
      · rcases hf p z with y | y
        · exact n3 p hp p (q3 p y) rfl
        · exact y (by rw [e1]; exact List.mem_append_left _ hp)
    · rcases List.mem_append.mp hp with z | z
      · exact .inl (by rw [e1]; exact List.mem_append_left _ z)
      · exact (w3 p z).imp (fun y => by rw [e1]; exact List.mem_append_right _ y) id
    · rw [e1] at hp
      rcases List.mem_append.mp hp with z | z
      · exact .inl (List.mem_append_left _ z)
      · exact (w4 p z).imp (fun y => List.mem_append_right _ y) id
  | [], _ :: _, _, _, _, x, _ => x.elim
  | _ :: _, [], _, _, _, x, _ => x.elim
end Ty

namespace Ty
open PySem
/-! ### plain lemmas about the mirror's words -/
/-- a proof that the simplifier does not take for a definition's own -/
theorem nd {p : Prop} (h : p) : p := h
@[simp] theorem okB {α β : Type} (a : α) (k : α → M β) : ((Except.ok a : M α) >>= k) = k a := nd rfl
@[simp] theorem pureB {α β : Type} (a : α) (k : α → M β) : ((pure a : M α) >>= k) = k a := nd rfl
theorem bindA {α β γ : Type} (m : M α) (f : α → M β) (g : β → M γ) : ((m >>= f) >>= g) = m >>= fun a => f a >>= g := by cases m <;> rfl
theorem pureE {α : Type} (a : α) : (pure a : M α) = .ok a := rfl
@[simp] theorem gdT : gd true = .ok () := nd rfl
@[simp] theorem ofOs {α : Type} (a : α) : ofO (some a) = .ok a := nd rfl
@[simp] theorem runRt {ρ : Type} (r : ρ) : runC (.ok (.rt r) : M (Ctl Unit Empty ρ)) = .ok r := nd rfl
@[simp] theorem runRt' {ρ : Type} (r : ρ) : runC (pure (.rt r) : M (Ctl Unit Empty ρ)) = .ok r := nd rfl
@[simp] theorem thenLi {S' S L ρ : Type} (s : S') (k : S' → M (Ctl S L ρ)) : thenL (.inl s : S' ⊕ ρ) k = k s := nd rfl
@[simp] theorem thenLr {S' S L ρ : Type} (r : ρ) (k : S' → M (Ctl S L ρ)) : thenL (.inr r : S' ⊕ ρ) k = .ok (.rt r) := nd rfl
@[simp] theorem thenCn {S' S L ρ : Type} (s : S') (k : S' → M (Ctl S L ρ)) : thenC (.nx s : Ctl S' L ρ) k = k s := nd rfl
@[simp] theorem thenCr {S' S L ρ : Type} (r : ρ) (k : S' → M (Ctl S L ρ)) : thenC (.rt r : Ctl S' L ρ) k = .ok (.rt r) := nd rfl
@[simp] theorem thenCb {S' S L ρ : Type} (r : L) (k : S' → M (Ctl S L ρ)) : thenC (.bk r : Ctl S' L ρ) k = .ok (.bk r) := nd rfl
@[simp] theorem thenCc {S' S L ρ : Type} (r : L) (k : S' → M (Ctl S L ρ)) : thenC (.ct r : Ctl S' L ρ) k = .ok (.ct r) := nd rfl
/-- a loop, by what holds behind each turn -/
theorem loop_ind {α S ρ : Type} {f : α → S → M (Ctl S S ρ)} (P : List α → S → Prop) {xs : List α} {s : S} (h0 : P [] s) (h : ∀ pre x post s, xs = pre ++ x :: post → P pre s → ∃ s', f x s = .ok (.nx s') ∧ P (pre ++ [x]) s') : ∃ s', loopM f xs s = .ok (.inl s') ∧ P xs s' := by
  have q : ∀ (post pre : List α) (s : S), xs = pre ++ post → P pre s → ∃ s', loopM f post s = .ok (.inl s') ∧ P xs s' := by
    intro post
    induction post with
    | nil =>
      intro pre s e p
      rw [List.append_nil] at e
      subst e
      exact ⟨s, rfl, p⟩
    | cons x post ih =>
      intro pre s e p
      obtain ⟨s1, e1, p1⟩ := h pre x post s e p
      obtain ⟨s2, e2, p2⟩ := ih (pre ++ [x]) s1 (by rw [e]; simp) p1
      refine ⟨s2, ?_, p2⟩
      show (f x s >>= _) = _
      rw [e1]
      exact e2
  exact q xs [] s rfl h0
/-- comprehensions -/
theorem comp_map {α β : Type} {f : α → M β} (g : α → β) : ∀ {xs : List α}, (∀ x ∈ xs, f x = .ok (g x)) → compL (fun _ => pure true) f xs = .ok (xs.map g)
  | [], _ => rfl
  | x :: xs, h => by
    have ih := comp_map g (xs := xs) fun y hy => h y (List.mem_cons_of_mem _ hy)
    show (f x >>= _) = _
    rw [h x (List.mem_cons_self ..)]
    show (compL (fun _ => pure true) f xs >>= _) = _
    rw [ih]
    rfl
theorem compM_map {α β : Type} {f : α → M β} (g : α → β) {xs : List α} (hl : xs.length ≤ 16777216) (h : ∀ x ∈ xs, f x = .ok (g x)) : compM xs (fun _ => pure true) f = .ok (xs.map g) := by
  unfold compM
  rw [sizeLine_eq, decide_eq_true hl]
  exact comp_map g h
/-- bounds -/
theorem atI_ok {α : Type} {xs : List α} {i : Int} (h0 : 0 ≤ i) (h1 : i < xs.length) : L2.atI xs i = xs[i.toNat]? := by
  unfold L2.atI L2.ixN
  rw [if_pos h0, if_pos h1]
  rfl
theorem atM_ok {α : Type} [Inhabited α] {xs : List α} {i : Int} (h0 : 0 ≤ i) (h1 : i < xs.length) : atM xs i = .ok (xs.getD i.toNat default) := by
  unfold atM
  rw [atI_ok h0 h1, List.getElem?_eq_getElem (by omega), List.getD_eq_getElem?_getD, List.getElem?_eq_getElem (by omega)]
  rfl
theorem mulM_ok {a b : Int} (h : mulB a b = true) : mulM a b = .ok (a * b) := by
  unfold mulM
  rw [h]
  rfl
theorem mulB_l {a b : Int} (h1 : -18446744073709551616 < a) (h2 : a < 18446744073709551616) : mulB a b = true := by simp [mulB, h1, h2]
theorem modM_ok {a b : Int} (h : 0 < b) : modM a b = .ok (a % b) := by simp [modM, posB, h]; rfl
theorem range1_ok {n : Int} (h0 : 0 ≤ n) (h1 : n < 4611686018427387904) : range1 n = .ok (rangeL 0 n) := by
  have e : rgB n = true := by
    unfold rgB
    rw [Bool.and_eq_true, decide_eq_true_eq, decide_eq_true_eq]
    omega
  unfold range1
  rw [e]; rfl
theorem mem_range1 {n x : Int} (h : x ∈ rangeL 0 n) : 0 ≤ x ∧ x < n := by
  unfold rangeL at h
  simp only [List.mem_map, List.mem_range] at h
  obtain ⟨k, hk, e⟩ := h
  omega
theorem lstM_ok {α : Type} {as : List α} (h : as.length ≤ 1000) : lstM as = .ok as := by
  unfold lstM szB
  rw [sizeLine_eq, decide_eq_true (by omega)]
  rfl
theorem appM_ok {α : Type} {as : List α} {a : α} (h : as.length ≤ 1000000) : appM as a = .ok (as ++ [a]) := by
  unfold appM
  rw [sizeLine_eq, decide_eq_true (by omega)]
  rfl
/-! ### what a mirror yields -/
def Ev {α : Type} (m : M α) (Q : α → Prop) : Prop := ∃ a, m = .ok a ∧ Q a
theorem Ev.ok {α : Type} {a : α} {Q : α → Prop} (h : Q a) : Ev (.ok a) Q := ⟨a, rfl, h⟩
theorem Ev.pure {α : Type} {a : α} {Q : α → Prop} (h : Q a) : Ev (Pure.pure a) Q := ⟨a, rfl, h⟩
theorem Ev.of {α : Type} {m : M α} {a : α} {Q : α → Prop} (e : m = .ok a) (h : Q a) : Ev m Q := ⟨a, e, h⟩
theorem Ev.mono {α : Type} {m : M α} {P Q : α → Prop} (h : Ev m P) (k : ∀ a, P a → Q a) : Ev m Q := by
  obtain ⟨a, e, h⟩ := h
  exact ⟨a, e, k a h⟩
theorem Ev.bind {α β : Type} {m : M α} {k : α → M β} {P : α → Prop} {Q : β → Prop} (h : Ev m P) (hk : ∀ a, P a → Ev (k a) Q) : Ev (m >>= k) Q := by
  obtain ⟨a, e, h⟩ := h
  rw [e]
  exact hk a h
theorem Ev.run {ρ : Type} {m : M (Ctl Unit Empty ρ)} {Q : ρ → Prop} (h : Ev m fun c => ∃ r, c = .rt r ∧ Q r) : Ev (runC m) Q := by
  obtain ⟨c, e, r, e2, h⟩ := h
  subst e e2
  exact ⟨r, rfl, h⟩
theorem Ev.loop {α S ρ : Type} {f : α → S → M (Ctl S S ρ)} {xs : List α} {s : S} (P : List α → S → Prop) (h0 : P [] s) (h : ∀ pre x post s, xs = pre ++ x :: post → P pre s → Ev (f x s) fun c => ∃ s', c = .nx s' ∧ P (pre ++ [x]) s') : Ev (loopM f xs s) fun c => ∃ s', c = .inl s' ∧ P xs s' := by
  obtain ⟨s', e, p⟩ := loop_ind P h0 fun pre x post s e p => by
    obtain ⟨c, e1, s', e2, q⟩ := h pre x post s e p
    subst e2
    exact ⟨s', e1, q⟩
  exact ⟨_, e, s', rfl, p⟩
/-- a loop, then the rest -/
theorem Ev.loopL {α S S' L ρ : Type} {f : α → S → M (Ctl S S ρ)} {xs : List α} {s : S} {k : S → M (Ctl S' L ρ)} {Q : Ctl S' L ρ → Prop} (P : List α → S → Prop) (h0 : P [] s) (h : ∀ pre x post s, xs = pre ++ x :: post → P pre s → Ev (f x s) fun c => ∃ s', c = .nx s' ∧ P (pre ++ [x]) s') (hk : ∀ s', P xs s' → Ev (k s') Q) : Ev (loopM f xs s >>= fun c => thenL c k) Q :=
  Ev.bind (Ev.loop P h0 h) fun c ⟨s', e, p⟩ => by subst e; exact hk s' p
theorem Ev.ite {α : Type} {c : Prop} [Decidable c] {a b : M α} {Q : α → Prop} (h1 : c → Ev a Q) (h2 : ¬ c → Ev b Q) : Ev (if c then a else b) Q := by
  by_cases h : c
  · rw [if_pos h]; exact h1 h
  · rw [if_neg h]; exact h2 h
theorem Ev.bif {α : Type} {c : Bool} {a b : M α} {Q : α → Prop} (h1 : c = true → Ev a Q) (h2 : c = false → Ev b Q) : Ev (if c then a else b) Q := Ev.ite h1 fun h => h2 (by simpa using h)
theorem Ev.comp {α β : Type} {t : α → M Bool} {f : α → M β} (P : α → β → Prop) {xs : List α} (hl : xs.length ≤ 16777216) (ht : ∀ x ∈ xs, t x = .ok true) (h : ∀ x ∈ xs, Ev (f x) (P x)) : Ev (compM xs t f) fun ys => ys.length = xs.length ∧ ∀ i (h1 : i < xs.length) (h2 : i < ys.length), P xs[i] ys[i] := by
  unfold compM
  rw [sizeLine_eq, decide_eq_true hl]
  show Ev (compL t f xs) _
  clear hl
  induction xs with
  | nil => exact ⟨[], rfl, rfl, fun i h1 => absurd h1 (Nat.not_lt_zero i)⟩
  | cons x xs ih =>
    obtain ⟨y, ey, py⟩ := h x (List.mem_cons_self ..)
    obtain ⟨ys, eys, hl, pys⟩ := ih (fun z hz => ht z (List.mem_cons_of_mem _ hz)) fun z hz => h z (List.mem_cons_of_mem _ hz)
    refine ⟨y :: ys, ?_, by simp [hl], ?_⟩
    · show (t x >>= _) = _
      rw [ht x (List.mem_cons_self ..)]
      show (f x >>= _) = _
      rw [ey]
      show (compL t f xs >>= _) = _
      rw [eys]
      rfl
    · intro i h1 h2
      cases i with
      | zero => exact py
      | succ i => exact pys i _ _
theorem pre_lt {α : Type} {xs pre post : List α} {x : α} (e : xs = pre ++ x :: post) : pre.length < xs.length := by
  have := congrArg List.length e
  simp at this; omega
/-- data without texts can always be compared -/
class EqvT (α : Type) [Rp α] [DecidableEq α] [Eqv α] : Prop where
  all : ∀ a : α, Eqv.ok a = true
instance : EqvT Int := ⟨fun _ => rfl⟩
instance : EqvT Bool := ⟨fun _ => rfl⟩
instance {α : Type} [Rp α] [DecidableEq α] [Eqv α] [EqvT α] : EqvT (List α) := ⟨fun as => List.all_eq_true.mpr fun a _ => EqvT.all a⟩
instance {α : Type} [Rp α] [DecidableEq α] [Eqv α] [EqvT α] : EqvT (Tu α) := ⟨fun as => List.all_eq_true.mpr fun a _ => EqvT.all a⟩
instance {α β : Type} [Rp α] [Rp β] [DecidableEq α] [DecidableEq β] [Eqv α] [Eqv β] [EqvT α] [EqvT β] : EqvT (α × β) := ⟨fun a => by
  show (Eqv.ok a.1 && Eqv.ok a.2) = true
  rw [EqvT.all, EqvT.all]; rfl⟩
end Ty

namespace Ty
open PySem PySem.Spec PyProof.Rows L2
section
variable {X : Cx} {Γ : Ctx} {S L ρ α β γ A B S' : Type} [Rp ρ] {o : Ow ρ} {Γo : S → Ctx} {ΓL : L → Ctx} {a b e : Expr} {es : List Expr} {pos p p1 p2 apos cpos : Pos} {ta tb tc te : TE} {t : TA} {sts : List Stmt} {tr tr' : TS}
/-- x[i] = e -/
theorem ss_set [Rp α] (i : Nat) {u : Ow α} {as : List α} {x : Str} {m : M α} {mi : M Int} {k : List α → M (Ctl S L ρ)} (he : EX X Γ e u m te) (hi : EX X Γ b Ow.v mi tb) (hr : ∀ l, SS X (put Γ i (.mk (Ow.l u) l)) sts Γo ΓL o (k l) tr) (hl : look Γ i = .mk (Ow.l u) as := by rfl) (hN : X.N[i]? = some x := by rfl) (hv : Vis X.env.scope x := by first | exact Or.inl rfl | exact Or.inr (Or.inl rfl) | exact Or.inr (Or.inr rfl)) (hd : (x == ("__debug__" : Str)) = false := by decide)
    (hcd : (x == ("__classdict__" : Str)) = false := by decide)
    (hps : PE X e te → PG X (.Subscript (.Name x p) b p1) (gSub (tVar i) tb rSetL) → PS X (.Assign [.Subscript (.Name x p) b p1] e pos) (tAsg te (gSub (tVar i) tb rSetL)) := by exact fun h h' => ps_asg h h')
    (hpg : PE X (.Name x p) (tVar i) → PE X b tb → PG X (.Subscript (.Name x p) b p1) (gSub (tVar i) tb rSetL) := by exact fun h h' => pg_sub h h' set_list) :
    SS X Γ (.Assign [.Subscript (.Name x p) b p1] e pos :: sts) Γo ΓL o (do let a ← m; let b ← mi; let l ← setM as b a; k l) (tSeq (tAsg te (gSub (tVar i) tb rSetL)) tr) :=
  ⟨pss_cons (hps he.pe (hpg (pe_var hN hv hd hcd) hi.pe)) (hr []).pss, fun HF0 G HF H σ g c hc D kk => by
    obtain ⟨y, e1, hc⟩ := bind_ok hc
    obtain ⟨ix, e2, hc⟩ := bind_ok hc
    obtain ⟨l, e3, hc⟩ := bind_ok hc
    obtain ⟨j, e4, e3⟩ := bind_ok e3
    have e5 := pure_ok e3
    subst e5
    have e6 := ofO_ok e4
    obtain ⟨v, fo, hσ, ⟨q, vs, fq, h1, h2, h3, h4⟩, nd, hfo, back⟩ := g.take hl
    subst h1 h2
    refine he.sem HF0 G HF H σ g y e1 _ fun v' HF1 H1 fp st r n f => ?_
    refine ⟨.ref q, hσ, ?_⟩
    refine hi.sem HF0 G HF1 H1 σ (g.step st) ix e2 _ fun w HF2 H2 fp2 st2 r2 _ _ => ?_
    have st12 := st.trans st2
    refine ⟨q, vs, ix, j, rfl, r2.1, st12.exH _ _ h3, by rw [h4.len]; exact e6, ?_⟩
    have hqn : q ∉ fq := (List.nodup_cons.mp nd).1
    have hqp : q ∉ fp := fun z => by
      have := (f q z).1
      rw [h3] at this; cases this
    have hj : j < as.length := (ixN_seq e6).2.1
    obtain ⟨v0, f0, _, _, s1, s2⟩ := Rl.get (j := j) (Rl.step h4 st12) (List.getElem?_eq_getElem hj)
    have r' : u.rep X.K HF2 H2 v' y fp := u.mono st2.exF (fun p _ o e => st2.exH p o e) r
    have dmq := Rl.dom (fun v a f r => u.dom r) h4
    obtain ⟨fp', w1, w2, w3, w4⟩ := s2 r' (fun p hp => .inr fun z => by
      obtain ⟨w', hw⟩ := dmq p z
      rw [(f p hp).1] at hw; cases hw) n (List.nodup_cons.mp nd).2
    have hq' : q ∉ fp' := fun z => (w3 q z).elim hqn hqp
    have gg := back (u' := Ow.l u) (b := as.set j y) (v' := .ref q) (f' := q :: fp') (H' := upd H2 q (.lst (vs.set j v'))) st12 (fun p w hp e => by rw [upd_ne (fun z => hp (by rw [z]; exact List.mem_cons_self ..))]; exact e)
      ⟨q, vs.set j v', fp', rfl, rfl, upd_same, w1.upd hq'⟩ (List.nodup_cons.mpr ⟨hq', w2⟩) (fun p hp => by
        rcases List.mem_cons.mp hp with z | z
        · exact .inl (by rw [z]; exact List.mem_cons_self ..)
        · rcases w3 p z with z | z
          · exact .inl (List.mem_cons_of_mem _ z)
          · exact .inr ⟨(f p z).1, by
              obtain ⟨w', hw⟩ := u.dom r p z
              exact st2.nn (f p z).2 hw⟩)
    rw [set_self hσ] at gg
    exact (hr (as.set j y)).sem HF0 G HF2 _ σ gg c hc D (kk.mono st12.exF)⟩
theorem Rl.mut {α : Type} {R : V → α → List Addr → Prop} : ∀ {vs : List V} {as : List α} {fp : List Addr} {j : Nat} {a : α}, Rl R vs as fp → fp.Nodup → as[j]? = some a → ∃ v f, vs[j]? = some v ∧ R v a f ∧ f.Nodup ∧ (∀ p ∈ f, p ∈ fp) ∧
    ∀ {a' : α} {f' : List Addr} {R' : V → α → List Addr → Prop}, (∀ v a f0, (∀ p ∈ f0, p ∈ fp ∧ p ∉ f) → R v a f0 → R' v a f0) → R' v a' f' → f'.Nodup → (∀ p ∈ f', p ∈ f ∨ p ∉ fp) → ∃ fp', Rl R' vs (as.set j a') fp' ∧ fp'.Nodup ∧ ∀ p ∈ fp', p ∈ fp ∨ p ∈ f'
  | [], [], _, j, a, _, _, e => by simp at e
  | v :: vs, b :: as, fp, 0, a, ⟨f1, f2, e1, h1, h2⟩, nd, e => by
    have e' : b = a := Option.some.inj e
    subst e'
    rw [e1] at nd
    obtain ⟨n1, n2, n3⟩ := List.nodup_append.mp nd
    refine ⟨v, f1, rfl, h1, n1, fun p hp => by rw [e1]; exact List.mem_append_left _ hp, fun {a' f' R'} k r nf hf => ?_⟩
    refine ⟨f' ++ f2, ⟨f', f2, rfl, r, Rl.mono (fun v a f0 h0 r0 => k v a f0 (fun p hp => ⟨by rw [e1]; exact List.mem_append_right _ (h0 p hp), fun z => n3 p z p (h0 p hp) rfl⟩) r0) h2⟩, List.nodup_append.mpr ⟨nf, n2, fun p hp q hq e => ?_⟩, fun p hp => ?_⟩
    · subst e
      rcases hf p hp with z | z
      · exact n3 p z p hq rfl
      · exact z (by rw [e1]; exact List.mem_append_right _ hq)
    · rcases List.mem_append.mp hp with z | z
      · exact .inr z
      · exact .inl (by rw [e1]; exact List.mem_append_right _ z)
  | v :: vs, b :: as, fp, j + 1, a, ⟨f1, f2, e1, h1, h2⟩, nd, e => by
    have nd' := nd
    rw [e1] at nd'
    obtain ⟨n1, n2, n3⟩ := List.nodup_append.mp nd'
    obtain ⟨w, f, q1, q2, q3, q4, q5⟩ := Rl.mut (j := j) h2 n2 e
    refine ⟨w, f, q1, q2, q3, fun p hp => by rw [e1]; exact List.mem_append_right _ (q4 p hp), fun {a' f' R'} k r nf hf => ?_⟩
    obtain ⟨fp', w1, w2, w3⟩ := q5 (R' := R') (fun v a f0 h0 r0 => k v a f0 (fun p hp => ⟨by rw [e1]; exact List.mem_append_right _ (h0 p hp).1, (h0 p hp).2⟩) r0) r nf fun p hp => (hf p hp).imp id fun z y => z (by rw [e1]; exact List.mem_append_right _ y)
    refine ⟨f1 ++ fp', ⟨f1, fp', rfl, k v b f1 (fun p hp => ⟨by rw [e1]; exact List.mem_append_left _ hp, fun z => n3 p hp p (q4 p z) rfl⟩) h1, w1⟩, List.nodup_append.mpr ⟨n1, w2, fun p hp q hq e => ?_⟩, fun p hp => ?_⟩
    · subst e
      rcases w3 p hq with z | z
      · exact n3 p hp p z rfl
      · rcases hf p z with y | y
        · exact n3 p hp p (q4 p y) rfl
        · exact y (by rw [e1]; exact List.mem_append_left _ hp)
    · rcases List.mem_append.mp hp with z | z
      · exact .inl (by rw [e1]; exact List.mem_append_left _ z)
      · exact (w3 p z).imp (fun y => by rw [e1]; exact List.mem_append_right _ y) id
  | [], _ :: _, _, _, _, x, _, _ => x.elim
  | _ :: _, [], _, _, _, x, _, _ => x.elim
/-- the j-th of an own list of own lists, changed in place -/
theorem Good.take2 {K : PySem.W.Frag} {HF0 G HF H HF1 H1 : Hp} {σ : L2.St} {i j : Nat} [Rp α] {u : Ow α} {as : List (List α)} {r : List α} (g : Good K HF0 G Γ HF H σ) (hl : look Γ i = .mk (Ow.l (Ow.l u)) as) (st : Step HF H HF1 H1) (hj : as[j]? = some r) :
    ∃ p vs q ws fq, σ[i]? = some (some (.ref p)) ∧ H p = some (.lst vs) ∧ vs.length = as.length ∧ vs[j]? = some (.ref q) ∧ H1 q = some (.lst ws) ∧ Rl (u.rep K HF1 H1) ws r fq ∧ fq.Nodup ∧ q ∉ fq ∧ H1 p = some (.lst vs) ∧ (∀ p' ∈ fq, ∃ w, H p' = some w) ∧ (∃ w, H q = some w) ∧ p ≠ q ∧
      ∀ {HF2 H2 : Hp} {ws' : List V} {r' : List α} {fq' : List Addr}, Step HF1 H1 HF2 H2 → Rl (u.rep K HF2 (upd H2 q (.lst ws'))) ws' r' fq' → fq'.Nodup → q ∉ fq' → (∀ p' ∈ fq', p' ∈ fq ∨ (H p' = none ∧ HF2 p' = none)) →
        Good K HF0 G (put Γ i (.mk (Ow.l (Ow.l u)) (as.set j r'))) HF2 (upd H2 q (.lst ws')) σ := by
  obtain ⟨v, fo, hσ, ⟨p, vs, fp, h1, h2, h3, h4⟩, nd, hfo, back⟩ := g.take hl
  subst h1 h2
  have hp := (List.nodup_cons.mp nd).1
  have nfp := (List.nodup_cons.mp nd).2
  have dmf := Rl.dom (fun v a f r => (Ow.l u).dom r) h4
  obtain ⟨v, f, e1, ⟨q, ws, fq, e2, e3, h5, h6⟩, nf, hf, mk⟩ := Rl.mut (Rl.step h4 st) nfp hj
  subst e2 e3
  have hq : q ∉ fq := (List.nodup_cons.mp nf).1
  have hqp : q ∈ fp := hf q (List.mem_cons_self ..)
  have hpq : p ≠ q := fun z => hp (by rw [z]; exact hqp)
  refine ⟨p, vs, q, ws, fq, hσ, h3, h4.len, e1, h5, h6, (List.nodup_cons.mp nf).2, hq, st.exH _ _ h3, fun p' hp' => dmf p' (hf p' (List.mem_cons_of_mem _ hp')), dmf q hqp, hpq, ?_⟩
  intro HF2 H2 ws' r' fq' st2 hr nq hnq hsub
  have st12 := st.trans st2
  obtain ⟨fp', w1, w2, w3⟩ := mk (a' := r') (f' := q :: fq') (R' := (Ow.l u).rep K HF2 (upd H2 q (.lst ws'))) (fun v a f0 h0 r0 => (Ow.l u).mono st2.exF (fun p' hp' o e => by
      rw [upd_ne (fun z => (h0 p' hp').2 (by rw [z]; exact List.mem_cons_self ..))]
      exact st2.exH _ _ e) r0) ⟨q, ws', fq', rfl, rfl, upd_same, hr⟩ (List.nodup_cons.mpr ⟨hnq, nq⟩) (fun p' hp' => by
      rcases List.mem_cons.mp hp' with z | z
      · exact .inl (by rw [z]; exact List.mem_cons_self ..)
      · rcases hsub p' z with y | y
        · exact .inl (List.mem_cons_of_mem _ y)
        · exact .inr fun y' => by
            obtain ⟨w, hw⟩ := dmf p' y'
            rw [y.1] at hw; cases hw)
  have hp' : p ∉ fp' := fun z => by
    rcases w3 p z with y | y
    · exact hp y
    · rcases List.mem_cons.mp y with y | y
      · exact hpq y
      · rcases hsub p y with x | x
        · exact hp (hf p (List.mem_cons_of_mem _ x))
        · rw [h3] at x; cases x.1
  have gg := back (u' := Ow.l (Ow.l u)) (b := as.set j r') (v' := .ref p) (f' := p :: fp') (H' := upd H2 q (.lst ws')) st12 (fun p' w hn e => by rw [upd_ne (fun z => hn (by rw [z]; exact List.mem_cons_of_mem _ hqp))]; exact e)
    ⟨p, vs, fp', rfl, rfl, by rw [upd_ne hpq]; exact st12.exH _ _ h3, w1⟩ (List.nodup_cons.mpr ⟨hp', w2⟩) (fun p' hp' => by
      rcases List.mem_cons.mp hp' with z | z
      · exact .inl (by rw [z]; exact List.mem_cons_self ..)
      · rcases w3 p' z with y | y
        · exact .inl (List.mem_cons_of_mem _ y)
        · rcases List.mem_cons.mp y with y | y
          · exact .inl (by rw [y]; exact List.mem_cons_of_mem _ hqp)
          · rcases hsub p' y with x | x
            · exact .inl (List.mem_cons_of_mem _ (hf p' (List.mem_cons_of_mem _ x)))
            · exact .inr x)
  rw [set_self hσ] at gg
  exact gg
/-- x[i][j] = e -/
theorem ss_set2 {K : PySem.W.Frag} [Fl α] (i : Nat) {as : List (List α)} {x : Str} {m : M α} {ma mb : M Int} {k : List (List α) → M (Ctl S L ρ)} (he : EX X Γ e Ow.v m te) (ha : EX X Γ a Ow.v ma ta) (hb : EX X Γ b Ow.v mb tb) (hr : ∀ l, SS X (put Γ i (.mk (Ow.l (Ow.l (Ow.v : Ow α))) l)) sts Γo ΓL o (k l) tr) (hl : look Γ i = .mk (Ow.l (Ow.l (Ow.v : Ow α))) as := by rfl) (hN : X.N[i]? = some x := by rfl) (hv : Vis X.env.scope x := by first | exact Or.inl rfl | exact Or.inr (Or.inl rfl) | exact Or.inr (Or.inr rfl)) (hd : (x == ("__debug__" : Str)) = false := by decide)
    (hcd : (x == ("__classdict__" : Str)) = false := by decide) (hK : X.K = K := by rfl)
    (hps : PE X e te → PG X (.Subscript (.Subscript (.Name x p) a p2) b p1) (gSub (tOp (rIxL K) (tVar i) ta) tb rSetL) → PS X (.Assign [.Subscript (.Subscript (.Name x p) a p2) b p1] e pos) (tAsg te (gSub (tOp (rIxL K) (tVar i) ta) tb rSetL)) := by exact fun h h' => ps_asg h h')
    (hpg : PE X (.Name x p) (tVar i) → PE X a ta → PE X b tb → PG X (.Subscript (.Subscript (.Name x p) a p2) b p1) (gSub (tOp (rIxL K) (tVar i) ta) tb rSetL) := by exact fun h h' h'' => pg_sub (pe_ix ix_list h h' (fun _ _ => rfl)) h'' set_list) :
    SS X Γ (.Assign [.Subscript (.Subscript (.Name x p) a p2) b p1] e pos :: sts) Γo ΓL o (do let a ← m; let b ← ma; let c ← mb; let l ← set2M as b c a; k l) (tSeq (tAsg te (gSub (tOp (rIxL K) (tVar i) ta) tb rSetL)) tr) := by
  subst hK
  exact ⟨pss_cons (hps he.pe (hpg (pe_var hN hv hd hcd) ha.pe hb.pe)) (hr []).pss, fun HF0 G HF H σ g c hc D kk => by
    obtain ⟨y, e1, hc⟩ := bind_ok hc
    obtain ⟨ix, e2, hc⟩ := bind_ok hc
    obtain ⟨iy, e3, hc⟩ := bind_ok hc
    obtain ⟨l, e4, hc⟩ := bind_ok hc
    obtain ⟨j, e5, e4⟩ := bind_ok e4
    obtain ⟨r, e6, e4⟩ := bind_ok e4
    obtain ⟨n, e7, e4⟩ := bind_ok e4
    have e8 := pure_ok e4
    subst e8
    have e5 := ofO_ok e5
    have e6 := ofO_ok e6
    have e7 := ofO_ok e7
    refine he.sem HF0 G HF H σ g y e1 _ fun v' HF1 H1 fp st1 r1 _ _ => ?_
    obtain ⟨p, vs, q, ws, fq, hσ, h3, hlen, hvq, _, _, _, _, _, _, _, _, _⟩ := g.take2 (u := Ow.v) hl (Step.refl g.sub) e6
    refine ⟨.ref p, hσ, ?_⟩
    refine ha.sem HF0 G HF1 H1 σ (g.step st1) ix e2 _ fun w2 HF2 H2 fp2 st2 r2 _ _ => ?_
    have st12 := st1.trans st2
    refine ⟨p, vs, ix, .ref q, rfl, r2.1, SqL.of (st12.exH _ _ h3), ?_, ?_⟩
    · unfold atI
      rw [hlen, e5]
      exact hvq
    refine hb.sem HF0 G HF2 H2 σ (g.step st12) iy e3 _ fun w3 HF3 H3 fp3 st3 r3 _ _ => ?_
    have st123 := st12.trans st3
    obtain ⟨p', vs', q', ws', fq', hσ', h3', _, hvq', hq1, hr1, nq, hnq, _, _, _, _, back⟩ := g.take2 (u := Ow.v) hl st123 e6
    rw [hσ] at hσ'
    cases hσ'
    rw [h3] at h3'
    cases h3'
    rw [hvq] at hvq'
    cases hvq'
    obtain ⟨hfa, hnil⟩ := Rl.toFa hr1
    refine ⟨q, ws', iy, n, rfl, r3.1, hq1, by rw [hr1.len]; exact e7, ?_⟩
    have gg := back (HF2 := HF3) (H2 := H3) (ws' := ws'.set n v') (r' := r.set n y) (fq' := []) (Step.refl st123.sub) (Rl.ofFa (Fa.set (Rp.mono (st2.exF.trans st3.exF) r1.1) n hfa)) List.nodup_nil (by simp) (by simp)
    exact (hr (as.set j (r.set n y))).sem HF0 G HF3 _ σ gg c hc D (kk.mono st123.exF)⟩
/-- x[i].append(e) -/
def app2M {α : Type} (as : List (List α)) (k : Int) (a : α) : M (List (List α)) := do
  let j ← ofO (ixN as.length k)
  let r ← ofO as[j]?
  gd (decide (r.length < sizeLine))
  pure (as.set j (r ++ [a]))
end
end Ty

namespace Ty
open PySem
/-! ### rows, tables, ranges -/
def row {α : Type} (n : Nat) (g : Nat → α) : List α := (List.range n).map g
theorem row_len {α : Type} (n : Nat) (g : Nat → α) : (row n g).length = n := by simp [row]
theorem row_get {α : Type} {n : Nat} {g : Nat → α} {i : Nat} (h : i < n) : (row n g)[i]? = some (g i) := by
  simp [row, h]
theorem row_congr {α : Type} {n : Nat} {g g' : Nat → α} (h : ∀ i, i < n → g i = g' i) : row n g = row n g' := List.map_congr_left fun i hi => h i (List.mem_range.mp hi)
theorem row_inj {α : Type} {n : Nat} {g g' : Nat → α} (h : row n g = row n g') {i : Nat} (hi : i < n) : g i = g' i := by
  have e := congrArg (·[i]?) h
  simp only [row_get hi] at e
  exact Option.some.inj e
theorem row_ext {α : Type} {n : Nat} {g : Nat → α} {l : List α} (hl : l.length = n) (h : ∀ i, i < n → l[i]? = some (g i)) : l = row n g := by
  apply List.ext_getElem?
  intro i
  by_cases hi : i < n
  · rw [h i hi, row_get hi]
  · rw [List.getElem?_eq_none (by omega), List.getElem?_eq_none (by rw [row_len]; omega)]
theorem row_of {α : Type} [Inhabited α] (l : List α) : l = row l.length fun i => l.getD i default := row_ext rfl fun i hi => by rw [List.getElem?_eq_getElem hi, List.getD_eq_getElem?_getD, List.getElem?_eq_getElem hi]; rfl
theorem atM_row {α : Type} {n : Nat} {g : Nat → α} {i : Int} (h0 : 0 ≤ i) (h1 : i < n) : atM (row n g) i = .ok (g i.toNat) := by
  unfold atM
  rw [atI_ok h0 (by rw [row_len]; exact h1), row_get (by omega)]
  rfl
theorem atM_rowN {α : Type} {n : Nat} {g : Nat → α} {i : Nat} (h1 : i < n) : atM (row n g) (i : Int) = .ok (g i) := by
  rw [atM_row (by omega) (by omega)]; rfl
theorem row_set {α : Type} {n : Nat} {g : Nat → α} {i : Nat} {v : α} (h : i < n) : (row n g).set i v = row n (fun j => if j = i then v else g j) := by
  apply row_ext (by rw [List.length_set, row_len])
  intro j hj
  by_cases e : j = i
  · subst e
    rw [if_pos rfl, List.getElem?_set_self (by rw [row_len]; exact hj)]
  · rw [if_neg e, List.getElem?_set_ne (fun z => e z.symm), row_get hj]
def tab (n : Nat) (f : Nat → Nat → Int) : List (List Int) := row n fun i => row n (f i)
theorem tab_len (n : Nat) (f : Nat → Nat → Int) : (tab n f).length = n := row_len _ _
theorem atM_tab {n : Nat} {f : Nat → Nat → Int} {i : Int} (h0 : 0 ≤ i) (h1 : i < n) : atM (tab n f) i = .ok (row n (f i.toNat)) := atM_row h0 h1
theorem atM_tabN {n : Nat} {f : Nat → Nat → Int} {i : Nat} (h1 : i < n) : atM (tab n f) (i : Int) = .ok (row n (f i)) := atM_rowN h1
theorem set2M_tab {n : Nat} {f : Nat → Nat → Int} {i j v : Int} (h0 : 0 ≤ i) (h1 : i < n) (h2 : 0 ≤ j) (h3 : j < n) : set2M (tab n f) i j v = .ok (tab n fun a b => if a = i.toNat ∧ b = j.toNat then v else f a b) := by
  unfold set2M
  rw [show L2.ixN (tab n f).length i = some i.toNat from by unfold L2.ixN; rw [if_pos h0, if_pos (by rw [tab_len]; exact h1)]]
  simp only [ofOs, okB]
  rw [show (tab n f)[i.toNat]? = some (row n (f i.toNat)) from row_get (by omega)]
  simp only [ofOs, okB]
  rw [show L2.ixN (row n (f i.toNat)).length j = some j.toNat from by unfold L2.ixN; rw [if_pos h2, if_pos (by rw [row_len]; exact h3)]]
  simp only [ofOs, okB]
  show (Except.ok _ : M _) = _
  unfold tab
  rw [row_set (by omega), row_set (by omega)]
  congr 1
  apply row_congr
  intro a ha
  by_cases e : a = i.toNat
  · subst e
    rw [if_pos rfl]
    apply row_congr
    intro b hb
    by_cases e2 : b = j.toNat <;> simp [e2]
  · rw [if_neg e]
    apply row_congr
    intro b hb
    simp [e]
theorem range_row (m : Int) : rangeL 0 m = row m.toNat (fun k => (k : Int)) := by
  unfold rangeL row
  rw [Int.sub_zero]
  exact List.map_congr_left fun k _ => by omega
theorem comp_row {α : Type} {m : Int} {f : Int → M α} (g : Nat → α) (hm : m ≤ 1000000) (h : ∀ k : Nat, (k : Int) < m → f k = .ok (g k)) : compM (rangeL 0 m) (fun _ => pure true) f = .ok (row m.toNat g) := by
  rw [range_row, compM_map (fun x : Int => g x.toNat) (by rw [row_len]; omega)]
  · unfold row
    rw [List.map_map]
    rfl
  · intro x hx
    unfold row at hx
    simp only [List.mem_map, List.mem_range] at hx
    obtain ⟨k, hk, rfl⟩ := hx
    exact h k (by omega)
theorem comp_rows {α β : Type} {n : Nat} {r : Nat → α} {f : α → M β} (g : Nat → β) (hn : n ≤ 1000000) (h : ∀ k, k < n → f (r k) = .ok (g k)) : compM (row n r) (fun _ => pure true) f = .ok (row n g) := by
  unfold compM
  rw [sizeLine_eq, decide_eq_true (by rw [row_len]; omega)]
  show compL _ _ _ = _
  unfold row
  have q : ∀ l : List Nat, (∀ k ∈ l, f (r k) = .ok (g k)) → compL (fun _ => pure true) f (l.map r) = .ok (l.map g) := by
    intro l
    induction l with
    | nil => intro _; rfl
    | cons k l ih =>
      intro hl
      show (f (r k) >>= _) = _
      rw [hl k (List.mem_cons_self ..)]
      show (compL _ f (l.map r) >>= _) = _
      rw [ih fun z hz => hl z (List.mem_cons_of_mem _ hz)]
      rfl
  exact q _ fun k hk => h k (List.mem_range.mp hk)
/-- a loop over range(m), by the number of turns -/
theorem Ev.loopN {S S' L ρ : Type} {f : Int → S → M (Ctl S S ρ)} {m : Int} {s : S} {k : S → M (Ctl S' L ρ)} {Q : Ctl S' L ρ → Prop} (P : Nat → S → Prop) (h0 : P 0 s) (h : ∀ (i : Nat) s, (i : Int) < m → P i s → Ev (f (i : Int) s) fun c => ∃ s', c = .nx s' ∧ P (i + 1) s') (hk : ∀ s', P m.toNat s' → Ev (k s') Q) : Ev (loopM f (rangeL 0 m) s >>= fun c => thenL c k) Q := by
  rw [range_row]
  refine Ev.loopL (fun pre s => P pre.length s) h0 ?_ fun s' p => hk s' (by rw [row_len] at p; exact p)
  intro pre x post s e p
  have hl := pre_lt e
  rw [row_len] at hl
  have hx : x = (pre.length : Int) := by
    have := congrArg (·[pre.length]?) e
    simp only [row_get hl] at this
    rw [List.getElem?_append_right (Nat.le_refl _), Nat.sub_self] at this
    exact (Option.some.inj this).symm
  subst hx
  refine (h pre.length s (by omega) p).mono ?_
  rintro c ⟨s', e, p'⟩
  exact ⟨s', e, by rw [List.length_append]; exact p'⟩
theorem ixN_ok {n : Nat} {k : Int} (h0 : 0 ≤ k) (h1 : k < n) : L2.ixN n k = some k.toNat := by unfold L2.ixN; rw [if_pos h0, if_pos h1]
theorem app2M_ok {α : Type} {as : List (List α)} {k : Int} {a : α} (h0 : 0 ≤ k) (h1 : k < as.length) (hr : (as.getD k.toNat []).length ≤ 1000) : app2M as k a = .ok (as.set k.toNat (as.getD k.toNat [] ++ [a])) := by
  have e : as[k.toNat]? = some (as.getD k.toNat []) := by
    rw [List.getD_eq_getElem?_getD, List.getElem?_eq_getElem (by omega)]; rfl
  unfold app2M
  rw [ixN_ok h0 h1]
  simp only [ofOs, okB]
  rw [e]
  simp only [ofOs, okB]
  rw [sizeLine_eq, decide_eq_true (by omega)]
  rfl
end Ty

namespace Ty
open PySem PySem.Spec PyProof.Rows L2
/-! ### dicts with keys that are ints or texts -/
class Ky (κ : Type) extends Fl κ where
  key : κ → Key
  kv : ∀ k, kV (key k) = Fl.enc k
  inj : ∀ a b, key a = key b → a = b
instance : Ky Int := { toFl := inferInstanceAs (Fl Int), key := Sum.inl, kv := fun _ => rfl, inj := fun _ _ h => Sum.inl.inj h }
instance : Ky Str := { toFl := inferInstanceAs (Fl Str), key := Sum.inr, kv := fun _ => rfl, inj := fun _ _ h => Sum.inr.inj h }
structure Dc (κ β : Type) where
  l : List (κ × β)
instance {κ β : Type} : Inhabited (Dc κ β) := ⟨⟨[]⟩⟩
def Fk {κ β : Type} [Ky κ] (R : V → β → Prop) : List (Key × V) → List (κ × β) → Prop
  | [], [] => True
  | p :: ps, q :: qs => (p.1 = Ky.key q.1 ∧ R p.2 q.2) ∧ Fk R ps qs
  | _, _ => False
theorem Fk.mono {κ β : Type} [Ky κ] {R R' : V → β → Prop} (h : ∀ v b, R v b → R' v b) : ∀ {ps : List (Key × V)} {qs : List (κ × β)}, Fk R ps qs → Fk R' ps qs
  | [], [], _ => True.intro
  | _ :: _, _ :: _, ⟨⟨x, y⟩, z⟩ => ⟨⟨x, h _ _ y⟩, Fk.mono h z⟩
  | [], _ :: _, x => x.elim
  | _ :: _, [], x => x.elim
theorem Fk.len {κ β : Type} [Ky κ] {R : V → β → Prop} : ∀ {ps : List (Key × V)} {qs : List (κ × β)}, Fk R ps qs → ps.length = qs.length
  | [], [], _ => rfl
  | _ :: _, _ :: _, ⟨_, z⟩ => congrArg (· + 1) (Fk.len z)
  | [], _ :: _, x => x.elim
  | _ :: _, [], x => x.elim
instance rpDc {κ β : Type} [Ky κ] [Rp β] : Rp (Dc κ β) where
  sh K H v d := ∃ p kvs, v = .ref p ∧ H p = some (.dK kvs) ∧ Fk (Rp.sh K H) kvs d.l
  mono := fun e ⟨p, kvs, h1, h2, h3⟩ => ⟨p, kvs, h1, e _ _ h2, Fk.mono (fun _ _ h => Rp.mono e h) h3⟩
/-- an own dict, its values shared -/
def Ow.d {κ β : Type} [Ky κ] [Rp β] : Ow (Dc κ β) where
  rep K HF H v d fp := ∃ p kvs, v = .ref p ∧ fp = [p] ∧ H p = some (.dK kvs) ∧ Fk (Rp.sh K HF) kvs d.l
  mono := fun e k ⟨p, kvs, h1, h2, h3, h4⟩ => by
    subst h2
    exact ⟨p, kvs, h1, rfl, k p (List.mem_singleton.mpr rfl) _ h3, Fk.mono (fun _ _ h => Rp.mono e h) h4⟩
  dom := fun ⟨p, kvs, h1, h2, h3, h4⟩ q hq => by
    subst h2
    rw [List.mem_singleton.mp hq]
    exact ⟨_, h3⟩
  frz := fun e k ⟨p, kvs, h1, h2, h3, h4⟩ => by
    subst h2
    exact ⟨p, kvs, h1, k p (List.mem_singleton.mpr rfl) _ h3, Fk.mono (fun _ _ h => Rp.mono e h) h4⟩
instance indD {κ β : Type} [Ky κ] [Fl β] : Ind (Ow.d (κ := κ) (β := β)) where
  ind := fun ⟨p, kvs, h1, h2, h3, h4⟩ => ⟨p, kvs, h1, h2, h3, Fk.mono (fun _ _ h => Fl.sh_iff.mpr (Fl.sh_iff.mp h)) h4⟩
/-- the value of a key; a key's value put; a key dropped -/
def dget {κ β : Type} [DecidableEq κ] (l : List (κ × β)) (k : κ) : Option β := (l.find? fun p => decide (p.1 = k)).map (·.2)
def dput {κ β : Type} [DecidableEq κ] (l : List (κ × β)) (k : κ) (v : β) : List (κ × β) := if (l.any fun p => decide (p.1 = k)) = true then l.map fun p => if p.1 = k then (k, v) else p else l ++ [(k, v)]
def ddrop {κ β : Type} [DecidableEq κ] (l : List (κ × β)) (k : κ) : List (κ × β) := l.filter fun p => decide (p.1 ≠ k)
section
variable {κ β : Type} [Ky κ] [DecidableEq κ] {R : V → β → Prop}
theorem key_dec (a b : κ) : decide (Ky.key a = Ky.key b) = decide (a = b) := by
  by_cases h : a = b
  · subst h; simp
  · rw [decide_eq_false h, decide_eq_false fun e => h (Ky.inj a b e)]
theorem Fk.get (k : κ) : ∀ {ps : List (Key × V)} {qs : List (κ × β)}, Fk R ps qs → (∀ b, dget qs k = some b → ∃ v, valV ps (Ky.key k) = some v ∧ R v b) ∧ (dget qs k = none → valV ps (Ky.key k) = none)
  | [], [], _ => ⟨fun b h => by simp [dget] at h, fun _ => rfl⟩
  | p :: ps, q :: qs, ⟨⟨x, y⟩, z⟩ => by
    have ih := Fk.get k z
    by_cases h : q.1 = k
    · have e1 : dget (q :: qs) k = some q.2 := by simp [dget, h]
      have e2 : valV (p :: ps) (Ky.key k) = some p.2 := valV_pos (by rw [x, h])
      rw [e1, e2]
      exact ⟨fun b e => ⟨p.2, rfl, by rw [← Option.some.inj e]; exact y⟩, fun e => by cases e⟩
    · have e1 : dget (q :: qs) k = dget qs k := by simp [dget, h]
      have e2 : valV (p :: ps) (Ky.key k) = valV ps (Ky.key k) := valV_neg fun e => h (Ky.inj _ _ (by rw [← x, e]))
      rw [e1, e2]
      exact ih
  | [], _ :: _, x => x.elim
  | _ :: _, [], x => x.elim
theorem Fk.any (k : κ) : ∀ {ps : List (Key × V)} {qs : List (κ × β)}, Fk R ps qs → (ps.any fun p => decide (p.1 = Ky.key k)) = qs.any fun p => decide (p.1 = k)
  | [], [], _ => rfl
  | p :: ps, q :: qs, ⟨⟨x, y⟩, z⟩ => by rw [List.any_cons, List.any_cons, Fk.any k z, x, key_dec]
  | [], _ :: _, x => x.elim
  | _ :: _, [], x => x.elim
theorem Fk.app : ∀ {ps ps' : List (Key × V)} {qs qs' : List (κ × β)}, Fk R ps qs → Fk R ps' qs' → Fk R (ps ++ ps') (qs ++ qs')
  | [], _, [], _, _, h => h
  | _ :: _, _, _ :: _, _, ⟨x, y⟩, h => ⟨x, Fk.app y h⟩
  | [], _, _ :: _, _, x, _ => x.elim
  | _ :: _, _, [], _, x, _ => x.elim
theorem Fk.upd (k : κ) {v : V} {b : β} (h : R v b) : ∀ {ps : List (Key × V)} {qs : List (κ × β)}, Fk R ps qs → Fk R (ps.map fun p => if p.1 = Ky.key k then (p.1, v) else p) (qs.map fun p => if p.1 = k then (k, b) else p)
  | [], [], _ => True.intro
  | p :: ps, q :: qs, ⟨⟨x, y⟩, z⟩ => by
    refine ⟨?_, Fk.upd k h z⟩
    show (if p.1 = Ky.key k then (p.1, v) else p).1 = Ky.key (if q.1 = k then (k, b) else q).1 ∧ R (if p.1 = Ky.key k then (p.1, v) else p).2 (if q.1 = k then (k, b) else q).2
    by_cases e : q.1 = k
    · rw [if_pos (by rw [x, e]), if_pos e]
      exact ⟨by rw [x, e], h⟩
    · rw [if_neg (fun w => e (Ky.inj _ _ (by rw [← x, w]))), if_neg e]
      exact ⟨x, y⟩
  | [], _ :: _, x => x.elim
  | _ :: _, [], x => x.elim
theorem Fk.drop (k : κ) : ∀ {ps : List (Key × V)} {qs : List (κ × β)}, Fk R ps qs → Fk R (dropK ps (Ky.key k)) (ddrop qs k)
  | [], [], _ => True.intro
  | p :: ps, q :: qs, ⟨⟨x, y⟩, z⟩ => by
    have ih := Fk.drop k z
    unfold dropK ddrop at ih ⊢
    by_cases e : q.1 = k
    · rw [List.filter_cons_of_neg (by simp [x, e]), List.filter_cons_of_neg (by simp [e])]
      exact ih
    · rw [List.filter_cons_of_pos (by simp [x]; exact fun w => e (Ky.inj _ _ w)), List.filter_cons_of_pos (by simp [e])]
      exact ⟨⟨x, y⟩, ih⟩
  | [], _ :: _, x => x.elim
  | _ :: _, [], x => x.elim
end
theorem Fk.put {κ β : Type} [Ky κ] [DecidableEq κ] {R : V → β → Prop} (k : κ) {v : V} {b : β} (h : R v b) {ps : List (Key × V)} {qs : List (κ × β)} (f : Fk R ps qs) : Fk R (putK ps (Ky.key k) v) (dput qs k b) := by
  unfold putK dput
  rw [f.any k]
  by_cases c : (qs.any fun p => decide (p.1 = k)) = true
  · rw [if_pos c, if_pos c]; exact f.upd k h
  · rw [if_neg c, if_neg c]
    exact f.app ⟨⟨rfl, h⟩, True.intro⟩
section
variable {X : Cx} {Γ : Ctx} {S L ρ α β κ γ A B S' : Type} [Rp ρ] {o : Ow ρ} {Γo : S → Ctx} {ΓL : L → Ctx} {a b c e : Expr} {es : List Expr} {pos p p1 p2 apos cpos : Pos} {ta tb tc te : TE} {t : TA} {sts : List Stmt} {tr tr' : TS}
structure EK (X : Cx) (Γ : Ctx) (op : CmpOp) (a b : Expr) (m : M Bool) (t : TE) : Prop where
  pc : PC X op a b t
  hm : behindInMarks op b = false
  sem : SemE X.K Γ t Ow.v m
end
end Ty

namespace Ty
open PySem
/-! maths lemmas, second part -/
theorem divM_ok {a b : Int} (h : 0 < b) (h2 : b < 2 ^ 8999) : divM a b = .ok (a / b) := by
  have : b.natAbs.log2 < 9000 := by
    have hb : b.natAbs ≠ 0 := by omega
    rw [Nat.log2_lt hb]
    have : (b.natAbs : Int) < 2 ^ 8999 := by omega
    have h3 : b.natAbs < 2 ^ 8999 := by exact_mod_cast this
    exact Nat.lt_trans h3 (Nat.pow_lt_pow_right (by decide) (by decide))
  simp only [divM, divB, decide_eq_true h, decide_eq_true this, Bool.and_self, gdT, okB]
  rfl
theorem divM_s {a b : Int} (h : 0 < b) (h2 : b < 18446744073709551616) : divM a b = .ok (a / b) :=
  divM_ok h (by
    have e : (18446744073709551616 : Int) = 2 ^ 64 := by decide
    have : (2 : Int) ^ 64 ≤ 2 ^ 8999 := by exact_mod_cast Nat.pow_le_pow_right (by decide) (by decide)
    rw [e] at h2
    exact Int.lt_of_lt_of_le h2 this)
/-- a comprehension over numbers, each element found with a fact -/
theorem Ev.compR {α : Type} [Inhabited α] {m : Int} {f : Int → M α} (P : Nat → α → Prop) (hm : m ≤ 1000000) (h : ∀ k : Nat, (k : Int) < m → Ev (f k) (P k)) : Ev (compM (rangeL 0 m) (fun _ => Pure.pure true) f) fun ys => ∃ g, ys = row m.toNat g ∧ ∀ k : Nat, (k : Int) < m → P k (g k) := by
  have hlen : (rangeL 0 m).length = m.toNat := by simp [rangeL]
  refine Ev.mono (Ev.comp (fun x y => P x.toNat y) (by omega) (fun _ _ => rfl) fun x hx => ?_) ?_
  · have hx := mem_range1 hx
    have := h x.toNat (by omega)
    rwa [show ((x.toNat : Nat) : Int) = x by omega] at this
  · rintro ys ⟨hl, hy⟩
    refine ⟨fun i => ys.getD i default, by conv => lhs; rw [row_of ys, hl, hlen], fun k hk => ?_⟩
    have h1 : k < (rangeL 0 m).length := by omega
    have h2 : k < ys.length := by omega
    have := hy k h1 h2
    have e : (rangeL 0 m)[k] = (k : Int) := by simp [rangeL]
    rw [e, Int.toNat_natCast] at this
    show P k (ys.getD k default)
    rw [List.getD_eq_getElem?_getD, List.getElem?_eq_getElem h2]
    exact this
end Ty

namespace Ty
open PySem PySem.Spec PyProof.Rows L2
/-! ## Ty13: sorted, list(range), pop, insert -/
section
variable {X : Cx} {Γ : Ctx} {S L ρ α β γ A B S' : Type} [Rp ρ] {o : Ow ρ} {Γo : S → Ctx} {ΓL : L → Ctx} {a b e f : Expr} {es : List Expr} {pos p apos cpos pos2 : Pos} {ta tb te tf : TE} {t : TA} {sts : List Stmt} {tr tr' : TS} {tg : Expr}
/-! ### an expression that takes from a list at slot i -/
structure EP [Rp α] [Rp β] (X : Cx) (Γ : Ctx) (i : Nat) (e : Expr) (m : M (β × List α)) (t : TE) : Prop where
  pe : PE X e t
  sem : ∀ HF0 G HF H σ, Good X.K HF0 G Γ HF H σ → ∀ c l, m = .ok (c, l) → ∀ Q : VK, (∀ v HF1 H1, Same HF HF1 → Rp.sh X.K HF1 v c → Good X.K HF0 G (put Γ i (.mk (Ow.l (Ow.v : Ow α)) l)) HF1 H1 σ → Q v H1) → t σ H Q
def popAtM {α : Type} (as : List α) (i : Int) : M (α × List α) := do gd (decide (-(2 ^ 63) ≤ i) && decide (i < 2 ^ 63)); let k ← ofO (seqIndex? i as.length); let y ← ofO as[k]?; pure (y, as.eraseIdx k)
end
end Ty

namespace Ty
open PySem PySem.Spec PyProof.Rows L2
/-! ## Ty14: divmod, module tuples, dict.get -/
section
variable {X : Cx} {Γ : Ctx} {S L ρ α β γ A B S' : Type} [Rp ρ] {o : Ow ρ} {Γo : S → Ctx} {ΓL : L → Ctx} {a b e f : Expr} {es : List Expr} {pos p apos cpos pos2 : Pos} {ta tb te tf : TE} {t : TA} {sts : List Stmt} {tr tr' : TS} {tg : Expr}
theorem ex_gint {x : Str} {z : Int} {pos : Pos} (hm : ∃ t, X.mg x = some (.int z t)) (hg : Gl X x := by rfl) (hd : (x == ("__debug__" : Str)) = false := by decide) : EX X Γ (.Name x pos) Ow.v (pure z) (tC (.int z)) := by
  obtain ⟨t, h⟩ := hm
  exact ⟨pe_glob hg h ⟨t, rfl⟩ hd, fun HF0 G HF H σ g c hc Q k => by cases pure_ok hc; exact k.flat g.sub⟩
end
end Ty

namespace Ty
open PySem
/-! ## Ty15: maths: walks that come back, nets -/
theorem popAtM_ok {α : Type} [Inhabited α] {as : List α} {i : Int} (h0 : 0 ≤ i) (h1 : i < as.length) (h2 : i < 9223372036854775808) : popAtM as i = .ok (as.getD i.toNat default, as.eraseIdx i.toNat) := by
  unfold popAtM
  have e1 : (decide (-(2 ^ 63) ≤ i) && decide (i < 2 ^ 63)) = true := by simp; omega
  have e2 : seqIndex? i as.length = some i.toNat := (L2.ixN_seq (ixN_ok h0 h1)).1
  rw [e1, e2]
  simp only [gdT, okB, ofOs]
  rw [List.getD_eq_getElem?_getD, List.getElem?_eq_getElem (by omega)]
  rfl
end Ty

namespace Ty
open PySem PySem.Spec PyProof.Rows L2
/-! ## Ty16: lists of two or three unlike things -/
structure H3 (α β γ : Type) where
  a : α
  b : β
  c : γ
deriving DecidableEq
instance {α β γ : Type} [Inhabited α] [Inhabited β] [Inhabited γ] : Inhabited (H3 α β γ) := ⟨⟨default, default, default⟩⟩
instance rpH3 {α β γ : Type} [Rp α] [Rp β] [Rp γ] : Rp (H3 α β γ) where
  sh K H v x := ∃ p va vb vc, v = .ref p ∧ H p = some (.lst [va, vb, vc]) ∧ Rp.sh K H va x.a ∧ Rp.sh K H vb x.b ∧ Rp.sh K H vc x.c
  mono := fun e ⟨p, va, vb, vc, h1, h2, h3, h4, h5⟩ => ⟨p, va, vb, vc, h1, e _ _ h2, Rp.mono e h3, Rp.mono e h4, Rp.mono e h5⟩
/-- an own list of three, its items shared -/
def Ow.h3 {α β γ : Type} [Rp α] [Rp β] [Rp γ] : Ow (H3 α β γ) where
  rep K HF H v x fp := ∃ p va vb vc, v = .ref p ∧ fp = [p] ∧ H p = some (.lst [va, vb, vc]) ∧ Rp.sh K HF va x.a ∧ Rp.sh K HF vb x.b ∧ Rp.sh K HF vc x.c
  mono := fun e k ⟨p, va, vb, vc, h1, h2, h3, h4, h5, h6⟩ => by
    subst h2
    exact ⟨p, va, vb, vc, h1, rfl, k p (List.mem_singleton.mpr rfl) _ h3, Rp.mono e h4, Rp.mono e h5, Rp.mono e h6⟩
  dom := fun ⟨p, va, vb, vc, h1, h2, h3, h4, h5, h6⟩ q hq => by
    subst h2
    rw [List.mem_singleton.mp hq]
    exact ⟨_, h3⟩
  frz := fun e k ⟨p, va, vb, vc, h1, h2, h3, h4, h5, h6⟩ => by
    subst h2
    exact ⟨p, va, vb, vc, h1, k p (List.mem_singleton.mpr rfl) _ h3, Rp.mono e h4, Rp.mono e h5, Rp.mono e h6⟩
instance eqvH3 {α β γ : Type} [Rp α] [Rp β] [Rp γ] [DecidableEq α] [DecidableEq β] [DecidableEq γ] [Eqv α] [Eqv β] [Eqv γ] : Eqv (H3 α β γ) where
  py x := .list [Eqv.py x.a, Eqv.py x.b, Eqv.py x.c]
  ok x := Eqv.ok x.a && (Eqv.ok x.b && Eqv.ok x.c)
  dep := max (Eqv.dep α) (max (Eqv.dep β) (Eqv.dep γ)) + 1
  dp := fun ⟨p, va, vb, vc, h1, h2, h3, h4, h5⟩ => by subst h1; exact .lst (SqL.of h2) (.cons (Eqv.dp h3) (.cons (Eqv.dp h4) (.cons (Eqv.dp h5) .nil)))
  lay := fun x h => by
    rw [Bool.and_eq_true, Bool.and_eq_true] at h
    simp [PyData.canLay0, PyData.canLayAll0, Eqv.lay x.a h.1, Eqv.lay x.b h.2.1, Eqv.lay x.c h.2.2]
  deep := fun x => by
    have h1 := Eqv.deep x.a
    have h2 := Eqv.deep x.b
    have h3 := Eqv.deep x.c
    simp only [PyData.depth, PyData.depthAll]
    omega
  eqv := fun ⟨a, b, c⟩ ⟨d, e, f⟩ => by
    simp only [PyData.eqv, PyData.eqvAll, Eqv.eqv]
    by_cases h1 : a = d <;> by_cases h2 : b = e <;> by_cases h3 : c = f <;> simp [h1, h2, h3]
instance {α β γ : Type} [Rp α] [Rp β] [Rp γ] [DecidableEq α] [DecidableEq β] [DecidableEq γ] [Eqv α] [Eqv β] [Eqv γ] [EqvT α] [EqvT β] [EqvT γ] : EqvT (H3 α β γ) := ⟨fun x => by
  show (Eqv.ok x.a && (Eqv.ok x.b && Eqv.ok x.c)) = true
  rw [EqvT.all, EqvT.all, EqvT.all]; rfl⟩
section
variable {X : Cx} {Γ : Ctx} {α β γ : Type} {a b c e : Expr} {pos p : Pos} {ta tb tc : TE}
end
section
variable {X : Cx} {Γ : Ctx} {S L ρ α β γ A B S' : Type} [Rp ρ] {o : Ow ρ} {Γo : S → Ctx} {ΓL : L → Ctx} {a b e f : Expr} {es : List Expr} {pos p apos cpos pos2 : Pos} {ta tb te tf : TE} {t : TA} {sts : List Stmt} {tr tr' : TS}
end
end Ty

namespace Ty
open PySem
/-! ## Ty17: maths: ends tied two and two -/
/-- the ends of l are left; all others are tied by f -/
structure Prt (m : Nat) (l : List Int) (f : Nat → Int) : Prop where
  nd : l.Nodup
  rg : ∀ x ∈ l, 0 ≤ x ∧ x < (m : Int)
  tied : ∀ i : Nat, i < m → (i : Int) ∉ l → 0 ≤ f i ∧ f i < (m : Int) ∧ f i ∉ l ∧ f (f i).toNat = i ∧ f i ≠ i
end Ty

namespace Ty
open PySem PySem.Spec PyProof.Rows L2
/-! ## Ty18: len(set(..)), len of a dict, dict.get -/
section
variable {X : Cx} {Γ : Ctx} {α β κ : Type} {a b e f : Expr} {pos p p2 q apos cpos : Pos} {ta tb te tf : TE}
end
end Ty

namespace Ty
open PySem
/-! ## Ty19: maths: rounds have each end once; dicts -/
section
variable {s p f : Int → Int} {e : Int} {m : Nat} (hs : ∀ x, s x = f (p x)) (hpi : ∀ x : Int, 0 ≤ x → x < m → 0 ≤ p x ∧ p x < m ∧ p (p x) = x ∧ p x ≠ x) (hfi : ∀ x : Int, 0 ≤ x → x < m → 0 ≤ f x ∧ f x < m ∧ f (f x) = x ∧ f x ≠ x) (h0 : 0 ≤ e) (h1 : e < m)
include hs hpi hfi h0 h1
end
end Ty

set_option maxHeartbeats 1000000
/-! ## Ty20: list(reversed(x)) -/
namespace RT
open PySem PySem.Spec PyProof.Rows L2
section
variable {prog : Program} {w : World} {A : Around} {E : Value → Shared → Prop} {s : Shared}
end
section
variable {X : Cx}
end
end RT
namespace Ty
open PySem PySem.Spec PyProof.Rows L2
section
variable {X : Cx} {Γ : Ctx} {S L ρ α β γ A B S' : Type} [Rp ρ] {o : Ow ρ} {Γo : S → Ctx} {ΓL : L → Ctx} {a b e f : Expr} {es : List Expr} {pos p apos cpos pos2 : Pos} {ta tb te tf : TE} {t : TA} {sts : List Stmt} {tr tr' : TS} {tg : Expr}
end
end Ty

/-! ## Ty21: for r in x: r[i] = e -/
namespace Ty
open PySem PySem.Spec PyProof.Rows L2
section
variable {X : Cx} {Γ : Ctx} {S L ρ α β γ A B S' : Type} [Rp ρ] {o : Ow ρ} {Γo : S → Ctx} {ΓL : L → Ctx} {a b e f : Expr} {es : List Expr} {pos p p1 p5 apos cpos pos2 : Pos} {ta tb te tf : TE} {t : TA} {sts : List Stmt} {tr tr' : TS} {tg : Expr}
end
end Ty

/-! ## Ty22: more for the mathematics -/
namespace Ty
open PySem L2
end Ty

/-! ## Ty23: a thing or None; x.insert(i, x.pop(j)) -/
namespace Ty
open PySem PySem.Spec PyProof.Rows L2
structure Op (α : Type) where
  o : Option α
  deriving DecidableEq
instance {α : Type} : Inhabited (Op α) := ⟨⟨none⟩⟩
instance rpOp {α : Type} [Rp α] : Rp (Op α) where
  sh K H v x := match x.o with
    | none => v = .non
    | some a => Rp.sh K H v a
  mono := fun {K H H' v a} e h => by
    obtain ⟨o⟩ := a
    cases o with
    | none => exact h
    | some a => exact Rp.mono e h
def Ow.op {α : Type} [Rp α] (o : Ow α) : Ow (Op α) where
  rep K HF H v x fp := match x.o with
    | none => v = .non ∧ fp = []
    | some a => o.rep K HF H v a fp
  mono := fun {K HF HF' H H' v a fp} e k h => by
    obtain ⟨x⟩ := a
    cases x with
    | none => exact h
    | some a => exact o.mono e k h
  dom := fun {K HF H v a fp} h => by
    obtain ⟨x⟩ := a
    cases x with
    | none =>
      intro p hp
      have e : fp = [] := h.2
      subst e; cases hp
    | some a => exact o.dom h
  frz := fun {K HF HF' H v a fp} e k h => by
    obtain ⟨x⟩ := a
    cases x with
    | none => exact h.1
    | some a => exact o.frz e k h
instance indOp {α : Type} [Rp α] {o : Ow α} [Ind o] : Ind o.op where
  ind := fun {K HF HF' H v a fp} h => by
    obtain ⟨x⟩ := a
    cases x with
    | none => exact h
    | some a => exact Ind.ind (o := o) h
/-- things that stand in the heap -/
class Ob (α : Type) [Rp α] : Prop where
  ref : ∀ {K : PySem.W.Frag} {H : Hp} {v : V} {a : α}, Rp.sh K H v a → ∃ p, v = .ref p
instance {α : Type} [Rp α] : Ob (List α) := ⟨fun ⟨p, _, e, _⟩ => ⟨p, e⟩⟩
instance {α : Type} [Rp α] : Ob (Tu α) := ⟨fun ⟨p, _, e, _⟩ => ⟨p, e⟩⟩
instance {α β : Type} [Rp α] [Rp β] : Ob (α × β) := ⟨fun ⟨p, _, _, e, _⟩ => ⟨p, e⟩⟩
section
variable {X : Cx} {Γ : Ctx} {S L ρ α β γ A B S' : Type} [Rp ρ] {o : Ow ρ} {Γo : S → Ctx} {ΓL : L → Ctx} {a b e f : Expr} {es : List Expr} {pos p p1 p5 apos cpos pos2 : Pos} {ta tb te tf : TE} {t : TA} {sts : List Stmt} {tr tr' : TS} {tg : Expr}
end
end Ty

/-! ## Ty24: {k: v}; max, min of a list; for x in l: d[x] = e -/
namespace Ty
open PySem PySem.Spec PyProof.Rows L2
section
variable {X : Cx} {Γ : Ctx} {S L ρ α β κ γ A B S' : Type} [Rp ρ] {o : Ow ρ} {Γo : S → Ctx} {ΓL : L → Ctx} {a b e f : Expr} {es : List Expr} {pos p p1 p5 apos cpos pos2 : Pos} {ta tb te tf : TE} {t : TA} {sts : List Stmt} {tr tr' : TS} {tg : Expr}
end
end Ty

/-! ## Ty25: abs -/
namespace Ty
open PySem PySem.Spec PyProof.Rows L2
section
variable {X : Cx} {Γ : Ctx} {e : Expr} {pos p : Pos} {te : TE}
end
end Ty

/-! ## Ty26: a loop that looks at own things, which stay own -/
namespace Ty
open PySem PySem.Spec PyProof.Rows L2
/-- a thing, and the value that stands for it -/
structure Pn (α : Type) where
  v : V
  a : α
instance rpPn {α : Type} [Rp α] : Rp (Pn α) where
  sh K H w x := w = x.v ∧ Rp.sh K H w x.a
  mono := fun e ⟨h1, h2⟩ => ⟨h1, Rp.mono e h2⟩
/-- those told by true lean on nothing shared -/
inductive IndC : List Bool → Ctx → Prop where
  | n : IndC [] []
  | p {fl : List Bool} {s : Sl} {Γ : Ctx} : IndC fl Γ → IndC (false :: fl) (s :: Γ)
  | u {fl : List Bool} {Γ : Ctx} : IndC fl Γ → IndC (true :: fl) (.un :: Γ)
  | i {α : Type} [Rp α] {o : Ow α} [Ind o] {a : α} {fl : List Bool} {Γ : Ctx} : IndC fl Γ → IndC (true :: fl) (.mk o a :: Γ)
/-- behind the loop -/
inductive Pe (vs : Nat → V) : Nat → List Bool → Ctx → Ctx → Ctx → Prop where
  | n {i : Nat} : Pe vs i [] [] [] []
  | p {α : Type} [Rp α] {o : Ow α} {a : α} {i : Nat} {fl : List Bool} {Γ Δ Θ : Ctx} : Pe vs (i + 1) fl Γ Δ Θ → Pe vs i (false :: fl) (.mk o a :: Γ) (.mk (α := Pn α) Ow.v ⟨vs i, a⟩ :: Δ) (.mk o a :: Θ)
  | u {f : Bool} {s t : Sl} {i : Nat} {fl : List Bool} {Γ Δ Θ : Ctx} : Pe vs (i + 1) fl Γ Δ Θ → Pe vs i (f :: fl) (s :: Γ) (t :: Δ) (.un :: Θ)
  | i {f : Bool} {α : Type} [Rp α] {o : Ow α} [Ind o] {a : α} {s : Sl} {i : Nat} {fl : List Bool} {Γ Δ Θ : Ctx} : Pe vs (i + 1) fl Γ Δ Θ → Pe vs i (f :: fl) (s :: Γ) (.mk o a :: Δ) (.mk o a :: Θ)
/-- the names told by true own fc, the others fn -/
def SplitH (K : PySem.W.Frag) (HF H : Hp) : List Bool → Ctx → L2.St → List Addr → List Addr → Prop
  | [], [], [], fc, fn => fc = [] ∧ fn = []
  | true :: fl, s :: Γ, x :: σ, fc, fn => ∃ f1 c2, HoldS K HF H s x f1 ∧ SplitH K HF H fl Γ σ c2 fn ∧ fc = f1 ++ c2
  | false :: fl, s :: Γ, x :: σ, fc, fn => ∃ f1 n2, HoldS K HF H s x f1 ∧ SplitH K HF H fl Γ σ fc n2 ∧ fn = f1 ++ n2
  | _, _, _, _, _ => False
theorem IndC.split {K : PySem.W.Frag} {HF H : Hp} : ∀ {fl : List Bool} {Γ : Ctx}, IndC fl Γ → ∀ {σ : L2.St} {fs : List Addr}, Holds K HF H Γ σ fs → fs.Nodup → ∃ fc fn : List Addr, SplitH K HF H fl Γ σ fc fn ∧ (∀ p, p ∈ fs ↔ p ∈ fc ∨ p ∈ fn) ∧ fc.Nodup ∧ fn.Nodup ∧ ∀ p ∈ fc, p ∉ fn := by
  intro fl Γ h
  have cT : ∀ {fl : List Bool} {s : Sl} {Γ : Ctx}, (∀ {σ : L2.St} {fs : List Addr}, Holds K HF H Γ σ fs → fs.Nodup → ∃ fc fn : List Addr, SplitH K HF H fl Γ σ fc fn ∧ (∀ p, p ∈ fs ↔ p ∈ fc ∨ p ∈ fn) ∧ fc.Nodup ∧ fn.Nodup ∧ ∀ p ∈ fc, p ∉ fn) →
      ∀ {σ : L2.St} {fs : List Addr}, Holds K HF H (s :: Γ) σ fs → fs.Nodup → ∃ fc fn : List Addr, SplitH K HF H (true :: fl) (s :: Γ) σ fc fn ∧ (∀ p, p ∈ fs ↔ p ∈ fc ∨ p ∈ fn) ∧ fc.Nodup ∧ fn.Nodup ∧ ∀ p ∈ fc, p ∉ fn := by
    intro fl s Γ ih σ fs h nd
    cases σ with
    | nil => exact h.elim
    | cons x σ =>
      obtain ⟨f1, f2, e, h1, h2⟩ := h
      rw [e] at nd
      obtain ⟨n1, n2, n3⟩ := List.nodup_append.mp nd
      obtain ⟨fc, fn, q0, q1, q2, q3, q4⟩ := ih h2 n2
      refine ⟨f1 ++ fc, fn, ⟨f1, fc, h1, q0, rfl⟩, fun p => ?_, List.nodup_append.mpr ⟨n1, q2, fun p hp q hq => n3 p hp q ((q1 q).mpr (.inl hq))⟩, q3, fun p hp hq => ?_⟩
      · rw [e, List.mem_append, List.mem_append, q1]
        constructor
        · rintro (a | a | a)
          · exact .inl (.inl a)
          · exact .inl (.inr a)
          · exact .inr a
        · rintro ((a | a) | a)
          · exact .inl a
          · exact .inr (.inl a)
          · exact .inr (.inr a)
      · rcases List.mem_append.mp hp with z | z
        · exact n3 p z p ((q1 p).mpr (.inr hq)) rfl
        · exact q4 p z hq
  induction h with
  | n =>
    intro σ fs h nd
    cases σ with
    | nil =>
      have e : fs = [] := h
      subst e
      exact ⟨[], [], ⟨rfl, rfl⟩, fun p => by simp, List.nodup_nil, List.nodup_nil, by simp⟩
    | cons x σ => exact h.elim
  | @p fl s Γ _ ih =>
    intro σ fs h nd
    cases σ with
    | nil => exact h.elim
    | cons x σ =>
      obtain ⟨f1, f2, e, h1, h2⟩ := h
      rw [e] at nd
      obtain ⟨n1, n2, n3⟩ := List.nodup_append.mp nd
      obtain ⟨fc, fn, q0, q1, q2, q3, q4⟩ := ih h2 n2
      refine ⟨fc, f1 ++ fn, ⟨f1, fn, h1, q0, rfl⟩, fun p => ?_, q2, List.nodup_append.mpr ⟨n1, q3, fun p hp q hq => n3 p hp q ((q1 q).mpr (.inr hq))⟩, fun p hp hq => ?_⟩
      · rw [e, List.mem_append, List.mem_append, q1]
        constructor
        · rintro (a | a | a)
          · exact .inr (.inl a)
          · exact .inl a
          · exact .inr (.inr a)
        · rintro (a | a | a)
          · exact .inr (.inl a)
          · exact .inl a
          · exact .inr (.inr a)
      · rcases List.mem_append.mp hq with z | z
        · exact n3 p z p ((q1 p).mpr (.inl hp)) rfl
        · exact q4 p hp z
  | u _ ih => exact fun h nd => cT (fun h nd => ih h nd) h nd
  | i _ ih => exact fun h nd => cT (fun h nd => ih h nd) h nd
theorem Pe.join {K : PySem.W.Frag} {vs : Nat → V} {HF H L' H' : Hp} : ∀ {i : Nat} {fl : List Bool} {Γ Δ Θ : Ctx}, Pe vs i fl Γ Δ Θ → ∀ {σ σ' : L2.St} {fc fn fe : List Addr}, SplitH K HF H fl Γ σ fc fn → Holds K L' H' Δ σ' fe → (∀ j v, σ[j]? = some (some v) → vs (i + j) = v) → (∀ p ∈ fn, ∀ o, H p = some o → H' p = some o) → fn.Nodup → fe.Nodup → (∀ p ∈ fe, p ∉ fn) →
    ∃ fs', Holds K HF H' Θ σ' fs' ∧ fs'.Nodup ∧ ∀ p ∈ fs', p ∈ fe ∨ p ∈ fn := by
  intro i fl Γ Δ Θ h
  -- what of the split stays for the rest
  have rest : ∀ {f : Bool} {fl : List Bool} {s : Sl} {Γ : Ctx} {x : Option V} {σ : L2.St} {fc fn : List Addr}, SplitH K HF H (f :: fl) (s :: Γ) (x :: σ) fc fn → ∃ c2 n2, SplitH K HF H fl Γ σ c2 n2 ∧ (∀ p ∈ n2, p ∈ fn) ∧ (fn.Nodup → n2.Nodup) := by
    intro f fl s Γ x σ fc fn h
    cases f with
    | true =>
      obtain ⟨f1, c2, _, h2, _⟩ := h
      exact ⟨c2, fn, h2, fun p hp => hp, fun h => h⟩
    | false =>
      obtain ⟨f1, n2, _, h2, e⟩ := h
      subst e
      exact ⟨fc, n2, h2, fun p hp => List.mem_append_right _ hp, fun nd => (List.nodup_append.mp nd).2.1⟩
  induction h with
  | n =>
    intro σ σ' fc fn fe h1 h2 hv hk nn ne hd
    cases σ' with
    | nil => exact ⟨[], rfl, List.nodup_nil, by simp⟩
    | cons x σ' => exact h2.elim
  | @p α ir o a i fl Γ Δ Θ _ ih =>
    intro σ σ' fc fn fe h1 h2 hv hk nn ne hd
    cases σ with
    | nil => exact h1.elim
    | cons x σ =>
      cases σ' with
      | nil => exact h2.elim
      | cons x' σ' =>
        obtain ⟨f1, n2, ⟨v, hx, r⟩, h12, e⟩ := h1
        subst e hx
        obtain ⟨g1, g2, e', ⟨v', hx', ⟨e1, _⟩, e2⟩, h22⟩ := h2
        have e2 : g1 = [] := e2
        subst e2
        rw [List.nil_append] at e'
        subst e'
        obtain ⟨m1, m2, m3⟩ := List.nodup_append.mp nn
        obtain ⟨fs', w1, w2, w3⟩ := ih h12 h22 (fun j v hj => by rw [show i + 1 + j = i + (j + 1) by omega]; exact hv (j + 1) v hj) (fun p hp => hk p (List.mem_append_right _ hp)) m2 ne fun p hp hq => hd p hp (List.mem_append_right _ hq)
        have ev : v' = v := e1.trans (hv 0 v rfl)
        refine ⟨f1 ++ fs', ⟨f1, fs', rfl, ⟨v, by rw [hx', ev], @Ow.mono α ir o _ _ _ _ _ _ _ _ (Same.refl _) (fun p hp => hk p (List.mem_append_left _ hp)) r⟩, w1⟩, List.nodup_append.mpr ⟨m1, w2, fun p hp q hq e => ?_⟩, fun p hp => ?_⟩
        · subst e
          rcases w3 p hq with z | z
          · exact hd p z (List.mem_append_left _ hp)
          · exact m3 p hp p z rfl
        · rcases List.mem_append.mp hp with z | z
          · exact .inr (List.mem_append_left _ z)
          · exact (w3 p z).imp id (List.mem_append_right _)
  | @u f s t i fl Γ Δ Θ _ ih =>
    intro σ σ' fc fn fe h1 h2 hv hk nn ne hd
    cases σ with
    | nil => cases f <;> exact h1.elim
    | cons x σ =>
      cases σ' with
      | nil => exact h2.elim
      | cons x' σ' =>
        obtain ⟨c2, n2, h12, hn2, hnn⟩ := rest h1
        obtain ⟨g1, g2, e', _, h22⟩ := h2
        subst e'
        obtain ⟨m1, m2, m3⟩ := List.nodup_append.mp ne
        obtain ⟨fs', w1, w2, w3⟩ := ih h12 h22 (fun j v hj => by rw [show i + 1 + j = i + (j + 1) by omega]; exact hv (j + 1) v hj) (fun p hp => hk p (hn2 p hp)) (hnn nn) m2 fun p hp hq => hd p (List.mem_append_right _ hp) (hn2 p hq)
        exact ⟨fs', ⟨[], fs', rfl, rfl, w1⟩, w2, fun p hp => (w3 p hp).imp (List.mem_append_right _) (hn2 p)⟩
  | @i f α ir o io a s i fl Γ Δ Θ _ ih =>
    intro σ σ' fc fn fe h1 h2 hv hk nn ne hd
    cases σ with
    | nil => cases f <;> exact h1.elim
    | cons x σ =>
      cases σ' with
      | nil => exact h2.elim
      | cons x' σ' =>
        obtain ⟨c2, n2, h12, hn2, hnn⟩ := rest h1
        obtain ⟨g1, g2, e', ⟨v, hx, r⟩, h22⟩ := h2
        subst e'
        obtain ⟨m1, m2, m3⟩ := List.nodup_append.mp ne
        obtain ⟨fs', w1, w2, w3⟩ := ih h12 h22 (fun j v hj => by rw [show i + 1 + j = i + (j + 1) by omega]; exact hv (j + 1) v hj) (fun p hp => hk p (hn2 p hp)) (hnn nn) m2 fun p hp hq => hd p (List.mem_append_right _ hp) (hn2 p hq)
        refine ⟨g1 ++ fs', ⟨g1, fs', rfl, ⟨v, hx, Ind.ind r⟩, w1⟩, List.nodup_append.mpr ⟨m1, w2, fun p hp q hq e => ?_⟩, fun p hp => ?_⟩
        · subst e
          rcases w3 p hq with z | z
          · exact m3 p hp p z rfl
          · exact hd p (List.mem_append_left _ hp) (hn2 p z)
        · rcases List.mem_append.mp hp with z | z
          · exact .inl (List.mem_append_left _ z)
          · exact (w3 p z).imp (List.mem_append_right _) (hn2 p)
theorem Sub.rfl' : ∀ Γ : Ctx, Sub Γ Γ
  | [] => .n
  | _ :: Γ => .k (Sub.rfl' Γ)
section
variable {X : Cx} {Γ : Ctx} {S L ρ α β κ γ A B S' : Type} [Rp ρ] {o : Ow ρ} {Γo : S → Ctx} {ΓL : L → Ctx} {a b e f : Expr} {es : List Expr} {pos p p1 p5 apos cpos pos2 : Pos} {ta tb te tf : TE} {t : TA} {sts : List Stmt} {tr tr' : TS} {tg : Expr}
end
end Ty

/-! ## Ty27: x.pop() of own things -/
namespace Ty
open PySem PySem.Spec PyProof.Rows L2
theorem Rl.dropLast {α : Type} {R : V → α → List Addr → Prop} : ∀ {vs : List V} {as : List α} {fp : List Addr}, Rl R vs as fp → ∃ fp', Rl R vs.dropLast as.dropLast fp' ∧ (∀ p ∈ fp', p ∈ fp) ∧ (fp.Nodup → fp'.Nodup)
  | [], [], fp, h => ⟨fp, h, fun _ h => h, fun h => h⟩
  | [v], [a], fp, _ => ⟨[], rfl, by simp, fun _ => List.nodup_nil⟩
  | v :: w :: vs, a :: b :: as, fp, ⟨f1, f2, e, h1, h2⟩ => by
    obtain ⟨f', q1, q2, q3⟩ := Rl.dropLast (vs := w :: vs) (as := b :: as) h2
    refine ⟨f1 ++ f', ⟨f1, f', rfl, h1, q1⟩, fun p hp => ?_, fun nd => ?_⟩
    · rw [e]
      rcases List.mem_append.mp hp with z | z
      · exact List.mem_append_left _ z
      · exact List.mem_append_right _ (q2 p z)
    · rw [e] at nd
      obtain ⟨a1, a2, a3⟩ := List.nodup_append.mp nd
      exact List.nodup_append.mpr ⟨a1, q3 a2, fun p hp q hq e => a3 p hp q (q2 q hq) e⟩
  | [], _ :: _, _, h => h.elim
  | _ :: _, [], _, h => h.elim
  | [_], _ :: _ :: _, _, ⟨_, _, _, _, h⟩ => h.elim
  | _ :: _ :: _, [_], _, ⟨_, _, _, _, h⟩ => h.elim
section
variable {X : Cx} {Γ : Ctx} {S L ρ α β κ γ A B S' : Type} [Rp ρ] {o : Ow ρ} {Γo : S → Ctx} {ΓL : L → Ctx} {a b e f : Expr} {es : List Expr} {pos p p1 p5 apos cpos pos2 : Pos} {ta tb te tf : TE} {t : TA} {sts : List Stmt} {tr tr' : TS} {tg : Expr}
end
end Ty

/-! ## Ty28: own exceptions without own __init__: raised, let through, caught -/
namespace Ty
open PySem PySem.Spec PyProof.Rows L2
/-- the class of a name -/
abbrev clv (K : PySem.W.Frag) (c : Str) : Value := .ref (He.ga K c)
def vOf (K : PySem.W.Frag) (D : Str) : Value := if D = ("ValueError" : Str) then .type "ValueError" else clv K D
/-- what is told of the classes: c under D or not -/
abbrev CTab := List (Str × Str × Bool)
structure ExF (K : PySem.W.Frag) (names : List Str) (tb : CTab) : Prop where
  ok : ∀ c ∈ names, PySem.W.excIn K (He.ga K c) He.veBase "ValueError.__new__" = true ∧ PySem.W.keepIn K (clv K c) = true ∧ PySem.W.subIn K (clv K c) (.type "BaseException") = some true ∧ PySem.W.typeIn K (clv K c) = some (.type "type") ∧ PySem.W.nsIn K mainGlobals c = some (some (clv K c))
  cls : ∀ c ∈ names, ExcC K (He.ga K c)
  kit : ∀ {c D b}, (c, D, b) ∈ tb → PySem.W.kitOne K (clv K c) (vOf K D) = some b
  exm : ∀ {c D b}, (c, D, b) ∈ tb → PySem.W.exmOne K (clv K c) (vOf K D) = some b
theorem ExF.raises {X : Cx} {names : List Str} {tb : CTab} (T : ExF X.K names tb) {c : Str} (hc : c ∈ names) : Raises X (clv X.K c) := raises_own (T.ok c hc).2.2.1 (T.ok c hc).2.2.2.1
/-- a value, or the name of the class of what is raised -/
instance rpRs {ρ : Type} [Rp ρ] : Rp (ρ ⊕ Str) where
  sh K H v x := match x with
    | .inl r => Rp.sh K H v r
    | .inr _ => True
  mono := fun {K H H' v a} e h => by
    cases a with
    | inl r => exact Rp.mono e h
    | inr _ => trivial
def Ow.x {ρ : Type} [Rp ρ] (o : Ow ρ) (cl : Str → Value) (E : XK) : Ow (ρ ⊕ Str) where
  rep K HF H v x fp := match x with
    | .inl r => o.rep K HF H v r fp
    | .inr _ => fp = []
  mono := fun {K HF HF' H H' v a fp} e k h => by
    cases a with
    | inl r => exact o.mono e k h
    | inr _ => exact h
  dom := fun {K HF H v a fp} h p hp => by
    cases a with
    | inl r => exact o.dom h p hp
    | inr _ =>
      have h : fp = [] := h
      subst h; cases hp
  frz := fun {K HF HF' H v a fp} e k h => by
    cases a with
    | inl r => exact o.frz e k h
    | inr _ => trivial
  out x R v H := match x with
    | .inl r => o.out r R v H
    | .inr c => E (cl c) none H
section
variable {P : Program} {w : World} {K : PySem.W.Frag} {mg : Str → Option Value} {base : Heap}
end
section
variable {X : Cx} {Γ : Ctx} {S L ρ α β A S' : Type} [Rp ρ] {o : Ow ρ} {Γo : S → Ctx} {ΓL : L → Ctx} {a b e f : Expr} {es : List Expr} {pos p p1 p2 pos2 : Pos} {ta tb te tf : TE} {t : TA} {sts : List Stmt} {tr tr' : TS}
/-- an expression that may raise -/
structure EXr [Rp ρ] (X : Cx) (W : WX) (Γ : Ctx) (e : Expr) (o : Ow ρ) (m : M (ρ ⊕ Str)) (t : TE) : Prop where
  pe : PE X e t
  sem : ∀ HF0 G HF H σ, Good X.K HF0 G Γ HF H σ → ∀ c, m = .ok c → ∀ Q : VK, (match c with
    | .inl r => RetK X.K HF H o r Q
    | .inr x => ∀ HF' H', Step HF H HF' H' → W (clv X.K x) none σ H') → t σ H Q
section
variable {K : PySem.W.Frag} {E : XK}
end
/-! ### try -/
structure BX (X : Cx) (W : WX) (Γ : Ctx) (sts : List Stmt) (Γb : α → Ctx) (m : M (α ⊕ Str)) (t : TS) : Prop where
  pss : PSs X sts t
  sem : ∀ HF0 G HF H σ, Good X.K HF0 G Γ HF H σ → ∀ c, m = .ok c → ∀ D : Ends, (match c with
    | .inl a => ∀ HF' H' σ', Same HF HF' → Good X.K HF0 G (Γb a) HF' H' σ' → D.nx σ' H'
    | .inr x => ∀ HF' H', Step HF H HF' H' → W (clv X.K x) none σ H') → t D σ H
/-- the exception that a suite holds -/
structure ExO where
  a : Addr
instance : Rp ExO where
  sh _ _ v x := v = .ref x.a
  mono := fun _ h => h
end
end Ty

/-! ## Ty29: sorted(set(..)) of a list of whole numbers -/
namespace Ty
open PySem PySem.Spec PyProof.Rows L2
section
variable {P : Program} {w : World} {A : Around} {E : Value → Shared → Prop} {s : Shared}
end
/-- each once -/
def once (l : List Int) : List Int := l.foldr (fun x r => if x ∈ r then r else x :: r) []
section
variable {X : Cx} {Γ : Ctx} {a : Expr} {p p2 q : Pos} {ta : TE}
end
end Ty

/-! ## Ty30: defs without a return; lists that may be another's -/
namespace Ty
open PySem PySem.Spec PyProof.Rows L2
section
variable {P : Program} {w : World} {K : PySem.W.Frag} {mg : Str → Option Value} {base : Heap}
end
/-- a thing that is own, or another's -/
structure Al (α : Type) where
  sh : Bool
  a : α
instance {α : Type} [Inhabited α] : Inhabited (Al α) := ⟨⟨true, default⟩⟩
instance rpAl {α : Type} [Rp α] : Rp (Al α) where
  sh K H v x := Rp.sh K H v x.a
  mono := fun e h => Rp.mono e h
def Ow.al {α : Type} [Rp α] (u : Ow α) : Ow (Al α) where
  rep K HF H v x fp := if x.sh then (Rp.sh K HF v x.a ∧ fp = []) else u.rep K HF H v x.a fp
  mono := fun {K HF HF' H H' v x fp} e k h => by
    cases q : x.sh with
    | true =>
      rw [q, if_pos rfl] at h
      rw [if_pos rfl]
      exact ⟨Rp.mono e h.1, h.2⟩
    | false =>
      rw [q, if_neg (by simp)] at h
      rw [if_neg (by simp)]
      exact u.mono e k h
  dom := fun {K HF H v x fp} h p hp => by
    cases q : x.sh with
    | true =>
      rw [q, if_pos rfl] at h
      rw [h.2] at hp; cases hp
    | false =>
      rw [q, if_neg (by simp)] at h
      exact u.dom h p hp
  frz := fun {K HF HF' H v x fp} e k h => by
    cases q : x.sh with
    | true =>
      rw [q, if_pos rfl] at h
      exact Rp.mono e h.1
    | false =>
      rw [q, if_neg (by simp)] at h
      exact u.frz e k h
section
variable {X : Cx} {Γ : Ctx} {S L ρ α β A S' : Type} [Rp ρ] {o : Ow ρ} {Γo : S → Ctx} {ΓL : L → Ctx} {a b e f : Expr} {es : List Expr} {pos p p1 p2 pos2 : Pos} {ta tb te tf : TE} {t : TA} {sts : List Stmt} {tr tr' : TS}
end
end Ty

/-! ## Ty31: things in lists of data; x.clear(); calls that could raise but don't -/
namespace Ty
open PySem PySem.Spec PyProof.Rows L2
section
variable {X : Cx} {Γ : Ctx} {S L ρ α β γ A B S' : Type} {o : Expr} {a b e : Expr} {es : List Expr} {pos p apos cpos p1 p2 : Pos} {ta tb te : TE} {t : TA} {sts : List Stmt} {tr : TS}
end
/-! ### x.clear() -/
section
variable {X : Cx} {Γ : Ctx} {S L ρ α : Type} [Rp ρ] {o : Ow ρ} {Γo : S → Ctx} {ΓL : L → Ctx} {pos p apos cpos : Pos} {sts : List Stmt} {tr : TS}
end
end Ty

/-! ## Ty32: a def that is handed the exception which an except suite holds -/
namespace Ty
open PySem PySem.Spec PyProof.Rows L2
/-- what is known of the exception at hand: its class is c -/
structure ExP (K : PySem.W.Frag) (c : Str) (p : Addr × Obj) : Prop where
  C : ExcC K (He.ga K c)
  hz : Zc (clv K c) none p.2
  hf : ∃ vs, p.2.data = .fields vs
def spE {ρ : Type} [Rp ρ] (K : PySem.W.Frag) (o : Ow ρ) (fm : Str → M ρ) (c : Str) (H : Hp) (Q : VK) : Prop := ∃ HF r, Same HF H ∧ fm c = .ok r ∧ RetK K HF H o r Q
structure FnE (P : Program) (w : World) (K : PySem.W.Frag) (mg : Str → Option Value) (base : Heap) (k : Nat) (f : Addr) (fd : FuncData) (y : Str) {ρ : Type} [Rp ρ] (o : Ow ρ) (fm : Str → M ρ) : Prop where
  run : ∀ (A : Around) (outer : List Env) (s : Shared) (H : Hp) (args : Args) (Q : VK) (E : XK) (p : Addr × Obj) (c : Str), L2H.RoomH k A → ExP K c p → L2H.PinOk outer H s p → Env0 P w K mg base A outer s H → BindsTo s fd args [(y, .ref p.1)] → spE K o fm c H Q →
    codeAny (model P w) A (.call (.ref f) args) (CR CX0 outer P w H s Q E) s
section
variable {P : Program} {w : World} {K : PySem.W.Frag} {mg : Str → Option Value} {base : Heap}
end
section
variable {X : Cx} {Γ : Ctx} {ρ : Type} [Rp ρ] {o : Ow ρ} {a b e f : Expr} {es : List Expr} {pos p p1 p2 pos2 : Pos} {ta tb te tf : TE} {t : TA}
end
/-! ### x.pop(i) of own things -/
theorem Rl.eraseIdx {α : Type} {R : V → α → List Addr → Prop} : ∀ {vs : List V} {as : List α} {fp : List Addr} (i : Nat), Rl R vs as fp → ∃ fp', Rl R (vs.eraseIdx i) (as.eraseIdx i) fp' ∧ (∀ p ∈ fp', p ∈ fp) ∧ (fp.Nodup → fp'.Nodup)
  | [], [], fp, _, h => ⟨fp, h, fun _ h => h, fun h => h⟩
  | v :: vs, a :: as, fp, 0, ⟨f1, f2, e, h1, h2⟩ => ⟨f2, h2, fun p hp => by rw [e]; exact List.mem_append_right _ hp, fun nd => by rw [e] at nd; exact (List.nodup_append.mp nd).2.1⟩
  | v :: vs, a :: as, fp, i + 1, ⟨f1, f2, e, h1, h2⟩ => by
    obtain ⟨f', q1, q2, q3⟩ := Rl.eraseIdx i h2
    refine ⟨f1 ++ f', ⟨f1, f', rfl, h1, q1⟩, fun p hp => ?_, fun nd => ?_⟩
    · rw [e]
      rcases List.mem_append.mp hp with z | z
      · exact List.mem_append_left _ z
      · exact List.mem_append_right _ (q2 p z)
    · rw [e] at nd
      obtain ⟨a1, a2, a3⟩ := List.nodup_append.mp nd
      exact List.nodup_append.mpr ⟨a1, q3 a2, fun p hp q hq e => a3 p hp q (q2 q hq) e⟩
  | [], _ :: _, _, _, h => h.elim
  | _ :: _, [], _, _, h => h.elim
section
variable {X : Cx} {Γ : Ctx} {S L ρ α β κ γ A B S' : Type} [Rp ρ] {o : Ow ρ} {Γo : S → Ctx} {ΓL : L → Ctx} {a b e f : Expr} {es : List Expr} {pos p p1 p5 apos cpos pos2 : Pos} {ta tb te tf : TE} {t : TA} {sts : List Stmt} {tr tr' : TS} {tg : Expr}
theorem ss_popAtO [Rp α] {u : Ow α} (i : Nat) {as : List α} {x : Str} {m : M Int} {k : List α → M (Ctl S L ρ)} (he : EX X Γ e Ow.v m te) (hr : ∀ y, SS X (put Γ i (.mk (Ow.l u) y)) sts Γo ΓL o (k y) tr) (hl : look Γ i = .mk (Ow.l u) as := by rfl) (hN : X.N[i]? = some x := by rfl) (hv : Vis X.env.scope x := by first | exact Or.inl rfl | exact Or.inr (Or.inl rfl) | exact Or.inr (Or.inr rfl)) (hd : (x == ("__debug__" : Str)) = false := by decide)
    (hcd : (x == ("__classdict__" : Str)) = false := by decide)
    (hpe : ∀ {to : TE} {tt : TA}, PE X (.Name x p) to → PA X [e] tt → PE X (.Call (.Attribute (.Name x p) "pop" apos) [e] [] cpos) (tBM X.K "list" rPopAt to tt) := by exact fun h h' => pe_bm PySem.F.plainAttrs_list PySem.F.slot_list_pop PySem.F.type_list_pop mt_popAt h h')
    (h1 : starEach [e] X.env = (false, eval e X.env) :: starEach [] X.env := by rfl)
    (hs : swapsWith (.Call (.Attribute (.Name x p) "pop" apos) [e] [] cpos) none pos.line X.env = pure false := by rfl) :
    SS X Γ (.Expr (.Call (.Attribute (.Name x p) "pop" apos) [e] [] cpos) pos :: sts) Γo ΓL o (do let j ← m; let q ← popAtM as j; k q.2) (tSeq (tDrop (tBM X.K "list" rPopAt (tVar i) (tCons te tNil))) tr) :=
  ⟨pss_cons (ps_expr (hpe (pe_var hN hv hd hcd) (pa_cons he.pe pa_nil h1)) hs) (hr []).pss, fun HF0 G HF H σ g c hc D kk => by
    obtain ⟨j, e0, hc⟩ := bind_ok hc
    obtain ⟨⟨y0, l⟩, e1, hc⟩ := bind_ok hc
    obtain ⟨w, e8, e1⟩ := bind_ok e1
    obtain ⟨n, e9, e1⟩ := bind_ok e1
    obtain ⟨y, e2, e1⟩ := bind_ok e1
    cases pure_ok e1
    obtain ⟨v, fo, hσ, ⟨q, vs, fq, h1, h2, h3, h4⟩, nd, hfo, back⟩ := g.take hl
    subst h1 h2
    have hlen := h4.len
    have hn : n < as.length := (List.getElem?_eq_some_iff.mp (ofO_ok e2)).1
    have hlt : n < vs.length := by omega
    refine ⟨.ref q, hσ, .inl ⟨rfl, vs, SqL.of h3⟩, ?_⟩
    refine he.sem HF0 G HF H σ g j e0 _ fun v' HF1 H1 fp st r n' f => ?_
    have e10 := gd_ok e8
    rw [Bool.and_eq_true, decide_eq_true_eq, decide_eq_true_eq] at e10
    refine ⟨q, vs, j, n, vs[n], rfl, by rw [Fl.sh_iff.mp r.1]; rfl, st.exH _ _ h3, e10.1, e10.2, by rw [hlen]; exact ofO_ok e9, List.getElem?_eq_getElem hlt, ?_⟩
    have h5 := h4.mono (R' := u.rep X.K HF1 H1) fun v a f _ h => u.mono st.exF (fun p _ o e => st.exH _ _ e) h
    obtain ⟨fq', q1, q2, q3⟩ := h5.eraseIdx n
    have hqn := (List.nodup_cons.mp nd).1
    have hq' : q ∉ fq' := fun z => hqn (q2 q z)
    have gg := back (u' := Ow.l u) (b := as.eraseIdx n) (v' := .ref q) (f' := q :: fq') (H' := upd H1 q (.lst (vs.eraseIdx n))) st (fun p w hp e => by rw [upd_ne (fun z => hp (by rw [z]; exact List.mem_cons_self ..))]; exact e)
      ⟨q, vs.eraseIdx n, fq', rfl, rfl, upd_same, q1.upd hq'⟩ (List.nodup_cons.mpr ⟨hq', q3 (List.nodup_cons.mp nd).2⟩) (fun p hp => by
        rcases List.mem_cons.mp hp with z | z
        · exact .inl (by rw [z]; exact List.mem_cons_self ..)
        · exact .inl (List.mem_cons_of_mem _ (q2 p z)))
    rw [set_self hσ] at gg
    exact (hr (as.eraseIdx n)).sem HF0 G HF1 _ σ gg c hc D (kk.mono st.exF)⟩
end
end Ty

/-! ## Ty33: methods of texts; join; extend; enumerate of a text -/
namespace Ty
open PySem PySem.Spec PyProof.Rows L2
section
variable {X : Cx} {Γ : Ctx} {S L ρ α β γ A B S' : Type} {a b e o : Expr} {es : List Expr} {pos p p1 p2 apos cpos : Pos} {ta tb te to : TE} {t : TA} {sts : List Stmt} {tr : TS}
end
end Ty

/-! ## Ty34: sorted(set(text)) -/
namespace Ty
open PySem PySem.Spec PyProof.Rows L2
def keyS (e : Int × Value) : Str := match e.2 with | .str k _ => k | _ => ⟨#[]⟩
def GoodS (w : World) (e : Int × Value) : Prop := ∃ k tk, e.2 = Value.str k tk ∧ e.1 = hashStr w k
/-- the set of texts at a -/
def SetX (w : World) (h : Heap) (a : Addr) (S : Str → Bool) (n : Nat) : Prop :=
  ∃ o es ep t, h.get? a = some o ∧ o.ExactSet ∧ o.data = .set es ep t ∧ (∀ e ∈ es.toList, GoodS w e) ∧ (es.toList.map keyS).Nodup ∧ (∀ k, S k = true ↔ k ∈ es.toList.map keyS) ∧
    es.size < scanBound ∧ t.fits es.size = true ∧ es.size = n ∧ Ris t.place.toList ∧ (w.params.followText "set-order" = true ∨ t.led = true)
section
variable {P : Program} {w : World} {h h' : Heap} {a : Addr} {S : Str → Bool} {n : Nat}
theorem SetX.at (R : SetX w h a S n) (k : ∀ o, h.get? a = some o → h'.get? a = some o) : SetX w h' a S n := by
  obtain ⟨o, es, ep, t, ho, r⟩ := R
  exact ⟨o, es, ep, t, k o ho, r⟩
theorem SetX.congr {S' : Str → Bool} (R : SetX w h a S n) (e : ∀ k, S' k = S k) : SetX w h a S' n := by
  have q : S' = S := funext e
  rw [q]; exact R
end
section
variable {P : Program} {w : World} {A : Around} {E : Value → Shared → Prop} {s : Shared} {a : Addr} {S : Str → Bool} {n : Nat}
end
/-! ### the law of what is told -/
section
variable {X : Cx} {Γ : Ctx} {a : Expr} {p p2 q : Pos} {ta : TE}
end
end Ty

/-! ## Ty35: x.extend(a new list) -/
namespace Ty
open PySem PySem.Spec PyProof.Rows L2
section
variable {X : Cx} {Γ : Ctx} {S L ρ α β γ A B S' : Type} [Rp ρ] {o : Ow ρ} {Γo : S → Ctx} {ΓL : L → Ctx} {a b e : Expr} {es : List Expr} {pos p apos cpos : Pos} {ta tb te : TE} {t : TA} {sts : List Stmt} {tr tr' : TS}
end
end Ty

/-! ## Ty36: enumerate of a text; count and index in lists -/
namespace Ty
open PySem PySem.Spec PyProof.Rows L2
section
variable {X : Cx} {Γ : Ctx} {S L ρ α β γ A B S' : Type} {a b e o : Expr} {es : List Expr} {pos p p1 p2 apos cpos : Pos} {ta tb te to : TE} {t : TA} {sts : List Stmt} {tr : TS}
end
end Ty

/-! ## Ty37: own exceptions with an own __init__ that keeps one field: made, raised, caught, kept behind the suite -/
namespace PySem.W
open PySem PySem.Spec PySem.Calls PyProof.Rows
end PySem.W
namespace Ty
open PySem PySem.Spec PyProof.Rows L2
structure OexF (K : PySem.W.Frag) (c f : Str) (fI : Addr) : Prop where
  T : OexC K (He.ga K c)
  no : PySem.W.findIn K (clv K c) f = some none
  init : PySem.W.findIn K (clv K c) "__init__" = some (some (.ref fI))
  ty : PySem.W.typeIn K (.ref fI) = some (.type "function")
section
variable {X : Cx} {o e : Expr} {es : List Expr} {to te : TE} {ta : TA} {f c : Str} {p p' p1 p2 pos : Pos}
end
section
variable {P : Program} {w : World} {K : PySem.W.Frag} {mg : Str → Option Value} {base : Heap}
end
/-! ### values that exceptions bear -/
inductive PV where
  | i (n : Int)
  | s (x : Str)
  deriving DecidableEq
def PV.enc : PV → V
  | .i n => .int n
  | .s x => .str x
/-- what is raised: the class's name, the field -/
structure Exn where
  c : Str
  p : Option (Str × PV)
def vD : Option Addr → V
  | some dd => .ref dd
  | none => .non
def XD (HF : Hp) (d : Option Addr) (x : Exn) : Prop := match x.p with
  | none => d = none
  | some (f, v) => ∃ dd, d = some dd ∧ HF dd = some (.xd [(f, v.enc)])
theorem XD.mono {HF HF' : Hp} {d : Option Addr} {x : Exn} (s : Same HF HF') (h : XD HF d x) : XD HF' d x := by
  unfold XD at *
  split at h
  · exact h
  · obtain ⟨dd, h1, h2⟩ := h
    exact ⟨dd, h1, s _ _ h2⟩
instance rpRy {ρ : Type} [Rp ρ] : Rp (ρ ⊕ Exn) where
  sh K H v x := match x with
    | .inl r => Rp.sh K H v r
    | .inr _ => True
  mono := fun {K H H' v a} e h => by
    cases a with
    | inl r => exact Rp.mono e h
    | inr _ => trivial
def Ow.y {ρ : Type} [Rp ρ] (o : Ow ρ) (cl : Str → Value) (E : XK) : Ow (ρ ⊕ Exn) where
  rep K HF H v x fp := match x with
    | .inl r => o.rep K HF H v r fp
    | .inr x => fp = [] ∧ ∃ d, v = vD d ∧ XD HF d x
  mono := fun {K HF HF' H H' v a fp} e k h => by
    cases a with
    | inl r => exact o.mono e k h
    | inr x =>
      obtain ⟨h1, d, h2, h3⟩ := h
      exact ⟨h1, d, h2, h3.mono e⟩
  dom := fun {K HF H v a fp} h p hp => by
    cases a with
    | inl r => exact o.dom h p hp
    | inr _ =>
      have h : fp = [] := h.1
      subst h; cases hp
  frz := fun {K HF HF' H v a fp} e k h => by
    cases a with
    | inl r => exact o.frz e k h
    | inr _ => trivial
  out x R v H := match x with
    | .inl r => o.out r R v H
    | .inr x => ∃ d, v = vD d ∧ E (cl x.c) d H

section
variable {P : Program} {w : World} {K : PySem.W.Frag} {mg : Str → Option Value} {base : Heap}
end
section
variable {X : Cx} {Γ : Ctx} {S L ρ α β A S' : Type} [Rp ρ] {o : Ow ρ} {Γo : S → Ctx} {ΓL : L → Ctx} {a b e f : Expr} {es : List Expr} {pos p p1 p2 pos2 : Pos} {ta tb te tf : TE} {t : TA} {sts : List Stmt} {tr tr' : TS}
/-- an expression that may raise -/
structure EXs [Rp ρ] (X : Cx) (W : WX) (Γ : Ctx) (e : Expr) (o : Ow ρ) (m : M (ρ ⊕ Exn)) (t : TE) : Prop where
  pe : PE X e t
  sem : ∀ HF0 G HF H σ, Good X.K HF0 G Γ HF H σ → ∀ c, m = .ok c → ∀ Q : VK, (match c with
    | .inl r => RetK X.K HF H o r Q
    | .inr x => ∀ HF' H' d, Step HF H HF' H' → XD HF' d x → W (clv X.K x.c) d σ H') → t σ H Q
section
variable {K : PySem.W.Frag} {E : XK}
end
end
end Ty

/-! ## Ty38: try: f(..) / except C as e: kept = e; what follows knows the exception -/
namespace L2
open PySem PySem.Spec PyProof.Rows
abbrev Cx.kp (X : Cx) (q : Addr × Obj) : Cx := { X with pn := q :: X.pn }
section
variable {X : Cx} {x n kx : Str} {c : Value} {i ik : Nat} {body rest : List Stmt} {np pos pos' p1 p2 p3 : Pos} {tb : WX → TS} {t0 : TS} {t1 : Addr → Value → Option Addr → TS} {Wout : WX}
theorem Cx.Ok.kp (ok : X.Ok) (q : Addr × Obj) : (X.kp q).Ok := { ok with }
end
end L2

/-! ## Ty39: the kept exception: its class, its field -/
namespace Ty
open PySem PySem.Spec PyProof.Rows L2
/-- an exception at hand -/
structure ExY where
  a : Addr
  d : Option Addr
  x : Exn
instance : Rp ExY where
  sh _ HF v e := v = .ref e.a ∧ XD HF e.d e.x
  mono := fun s h => ⟨h.1, h.2.mono s⟩
/-- what is known of the pinned exception -/
structure PinY (X : Cx) (c : Str) (d : Option Addr) (p : Addr × Obj) : Prop where
  C : ExcC X.K (He.ga X.K c)
  hz : Zc (clv X.K c) d p.2
  hf : ∃ vs, p.2.data = .fields vs
  hp : p ∈ X.pn
section
variable {X : Cx} {Γ : Ctx} {S L ρ α β A S' : Type} [Rp ρ] {o : Ow ρ} {Γo : S → Ctx} {ΓL : L → Ctx} {a b e f : Expr} {es : List Expr} {pos p p1 p2 pos2 : Pos} {ta tb te tf : TE} {t : TA} {sts : List Stmt} {tr tr' : TS}
/-- names of classes, one behind another -/
structure CN (X : Cx) (es : List Expr) (Ds : List Str) (t : TA) : Prop where
  pa : PA X es t
  sem : ∀ σ H (Q : List V → Hp → Prop), Q (Ds.map fun D => V.ref (He.ga X.K D)) H → t σ H Q
  nv : ∀ D ∈ Ds, D ≠ ("ValueError" : Str)
/-! ### try -/
structure BXs (X : Cx) (W : WX) (Γ : Ctx) (sts : List Stmt) (Γb : α → Ctx) (m : M (α ⊕ Exn)) (t : TS) : Prop where
  pss : PSs X sts t
  sem : ∀ HF0 G HF H σ, Good X.K HF0 G Γ HF H σ → ∀ c, m = .ok c → ∀ D : Ends, (match c with
    | .inl a => ∀ HF' H' σ', Same HF HF' → Good X.K HF0 G (Γb a) HF' H' σ' → D.nx σ' H'
    | .inr x => ∀ HF' H' d, Step HF H HF' H' → XD HF' d x → W (clv X.K x.c) d σ H') → t D σ H
end

/-! ### for the printer -/
end Ty

namespace Ty
open PySem PySem.W PySem.Calls PyProof.Rows He
/-! ### a hook that holds the statics' list, too -/
structure SaysZ (fa : List He.Fa) (fn : List He.DefD) (ex : PySem.W.Frag → Bool) (K : PySem.W.Frag) : Prop where
  d : He.SaysD fa fn K
  more : ex K = true
end Ty
namespace Ty
open PySem PySem.Spec PyProof.Rows L2
/-! ### great factors, of together less than 100 million bits -/
def CMulX (i j : Int) : Prop := i.natAbs.log2 + j.natAbs.log2 < 100000000
theorem CMulX.ok {i j : Int} (h : CMulX i j) : IntMulOk i j := by
  have b : ∀ x : Int, Builtin.Int.intBits x ≤ x.natAbs.log2 + 1 := fun x => by
    unfold Builtin.Int.intBits
    split <;> omega
  have h1 := b i
  have h2 := b j
  have h3 : i.natAbs.log2 + j.natAbs.log2 < 100000000 := h
  have e : bitsLine = 134217728 := by decide
  unfold IntMulOk
  intro z
  rw [Bool.and_eq_true] at z
  have z2 := z.2
  unfold Builtin.Int.intTooBig at z2
  have z3 := of_decide_eq_true z2
  rw [e] at z3
  omega
section
variable {X : Cx} {Γ : Ctx} {a b : Expr} {pos : Pos} {ta tb : TE}
end
end Ty
namespace L2
open PySem PySem.Spec PyProof.Rows
end L2

/-! ## Ty41: list(text) -/
namespace L2
open PySem PySem.Spec PyProof.Rows
end L2
namespace Ty
open PySem PySem.Spec PyProof.Rows L2
section
variable {X : Cx} {Γ : Ctx} {a : Expr} {ta : TE} {p pos : Pos}
end
end Ty

/-! ## Ty42: text.upper(), text[::-1], list[::k] -/
namespace L2
open PySem PySem.Spec PyProof.Rows
section
variable {X : Cx} {e : Expr} {te : TE}
/-! ### list[::k] -/
end
end L2
namespace Ty
open PySem PySem.Spec PyProof.Rows L2
section
variable {X : Cx} {Γ : Ctx} {a e o : Expr} {ta te to : TE} {p p1 p2 p3 pos apos cpos : Pos}
instance kdTu {α : Type} [Rp α] : Kd (Tu α) := ⟨"tuple", fun ⟨p, vs, e, h, _⟩ => by
  subst e
  rcases h with (h | ⟨o, h⟩) | ⟨o, its, n, e, c, _⟩
  · exact .base (.tup h)
  · exact .fTuple h
  · exact .kTuple e c⟩
end
end Ty

/-! ## Ty43: an except suite that hands its exception, field and all, to a def; calls in that def -/
namespace Ty
open PySem PySem.Spec PyProof.Rows L2
/-- a def called while an exception is handled -/
structure FnHt (P : Program) (w : World) (K : PySem.W.Frag) (mg : Str → Option Value) (base : Heap) (k : Nat) (f : Addr) (fd : FuncData) (ps : List Str) (sp : Sp) : Prop where
  len : ∀ vs H Q E, sp vs H Q E → vs.length = ps.length
  run : ∀ (A : Around) (outer : List Env) (s : Shared) (H : Hp) (args : Args) (us : List Value) (vs : List V) (Q : VK) (E : XK) (p : Addr × Obj), L2H.RoomH k A → L2H.PinOk outer H s p → Env0 P w K mg base A outer s H → BindsTo s fd args (ps.zip us) → Vals vs us → sp vs H Q E →
    codeAny (model P w) A (.call (.ref f) args) (CR CX0 outer P w H s Q E) s
/-- a def that is handed the exception -/
structure PinZ (K : PySem.W.Frag) (c : Str) (d : Option Addr) (p : Addr × Obj) : Prop where
  C : ExcC K (He.ga K c)
  hz : Zc (clv K c) d p.2
  hf : ∃ vs, p.2.data = .fields vs
def spZ {ρ : Type} [Rp ρ] (K : PySem.W.Frag) (o : Ow ρ) (fm : Exn → M ρ) (d : Option Addr) (x : Exn) (H : Hp) (Q : VK) : Prop := ∃ HF r, Same HF H ∧ XD HF d x ∧ fm x = .ok r ∧ RetK K HF H o r Q
structure FnZ (P : Program) (w : World) (K : PySem.W.Frag) (mg : Str → Option Value) (base : Heap) (k : Nat) (f : Addr) (fd : FuncData) (y : Str) {ρ : Type} [Rp ρ] (o : Ow ρ) (fm : Exn → M ρ) : Prop where
  run : ∀ (A : Around) (outer : List Env) (s : Shared) (H : Hp) (args : Args) (Q : VK) (E : XK) (p : Addr × Obj) (d : Option Addr) (x : Exn), L2H.RoomH k A → PinZ K x.c d p → L2H.PinOk outer H s p → Env0 P w K mg base A outer s H → BindsTo s fd args [(y, .ref p.1)] → spZ K o fm d x H Q →
    codeAny (model P w) A (.call (.ref f) args) (CR CX0 outer P w H s Q E) s
section
variable {P : Program} {w : World} {K : PySem.W.Frag} {mg : Str → Option Value} {base : Heap}
end
section
variable {X : Cx} {Γ : Ctx} {ρ α : Type} [Rp ρ] {o : Ow ρ} {a b e f : Expr} {es : List Expr} {pos p p1 p2 pos2 : Pos} {ta tb te tf : TE} {t : TA}
end
section
variable {X : Cx} {Γ : Ctx} {S L ρ α : Type} [Rp ρ] {o : Ow ρ} {Γo : S → Ctx} {ΓL : L → Ctx} {pos : Pos} {sts : List Stmt} {tr : TS}
end
end Ty

/-! ## Ty44: sorted(list of texts), min(list of texts), x = d.setdefault(k, e) -/
namespace L2
open PySem PySem.Spec PyProof.Rows
end L2
namespace Ty
open PySem PySem.Spec PyProof.Rows L2
section
variable {X : Cx} {Γ : Ctx} {S L ρ α β : Type} [Rp ρ] {o : Ow ρ} {Γo : S → Ctx} {ΓL : L → Ctx} {a b e : Expr} {pos p p1 apos cpos : Pos} {ta tb te : TE} {sts : List Stmt} {tr : TS}
/-! ### x = d.setdefault(k, e) -/
end
end Ty

set_option maxHeartbeats 1000000
/-! ## Ty45: reversed(text), at the library's level -/
namespace RS
open PySem PySem.Spec PyProof.Rows RT
def IsRs (h : Heap) (a : Addr) (x : Str) (t : Tok) (i : Int) : Prop := ∃ o, h.get? a = some o ∧ o.cls = .type "reversed" ∧ o.data = .fields #[.str x t, rawInt i]
theorem IsRs.at {h h' : Heap} {a : Addr} {x : Str} {t : Tok} {i : Int} (q : IsRs h a x t i) (e : ∀ o, h.get? a = some o → h'.get? a = some o) : IsRs h' a x t i := let ⟨o, ho, r⟩ := q; ⟨o, e _ ho, r⟩
section
variable {prog : Program} {w : World} {A : Around} {E : Value → Shared → Prop} {s : Shared} {x : Str} {t : Tok}
theorem IsRs.typeIs {a : Addr} {i : Int} (q : IsRs s.heap a x t i) : s.TypeIs (.ref a) "reversed" := let ⟨o, ho, hc, _⟩ := q; ⟨o, ho, hc⟩
end
section
variable {prog : Program} {w : World} {A : Around} {E : Value → Shared → Prop} {s : Shared} {x : Str} {t : Tok}
end
section
variable {prog : Program} {w : World} {A : Around} {s : Shared} {R : Result → Shared → Prop} {x : Str} {t : Tok}
end
end RS

set_option maxHeartbeats 1000000
/-! ## Ty46: sep.join(reversed(text)), list(reversed(text)) -/
namespace RS
open PySem PySem.Spec PyProof.Rows RT Builtin Builtin.Str
section
variable {prog : Program} {w : World} {A : Around} {E : Value → Shared → Prop} {s : Shared} {x sep : Str} {t u : Tok}
end
end RS
namespace RS
open PySem PySem.Spec PyProof.Rows L2
section
variable {X : Cx}
end
end RS
namespace Ty
open PySem PySem.Spec PyProof.Rows L2
section
variable {X : Cx} {Γ : Ctx} {e o : Expr} {te to : TE} {p p2 pos pos2 apos cpos : Pos}
end
end Ty

set_option maxHeartbeats 1000000
/-! ## Ty47: instances of own classes, fields set by __init__, methods told by the class -/
namespace L2
open PySem PySem.Spec PyProof.Rows
theorem PE.or {X : Cx} {e : Expr} {t1 t2 : TE} (h1 : PE X e t1) (h2 : PE X e t2) : PE X e (fun σ H Q => t1 σ H Q ∨ t2 σ H Q) := ⟨fun pins s σ H Q I h => h.elim (h1.run pins s σ H Q I) (h2.run pins s σ H Q I)⟩
end L2
namespace Ty
open PySem PySem.Spec PyProof.Rows L2
/-- an instance: its class's name, its fields -/
structure Ins where
  c : Str
  fs : List (Str × PV)
def fenc (fs : List (Str × PV)) : List (Str × V) := fs.map fun p => (p.1, p.2.enc)
instance : Rp Ins where
  sh K HF v x := ∃ a dx, v = .ref a ∧ HF a = some (.ins (He.ga K x.c) dx (fenc x.fs))
  mono := fun s ⟨a, dx, h1, h2⟩ => ⟨a, dx, h1, s _ _ h2⟩
instance : Inhabited Ins := ⟨⟨"", []⟩⟩
/-- what is known of a class -/
structure OCls (K : PySem.W.Frag) (c : Str) : Prop where
  cl : Cls K (He.ga K c)
  ha : PySem.W.findIn K (clv K c) "__class__" = some (some (.builtin "object.__class__"))
  hn : PySem.W.specialIn K (.builtin "object.__class__") "__get__" = some (some (.builtin "getset_descriptor.__get__"))
  ht : PySem.W.takesIn K (.builtin "object.__class__") = some true
  hm : PySem.W.mroIn K (He.ga K c) (.type "object") = some true
class Pvl (α : Type) [Rp α] where
  pv : α → PV
  ok : ∀ {K : PySem.W.Frag} {HF : Hp} {v : V} {a : α}, Rp.sh K HF v a → v = (pv a).enc
instance : Pvl Int := ⟨.i, fun h => Fl.sh_iff.mp h⟩
instance : Pvl Str := ⟨.s, fun h => Fl.sh_iff.mp h⟩
section
variable {P : Program} {w : World} {K : PySem.W.Frag} {mg : Str → Option Value} {base : Heap}
/-- a class that has no __init__ -/
structure MkN (K : PySem.W.Frag) (c : Str) : Prop where
  makes : PySem.W.makesIn K (He.ga K c) = true
  init : PySem.W.findIn K (clv K c) "__init__" = some (some (.builtin "object.__init__"))
  kp : PySem.W.keepIn K (clv K c) = true
end
section
variable {X : Cx} {Γ : Ctx} {α β γ A : Type} [Rp γ] {w : Ow γ} {a b e o : Expr} {es : List Expr} {pos p p1 apos cpos : Pos} {ta tb te to : TE} {t : TA}
/-! ### C(..) -/
end
end Ty

set_option maxHeartbeats 1000000
/-! ## Ty48: methods of own classes that may raise -/
namespace L2
open PySem PySem.Spec PyProof.Rows
/-! ### list.count of a text -/
end L2
namespace Ty
open PySem PySem.Spec PyProof.Rows L2
section
variable {X : Cx} {Γ : Ctx} {α ρ A : Type} [Rp ρ] {o : Ow ρ} {a b e e0 : Expr} {es : List Expr} {pos p p1 apos cpos : Pos} {ta tb te to : TE} {t : TA}
end
section
variable {X : Cx} {Γ : Ctx} {S L ρ α β : Type} [Rp ρ] {o : Ow ρ} {Γo : S → Ctx} {ΓL : L → Ctx} {e f : Expr} {pos : Pos} {te tf : TE} {sts : List Stmt} {tr : TS}
end
end Ty

/-! ## Ty49: rfind -/
namespace Ty
open PySem PySem.Spec PyProof.Rows L2
section
variable {X : Cx} {Γ : Ctx} {o e : Expr} {apos cpos : Pos} {to : TE} {t : TA}
end
end Ty

/-! ## Ty50: values of one of several flat kinds -/
namespace Ty
open PySem PySem.Spec PyProof.Rows L2
/-- a number, a text or a truth value -/
inductive Uv where
  | i (n : Int)
  | s (x : Str)
  | b (x : Bool)
  deriving DecidableEq
def Uv.enc : Uv → V
  | .i n => .int n
  | .s x => .str x
  | .b x => .bl x
instance : Inhabited Uv := ⟨.i 0⟩
instance : Fl Uv := flOf Uv.enc
instance : Inhabited PV := ⟨.i 0⟩
instance : Fl PV := flOf PV.enc
def PV.py : PV → PyData
  | .i n => .int n
  | .s x => .str x
instance : Eqv PV := ⟨PV.py, fun u => match u with
    | .i _ => true
    | .s x => PySem.PyData.strOk x, 0, fun {K H v a} h => by
    cases a with
    | i n => cases h; exact .int _
    | s x => cases h; exact .str _, fun a h => by
    cases a with
    | i n => rfl
    | s x => simpa [PV.py, PyData.canLay0] using h, fun a => by cases a <;> simp [PV.py, PyData.depth], fun a b => by
    cases a <;> cases b <;> simp only [PV.py, PyData.eqv]
    · rename_i x y; by_cases h : x = y <;> simp [h]
    · simp
    · simp
    · rename_i x y; by_cases h : x = y <;> simp [h]⟩
section
variable {X : Cx} {Γ : Ctx} {e : Expr} {te : TE}
end
end Ty

/-! ## Ty51: sorted(text) -/
namespace L2
open PySem PySem.Spec PyProof.Rows
section
variable {X : Cx}
end
end L2
namespace Ty
open PySem PySem.Spec PyProof.Rows L2
section
variable {X : Cx} {Γ : Ctx} {e : Expr} {te : TE} {p pos : Pos}
end
end Ty
/-! ### range with a step -/
namespace Ty
open PySem PySem.Spec PyProof.Rows L2
section
variable {X : Cx} {Γ : Ctx} {a b c tg : Expr} {ta tb tc : TE} {p pos : Pos}
end
end Ty
/-! ### a name that a loop may have bound -/
namespace Ty
open PySem PySem.Spec PyProof.Rows L2
section
variable {X : Cx} {Γ : Ctx} {S L ρ α : Type} [Rp ρ] {o : Ow ρ} {Γo : S → Ctx} {ΓL : L → Ctx} {sts : List Stmt} {tr : TS}
end
end Ty

/-! ## Ty52: dict(enumerate(list)), dict(d), x = d.pop(k), d.pop(k), defs that call themselves, a default None -/
namespace L2
open PySem PySem.Spec PyProof.Rows
section
variable {X : Cx} {a : Expr} {p p2 q pos : Pos} {ta : TE}
end
end L2
namespace Ty
open PySem PySem.Spec PyProof.Rows L2
section
variable {X : Cx} {Γ : Ctx} {S L ρ α β κ : Type} [Rp ρ] {o : Ow ρ} {Γo : S → Ctx} {ΓL : L → Ctx} {a b e : Expr} {pos p p1 p2 q apos cpos : Pos} {ta tb te : TE} {sts : List Stmt} {tr : TS}
end
/-! ### a def that calls itself, its turns told -/
section
variable {P : Program} {w : World} {K : PySem.W.Frag} {mg : Str → Option Value} {base : Heap}
end
/-! ### a default None -/
section
variable {X : Cx} {Γ : Ctx} {A A' ρ : Type} {e : Expr} {es : List Expr} {p pos : Pos} {t : TA}
end
end Ty
namespace Ty
open PySem PySem.Spec PyProof.Rows L2
end Ty

set_option maxHeartbeats 1000000
/-! ## Ty53: list(reversed(range(..))) -/
namespace RT
open PySem PySem.Spec PyProof.Rows L2
section
variable {prog : Program} {w : World} {A : Around} {E : Value → Shared → Prop} {s : Shared}
end
section
variable {X : Cx}
end
end RT
namespace Ty
open PySem PySem.Spec PyProof.Rows L2
section
variable {X : Cx} {Γ : Ctx} {e : Expr} {p p2 pos pos2 apos cpos : Pos} {te : TE}
end
end Ty

/-! ## Ty54: a loop that takes the own things of a list no one else has -/
namespace Ty
open PySem PySem.Spec PyProof.Rows L2
theorem Good.less {K : PySem.W.Frag} {HF0 G G' HF H : Hp} {Γ : Ctx} {σ : L2.St} (g : Good K HF0 G Γ HF H σ) (h : Same G' G) : Good K HF0 G' Γ HF H σ := by
  have hn : ∀ p, G p = none → G' p = none := fun p e => by
    cases q : G' p with
    | none => rfl
    | some u => rw [h p u q] at e; cases e
  obtain ⟨fs, h1, h2, h3⟩ := g.held
  exact ⟨g.sub, g.f0, h.trans g.g0, fun p o a b => hn p (g.nf p o a b), fs, h1, h2, fun p hp => ⟨(h3 p hp).1, hn p (h3 p hp).2⟩⟩
section
variable {X : Cx} {Γ : Ctx} {S L ρ α S' : Type} [Rp ρ] {o : Ow ρ} {Γo : S → Ctx} {ΓL : L → Ctx} {e : Expr} {pos p1 : Pos} {te : TE} {sts : List Stmt} {tr : TS}
end
end Ty

/-! ## Ty55: sorted(d.values()), texts; d[k] = ..pop.. -/
namespace L2
open PySem PySem.Spec PyProof.Rows
section
variable {X : Cx}
variable {o : Expr} {p pos apos mpos : Pos} {td : TE}
end
end L2
namespace Ty
open PySem PySem.Spec PyProof.Rows L2
section
variable {X : Cx} {Γ : Ctx} {S L ρ α β γ κ : Type} [Rp ρ] {o : Ow ρ} {Γo : S → Ctx} {ΓL : L → Ctx} {a b e f : Expr} {pos p p1 apos cpos mpos : Pos} {ta tb te tf : TE} {t : TA} {sts : List Stmt} {tr : TS}
end
end Ty

/-! ## Ty56: text.split(sep), max(d), int(text) -/
namespace L2
open PySem PySem.Spec PyProof.Rows
section
variable {X : Cx}
end
end L2
namespace Ty
open PySem PySem.Spec PyProof.Rows L2
section
variable {X : Cx} {Γ : Ctx} {S L ρ α β γ κ : Type} [Rp ρ] {o : Expr} {a b e f : Expr} {pos p p1 apos cpos mpos : Pos} {ta tb te tf to : TE} {t : TA} {sts : List Stmt} {tr : TS}
end
end Ty

/-! ## Ty57: sorted(d), int keys -/
namespace Ty
open PySem PySem.Spec PyProof.Rows L2
section
variable {X : Cx} {Γ : Ctx} {α β : Type} {e : Expr} {pos p : Pos} {te : TE}
end
end Ty

/-! ## Ty58: statements that are not come to -/
namespace Ty
open PySem PySem.Spec PyProof.Rows L2
end Ty

/-! ## Ty59: sorted(tuple), min of two tuples, tuple + tuple, list[a:b:c] -/
namespace PySem.W
open PySem PySem.Calls PyProof.Rows PyProof.V PySem.Spec
section
variable {prog : Program} {w : World} {A : Around} {E : Value → Shared → Prop} {s : Shared}
end
end PySem.W
namespace L2
open PySem PySem.Spec PyProof.Rows
section
variable {X : Cx}
end
end L2
namespace L2
open PySem PySem.Spec PyProof.Rows
section
variable {X : Cx}
end
end L2
namespace Ty
open PySem PySem.Spec PyProof.Rows L2
section
variable {X : Cx} {Γ : Ctx} {S L ρ α β γ : Type} [Rp ρ] {o : Ow ρ} {Γo : S → Ctx} {ΓL : L → Ctx} {a b e f : Expr} {pos p p1 p2 p3 apos cpos mpos pos2 : Pos} {ta tb te tf to : TE} {t : TA} {sts : List Stmt} {tr : TS}
end
end Ty
namespace L2
open PySem PySem.Spec PyProof.Rows
section
variable {X : Cx} {e : Expr} {te : TE}
end
end L2
namespace Ty
open PySem PySem.Spec PyProof.Rows L2
section
variable {X : Cx} {Γ : Ctx} {S L ρ α β γ : Type} [Rp ρ] {o : Ow ρ} {Γo : S → Ctx} {ΓL : L → Ctx} {a b e f : Expr} {pos p p1 p2 p3 p4 apos cpos mpos pos2 : Pos} {ta tb te tf to : TE} {t : TA} {sts : List Stmt} {tr : TS}
end
end Ty

/-! ## Ty60: a value that is None, a text or a list of truth values -/
namespace Ty
open PySem PySem.Spec PyProof.Rows L2
inductive Jv where
  | n
  | s (x : Str)
  | l (xs : List Bool)
instance : Inhabited Jv := ⟨.n⟩
instance : Rp Jv where
  sh K H v j := match j with
    | .n => v = .non
    | .s x => v = .str x
    | .l xs => Rp.sh K H v xs
  mono {K H H' v a} e h := by
    cases a with
    | n => exact h
    | s x => exact h
    | l xs => exact Rp.mono (α := List Bool) e h
section
variable {X : Cx} {Γ : Ctx} {e : Expr} {te : TE}
end
end Ty

/-! ## Ty61: lists whose items are the same objects -/
namespace L2
open PySem PySem.Spec PyProof.Rows
end L2
namespace Ty
open PySem PySem.Spec PyProof.Rows L2
/-- a list of instances whose items are known as they lie -/
structure Zr (vs : List V) where
  xs : List Ins
instance {vs : List V} : Rp (Zr vs) where
  sh K H v z := ∃ p, v = .ref p ∧ H p = some (.lst vs) ∧ Fa (Rp.sh K H) vs z.xs
  mono := fun {K H H' v a} e ⟨p, h1, h2, h3⟩ => ⟨p, h1, e _ _ h2, Fa.mono (fun _ _ h => Rp.mono e h) h3⟩
instance {vs : List V} : Inhabited (Zr vs) := ⟨⟨[]⟩⟩
section
variable {X : Cx} {Γ : Ctx} {e a b : Expr} {te ta tb : TE} {vs : List V}
end
section
variable {X : Cx} {Γ : Ctx} {S L ρ : Type} [Rp ρ] {o : Ow ρ} {Γo : S → Ctx} {ΓL : L → Ctx} {sts : List Stmt} {tr : TS}
end
section
variable {X : Cx} {Γ : Ctx} {γ : Type} [Rp γ] {w : Ow γ} {o : Expr} {pos apos : Pos} {to : TE}
end
end Ty

/-! ## Ty62: a def that changes its first argument, an own thing of the caller -/
namespace Ty
open PySem PySem.Spec PyProof.Rows L2
/-- the very thing at a place -/
def Ow.at {α : Type} [Rp α] (a0 : V) (o : Ow α) : Ow α where
  rep K HF H v a fp := v = a0 ∧ o.rep K HF H v a fp
  mono := fun e k ⟨h0, h⟩ => ⟨h0, o.mono e k h⟩
  dom := fun ⟨_, h⟩ => o.dom h
  frz := fun e k ⟨_, h⟩ => o.frz e k h
section
variable {X : Cx} {Γ : Ctx} {S L ρ α β : Type} [Rp ρ] {o : Ow ρ} {Γo : S → Ctx} {ΓL : L → Ctx} {a b e : Expr} {pos p p1 p2 : Pos} {ta tb te : TE} {sts : List Stmt} {tr : TS}
end
section
variable {P : Program} {w : World} {K : PySem.W.Frag} {mg : Str → Option Value} {base : Heap}
end
section
variable {X : Cx} {Γ : Ctx} {S L ρ α A : Type} [Rp ρ] {o : Ow ρ} {Γo : S → Ctx} {ΓL : L → Ctx} {e : Expr} {es : List Expr} {pos p p1 p2 : Pos} {t : TA} {sts : List Stmt} {tr : TS}
end
end Ty

/-! ## Ty63: a def of the program handed to another one; a test at a suite's only place; a default in a call that may raise -/
namespace Ty
open PySem PySem.Spec PyProof.Rows L2
inductive Fv where
  | mk
instance : Inhabited Fv := ⟨.mk⟩
instance : Rp Fv where
  sh K H v a := ∃ f, v = .ref f
  mono := fun _ h => h
section
variable {X : Cx} {Γ : Ctx} {S L ρ α β A A' B : Type} [Rp ρ] {o : Ow ρ} {Γo : S → Ctx} {ΓL : L → Ctx} {a b e : Expr} {es : List Expr} {pos p p1 p2 : Pos} {ta tb te : TE} {t : TA} {sts : List Stmt} {tr : TS}
end
end Ty

/-! ## Ty64: lists of two unlike things -/
namespace Ty
open PySem PySem.Spec PyProof.Rows L2
structure H2 (α β : Type) where
  a : α
  b : β
deriving DecidableEq
instance {α β : Type} [Inhabited α] [Inhabited β] : Inhabited (H2 α β) := ⟨⟨default, default⟩⟩
instance rpH2 {α β : Type} [Rp α] [Rp β] : Rp (H2 α β) where
  sh K H v x := ∃ p va vb, v = .ref p ∧ H p = some (.lst [va, vb]) ∧ Rp.sh K H va x.a ∧ Rp.sh K H vb x.b
  mono := fun e ⟨p, va, vb, h1, h2, h3, h4⟩ => ⟨p, va, vb, h1, e _ _ h2, Rp.mono e h3, Rp.mono e h4⟩
/-- an own list of two, its items shared -/
def Ow.h2 {α β : Type} [Rp α] [Rp β] : Ow (H2 α β) where
  rep K HF H v x fp := ∃ p va vb, v = .ref p ∧ fp = [p] ∧ H p = some (.lst [va, vb]) ∧ Rp.sh K HF va x.a ∧ Rp.sh K HF vb x.b
  mono := fun e k ⟨p, va, vb, h1, h2, h3, h4, h5⟩ => by
    subst h2
    exact ⟨p, va, vb, h1, rfl, k p (List.mem_singleton.mpr rfl) _ h3, Rp.mono e h4, Rp.mono e h5⟩
  dom := fun ⟨p, va, vb, h1, h2, h3, h4, h5⟩ q hq => by
    subst h2
    rw [List.mem_singleton.mp hq]
    exact ⟨_, h3⟩
  frz := fun e k ⟨p, va, vb, h1, h2, h3, h4, h5⟩ => by
    subst h2
    exact ⟨p, va, vb, h1, k p (List.mem_singleton.mpr rfl) _ h3, Rp.mono e h4, Rp.mono e h5⟩
instance eqvH2 {α β : Type} [Rp α] [Rp β] [DecidableEq α] [DecidableEq β] [Eqv α] [Eqv β] : Eqv (H2 α β) where
  py x := .list [Eqv.py x.a, Eqv.py x.b]
  ok x := Eqv.ok x.a && Eqv.ok x.b
  dep := max (Eqv.dep α) (Eqv.dep β) + 1
  dp := fun ⟨p, va, vb, h1, h2, h3, h4⟩ => by subst h1; exact .lst (SqL.of h2) (.cons (Eqv.dp h3) (.cons (Eqv.dp h4) .nil))
  lay := fun x h => by
    rw [Bool.and_eq_true] at h
    simp [PyData.canLay0, PyData.canLayAll0, Eqv.lay x.a h.1, Eqv.lay x.b h.2]
  deep := fun x => by
    have h1 := Eqv.deep x.a
    have h2 := Eqv.deep x.b
    simp only [PyData.depth, PyData.depthAll]
    omega
  eqv := fun ⟨a, b⟩ ⟨d, e⟩ => by
    simp only [PyData.eqv, PyData.eqvAll, Eqv.eqv]
    by_cases h1 : a = d <;> by_cases h2 : b = e <;> simp [h1, h2]
instance {α β : Type} [Rp α] [Rp β] [DecidableEq α] [DecidableEq β] [Eqv α] [Eqv β] [EqvT α] [EqvT β] : EqvT (H2 α β) := ⟨fun x => by
  show (Eqv.ok x.a && Eqv.ok x.b) = true
  rw [EqvT.all, EqvT.all]; rfl⟩
end Ty
namespace Ty
open PySem PySem.Spec PyProof.Rows L2
/-! ### a call one of whose arguments may raise -/
structure EAs {A : Type} (X : Cx) (W : WX) (Γ : Ctx) (es : List Expr) (r : As A) (m : M (A ⊕ Exn)) (t : TA) : Prop where
  pa : PA X es t
  sem : ∀ HF0 G HF H σ, Good X.K HF0 G Γ HF H σ → ∀ c, m = .ok c → ∀ Q : List V → Hp → Prop, (match c with
    | .inl a => ∀ vs HF' H', Step HF H HF' H' → r.rep X.K HF' vs a → Q vs H'
    | .inr x => ∀ HF' H' d, Step HF H HF' H' → XD HF' d x → W (clv X.K x.c) d σ H') → t σ H Q
section
variable {X : Cx} {Γ : Ctx} {α A B ρ : Type} [Rp ρ] {e : Expr} {es : List Expr} {p pos : Pos} {te : TE} {t : TA}
end
end Ty

namespace Ty
open PySem PySem.Spec PyProof.Rows L2
/-! ### tuples of ints and texts as keys of dicts -/
class Kt (κ : Type) where
  keys : κ → List Key
  inj : ∀ a b, keys a = keys b → a = b
theorem inl_inj : ∀ a b : List Int, a.map (Sum.inl : Int → Key) = b.map Sum.inl → a = b
  | [], [], _ => rfl
  | [], _ :: _, h => by simp at h
  | _ :: _, [], h => by simp at h
  | x :: a, y :: b, h => by
    rw [List.map_cons, List.map_cons] at h
    obtain ⟨h1, h2⟩ := List.cons.inj h
    rw [Sum.inl.inj h1, inl_inj a b h2]
instance ktL : Kt (List Int) := ⟨fun l => l.map Sum.inl, inl_inj⟩
instance ktP {α β : Type} [Ky α] [Ky β] : Kt (α × β) := ⟨fun p => [Ky.key p.1, Ky.key p.2], fun a b h => by
  obtain ⟨h1, h2⟩ := List.cons.inj h
  obtain ⟨h3, -⟩ := List.cons.inj h2
  exact Prod.ext (Ky.inj _ _ h1) (Ky.inj _ _ h3)⟩
structure Tq (κ : Type) where
  a : κ
  deriving DecidableEq
instance {κ : Type} [Inhabited κ] : Inhabited (Tq κ) := ⟨⟨default⟩⟩
instance rpTq {κ : Type} [Kt κ] : Rp (Tq κ) where
  sh K H v x := ∃ b, v = .ref b ∧ H b = some (.tup ((Kt.keys x.a).map kV))
  mono := fun e ⟨b, h1, h2⟩ => ⟨b, h1, e _ _ h2⟩
structure Dt (κ β : Type) where
  l : List (κ × β)
instance {κ β : Type} : Inhabited (Dt κ β) := ⟨⟨[]⟩⟩
def Ft {κ β : Type} [Kt κ] (R : V → β → Prop) : List (List Key × V) → List (κ × β) → Prop
  | [], [] => True
  | p :: ps, q :: qs => (p.1 = Kt.keys q.1 ∧ R p.2 q.2) ∧ Ft R ps qs
  | _, _ => False
theorem Ft.mono {κ β : Type} [Kt κ] {R R' : V → β → Prop} (h : ∀ v b, R v b → R' v b) : ∀ {ps : List (List Key × V)} {qs : List (κ × β)}, Ft R ps qs → Ft R' ps qs
  | [], [], _ => True.intro
  | _ :: _, _ :: _, ⟨⟨x, y⟩, z⟩ => ⟨⟨x, h _ _ y⟩, Ft.mono h z⟩
  | [], _ :: _, x => x.elim
  | _ :: _, [], x => x.elim
theorem Ft.len {κ β : Type} [Kt κ] {R : V → β → Prop} : ∀ {ps : List (List Key × V)} {qs : List (κ × β)}, Ft R ps qs → ps.length = qs.length
  | [], [], _ => rfl
  | _ :: _, _ :: _, ⟨_, z⟩ => congrArg (· + 1) (Ft.len z)
  | [], _ :: _, x => x.elim
  | _ :: _, [], x => x.elim
instance rpDt {κ β : Type} [Kt κ] [Rp β] : Rp (Dt κ β) where
  sh K H v d := ∃ p kvs, v = .ref p ∧ H p = some (.dT kvs) ∧ Ft (Rp.sh K H) kvs d.l
  mono := fun e ⟨p, kvs, h1, h2, h3⟩ => ⟨p, kvs, h1, e _ _ h2, Ft.mono (fun _ _ h => Rp.mono e h) h3⟩
def Rt {κ β : Type} [Kt κ] (R : V → β → List Addr → Prop) : List (List Key × V) → List (κ × β) → List Addr → Prop
  | [], [], fp => fp = []
  | p :: ps, q :: qs, fp => p.1 = Kt.keys q.1 ∧ ∃ f1 f2, fp = f1 ++ f2 ∧ R p.2 q.2 f1 ∧ Rt R ps qs f2
  | _, _, _ => False
theorem Rt.mono {κ β : Type} [Kt κ] {R R' : V → β → List Addr → Prop} : ∀ {ps : List (List Key × V)} {qs : List (κ × β)} {fp : List Addr}, (∀ v b f, (∀ p ∈ f, p ∈ fp) → R v b f → R' v b f) → Rt R ps qs fp → Rt R' ps qs fp
  | [], [], _, _, e => e
  | p :: ps, q :: qs, fp, h, ⟨x, f1, f2, e, y, z⟩ => ⟨x, f1, f2, e, h _ _ _ (fun p hp => by rw [e]; exact List.mem_append_left _ hp) y,
      Rt.mono (fun v a f hf => h v a f fun p hp => by rw [e]; exact List.mem_append_right _ (hf p hp)) z⟩
  | [], _ :: _, _, _, x => x.elim
  | _ :: _, [], _, _, x => x.elim
theorem Rt.ft {κ β : Type} [Kt κ] {R : V → β → List Addr → Prop} {R' : V → β → Prop} : ∀ {ps : List (List Key × V)} {qs : List (κ × β)} {fp : List Addr}, (∀ v b f, (∀ p ∈ f, p ∈ fp) → R v b f → R' v b) → Rt R ps qs fp → Ft R' ps qs
  | [], [], _, _, _ => True.intro
  | p :: ps, q :: qs, fp, h, ⟨x, f1, f2, e, y, z⟩ => ⟨⟨x, h _ _ _ (fun p hp => by rw [e]; exact List.mem_append_left _ hp) y⟩,
      Rt.ft (fun v a f hf => h v a f fun p hp => by rw [e]; exact List.mem_append_right _ (hf p hp)) z⟩
  | [], _ :: _, _, _, x => x.elim
  | _ :: _, [], _, _, x => x.elim
theorem Rt.dom {κ β : Type} [Kt κ] {R : V → β → List Addr → Prop} {D : Addr → Prop} (h : ∀ v b f, R v b f → ∀ p ∈ f, D p) : ∀ {ps : List (List Key × V)} {qs : List (κ × β)} {fp : List Addr}, Rt R ps qs fp → ∀ p ∈ fp, D p
  | [], [], fp, e, p, hp => by
    have e' : fp = [] := e
    subst e'; cases hp
  | _ :: ps, q :: qs, fp, ⟨x, f1, f2, e, y, z⟩, p, hp => by
    rw [e] at hp
    rcases List.mem_append.mp hp with hp | hp
    · exact h _ _ _ y p hp
    · exact Rt.dom h z p hp
  | [], _ :: _, _, x, _, _ => x.elim
  | _ :: _, [], _, x, _, _ => x.elim
theorem Rt.snoc {κ β : Type} [Kt κ] {R : V → β → List Addr → Prop} {k : κ} {v : V} {b : β} {g : List Addr} (h : R v b g) : ∀ {ps : List (List Key × V)} {qs : List (κ × β)} {fp : List Addr}, Rt R ps qs fp → Rt R (ps ++ [(Kt.keys k, v)]) (qs ++ [(k, b)]) (fp ++ g)
  | [], [], fp, e => by
    have e' : fp = [] := e
    subst e'
    exact ⟨rfl, g, [], by simp, h, rfl⟩
  | p :: ps, q :: qs, fp, ⟨x, f1, f2, e, y, z⟩ => ⟨x, f1, f2 ++ g, by rw [e, List.append_assoc], y, Rt.snoc h z⟩
  | [], _ :: _, _, x => x.elim
  | _ :: _, [], _, x => x.elim
theorem Rt.len {κ β : Type} [Kt κ] {R : V → β → List Addr → Prop} : ∀ {ps : List (List Key × V)} {qs : List (κ × β)} {fp : List Addr}, Rt R ps qs fp → ps.length = qs.length
  | [], [], _, _ => rfl
  | _ :: _, _ :: _, _, ⟨_, _, _, _, _, z⟩ => congrArg (· + 1) (Rt.len z)
  | [], _ :: _, _, x => x.elim
  | _ :: _, [], _, x => x.elim
theorem Rt.toFt {κ β : Type} [Kt κ] [Rp β] {K : PySem.W.Frag} {HF H : Hp} : ∀ {ps : List (List Key × V)} {qs : List (κ × β)} {fp : List Addr}, Rt (Ow.v.rep K HF H) ps qs fp → Ft (Rp.sh K HF) ps qs ∧ fp = []
  | [], [], _, e => ⟨True.intro, e⟩
  | p :: ps, q :: qs, fp, ⟨x, f1, f2, e, ⟨y, e1⟩, z⟩ => by
    obtain ⟨z1, e2⟩ := Rt.toFt z
    exact ⟨⟨⟨x, y⟩, z1⟩, by rw [e, e1, e2]; rfl⟩
  | [], _ :: _, _, x => x.elim
  | _ :: _, [], _, x => x.elim
/-- an own dict whose keys are tuples -/
def Ow.dt {κ β : Type} [Kt κ] [Rp β] (o : Ow β) : Ow (Dt κ β) where
  rep K HF H v d fp := ∃ p kvs fq, v = .ref p ∧ fp = p :: fq ∧ H p = some (.dT kvs) ∧ Rt (o.rep K HF H) kvs d.l fq
  mono := fun e k ⟨p, kvs, fq, h1, h2, h3, h4⟩ => by
    subst h2
    exact ⟨p, kvs, fq, h1, rfl, k p (List.mem_cons_self ..) _ h3, Rt.mono (fun v a f hf h => o.mono e (fun q hq => k q (List.mem_cons_of_mem _ (hf q hq))) h) h4⟩
  dom := fun ⟨p, kvs, fq, h1, h2, h3, h4⟩ q hq => by
    subst h2
    rcases List.mem_cons.mp hq with e | hq
    · exact ⟨_, e ▸ h3⟩
    · exact Rt.dom (fun v a f h => o.dom h) h4 q hq
  frz := fun e k ⟨p, kvs, fq, h1, h2, h3, h4⟩ => by
    subst h2
    exact ⟨p, kvs, h1, k p (List.mem_cons_self ..) _ h3, Rt.ft (fun v a f hf h => o.frz e (fun q hq => k q (List.mem_cons_of_mem _ (hf q hq))) h) h4⟩
instance indDt {κ β : Type} [Kt κ] [Rp β] {o : Ow β} [Ind o] : Ind (Ow.dt (κ := κ) o) where
  ind := fun ⟨p, kvs, fq, h1, h2, h3, h4⟩ => ⟨p, kvs, fq, h1, h2, h3, Rt.mono (fun v a f _ h => Ind.ind h) h4⟩
section
variable {κ β : Type} [Kt κ] [DecidableEq κ] {R : V → β → Prop}
theorem keys_dec (a b : κ) : decide (Kt.keys a = Kt.keys b) = decide (a = b) := by
  by_cases h : a = b
  · subst h; simp
  · rw [decide_eq_false h, decide_eq_false fun e => h (Kt.inj a b e)]
theorem Ft.get (k : κ) : ∀ {ps : List (List Key × V)} {qs : List (κ × β)}, Ft R ps qs → (∀ b, dget qs k = some b → ∃ v, valV ps (Kt.keys k) = some v ∧ R v b) ∧ (dget qs k = none → valV ps (Kt.keys k) = none)
  | [], [], _ => ⟨fun b h => by simp [dget] at h, fun _ => rfl⟩
  | p :: ps, q :: qs, ⟨⟨x, y⟩, z⟩ => by
    have ih := Ft.get k z
    by_cases h : q.1 = k
    · have e1 : dget (q :: qs) k = some q.2 := by simp [dget, h]
      have e2 : valV (p :: ps) (Kt.keys k) = some p.2 := valV_pos (by rw [x, h])
      rw [e1, e2]
      exact ⟨fun b e => ⟨p.2, rfl, by rw [← Option.some.inj e]; exact y⟩, fun e => by cases e⟩
    · have e1 : dget (q :: qs) k = dget qs k := by simp [dget, h]
      have e2 : valV (p :: ps) (Kt.keys k) = valV ps (Kt.keys k) := valV_neg fun e => h (Kt.inj _ _ (by rw [← x, e]))
      rw [e1, e2]
      exact ih
  | [], _ :: _, x => x.elim
  | _ :: _, [], x => x.elim
/-- the own value of a key -/
theorem Rt.get {R : V → β → List Addr → Prop} (k : κ) {b : β} : ∀ {ps : List (List Key × V)} {qs : List (κ × β)} {fp : List Addr}, Rt R ps qs fp → dget qs k = some b → ∃ v f, valV ps (Kt.keys k) = some v ∧ R v b f ∧ (∀ p ∈ f, p ∈ fp) ∧ (fp.Nodup → f.Nodup)
  | [], [], _, _, h => by simp [dget] at h
  | p :: ps, q :: qs, fp, ⟨x, f1, f2, e, y, z⟩, hb => by
    by_cases h : q.1 = k
    · have e1 : dget (q :: qs) k = some q.2 := by simp [dget, h]
      have e2 : valV (p :: ps) (Kt.keys k) = some p.2 := valV_pos (by rw [x, h])
      rw [e1] at hb
      rw [← Option.some.inj hb]
      exact ⟨p.2, f1, e2, y, fun p hp => by rw [e]; exact List.mem_append_left _ hp, fun n => by rw [e] at n; exact (List.nodup_append.mp n).1⟩
    · have e1 : dget (q :: qs) k = dget qs k := by simp [dget, h]
      have e2 : valV (p :: ps) (Kt.keys k) = valV ps (Kt.keys k) := valV_neg fun e => h (Kt.inj _ _ (by rw [← x, e]))
      rw [e1] at hb
      obtain ⟨v, f, a1, a2, a3, a4⟩ := Rt.get k z hb
      exact ⟨v, f, by rw [e2]; exact a1, a2, fun p hp => by rw [e]; exact List.mem_append_right _ (a3 p hp), fun n => by rw [e] at n; exact a4 (List.nodup_append.mp n).2.1⟩
  | [], _ :: _, _, x, _ => x.elim
  | _ :: _, [], _, x, _ => x.elim
theorem Rt.put {R : V → β → List Addr → Prop} (k : κ) {v : V} {b : β} {g fp : List Addr} (h : R v b g) {ps : List (List Key × V)} {qs : List (κ × β)} (f : Rt R ps qs fp) (hn : dget qs k = none) : Rt R (putK ps (Kt.keys k) v) (qs ++ [(k, b)]) (fp ++ g) := by
  have : (ps.any fun p => decide (p.1 = Kt.keys k)) = false := by
    induction ps generalizing qs fp with
    | nil => rfl
    | cons p ps ih =>
      cases qs with
      | nil => exact f.elim
      | cons q qs =>
        obtain ⟨x, f1, f2, e, y, z⟩ := f
        have hq : q.1 ≠ k := fun e => by simp [dget, e] at hn
        have e1 : dget (q :: qs) k = dget qs k := by simp [dget, hq]
        rw [List.any_cons, ih z (by rw [← e1]; exact hn), x, keys_dec, decide_eq_false hq]; rfl
  unfold putK
  rw [this, if_neg (by decide)]
  exact Rt.snoc h f
theorem Ft.any (k : κ) : ∀ {ps : List (List Key × V)} {qs : List (κ × β)}, Ft R ps qs → (ps.any fun p => decide (p.1 = Kt.keys k)) = qs.any fun p => decide (p.1 = k)
  | [], [], _ => rfl
  | p :: ps, q :: qs, ⟨⟨x, y⟩, z⟩ => by rw [List.any_cons, List.any_cons, Ft.any k z, x, keys_dec]
  | [], _ :: _, x => x.elim
  | _ :: _, [], x => x.elim
theorem Ft.app : ∀ {ps ps' : List (List Key × V)} {qs qs' : List (κ × β)}, Ft R ps qs → Ft R ps' qs' → Ft R (ps ++ ps') (qs ++ qs')
  | [], _, [], _, _, h => h
  | _ :: _, _, _ :: _, _, ⟨x, y⟩, h => ⟨x, Ft.app y h⟩
  | [], _, _ :: _, _, x, _ => x.elim
  | _ :: _, _, [], _, x, _ => x.elim
theorem Ft.upd (k : κ) {v : V} {b : β} (h : R v b) : ∀ {ps : List (List Key × V)} {qs : List (κ × β)}, Ft R ps qs → Ft R (ps.map fun p => if p.1 = Kt.keys k then (p.1, v) else p) (qs.map fun p => if p.1 = k then (k, b) else p)
  | [], [], _ => True.intro
  | p :: ps, q :: qs, ⟨⟨x, y⟩, z⟩ => by
    refine ⟨?_, Ft.upd k h z⟩
    show (if p.1 = Kt.keys k then (p.1, v) else p).1 = Kt.keys (if q.1 = k then (k, b) else q).1 ∧ R (if p.1 = Kt.keys k then (p.1, v) else p).2 (if q.1 = k then (k, b) else q).2
    by_cases e : q.1 = k
    · rw [if_pos (by rw [x, e]), if_pos e]
      exact ⟨by rw [x, e], h⟩
    · rw [if_neg (fun w => e (Kt.inj _ _ (by rw [← x, w]))), if_neg e]
      exact ⟨x, y⟩
  | [], _ :: _, x => x.elim
  | _ :: _, [], x => x.elim
theorem Ft.put (k : κ) {v : V} {b : β} (h : R v b) {ps : List (List Key × V)} {qs : List (κ × β)} (f : Ft R ps qs) : Ft R (putK ps (Kt.keys k) v) (dput qs k b) := by
  unfold putK dput
  rw [f.any k]
  by_cases c : (qs.any fun p => decide (p.1 = k)) = true
  · rw [if_pos c, if_pos c]; exact f.upd k h
  · rw [if_neg c, if_neg c]
    exact f.app ⟨⟨rfl, h⟩, True.intro⟩
end
/-! ### {tuple: value} -/
section
variable {X : Cx} {Γ : Ctx} {S L ρ α β κ γ A B S' : Type} [Rp ρ] {o : Ow ρ} {Γo : S → Ctx} {ΓL : L → Ctx} {a b c e f : Expr} {es : List Expr} {pos p p1 p2 apos cpos : Pos} {ta tb tc te tf : TE} {t : TA} {sts : List Stmt} {tr tr' : TS}
theorem hu0 {A : Around} (h : A.units + 64 < cLine) : A.units < cLine := by omega
end
end Ty

namespace Ty
open PySem PySem.Spec PyProof.Rows L2
section
variable {X : Cx} {Γ : Ctx} {S L ρ α β κ γ A B S' : Type} [Rp ρ] {o : Ow ρ} {Γo : S → Ctx} {ΓL : L → Ctx} {a b c e f : Expr} {es : List Expr} {pos p p1 p2 apos cpos : Pos} {ta tb tc te tf : TE} {t : TA} {sts : List Stmt} {tr tr' : TS}
end
end Ty

/-! ## Ty67: some statements that look at own things, which stay own -/
namespace Ty
open PySem PySem.Spec PyProof.Rows L2
section
variable {X : Cx} {Γ : Ctx} {S L ρ α β κ γ A B S' : Type} [Rp ρ] {o : Ow ρ} {Γo : S → Ctx} {ΓL : L → Ctx} {a b c e f : Expr} {es : List Expr} {pos p p1 p2 apos cpos : Pos} {ta tb tc te tf : TE} {t : TA} {sts : List Stmt} {tr tr' : TS}
end
end Ty

/-! ## Ty68: None, a list of whatever things, or a text and a number -/
namespace Ty
open PySem PySem.Spec PyProof.Rows L2
inductive Opq where
  | o
  deriving DecidableEq
instance : Inhabited Opq := ⟨.o⟩
instance : Rp Opq where
  sh _ _ _ _ := True
  mono _ h := h
inductive Xv where
  | n
  | l (as : List Opq)
  | p (x : Str × Int)
instance : Inhabited Xv := ⟨.n⟩
instance : Rp Xv where
  sh K H v j := match j with
    | .n => v = .non
    | .l xs => Rp.sh K H v xs
    | .p x => Rp.sh K H v x
  mono {K H H' v a} e h := by
    cases a with
    | n => exact h
    | l xs => exact Rp.mono (α := List Opq) e h
    | p x => exact Rp.mono (α := Str × Int) e h
section
variable {X : Cx} {Γ : Ctx} {α A B ρ : Type} [Rp ρ] {e : Expr} {es : List Expr} {p pos : Pos} {te : TE} {t : TA}
end
end Ty

/-! ## Ty69: a def that may raise and tells nothing -/
namespace Ty
open PySem PySem.Spec PyProof.Rows L2
section
variable {P : Program} {w : World} {K : PySem.W.Frag} {mg : Str → Option Value} {base : Heap}
end
end Ty

/-! ## Ty70: the keys of a dict of tuples as a list; tuples of ints sorted -/
namespace Ty
open PySem PySem.Spec PyProof.Rows L2
/-! ### the order of lists of ints -/
/-! ### sorted -/
section
variable {X : Cx} {pins : List (Addr × Obj)} {σ : L2.St} {H : Hp} {s : Shared}
end
section
variable {X : Cx} {Γ : Ctx} {α β κ : Type} {e : Expr} {p pos : Pos} {te : TE}
end
end Ty

/-! ## Ty71: three things told as one; list[::-1] -/
namespace L2
open PySem PySem.Spec PyProof.Rows
section
variable {X : Cx} {e : Expr} {te : TE}
end
end L2
namespace Ty
open PySem PySem.Spec PyProof.Rows L2
/-- a list of whatever -/
inductive Lsv where
  | l
  deriving DecidableEq
instance : Inhabited Lsv := ⟨.l⟩
instance : Rp Lsv where
  sh K H v _ := ∃ p vs, v = .ref p ∧ H p = some (.lst vs)
  mono := fun {K H H' v a} e ⟨p, vs, h1, h2⟩ => ⟨p, vs, h1, e _ _ h2⟩
instance : Kd Lsv := ⟨"list", fun ⟨p, vs, e, h⟩ => by subst e; exact .base (.lst h)⟩
instance kdT3 {α β γ : Type} [Rp α] [Rp β] [Rp γ] : Kd (T3 α β γ) := ⟨"tuple", fun ⟨p, va, vb, vc, e, h, _⟩ => by
  subst e
  rcases h with (h | ⟨o, h⟩) | ⟨o, its, n, e, c, _⟩
  · exact .base (.tup h)
  · exact .fTuple h
  · exact .kTuple e c⟩
instance eqvT3 {α β γ : Type} [Rp α] [Rp β] [Rp γ] [DecidableEq α] [DecidableEq β] [DecidableEq γ] [Eqv α] [Eqv β] [Eqv γ] : Eqv (T3 α β γ) where
  py x := .tuple [Eqv.py x.a, Eqv.py x.b, Eqv.py x.c]
  ok x := Eqv.ok x.a && (Eqv.ok x.b && Eqv.ok x.c)
  dep := max (Eqv.dep α) (max (Eqv.dep β) (Eqv.dep γ)) + 1
  dp := fun ⟨p, va, vb, vc, h1, h2, h3, h4, h5⟩ => by subst h1; exact .tup h2 (.cons (Eqv.dp h3) (.cons (Eqv.dp h4) (.cons (Eqv.dp h5) .nil)))
  lay := fun x h => by
    rw [Bool.and_eq_true, Bool.and_eq_true] at h
    simp [PyData.canLay0, PyData.canLayAll0, Eqv.lay x.a h.1, Eqv.lay x.b h.2.1, Eqv.lay x.c h.2.2]
  deep := fun x => by
    have h1 := Eqv.deep x.a
    have h2 := Eqv.deep x.b
    have h3 := Eqv.deep x.c
    simp only [PyData.depth, PyData.depthAll]
    omega
  eqv := fun ⟨a, b, c⟩ ⟨d, e, f⟩ => by
    simp only [PyData.eqv, PyData.eqvAll, Eqv.eqv, T3.mk.injEq]
    by_cases h1 : a = d <;> by_cases h2 : b = e <;> by_cases h3 : c = f <;> simp [h1, h2, h3]
instance {α β γ : Type} [Rp α] [Rp β] [Rp γ] [DecidableEq α] [DecidableEq β] [DecidableEq γ] [Eqv α] [Eqv β] [Eqv γ] [EqvT α] [EqvT β] [EqvT γ] : EqvT (T3 α β γ) := ⟨fun a => by
  show (Eqv.ok a.a && (Eqv.ok a.b && Eqv.ok a.c)) = true
  rw [EqvT.all, EqvT.all, EqvT.all]; rfl⟩
instance eqvOpL {α : Type} [Rp α] [DecidableEq α] [Eqv α] : Eqv (Op (List α)) where
  py x := match x.o with | none => .none | some a => Eqv.py a
  ok x := match x.o with | none => true | some a => Eqv.ok a
  dep := Eqv.dep (List α)
  dp := fun {K H v a} h => by
    obtain ⟨o⟩ := a
    cases o with
    | none => have h : v = .non := h; subst h; exact .non
    | some a => exact Eqv.dp (α := List α) h
  lay := fun x h => by
    obtain ⟨o⟩ := x
    cases o with
    | none => simp [PyData.canLay0]
    | some a => exact Eqv.lay (α := List α) a h
  deep := fun x => by
    obtain ⟨o⟩ := x
    cases o with
    | none => simp [PyData.depth]
    | some a => exact Eqv.deep (α := List α) a
  eqv := fun ⟨a⟩ ⟨b⟩ => by
    cases a with
    | none =>
      cases b with
      | none => simp [PyData.eqv]
      | some b =>
        show PyData.eqv .none (.list (b.map Eqv.py)) = _
        simp [PyData.eqv]
    | some a =>
      cases b with
      | none =>
        show PyData.eqv (.list (a.map Eqv.py)) .none = _
        simp [PyData.eqv]
      | some b =>
        show PyData.eqv (Eqv.py a) (Eqv.py b) = _
        rw [Eqv.eqv]
        by_cases h : a = b <;> simp [h]
instance {α : Type} [Rp α] [DecidableEq α] [Eqv α] [EqvT α] : EqvT (Op (List α)) := ⟨fun ⟨a⟩ => by
  cases a with
  | none => rfl
  | some a => exact EqvT.all a⟩
section
variable {X : Cx} {Γ : Ctx} {S L ρ α β γ A B S' : Type} {a b c e : Expr} {es : List Expr} {pos p apos cpos p1 p2 : Pos} {ta tb te : TE} {t : TA} [Rp ρ] {o : Ow ρ} {Γo : S → Ctx} {ΓL : L → Ctx} {sts : List Stmt} {tr tr' : TS}
end
end Ty

/-! ## Ty72: three own things handed back as one; own parts of a tuple changed -/
namespace Ty
open PySem PySem.Spec PyProof.Rows L2
theorem Holds.pull {K : PySem.W.Frag} {HF H : Hp} {Γ : Ctx} {σ : L2.St} {fs : List Addr} {i : Nat} {α : Type} [Rp α] {u : Ow α} {x : α} (h1 : Holds K HF H Γ σ fs) (nd : fs.Nodup) (hl : look Γ i = .mk u x) :
    ∃ v fo fr, σ[i]? = some (some v) ∧ u.rep K HF H v x fo ∧ fo.Nodup ∧ Holds K HF H (Ty.put Γ i .un) σ fr ∧ fr.Nodup ∧ (∀ p ∈ fo, p ∈ fs) ∧ (∀ p ∈ fr, p ∈ fs) ∧ ∀ p ∈ fo, p ∉ fr := by
  have hjl := look_lt' hl
  obtain ⟨fo, fr', q1, q2, q3, q4⟩ := h1.put hjl
  obtain ⟨n1, n2, n3⟩ := q3 nd
  rw [hl] at q1
  obtain ⟨v, e1, r1⟩ := q1
  have hlen := h1.len
  have hσ : σ[i]? = some (some v) := by
    rw [List.getElem?_eq_getElem (by omega)]
    rw [List.getD_eq_getElem?_getD, List.getElem?_eq_getElem (by omega)] at e1
    exact congrArg some e1
  obtain ⟨fs', w1, w2, w3⟩ := q4 (HF' := HF) (H' := H) (s := .un) (x := some v) (f := []) (fun _ h => h) (fun _ h => h) rfl
  rw [set_self hσ] at w1
  have inr : ∀ p, p ∈ fs' → p ∈ fr' := fun p hp => ((w2 p).mp hp).elim (fun z => by cases z) id
  exact ⟨v, fo, fs', hσ, r1, n2, w1, w3 n1 List.nodup_nil (fun p hp => by cases hp), fun p hp => (q2 p).mpr (.inl hp), fun p hp => (q2 p).mpr (.inr (inr p hp)), fun p hp z => n3 p hp (inr p z)⟩
section
variable {X : Cx} {Γ : Ctx} {S L ρ α β γ A B S' : Type} {a b c e : Expr} {es : List Expr} {pos p apos cpos p1 p2 : Pos} {ta tb te : TE} {t : TA} {sts : List Stmt} {tr tr' : TS}
end
end Ty

/-! ## Ty73: sorted of lists of whole numbers -/
namespace Ty
open PySem PySem.Spec PyProof.Rows L2
section
variable {X : Cx} {pins : List (Addr × Obj)} {σ : L2.St} {H : Hp} {s : Shared}
end
/-- a thing and its own value -/
structure Idr (α : Type) where
  v : V
  a : α
instance {α : Type} [Inhabited α] : Inhabited (Idr α) := ⟨⟨.non, default⟩⟩
instance {α : Type} [Rp α] : Rp (Idr α) where
  sh K H v x := v = x.v ∧ Rp.sh K H v x.a
  mono := fun e h => ⟨h.1, Rp.mono e h.2⟩
section
variable {X : Cx} {Γ : Ctx} {S L ρ α β γ A S' : Type} {a b e f : Expr} {es : List Expr} {pos p p1 p2 q1 : Pos} {ta tb te tf : TE} {t : TA} {sts : List Stmt} {tr tr' : TS}
end
end Ty

/-! ## Ty74: len(set(text)), len(set(list of texts)) -/
namespace Ty
open PySem PySem.Spec PyProof.Rows L2
/-- each once -/
def dd : List Str → List Str
  | [] => []
  | x :: l => if x ∈ dd l then dd l else x :: dd l
section
variable {P : Program} {w : World} {A : Around} {E : Value → Shared → Prop} {s : Shared} {a : Addr} {S : Str → Bool} {n : Nat}
end
section
variable {X : Cx} {Γ : Ctx} {a : Expr} {pos p p2 q : Pos} {ta : TE}
end
end Ty

/-! ## Ty75: zip of two texts -/
namespace RZ
open PySem
open PySem.Sem (wp)
set_option maxHeartbeats 1000000
section
variable {prog : Program} {w : World} {A : Around} {E : Value → Shared → Prop} {s : Shared}
theorem nextOf_ascii_end {it : Addr} {x : Str} {t : Tok} {i : Nat} {Q : Value → Shared → Prop} (hh : A.handled = none)
    (hit : s.heap.IsStrIter it "str_ascii_iterator" x t i) (hx : x.cps[i]? = none)
    (hE : ∀ h' e, Heap.ExtBut it s.heap h' → (∃ o, h'.get? e = some o ∧ o.cls = .type "StopIteration") → E (.ref e) { s with heap := h' }) :
    wpAny (model prog w) A (Builtin.SmallTypes.nextOf (.ref it)) Q E s := by
  obtain ⟨o, ho, hc, hd⟩ := id hit
  unfold Builtin.SmallTypes.nextOf
  refine wpAny_bind (wpAny_callSpecial?_slot (name := Str.ofString "__next__") hit.typeIs F.slot_str_ascii_iterator_next
    (wpAny_call_entry F.slot_str_ascii_iterator_next hit.typeIs F.entry_str_ascii_iterator_next ?_ (F.args_str_ascii_iterator_next_1 _)))
  show wpAny _ _ (field (.ref it) 0 >>= _) _ _ s
  refine wpAny_bind (wpAny_field ho hd (x := .str x t) rfl ?_)
  show wpAny _ _ (field (.ref it) 1 >>= _) _ _ s
  refine wpAny_bind (wpAny_field ho hd (x := .int i 0) rfl ?_)
  simp only [Int.toNat_natCast, hx]
  refine wpAny_bind (wpAny_rule (wpAny_bind (wpAny_setField ho hd (by simp) (wpAny_bind (wpAny_letGo ?_)))))
  show wpAny _ _ (newExc (.type "StopIteration") [] >>= _) _ _ _
  refine wpAny_bind ?_
  simp only [newExc, newTuple]
  refine wpAny_bind (wpAny_newObj_type ?_ (by size_fits))
  refine wpAny_bind (m := firstArgMember _ _) (wpAny_of_eq (a := Value.none) (by first | rfl | (simp only [firstArgMember]; rfl)) ?_)
  refine wpAny_newObj_type ?_ (by size_fits)
  simp only [raiseNew]
  refine wpAny_bind (wpAny_handled ?_)
  first | rw [show A.in1.handled = none from hh] | rw [hh]
  refine wpAny_bind (wpAny_pure (wpAny_throw ?_))
  exact hE _ _ (((Heap.SameBut.update ..).extBut.push _).push _) ⟨_, Heap.get?_push_size _ rfl, rfl⟩
theorem nextOf_wide_end {it : Addr} {x : Str} {t : Tok} {i : Nat} {Q : Value → Shared → Prop} (hh : A.handled = none)
    (hit : s.heap.IsStrIter it "str_iterator" x t i) (hx : x.cps[i]? = none)
    (hE : ∀ h' e, Heap.ExtBut it s.heap h' → (∃ o, h'.get? e = some o ∧ o.cls = .type "StopIteration") → E (.ref e) { s with heap := h' }) :
    wpAny (model prog w) A (Builtin.SmallTypes.nextOf (.ref it)) Q E s := by
  obtain ⟨o, ho, hc, hd⟩ := id hit
  unfold Builtin.SmallTypes.nextOf
  refine wpAny_bind (wpAny_callSpecial?_slot (name := Str.ofString "__next__") hit.typeIs F.slot_str_iterator_next
    (wpAny_call_entry F.slot_str_iterator_next hit.typeIs F.entry_str_iterator_next ?_ (F.args_str_iterator_next_1 _)))
  show wpAny _ _ (field (.ref it) 0 >>= _) _ _ s
  refine wpAny_bind (wpAny_field ho hd (x := .str x t) rfl ?_)
  show wpAny _ _ (field (.ref it) 1 >>= _) _ _ s
  refine wpAny_bind (wpAny_field ho hd (x := .int i 0) rfl ?_)
  simp only [Int.toNat_natCast, hx]
  refine wpAny_bind (wpAny_rule (wpAny_bind (wpAny_setField ho hd (by simp) (wpAny_bind (wpAny_letGo ?_)))))
  show wpAny _ _ (newExc (.type "StopIteration") [] >>= _) _ _ _
  refine wpAny_bind ?_
  simp only [newExc, newTuple]
  refine wpAny_bind (wpAny_newObj_type ?_ (by size_fits))
  refine wpAny_bind (m := firstArgMember _ _) (wpAny_of_eq (a := Value.none) (by first | rfl | (simp only [firstArgMember]; rfl)) ?_)
  refine wpAny_newObj_type ?_ (by size_fits)
  simp only [raiseNew]
  refine wpAny_bind (wpAny_handled ?_)
  first | rw [show A.in1.handled = none from hh] | rw [hh]
  refine wpAny_bind (wpAny_pure (wpAny_throw ?_))
  exact hE _ _ (((Heap.SameBut.update ..).extBut.push _).push _) ⟨_, Heap.get?_push_size _ rfl, rfl⟩

def TyS (ty : String) : Prop := ty = "str_ascii_iterator" ∨ ty = "str_iterator"
theorem nextOf_str_end {it : Addr} {ty : String} {x : Str} {t : Tok} {i : Nat} {Q : Value → Shared → Prop} (hh : A.handled = none) (hty : TyS ty)
    (hit : s.heap.IsStrIter it ty x t i) (hx : x.cps[i]? = none)
    (hE : ∀ h' e, Heap.ExtBut it s.heap h' → (∃ o, h'.get? e = some o ∧ o.cls = .type "StopIteration") → E (.ref e) { s with heap := h' }) :
    wpAny (model prog w) A (Builtin.SmallTypes.nextOf (.ref it)) Q E s := by
  rcases hty with e | e
  · subst e; exact nextOf_ascii_end hh hit hx hE
  · subst e; exact nextOf_wide_end hh hit hx hE
end
section
variable {prog : Program} {w : World} {A : Around} {E : Value → Shared → Prop} {s : Shared}
end
end RZ
namespace RZ
open PySem PySem.Spec PyProof.Rows L2
end RZ
namespace Ty
open PySem PySem.Spec PyProof.Rows L2
section
variable {X : Cx} {Γ : Ctx} {a b : Expr} {pos p : Pos} {ta tb : TE}
end
end Ty

/-! ## Vdesk (under way): an own instance with a text and an own list of texts, whose fields change -/
namespace Ty
open PySem PySem.Spec PyProof.Rows L2
/-- a desk: its class's name, its word, the words ahead -/
structure Dsk where
  c : Str
  word : Str
  ahead : List Str
instance : Inhabited Dsk := ⟨⟨"", "", []⟩⟩
instance : Rp Dsk where
  sh K H v d := ∃ a dx al, v = .ref a ∧ H a = some (.ins (He.ga K d.c) dx [("word", .str d.word), ("ahead", .ref al)]) ∧ H al = some (.lst (d.ahead.map V.str))
  mono := fun s ⟨a, dx, al, h1, h2, h3⟩ => ⟨a, dx, al, h1, s _ _ h2, s _ _ h3⟩
def Ow.dsk : Ow Dsk where
  rep K HF H v d fp := ∃ a dx al, v = .ref a ∧ fp = [a, dx, al] ∧ H a = some (.ins (He.ga K d.c) dx [("word", .str d.word), ("ahead", .ref al)]) ∧ H dx = some (.own a) ∧ H al = some (.lst (d.ahead.map V.str))
  mono := fun e k ⟨a, dx, al, h1, h2, h3, h4, h5⟩ => by
    subst h2
    exact ⟨a, dx, al, h1, rfl, k a (by simp) _ h3, k dx (by simp) _ h4, k al (by simp) _ h5⟩
  dom := fun ⟨a, dx, al, h1, h2, h3, h4, h5⟩ q hq => by
    subst h2
    rcases List.mem_cons.mp hq with e | hq
    · exact ⟨_, e ▸ h3⟩
    · rcases List.mem_cons.mp hq with e | hq
      · exact ⟨_, e ▸ h4⟩
      · rw [List.mem_singleton.mp hq]; exact ⟨_, h5⟩
  frz := fun e k ⟨a, dx, al, h1, h2, h3, h4, h5⟩ => by
    subst h2
    exact ⟨a, dx, al, h1, k a (by simp) _ h3, k al (by simp) _ h5⟩
instance : Ind Ow.dsk where
  ind := fun h => h
/-- what is known of the class -/
structure DskC (K : PySem.W.Frag) (c : Str) : Prop where
  cl : Cls K (He.ga K c)
  nw : NoAttr K (He.ga K c) "word"
  na : NoAttr K (He.ga K c) "ahead"
section
variable {X : Cx} {Γ : Ctx} {S L ρ α : Type} [Rp ρ] {o : Ow ρ} {Γo : S → Ctx} {ΓL : L → Ctx} {e : Expr} {pos p apos cpos p2 : Pos} {te : TE} {sts : List Stmt} {tr : TS}
end
section
variable {P : Program} {w : World} {K : PySem.W.Frag} {mg : Str → Option Value} {base : Heap}
end
section
variable {X : Cx} {Γ : Ctx} {pos p : Pos}
end
/-! ### methods that change the desk and tell a text -/
structure Rs where
  d : Dsk
  s : Str
instance : Inhabited Rs := ⟨⟨default, ""⟩⟩
instance : Rp Rs where
  sh _ _ v x := v = .str x.s
  mono := fun _ h => h
/-- a text told, and the desk at a0 as it is now -/
def Ow.rs (a0 : V) : Ow Rs where
  rep K HF H v x fp := v = .str x.s ∧ Ow.dsk.rep K HF H a0 x.d fp
  mono := fun e k ⟨h0, h⟩ => ⟨h0, Ow.dsk.mono e k h⟩
  dom := fun ⟨_, h⟩ => Ow.dsk.dom h
  frz := fun _ _ ⟨h0, _⟩ => h0
section
variable {X : Cx} {Γ : Ctx} {S L : Type} {Γo : S → Ctx} {ΓL : L → Ctx} {e : Expr} {pos : Pos} {te : TE}
end
section
variable {P : Program} {w : World} {K : PySem.W.Frag} {mg : Str → Option Value} {base : Heap}
end
section
variable {X : Cx} {Γ : Ctx} {S L ρ A : Type} [Rp ρ] {o : Ow ρ} {Γo : S → Ctx} {ΓL : L → Ctx} {e : Expr} {es : List Expr} {pos cpos apos px py : Pos} {t : TA} {sts : List Stmt} {tr : TS}
end
end Ty
/-! ## Vdesk2 (under way): a method that changes the desk and tells a text, or raises -/
namespace Ty
open PySem PySem.Spec PyProof.Rows L2
/-- a text told, with the desk as it is now; or the class of what is raised, with the desk -/
inductive Rx where
  | told (r : Rs)
  | bad (d : Dsk) (x : Exn)
instance : Inhabited Rx := ⟨.told default⟩
def Rx.d : Rx → Dsk
  | .told r => r.d
  | .bad d _ => d
def Rx.fin (K : PySem.W.Frag) (Q : VK) (E : XK) (HF H : Hp) : Rx → Prop
  | .told r => Q (.str r.s) H
  | .bad _ x => ∀ dd, XD HF dd x → E (clv K x.c) dd H
instance : Rp Rx where
  sh _ _ v x := match x with
    | .told r => v = .str r.s
    | .bad _ _ => True
  mono := fun {K H H' v a} e h => by
    cases a with
    | told r => exact h
    | bad d c => trivial
def Ow.rx (a0 : V) (cl : Str → Value) (E : XK) : Ow Rx where
  rep K HF H v x fp := match x with
    | .told r => (Ow.rs a0).rep K HF H v r fp
    | .bad d x => Ow.dsk.rep K HF H a0 d fp ∧ ∃ dd, v = vD dd ∧ XD HF dd x
  mono := fun {K HF HF' H H' v a fp} e k h => by
    cases a with
    | told r => exact (Ow.rs a0).mono e k h
    | bad d c =>
      obtain ⟨h1, dd, h2, h3⟩ := h
      exact ⟨Ow.dsk.mono e k h1, dd, h2, h3.mono e⟩
  dom := fun {K HF H v a fp} h p hp => by
    cases a with
    | told r => exact (Ow.rs a0).dom h p hp
    | bad d c => exact Ow.dsk.dom h.1 p hp
  frz := fun {K HF HF' H v a fp} e k h => by
    cases a with
    | told r => exact (Ow.rs a0).frz e k h
    | bad d c => trivial
  out x R v H := match x with
    | .told _ => R v H
    | .bad _ x => ∃ dd, v = vD dd ∧ E (cl x.c) dd H
section
variable {X : Cx} {Γ : Ctx} {S L : Type} {Γo : S → Ctx} {ΓL : L → Ctx} {e : Expr} {pos p p2 pos2 : Pos} {te : TE} {E : XK}
end
section
variable {P : Program} {w : World} {K : PySem.W.Frag} {mg : Str → Option Value} {base : Heap}
end
end Ty

/-! ## Vdesk3 (under way): the call of a method that changes the desk and tells a text, or raises -/
namespace Ty
open PySem PySem.Spec PyProof.Rows L2
def Rx.finW (K : PySem.W.Frag) (W : WX) (Q : VK) (σ : L2.St) (HF H : Hp) : Rx → Prop
  | .told r => Q (.str r.s) H
  | .bad _ x => ∀ dd, XD HF dd x → W (clv K x.c) dd σ H
/-- an expression that changes the desk in slot i, and tells a text or raises -/
structure EXd (X : Cx) (W : WX) (Γ : Ctx) (e : Expr) (i : Nat) (m : M Rx) (t : TE) : Prop where
  pe : PE X e t
  sem : ∀ HF0 G HF H σ, Good X.K HF0 G Γ HF H σ → ∀ c, m = .ok c → ∀ Q : VK, (∀ HF' H', Good X.K HF0 G (put Γ i (.mk Ow.dsk c.d)) HF' H' σ → Same HF HF' → c.finW X.K W Q σ HF' H') → t σ H Q
section
variable {X : Cx} {Γ : Ctx} {S L ρ A : Type} [Rp ρ] {o : Ow ρ} {Γo : S → Ctx} {ΓL : L → Ctx} {e : Expr} {es : List Expr} {pos cpos apos px py : Pos} {t : TA} {sts : List Stmt} {tr : TS}
end
end Ty
/-! ## return x.m(e) in a method of the desk, where e may raise and m changes the desk -/
namespace Ty
open PySem PySem.Spec PyProof.Rows L2
section
variable {X : Cx} {Γ : Ctx} {S L A : Type} {Γo : S → Ctx} {ΓL : L → Ctx} {e : Expr} {pos cpos apos px : Pos} {te : TE} {E : XK}
end
end Ty
/-! ## Vdesk5 (under way): expressions that may raise, in a method of the desk: `return e`, `x = e` -/
namespace Ty
open PySem PySem.Spec PyProof.Rows L2
section
variable {X : Cx} {Γ : Ctx} {S L α : Type} {Γo : S → Ctx} {ΓL : L → Ctx} {e : Expr} {pos : Pos} {te : TE} {tr : TS} {sts : List Stmt} {E : XK}
end
end Ty
/-! ## Vdesk6 (under way): return x.m(e, ..) in a method of the desk, where m may change the desk, tell or raise -/
namespace Ty
open PySem PySem.Spec PyProof.Rows L2
section
variable {X : Cx} {Γ : Ctx} {S L A : Type} {Γo : S → Ctx} {ΓL : L → Ctx} {e : Expr} {es : List Expr} {pos cpos apos px : Pos} {t : TA} {E : XK}
end
end Ty

/-! ## Ty78: expressions and tests that may change own desks; defs that are handed a desk and hand back a flat value -/
namespace Ty
open PySem PySem.Spec PyProof.Rows L2
/-- a flat value told, with the desk as it is now -/
structure Rg (ρ : Type) where
  d : Dsk
  s : ρ
instance {ρ : Type} [Inhabited ρ] : Inhabited (Rg ρ) := ⟨⟨default, default⟩⟩
instance {ρ : Type} [Fl ρ] : Rp (Rg ρ) where
  sh _ _ v x := v = Fl.enc x.s
  mono := fun _ h => h
def Ow.rg {ρ : Type} [Fl ρ] (a0 : V) : Ow (Rg ρ) where
  rep K HF H v x fp := v = Fl.enc x.s ∧ Ow.dsk.rep K HF H a0 x.d fp
  mono := fun e k ⟨h0, h⟩ => ⟨h0, Ow.dsk.mono e k h⟩
  dom := fun ⟨_, h⟩ => Ow.dsk.dom h
  frz := fun _ _ ⟨h0, _⟩ => h0
section
variable {X : Cx} {Γ : Ctx} {S L ρ : Type} [Fl ρ] {Γo : S → Ctx} {ΓL : L → Ctx} {e : Expr} {pos : Pos} {te : TE}
end
section
variable {P : Program} {w : World} {K : PySem.W.Frag} {mg : Str → Option Value} {base : Heap}
/-- what the callee did to the desk, told in the caller -/
theorem Good.called {Γ : Ctx} {HF0 G HF1 H1 : Hp} {σ : L2.St} {i : Nat} {xv : Dsk} {v : V} (g1 : Good K HF0 G Γ HF1 H1 σ) (hl : look Γ i = .mk Ow.dsk xv) (hlt : i < Γ.length) (hσ : σ[i]? = some (some v)) :
    ∃ fo, Ow.dsk.rep K HF1 H1 v xv fo ∧ fo.Nodup ∧ (∀ p ∈ fo, HF1 p = none) ∧ ∀ (d' : Dsk) HF' H' fp', Same HF1 HF' → Same HF' H' → (∀ p u, H1 p = some u → p ∉ fo → H' p = some u) → (∀ p u, HF' p = some u → HF1 p = none → H1 p = none ∨ p ∈ fo) → Ow.dsk.rep K HF' H' v d' fp' → fp'.Nodup → (∀ p ∈ fp', HF' p = none ∧ (H1 p = none ∨ p ∈ fo)) →
      Good K HF0 G (put Γ i (.mk Ow.dsk d')) HF' H' σ := by
  obtain ⟨fs, h1, h2, h3⟩ := g1.held
  obtain ⟨fo, fr, q1, q2, q3, q4⟩ := h1.put hlt
  obtain ⟨n1, n2, n3⟩ := q3 h2
  rw [hl] at q1
  obtain ⟨v', e3, rr⟩ := q1
  have hv' : v' = v := by
    rw [List.getD_eq_getElem?_getD, hσ] at e3
    injection e3 with e3
    exact e3.symm
  subst hv'
  have hfo : ∀ p ∈ fo, HF1 p = none ∧ G p = none := fun p hp => h3 p ((q2 p).mpr (.inl hp))
  have hfr : ∀ p ∈ fr, HF1 p = none ∧ G p = none := fun p hp => h3 p ((q2 p).mpr (.inr hp))
  have dfr : ∀ p ∈ fr, ∃ o, H1 p = some o := fun p hp => h1.dom p ((q2 p).mpr (.inr hp))
  refine ⟨fo, rr, n2, fun p hp => (hfo p hp).1, fun d' HF' H' fp' k1 k2 k3 k4 k5 k6 k7 => ?_⟩
  have nfr : ∀ p ∈ fr, p ∉ fo := fun p hp hq => n3 p hq hp
  have keep : ∀ p ∈ fr, ∀ o, H1 p = some o → H' p = some o := fun p hp o e => k3 p o e (nfr p hp)
  obtain ⟨fs', w1, w2, w3⟩ := q4 (HF' := HF') (H' := H') (s := .mk Ow.dsk d') (x := some v') (f := fp') (fun hp h => h.mono k1 fun p z => keep p (hp p z)) (fun hp h => h.mono k1 fun p z => keep p (hp p z)) ⟨v', rfl, k5⟩
  have eσ : σ.set i (some v') = σ := by
    apply List.ext_getElem?
    intro j
    by_cases hj : i = j
    · subst hj
      rw [List.getElem?_set_self (by have := h1.len; omega), hσ]
    · rw [List.getElem?_set_ne hj]
  rw [eσ] at w1
  have gG : ∀ p, (H1 p = none ∨ p ∈ fo) → G p = none := fun p h => by
    rcases h with h | h
    · exact g1.g0.free h
    · exact (hfo p h).2
  refine ⟨k2, g1.f0.trans k1, fun p o e => k3 p o (g1.g0 p o e) (fun z => by rw [(hfo p z).2] at e; cases e), fun p o e en => ?_, fs', w1, w3 n1 k6 fun p hp hq => ?_, fun p hp => ?_⟩
  · cases q : HF1 p with
    | some u' => exact g1.nf p u' q en
    | none => exact gG p (k4 p o e q)
  · rcases (k7 p hp).2 with z | z
    · obtain ⟨o, e⟩ := dfr p hq
      rw [z] at e; cases e
    · exact n3 p z hq
  · rcases (w2 p).mp hp with z | z
    · exact ⟨(k7 p z).1, gG p (k7 p z).2⟩
    · refine ⟨?_, (hfr p z).2⟩
      cases q : HF' p with
      | none => rfl
      | some u' =>
        rcases k4 p u' q (hfr p z).1 with y | y
        · obtain ⟨o, e⟩ := dfr p z
          rw [y] at e; cases e
        · exact absurd z (fun z => nfr p z y)
end
/-! ### expressions, tests that may change the desks told by s -/
structure EZ {S α : Type} [Fl α] (X : Cx) (Γs : S → Ctx) (s : S) (e : Expr) (m : M (S × α)) (t : TE) : Prop where
  pe : PE X e t
  sem : ∀ HF0 G HF H σ, Good X.K HF0 G (Γs s) HF H σ → ∀ c, m = .ok c → ∀ Q : VK, (∀ HF' H', Good X.K HF0 G (Γs c.1) HF' H' σ → Same HF HF' → Q (Fl.enc c.2) H') → t σ H Q
structure TZ {S : Type} (X : Cx) (Γs : S → Ctx) (s : S) (e : Expr) (m : M (S × Bool)) (t : TT) : Prop where
  pt : PT X e t
  sem : ∀ HF0 G HF H σ, Good X.K HF0 G (Γs s) HF H σ → ∀ c, m = .ok c → ∀ Q : Bool → Hp → Prop, (∀ HF' H', Good X.K HF0 G (Γs c.1) HF' H' σ → Same HF HF' → Q c.2 H') → t σ H Q
structure WZ {S : Type} (X : Cx) (Γs : S → Ctx) (s : S) (e : Expr) (m : M (S × Bool)) (t : TT) : Prop where
  pw : PW X e t
  sem : ∀ HF0 G HF H σ, Good X.K HF0 G (Γs s) HF H σ → ∀ c, m = .ok c → ∀ Q : Bool → Hp → Prop, (∀ HF' H', Good X.K HF0 G (Γs c.1) HF' H' σ → Same HF HF' → Q c.2 H') → t σ H Q
section
variable {X : Cx} {S α A : Type} [Fl α] {Γs : S → Ctx} {s : S} {a b e : Expr} {es rest : List Expr} {pos p p1 : Pos} {t ta tb te : TE} {tt tu : TT} {tas : TA}
end
section
variable {X : Cx} {S S1 L ρ α : Type} [Fl α] [Rp ρ] {o : Ow ρ} {Γs : S → Ctx} {Γo : S1 → Ctx} {ΓL : L → Ctx} {s : S} {c e : Expr} {pos py : Pos} {te : TE} {tc : TT} {t1 tr : TS} {sa sts : List Stmt}
end
/-! ### try: d.told(e) / except C as e: kept = e -/
structure BXd (X : Cx) (W : WX) (Γ : Ctx) (sts : List Stmt) (i : Nat) (u : Ow Dsk) (m : M Rx) (t : TS) : Prop where
  pss : PSs X sts t
  sem : ∀ HF0 G HF H σ, Good X.K HF0 G Γ HF H σ → ∀ c, m = .ok c → ∀ D : Ends, (match c with
    | .told l => ∀ HF' H' σ', Same HF HF' → Good X.K HF0 G (put Γ i (.mk u l.d)) HF' H' σ' → D.nx σ' H'
    | .bad d x => ∀ HF' H' dd, Same HF HF' → Good X.K HF0 G (put Γ i (.mk u d)) HF' H' σ → XD HF' dd x → W (clv X.K x.c) dd σ H') → t D σ H
section
variable {X : Cx} {Γ : Ctx} {S L ρ : Type} [Rp ρ] {o : Ow ρ} {Γo : S → Ctx} {ΓL : L → Ctx} {e : Expr} {pos p1 p2 : Pos} {te : TE} {sts : List Stmt}
end
end Ty

/-! ## Ty79: zip of two things, each a list, a tuple or a text -/
namespace RZ
open PySem
open PySem.Sem (wp)
set_option maxHeartbeats 1000000
inductive Zc where
  | l (a : Addr) (its : Array Value)
  | t (a : Addr) (its : Array Value)
  | s (x : Str) (tk : Tok)
def Zc.it : Zc → Heap → Addr → Nat → Prop
  | .l a _, h, it, i => h.IsListIter it a i
  | .t a _, h, it, i => h.IsTupleIter it a i
  | .s x tk, h, it, i => h.IsStrIter it (strIterType x) x tk i
def Zc.on : Zc → Heap → Prop
  | .l a its, h => h.IsList a its
  | .t a its, h => h.IsTuple a its
  | .s _ _, _ => True
def Zc.ad : Zc → List Addr
  | .l a _ => [a]
  | .t a _ => [a]
  | .s _ _ => []
def Zc.at (c : Zc) (i : Nat) (v : Value) : Prop := match c with
  | .l _ its => its[i]? = some v
  | .t _ its => its[i]? = some v
  | .s x _ => ∃ d tk, x.cps[i]? = some d ∧ v = .str ⟨#[d]⟩ tk
def Zc.len : Zc → Nat
  | .l _ its => its.size
  | .t _ its => its.size
  | .s x _ => x.cps.size
def Zc.val : Zc → Value
  | .l a _ => .ref a
  | .t a _ => .ref a
  | .s x tk => .str x tk
def Zc.obj : Zc → Obj
  | .l a _ => { cls := .type "list_iterator", data := .fields #[.ref a, .int 0 0] }
  | .t a _ => { cls := .type "tuple_iterator", data := .fields #[.ref a, .int 0 0] }
  | .s x tk => { cls := .type (strIterType x), data := .fields #[.str x tk, .int 0 0] }
theorem strT (x : Str) : TyS (strIterType x) := by
  unfold strIterType TyS
  split
  · first | exact .inl rfl | exact .inr rfl
  · first | exact .inr rfl | exact .inl rfl
section
variable {prog : Program} {w : World} {A : Around} {E : Value → Shared → Prop} {s : Shared}
theorem Zc.fin (c : Zc) {it : Addr} {i : Nat} {Q : Value → Shared → Prop} (hh : A.handled = none) (hi : c.len ≤ i) (hit : c.it s.heap it i) (on : c.on s.heap)
    (hE : ∀ h' e, Heap.ExtBut it s.heap h' → (∃ o, h'.get? e = some o ∧ o.cls = .type "StopIteration") → E (.ref e) { s with heap := h' }) : wpAny (model prog w) A (Builtin.SmallTypes.nextOf (.ref it)) Q E s := by
  cases c with
  | l a its => exact wpAny_nextOf_list_end hh hit on (Array.getElem?_eq_none hi) hE
  | t a its => exact nextOf_tuple_end hh hit on (Array.getElem?_eq_none hi) hE
  | s x tk => exact nextOf_str_end hh (strT x) hit (Array.getElem?_eq_none hi) hE
end
end RZ
namespace RZ
open PySem PySem.Spec PyProof.Rows L2
/-- a source: a list, a tuple, a text -/
inductive Zk where
  | l (a : Addr)
  | t (a : Addr)
  | s (x : Str)
def Zk.v : Zk → V
  | .l a => .ref a
  | .t a => .ref a
  | .s x => .str x
def Zk.has (K : PySem.W.Frag) (H : Hp) (k : Zk) (xs : List V) : Prop := match k with
  | .l a => SqL K H a xs
  | .t a => SqT K H a xs
  | .s x => xs = x.cps.toList.map fun c => V.str ⟨#[c]⟩
def Zk.it : Zk → Heap → Addr → Nat → Prop
  | .l a, h, it, i => h.IsListIter it a i
  | .t a, h, it, i => h.IsTupleIter it a i
  | .s x, h, it, i => ∃ tk, h.IsStrIter it (strIterType x) x tk i
def Zk.ad : Zk → List Addr
  | .l a => [a]
  | .t a => [a]
  | .s _ => []
theorem Zk.inj {X : Cx} {pins : List (Addr × Obj)} {σ : L2.St} {H : Hp} {s : Shared} (I : Inv X pins σ H s) {k : Zk} {xs ys : List V} (h : k.has X.K H xs) (h' : k.has X.K H ys) : xs = ys := by
  cases k with
  | l a => exact I.list_inj h h'
  | t a => exact I.tuple_inj h h'
  | s x => exact Eq.trans h (Eq.symm h')
/-- the source as it stands now -/
theorem Zk.now {X : Cx} {pins : List (Addr × Obj)} {σ : L2.St} {H : Hp} {s : Shared} (I : Inv X pins σ H s) {k : Zk} {xs : List V} (hs : k.has X.K H xs) {it : Addr} {i : Nat} (hi : k.it s.heap it i) :
    ∃ c : Zc, c.it s.heap it i ∧ c.on s.heap ∧ c.len = xs.length ∧ c.ad = k.ad ∧ (∀ j v, c.at j v → ∃ x, xs[j]? = some x ∧ RelV x v) ∧ ∀ h a j, c.it h a j → k.it h a j := by
  cases k with
  | l a =>
    obtain ⟨its, rv, p, _⟩ := I.list hs
    refine ⟨.l a its.toArray, hi, p.isList, by show its.toArray.size = _; rw [List.size_toArray, rv.length], rfl, fun j v h => ?_, fun h a j x => x⟩
    have h' : its[j]? = some v := by simpa [Zc.at] using h
    have hlen := rv.length
    have hj : j < its.length := (List.getElem?_eq_some_iff.mp h').1
    have hx : xs[j]? = some (xs[j]'(by omega)) := List.getElem?_eq_getElem (by omega)
    obtain ⟨u, hu, ru⟩ := rv.get hx
    rw [h'] at hu
    cases hu
    exact ⟨_, hx, ru⟩
  | t a =>
    obtain ⟨its, rv, p, _⟩ := I.tuple hs
    refine ⟨.t a its.toArray, hi, p, by show its.toArray.size = _; rw [List.size_toArray, rv.length], rfl, fun j v h => ?_, fun h a j x => x⟩
    have h' : its[j]? = some v := by simpa [Zc.at] using h
    have hlen := rv.length
    have hj : j < its.length := (List.getElem?_eq_some_iff.mp h').1
    have hx : xs[j]? = some (xs[j]'(by omega)) := List.getElem?_eq_getElem (by omega)
    obtain ⟨u, hu, ru⟩ := rv.get hx
    rw [h'] at hu
    cases hu
    exact ⟨_, hx, ru⟩
  | s x =>
    obtain ⟨tk, hi⟩ := hi
    have hs : xs = x.cps.toList.map fun c => V.str ⟨#[c]⟩ := hs
    refine ⟨.s x tk, hi, True.intro, by show x.cps.size = _; rw [hs, List.length_map, Array.length_toList], rfl, fun j v h => ?_, fun h a j y => ⟨tk, y⟩⟩
    obtain ⟨d, tk', h1, h2⟩ := h
    subst h2
    refine ⟨.str ⟨#[d]⟩, ?_, tk', rfl⟩
    rw [hs, List.getElem?_map]
    have : x.cps.toList[j]? = some d := by simpa using h1
    rw [this]
    rfl
theorem Zk.start {X : Cx} {pins : List (Addr × Obj)} {σ : L2.St} {H : Hp} {s : Shared} (I : Inv X pins σ H s) {k : Zk} {xs : List V} (hs : k.has X.K H xs) {u : Value} (ru : RelV k.v u) :
    ∃ c : Zc, c.val = u ∧ c.on s.heap ∧ c.ad = k.ad ∧ (∀ b ∈ k.ad, b < s.heap.objs.size) ∧ ∀ h a, c.it h a 0 → k.it h a 0 := by
  cases k with
  | l a =>
    obtain ⟨its, rv, p, _⟩ := I.list hs
    obtain rfl : u = Value.ref a := ru
    exact ⟨.l a its.toArray, rfl, p.isList, rfl, fun b hb => by
      have : b = a := by simpa [Zk.ad] using hb
      rw [this]; exact p.lt, fun h a x => x⟩
  | t a =>
    obtain ⟨its, rv, p, _⟩ := I.tuple hs
    obtain rfl : u = Value.ref a := ru
    obtain ⟨o1, ho1, _⟩ := id p
    exact ⟨.t a its.toArray, rfl, p, rfl, fun b hb => by
      have : b = a := by simpa [Zk.ad] using hb
      rw [this]; exact Heap.lt_size ho1, fun h a x => x⟩
  | s x =>
    obtain ⟨tk, rfl⟩ := ru
    exact ⟨.s x tk, rfl, True.intro, rfl, (fun b hb => by cases hb), fun h a y => ⟨tk, y⟩⟩
end RZ
namespace Ty
open PySem PySem.Spec PyProof.Rows L2
/-- what zip goes through -/
class Zs (α : Type) (β : outParam Type) [Rp α] [Rp β] where
  its : α → List β
  ok : ∀ {K : PySem.W.Frag} {HF H : Hp} {v : V} {a : α}, Same HF H → Rp.sh K HF v a → ∃ (k : RZ.Zk) (vs : List V), k.v = v ∧ (∀ H', Same HF H' → k.has K H' vs) ∧ Fa (Rp.sh K HF) vs (its a)
instance zsL {α : Type} [Rp α] : Zs (List α) α where
  its a := a
  ok := fun s ⟨q, us, e, h1, h2⟩ => ⟨.l q, us, e.symm, fun H' s' => SqL.of (s' _ _ h1), h2⟩
instance zsT {α : Type} [Rp α] : Zs (Tu α) α where
  its a := a.l
  ok := fun s ⟨q, us, e, h1, h2⟩ => ⟨.t q, us, e.symm, fun H' s' => sqT_mono s' h1, h2⟩
theorem fa_signs {K : PySem.W.Frag} {H : Hp} : ∀ l : List Nat, Fa (Rp.sh K H) (l.map fun c => V.str ⟨#[c]⟩) (l.map sgS)
  | [] => True.intro
  | _ :: l => ⟨rfl, fa_signs l⟩
instance zsS : Zs Str Str where
  its x := x.cps.toList.map sgS
  ok := fun {K HF H v a} s h => ⟨.s a, _, (Fl.sh_iff.mp h).symm, fun _ _ => rfl, fa_signs _⟩
section
variable {X : Cx} {Γ : Ctx} {α β γ δ : Type} {a b : Expr} {pos p : Pos} {ta tb : TE}
end
end Ty

/-! ## Ty80: a module's table (texts -> tuples of texts), its hook; str of whole numbers -/
namespace Ty
open PySem PySem.Spec PyProof.Rows L2
/-- the module's name x is a table of tuples of texts, by texts -/
structure KdT (K : PySem.W.Frag) (w : World) (x : Str) (kvs : List (Str × List Str)) : Prop where
  D : ∃ es n, KDict K w (He.ga K x) es n
  at_ : ∀ z, ∃ r, PySem.W.nsIn K (He.ga K x) z = some r ∧ r.isSome = (kvs.lookup z).isSome ∧ ∀ l, kvs.lookup z = some l → ∃ b, r = some (.ref b) ∧ ∀ H, SqT K H b (l.map V.str)
/-! ### a hook that holds tables, too -/
structure SaysW (fa : List He.Fa) (fn : List He.DefD) (ts : List (Str × List Str)) (ex : PySem.W.Frag → Bool) (w : World) (K : PySem.W.Frag) : Prop where
  d : He.SaysD fa fn K
  more : ex K = true
  tab : (ts.map fun t => He.dicW K (He.ga K t.1)) = ts.map fun t => some (He.keysIn w.params t.2)
theorem SaysW.at {fa : List He.Fa} {fn : List He.DefD} {ts : List (Str × List Str)} {ex : PySem.W.Frag → Bool} {w : World} {K : PySem.W.Frag} (c : SaysW fa fn ts ex w K) (i : Nat) {x : Str} {ks : List Str} (h : ts[i]? = some (x, ks) := by rfl) : He.dicW K (He.ga K x) = some (He.keysIn w.params ks) := by
  have e : (ts.map fun t => He.dicW K (He.ga K t.1))[i]? = (ts.map fun t => some (He.keysIn w.params t.2))[i]? := by rw [c.tab]
  rw [List.getElem?_map, List.getElem?_map, h] at e
  exact Option.some.inj e
section
variable {X : Cx} {Γ : Ctx} {a b e : Expr} {pos p pb : Pos} {ta tb te : TE}
/-! ### str of a whole number -/
end
end Ty
namespace Ty
open PySem PySem.Spec PyProof.Rows L2
end Ty
namespace Ty
open PySem PySem.Spec PyProof.Rows L2
instance : Ob Ins := ⟨fun ⟨p, _, e, _⟩ => ⟨p, e⟩⟩
section
variable {X : Cx} {Γ : Ctx} {S L ρ : Type} [Rp ρ] {o : Ow ρ} {Γo : S → Ctx} {ΓL : L → Ctx} {e : Expr} {pos p apos cpos p2 : Pos} {te : TE} {sts : List Stmt} {tr : TS}
end
end Ty

/-! ## a dict with tuple keys walked (locked until its def tells) -/
namespace L2
open PySem PySem.Spec PyProof.Rows
/-- the address of the i-th key -/
def keyA (od : Obj) (i : Nat) : Option Addr := match od.data with
  | .dict es _ => (es[i]?).bind fun en => match en.key with
    | .ref q => some q
    | _ => none
  | _ => none
section
variable {P : Program} {w : World} {K : PySem.W.Frag} {tg : Expr} {d : Addr} {o : Obj} {es : Array DictEntry} {ep : Nat}
end
end L2
namespace Ty
open PySem PySem.Spec PyProof.Rows L2
/-- a locked dict with tuple keys -/
structure Ld (κ β : Type) where
  l : List (κ × β)
instance {κ β : Type} : Inhabited (Ld κ β) := ⟨⟨[]⟩⟩
instance rpLd {κ β : Type} [Kt κ] [Rp β] : Rp (Ld κ β) where
  sh K H v x := ∃ p od kvs, v = .ref p ∧ H p = some (.frz od (.dT kvs)) ∧ Ft (Rp.sh K H) kvs x.l ∧ ∀ i k w, kvs[i]? = some (k, w) → ∃ q, keyA od i = some q ∧ H q = some (.tup (k.map kV))
  mono := fun e ⟨p, od, kvs, h1, h2, h3, h4⟩ => ⟨p, od, kvs, h1, e _ _ h2, Ft.mono (fun _ _ h => Rp.mono e h) h3, fun i k w hk => by
    obtain ⟨q, a, b⟩ := h4 i k w hk
    exact ⟨q, a, e _ _ b⟩⟩
theorem Ft.at {κ β : Type} [Kt κ] {R : V → β → Prop} : ∀ {ps : List (List Key × V)} {qs : List (κ × β)} {i : Nat} {q : κ × β}, Ft R ps qs → qs[i]? = some q → ∃ v, ps[i]? = some (Kt.keys q.1, v)
  | p :: ps, q :: qs, 0, r, ⟨⟨x, _⟩, _⟩, e => by
    cases Option.some.inj e
    exact ⟨p.2, by rw [← x]; rfl⟩
  | p :: ps, q :: qs, i + 1, r, ⟨_, z⟩, e => by
    obtain ⟨v, hv⟩ := Ft.at (i := i) z e
    exact ⟨v, hv⟩
  | [], [], i, r, _, e => by cases i <;> cases e
  | [], _ :: _, _, _, x, _ => x.elim
  | _ :: _, [], _, _, x, _ => x.elim
/-- own things that are no tuples -/
class NoTup {α : Type} [Rp α] (o : Ow α) : Prop where
  nt : ∀ {K : PySem.W.Frag} {HF H : Hp} {v : V} {a : α} {fp : List Addr}, o.rep K HF H v a fp → ∀ p ∈ fp, ∀ xs, H p ≠ some (.tup xs)
instance {α : Type} [Rp α] : NoTup (Ow.v : Ow α) := ⟨fun ⟨_, e⟩ p hp => by subst e; cases hp⟩
instance {κ β : Type} [Kt κ] [Rp β] : NoTup (Ow.dt (κ := κ) (Ow.v : Ow β)) := ⟨fun ⟨p, kvs, fq, h1, h2, h3, h4⟩ q hq xs e => by
  obtain ⟨_, e2⟩ := Rt.toFt h4
  subst h2 e2
  rw [List.mem_singleton.mp hq, h3] at e
  cases e⟩
instance {κ β : Type} [Ky κ] [Rp β] : NoTup (Ow.d (κ := κ) (β := β)) := ⟨fun ⟨p, kvs, h1, h2, h3, h4⟩ q hq xs e => by
  subst h2
  rw [List.mem_singleton.mp hq, h3] at e
  cases e⟩
instance {α : Type} [Rp α] : NoTup (Ow.l (Ow.v : Ow α)) := ⟨fun ⟨p, vs, fq, h1, h2, h3, h4⟩ q hq xs e => by
  obtain ⟨_, e2⟩ := Rl.toFa h4
  subst h2 e2
  rw [List.mem_singleton.mp hq, h3] at e
  cases e⟩
inductive NTs : Ctx → Prop where
  | n : NTs []
  | u {Γ : Ctx} : NTs Γ → NTs (.un :: Γ)
  | o {Γ : Ctx} {α : Type} [Rp α] {o : Ow α} [NoTup o] {a : α} : NTs Γ → NTs (.mk o a :: Γ)
theorem NTs.no {Γ : Ctx} (h : NTs Γ) {K : PySem.W.Frag} {HF H : Hp} : ∀ {σ : L2.St} {fs : List Addr}, Holds K HF H Γ σ fs → ∀ p ∈ fs, ∀ xs, H p ≠ some (.tup xs) := by
  induction h with
  | n =>
    intro σ fs hh p hp
    cases σ with
    | nil => rw [show fs = [] from hh] at hp; cases hp
    | cons _ _ => exact hh.elim
  | u _ ih =>
    intro σ fs hh p hp
    cases σ with
    | nil => exact hh.elim
    | cons x σ =>
      obtain ⟨f1, f2, h1, h2, h3⟩ := hh
      rw [h1] at hp
      rcases List.mem_append.mp hp with hp | hp
      · rw [show f1 = [] from h2] at hp; cases hp
      · exact ih h3 p hp
  | o _ ih =>
    intro σ fs hh p hp
    cases σ with
    | nil => exact hh.elim
    | cons x σ =>
      obtain ⟨f1, f2, h1, ⟨v, _, h2⟩, h3⟩ := hh
      rw [h1] at hp
      rcases List.mem_append.mp hp with hp | hp
      · exact NoTup.nt h2 p hp
      · exact ih h3 p hp
section
variable {X : Cx} {Γ : Ctx} {S L ρ α β κ : Type} {Γo : S → Ctx} {ΓL : L → Ctx} {e a b tg : Expr} {sts : List Stmt} {pos : Pos} {te ta tb : TE} {t : TS}
end
end Ty

/-! ## for a, b in lists of two -/
namespace Ty
open PySem PySem.Spec PyProof.Rows L2
/-- a list of two things -/
structure Lw (α : Type) where
  a : α
  b : α
instance {α : Type} [Inhabited α] : Inhabited (Lw α) := ⟨⟨default, default⟩⟩
instance rpLw {α : Type} [Rp α] : Rp (Lw α) where
  sh K H v x := Rp.sh K H v [x.a, x.b]
  mono := fun e h => Rp.mono e h
section
variable {X : Cx} {Γ : Ctx} {α : Type} {e x y : Expr} {wi : TI} {tg : Expr} {pos2 : Pos}
end
end Ty

/-! ## Ty83: a pair as a tuple of whatever (its length) -/
namespace Ty
open PySem PySem.Spec PyProof.Rows L2
instance kdPair {α β : Type} [Rp α] [Rp β] : Kd (α × β) := ⟨"tuple", fun ⟨p, va, vb, e, h, _⟩ => by
  subst e
  rcases h with (h | ⟨o, h⟩) | ⟨o, its, n, e, c, _⟩
  · exact .base (.tup h)
  · exact .fTuple h
  · exact .kTuple e c⟩
section
variable {X : Cx} {Γ : Ctx} {α β : Type} {e : Expr} {te : TE}
end
end Ty

/-! ## Ty84: ranges as values; ("word", w) or ("none", turns, order); x.remove(e); [a, x.pop(b)]; x[2].reverse() -/
namespace L2
open PySem PySem.Spec PyProof.Rows
section
variable {X : Cx}
end
end L2
namespace Ty
open PySem PySem.Spec PyProof.Rows L2
structure Rgv where
  lo : Int
  hi : Int
instance : Inhabited Rgv := ⟨⟨0, 0⟩⟩
instance : Rp Rgv where
  sh _ H v x := ∃ p, v = .ref p ∧ H p = some (.rng x.lo x.hi)
  mono e h := by
    obtain ⟨p, h1, h2⟩ := h
    exact ⟨p, h1, e _ _ h2⟩
/-- what told_web tells -/
inductive Tw where
  | w (s : Str)
  | n (t o : List Int)
instance : Inhabited Tw := ⟨.w default⟩
instance : Rp Tw where
  sh K H v x := match x with
    | .w s => Rp.sh K H v (("word" : Str), s)
    | .n t o => Rp.sh K H v (⟨("none" : Str), t, o⟩ : T3 Str (List Int) (List Int))
  mono {K H H' v a} e h := by
    cases a with
    | w s => exact Rp.mono (α := Str × Str) e h
    | n t o => exact Rp.mono (α := T3 Str (List Int) (List Int)) e h
instance : Kd Tw := ⟨"tuple", fun {K H v a} h => by
  cases a with
  | w s => exact (kdPair (α := Str) (β := Str)).ok h
  | n t o => exact (kdT3 (α := Str) (β := List Int) (γ := List Int)).ok h⟩
section
variable {X : Cx} {Γ : Ctx} {S L ρ α β γ : Type} {a b e : Expr} {p p1 p2 pos apos cpos : Pos} {ta tb te : TE} {sts : List Stmt} {tr : TS}
end
end Ty

/-! ## Ty85: own things given away: return (x, ..), (x[e], y); unpacked own tuples -/
namespace Ty
open PySem PySem.Spec PyProof.Rows L2
/-- Good, and what is held stands apart from A -/
structure GA (K : PySem.W.Frag) (HF0 G : Hp) (Γ : Ctx) (HF H : Hp) (σ : L2.St) (A : Addr → Prop) : Prop where
  sub : Same HF H
  f0 : Same HF0 HF
  g0 : Same G H
  nf : ∀ p o, HF p = some o → HF0 p = none → G p = none
  held : ∃ fs, Holds K HF H Γ σ fs ∧ fs.Nodup ∧ (∀ p ∈ fs, HF p = none ∧ G p = none) ∧ ∀ p ∈ fs, ¬ A p
section
variable {K : PySem.W.Frag} {HF0 G HF H HF' H' : Hp} {Γ : Ctx} {σ : L2.St} {A B : Addr → Prop}
theorem GA.good (g : GA K HF0 G Γ HF H σ A) : Good K HF0 G Γ HF H σ := ⟨g.sub, g.f0, g.g0, g.nf, let ⟨fs, a, b, c, _⟩ := g.held; ⟨fs, a, b, c⟩⟩
theorem GA.of (g : Good K HF0 G Γ HF H σ) : GA K HF0 G Γ HF H σ fun _ => False := ⟨g.sub, g.f0, g.g0, g.nf, let ⟨fs, a, b, c⟩ := g.held; ⟨fs, a, b, c, fun _ _ h => h⟩⟩
theorem GA.step (g : GA K HF0 G Γ HF H σ A) (s : Step HF H HF' H') : GA K HF0 G Γ HF' H' σ A := by
  obtain ⟨fs, h1, h2, h3, h4⟩ := g.held
  have gg := g.good.step s
  refine ⟨gg.sub, gg.f0, gg.g0, gg.nf, fs, h1.mono s.exF fun p _ o e => s.exH p o e, h2, fun p hp => ⟨?_, (h3 p hp).2⟩, h4⟩
  cases q : HF' p with
  | none => rfl
  | some u =>
    have := s.new p u q (h3 p hp).1
    obtain ⟨o, ho⟩ := h1.dom p hp
    rw [ho] at this; cases this
/-- an own thing is taken out -/
theorem GA.take {i : Nat} {α : Type} [Rp α] {u : Ow α} {x : α} (g : GA K HF0 G Γ HF H σ A) (hl : look Γ i = .mk u x) :
    ∃ v fo, σ[i]? = some (some v) ∧ u.rep K HF H v x fo ∧ fo.Nodup ∧ (∀ p ∈ fo, HF p = none ∧ G p = none) ∧ (∀ p ∈ fo, ¬ A p) ∧ GA K HF0 G (put Γ i .un) HF H σ fun p => A p ∨ p ∈ fo := by
  obtain ⟨fs, h1, h2, h3, h4⟩ := g.held
  obtain ⟨v, fo, fr, q1, q2, q3, q4, q5, q6, q7, q8⟩ := h1.pull h2 hl
  exact ⟨v, fo, q1, q2, q3, fun p hp => h3 p (q6 p hp), fun p hp => h4 p (q6 p hp), g.sub, g.f0, g.g0, g.nf, fr, q4, q5, fun p hp => h3 p (q7 p hp), fun p hp z => z.elim (h4 p (q7 p hp)) fun z => q8 p z hp⟩
/-- a part of what stands apart is held -/
theorem GA.put {i : Nat} {v : V} {α : Type} [Rp α] {u : Ow α} {a : α} {fp : List Addr} (g : GA K HF0 G Γ HF H σ A) (hi : i < Γ.length) (r : u.rep K HF H v a fp) (nd : fp.Nodup) (fr : ∀ p ∈ fp, HF p = none ∧ G p = none) (hA : ∀ p ∈ fp, A p) (hB : ∀ p, B p → A p ∧ p ∉ fp) :
    GA K HF0 G (put Γ i (.mk u a)) HF H (σ.set i (some v)) B := by
  obtain ⟨fs, h1, h2, h3, h4⟩ := g.held
  obtain ⟨fo, fr', q1, q2, q3, q4⟩ := h1.put hi
  obtain ⟨n1, n2, n3⟩ := q3 h2
  obtain ⟨fs', w1, w2, w3⟩ := q4 (HF' := HF) (H' := H) (s := .mk u a) (x := some v) (f := fp) (fun _ h => h) (fun _ h => h) ⟨v, rfl, r⟩
  refine ⟨g.sub, g.f0, g.g0, g.nf, fs', w1, w3 n1 nd fun p hp hq => h4 p ((q2 p).mpr (.inr hq)) (hA p hp), fun p hp => ?_, fun p hp z => ?_⟩
  · rcases (w2 p).mp hp with z | z
    · exact fr p z
    · exact h3 p ((q2 p).mpr (.inr z))
  · have hb := hB p z
    rcases (w2 p).mp hp with y | y
    · exact hb.2 y
    · exact h4 p ((q2 p).mpr (.inr y)) hb.1
end
theorem Step.apart {HF H HF' H' G : Hp} {fs : List Addr} (s : Step HF H HF' H') (hd : ∀ p ∈ fs, ∃ o, H p = some o) (hf : ∀ p ∈ fs, HF p = none ∧ G p = none) : ∀ p ∈ fs, HF' p = none ∧ G p = none := fun p hp => by
  refine ⟨?_, (hf p hp).2⟩
  cases z : HF' p with
  | none => rfl
  | some o =>
    have := s.new p o z (hf p hp).1
    obtain ⟨w', hw⟩ := hd p hp
    rw [this] at hw
    cases hw
/-- an expression that gives an own thing away: behind it Γ' -/
structure EV {α : Type} [Rp α] (X : Cx) (Γ : Ctx) (e : Expr) (u : Ow α) (m : M α) (t : TE) (Γ' : Ctx) : Prop where
  pe : PE X e t
  sem : ∀ HF0 G HF H σ A, GA X.K HF0 G Γ HF H σ A → (∀ p, A p → ∃ w, H p = some w) → ∀ c, m = .ok c → ∀ Q : VK, (∀ v HF1 H1 fp, Step HF H HF1 H1 → u.rep X.K HF1 H1 v c fp → fp.Nodup → (∀ p ∈ fp, HF1 p = none ∧ G p = none) → (∀ p ∈ fp, ¬ A p) → GA X.K HF0 G Γ' HF1 H1 σ (fun p => A p ∨ p ∈ fp) → Q v H1) → t σ H Q
section
variable {X : Cx} {Γ Γ1 Γ2 Γ3 : Ctx} {S L ρ α β γ : Type} {Γo : S → Ctx} {ΓL : L → Ctx} {a b c e : Expr} {p p1 p2 pos apos cpos : Pos} {ta tb tc te : TE} {sts : List Stmt} {tr : TS}
end
end Ty

/-! ## Ty86: text * number; None, a number or a text; a def that is handed a desk and hands back shared things -/
namespace L2
open PySem PySem.Spec PyProof.Rows
section
variable {X : Cx}
end
end L2
namespace Ty
open PySem PySem.Spec PyProof.Rows L2
/-- None, a number or a text -/
inductive Nv where
  | n
  | i (x : Int)
  | s (x : Str)
  deriving DecidableEq
def Nv.enc : Nv → V
  | .n => .non
  | .i k => .int k
  | .s x => .str x
instance : Inhabited Nv := ⟨.n⟩
instance : Fl Nv := flOf Nv.enc
def Nv.py : Nv → PyData
  | .n => .none
  | .i k => .int k
  | .s x => .str x
instance : Eqv Nv := ⟨Nv.py, fun u => match u with
    | .n => true
    | .i _ => true
    | .s x => PySem.PyData.strOk x, 0, fun {K H v a} h => by
    cases a with
    | n => cases h; exact .non
    | i n => cases h; exact .int _
    | s x => cases h; exact .str _, fun a h => by
    cases a with
    | n => rfl
    | i n => rfl
    | s x => simpa [Nv.py, PyData.canLay0] using h, fun a => by cases a <;> simp [Nv.py, PyData.depth], fun a b => by
    cases a <;> cases b <;> simp only [Nv.py, PyData.eqv]
    · simp
    · simp
    · simp
    · simp
    · rename_i x y; by_cases h : x = y <;> simp [h]
    · simp
    · simp
    · simp
    · rename_i x y; by_cases h : x = y <;> simp [h]⟩
instance : Ob ExY := ⟨fun ⟨e, _⟩ => ⟨_, e⟩⟩
section
variable {X : Cx} {Γ : Ctx} {a b e : Expr} {p p1 pos : Pos} {ta tb te : TE}
end
/-! ### a def that is handed a desk and hands back shared things -/
structure Rgp (ρ : Type) where
  d : Dsk
  s : ρ
instance {ρ : Type} [Inhabited ρ] : Inhabited (Rgp ρ) := ⟨⟨default, default⟩⟩
instance {ρ : Type} [Rp ρ] : Rp (Rgp ρ) where
  sh K H v x := Rp.sh K H v x.s
  mono := fun e h => Rp.mono e h
section
variable {X : Cx} {Γ : Ctx} {S L ρ : Type} [Rp ρ] {Γo : S → Ctx} {ΓL : L → Ctx} {e : Expr} {pos : Pos} {te : TE}
end
section
variable {P : Program} {w : World} {K : PySem.W.Frag} {mg : Str → Option Value} {base : Heap}
end
/-- an expression that may change the desks told by s and is a shared thing -/
structure EZp {S α : Type} [Rp α] (X : Cx) (Γs : S → Ctx) (s : S) (e : Expr) (m : M (S × α)) (t : TE) : Prop where
  pe : PE X e t
  sem : ∀ HF0 G HF H σ, Good X.K HF0 G (Γs s) HF H σ → ∀ c, m = .ok c → ∀ Q : VK, (∀ v HF' H', Good X.K HF0 G (Γs c.1) HF' H' σ → Same HF HF' → Rp.sh X.K HF' v c.2 → Q v H') → t σ H Q
section
variable {X : Cx} {S α A : Type} [Rp α] {Γs : S → Ctx} {s : S} {a b e : Expr} {es rest : List Expr} {pos p p1 : Pos} {t ta tb te : TE} {tt tu : TT} {tas : TA}
end
section
variable {X : Cx} {S S1 L ρ α : Type} [Rp α] [Rp ρ] {o : Ow ρ} {Γs : S → Ctx} {Γo : S1 → Ctx} {ΓL : L → Ctx} {s : S} {c e : Expr} {pos py : Pos} {te : TE} {tc : TT} {t1 tr : TS} {sa sts : List Stmt}
end
end Ty

/-! ## Ty87: expressions that always raise -/
namespace Ty
open PySem PySem.Spec PyProof.Rows L2
/-- an expression that raises -/
structure EQ (X : Cx) (W : WX) (Γ : Ctx) (e : Expr) (m : M Exn) (t : TE) : Prop where
  pe : PE X e t
  sem : ∀ HF0 G HF H σ, Good X.K HF0 G Γ HF H σ → ∀ x, m = .ok x → ∀ Q : VK, (∀ HF' H' d, Step HF H HF' H' → XD HF' d x → W (clv X.K x.c) d σ H') → t σ H Q
/-- arguments of which one raises -/
structure EAQ (X : Cx) (W : WX) (Γ : Ctx) (es : List Expr) (m : M Exn) (t : TA) : Prop where
  pa : PA X es t
  sem : ∀ HF0 G HF H σ, Good X.K HF0 G Γ HF H σ → ∀ x, m = .ok x → ∀ Q : List V → Hp → Prop, (∀ HF' H' d, Step HF H HF' H' → XD HF' d x → W (clv X.K x.c) d σ H') → t σ H Q
structure TQ (X : Cx) (W : WX) (Γ : Ctx) (e : Expr) (m : M Exn) (t : TT) : Prop where
  pt : PT X e t
  sem : ∀ HF0 G HF H σ, Good X.K HF0 G Γ HF H σ → ∀ x, m = .ok x → ∀ Q : Bool → Hp → Prop, (∀ HF' H' d, Step HF H HF' H' → XD HF' d x → W (clv X.K x.c) d σ H') → t σ H Q
structure IQ (X : Cx) (W : WX) (Γ : Ctx) (tg e : Expr) (m : M Exn) (t : TI) : Prop where
  pi : PI X tg e t
  sem : ∀ HF0 G HF H σ, Good X.K HF0 G Γ HF H σ → ∀ x, m = .ok x → ∀ R, (∀ HF' H' d, Step HF H HF' H' → XD HF' d x → W (clv X.K x.c) d σ H') → t σ H R
section
variable {X : Cx} {W : WX} {Γ : Ctx} {S L α β ρ A : Type} {a b e o : Expr} {es : List Expr} {p p1 p2 pos cpos apos : Pos} {ta tb te to : TE} {t tas : TA} {sts sa sb : List Stmt} {tr : TS} {tg : Expr}
end
section
variable {X : Cx} {Γ : Ctx} {S L : Type} {Γo : S → Ctx} {ΓL : L → Ctx} {c e : Expr} {pos : Pos} {te : TE} {tc : TT} {sts sa sb : List Stmt} {E : XK}
end
end Ty

/-! ## Ty88: a def that is handed a kept exception, called where none is handled -/
namespace Ty
open PySem PySem.Spec PyProof.Rows L2
structure FnZc (P : Program) (w : World) (K : PySem.W.Frag) (mg : Str → Option Value) (base : Heap) (k : Nat) (f : Addr) (fd : FuncData) (y : Str) {ρ : Type} [Rp ρ] (o : Ow ρ) (fm : Exn → M ρ) : Prop where
  run : ∀ (A : Around) (outer : List Env) (s : Shared) (H : Hp) (args : Args) (Q : VK) (E : XK) (p : Addr × Obj) (d : Option Addr) (x : Exn), Room k A → PinZ K x.c d p → L2H.PinOk outer H s p → Env0 P w K mg base A outer s H → BindsTo s fd args [(y, .ref p.1)] → spZ K o fm d x H Q →
    codeAny (model P w) A (.call (.ref f) args) (CR CX0 outer P w H s Q E) s
section
variable {P : Program} {w : World} {K : PySem.W.Frag} {mg : Str → Option Value} {base : Heap}
end
section
variable {X : Cx} {Γ : Ctx} {ρ α : Type} [Rp ρ] {o : Ow ρ} {a b e f : Expr} {es : List Expr} {pos p p1 p2 pos2 : Pos} {ta tb te tf : TE} {t : TA}
end
end Ty

/-! ## Ty89: exceptions made by hand and kept as values -/
namespace Ty
open PySem PySem.Spec PyProof.Rows L2
/-- an exception object: its class, what it keeps -/
structure Xo where
  x : Exn
instance : Inhabited Xo := ⟨⟨⟨"", none⟩⟩⟩
def ExoH (H : Hp) (a C : Addr) (x : Exn) : Prop := match x.p with
  | none => H a = some (L2.ExO (.ref C) a)
  | some (f, y) => ∃ dx, H a = some (exo a C (some dx)) ∧ H dx = some (exd dx [(f, y.enc)])
theorem ExoH.mono {H H' : Hp} {a C : Addr} {x : Exn} (s : Same H H') (h : ExoH H a C x) : ExoH H' a C x := by
  unfold ExoH at *
  split at h
  · exact s _ _ h
  · obtain ⟨dx, h1, h2⟩ := h
    exact ⟨dx, s _ _ h1, s _ _ h2⟩
instance : Rp Xo where
  sh K H v e := ∃ a, v = .ref a ∧ ExoH H a (He.ga K e.x.c) e.x
  mono := fun s h => by
    obtain ⟨a, h1, h2⟩ := h
    exact ⟨a, h1, h2.mono s⟩
/-! ### isinstance -/
section
variable {X : Cx} {Γ : Ctx} {S L ρ α β A S' : Type} [Rp ρ] {o : Ow ρ} {Γo : S → Ctx} {ΓL : L → Ctx} {a b e f : Expr} {es : List Expr} {pos p p1 p2 pos2 : Pos} {ta tb te tf : TE} {t : TA} {sts : List Stmt} {tr tr' : TS}
/-! ### a field -/
/-! ### made by hand -/
end
end Ty

/-! ## Ty90: an own dict whose keys are (whole number, truth value), each told True -/
namespace Ty
open PySem PySem.Spec PyProof.Rows L2
def entB (x : (Int × Bool) × Addr) : DictEntry := ⟨reduceHash (Builtin.Tuple.tupleHashOf [hashInt x.1.1, hashInt (if x.1.2 = true then 1 else 0)]), .ref x.2, .bool true⟩
/-- such a dict at d -/
def bdO (d : Addr) (xs : List ((Int × Bool) × Addr)) : HO := .ext fun h => (d == sysModules) = false ∧ ∃ o es ep, h.get? d = some o ∧ o.ExactDict ∧ o.data = .dict es ep ∧ es.toList = xs.map entB
def tB (k : Int × Bool) : HO := .tup [.int k.1, .bl k.2]
section
variable {P : Program} {w : World} {H : Hp} {h : Heap} {d b : Addr} {k : Int × Bool} {xs : List ((Int × Bool) × Addr)}
end
/-! ### types -/
structure Kb where
  k : Int × Bool
  deriving DecidableEq
instance : Inhabited Kb := ⟨⟨default⟩⟩
instance : Rp Kb where
  sh _ H v x := ∃ b, v = .ref b ∧ H b = some (tB x.k)
  mono := fun e ⟨b, h1, h2⟩ => ⟨b, h1, e _ _ h2⟩
structure Sb where
  l : List (Int × Bool)
instance : Inhabited Sb := ⟨⟨[]⟩⟩
instance : Rp Sb where
  sh _ H v x := ∃ d xs, v = .ref d ∧ H d = some (bdO d xs) ∧ xs.map (·.1) = x.l ∧ x.l.Nodup ∧ ∀ q ∈ xs, H q.2 = some (tB q.1)
  mono := fun e ⟨d, xs, h1, h2, h3, h4, h5⟩ => ⟨d, xs, h1, e _ _ h2, h3, h4, fun q hq => e _ _ (h5 q hq)⟩
def Ow.sb : Ow Sb where
  rep K HF H v x fp := ∃ d xs, v = .ref d ∧ fp = [d] ∧ H d = some (bdO d xs) ∧ xs.map (·.1) = x.l ∧ x.l.Nodup ∧ ∀ q ∈ xs, HF q.2 = some (tB q.1)
  mono := fun e k ⟨d, xs, h1, h2, h3, h4, h5, h6⟩ => by
    subst h2
    exact ⟨d, xs, h1, rfl, k d (List.mem_cons_self ..) _ h3, h4, h5, fun q hq => e _ _ (h6 q hq)⟩
  dom := fun ⟨d, xs, h1, h2, h3, h4⟩ q hq => by
    subst h2
    rw [List.mem_singleton.mp hq]
    exact ⟨_, h3⟩
  frz := fun e k ⟨d, xs, h1, h2, h3, h4, h5, h6⟩ => by
    subst h2
    exact ⟨d, xs, h1, k d (List.mem_cons_self ..) _ h3, h4, h5, fun q hq => e _ _ (h6 q hq)⟩
/-! ### rules -/
section
variable {X : Cx} {o i value : Expr} {pos pos' : Pos} {td ty tv : TE}
end
section
variable {X : Cx} {Γ : Ctx} {S L ρ α β A S' : Type} [Rp ρ] {o : Ow ρ} {Γo : S → Ctx} {ΓL : L → Ctx} {a b e f : Expr} {es : List Expr} {pos p p1 p2 pos2 : Pos} {ta tb te tf : TE} {t : TA} {sts : List Stmt} {tr tr' : TS}
end
end Ty

/-! ## Ty91: things of mixed kinds: None, a number, a truth value, a text, a list, a tuple, an empty dict -/
namespace Ty
open PySem PySem.Spec PyProof.Rows L2
inductive Dl (α : Type) where
  | n
  | i (k : Int)
  | b (x : Bool)
  | s (x : Str)
  | l (xs : List α)
  | t (xs : List α)
  | d
  deriving DecidableEq
instance {α : Type} : Inhabited (Dl α) := ⟨.n⟩
instance : Rp Empty := ⟨fun _ _ _ x => x.elim, fun {K H H' v a} _ _ => a.elim⟩
instance rpDl {α : Type} [Rp α] : Rp (Dl α) where
  sh K H v x := match x with
    | .n => v = .non
    | .i k => v = .int k
    | .b y => v = .bl y
    | .s y => v = .str y
    | .l xs => Rp.sh (α := List α) K H v xs
    | .t xs => Rp.sh (α := Tu α) K H v ⟨xs⟩
    | .d => ∃ p, v = .ref p ∧ H p = some (.dK [])
  mono := fun {K H H' v a} e h => by
    cases a with
    | n => exact h
    | i k => exact h
    | b y => exact h
    | s y => exact h
    | l xs => exact Rp.mono (α := List α) e h
    | t xs => exact Rp.mono (α := Tu α) e h
    | d =>
      obtain ⟨p, h1, h2⟩ := h
      exact ⟨p, h1, e _ _ h2⟩
/-! ### equality -/
class Dq (α : Type) [Rp α] [DecidableEq α] where
  py : α → PyData
  ok : α → Bool
  nb : α → Bool
  dep : Nat
  dp : ∀ {K : PySem.W.Frag} {H : Hp} {v : V} {a : α}, ok a = true → Rp.sh K H v a → Dp K H v (py a)
  lay : ∀ a, ok a = true → (py a).canLay0 = true
  deep : ∀ a, (py a).depth ≤ dep
  eqv : ∀ a b, nb a = true → nb b = true → PyData.eqv (py a) (py b) = decide (a = b)
  rfl' : ∀ a, PyData.eqv (py a) (py a) = true
instance : Dq Empty := ⟨fun x => x.elim, fun x => x.elim, fun x => x.elim, 0, fun {_ _ _ a} _ _ => a.elim, fun x => x.elim, fun x => x.elim, fun x => x.elim, fun x => x.elim⟩
section
variable {α : Type} [Rp α] [DecidableEq α] [Dq α]
theorem dqDp {K : PySem.W.Frag} {H : Hp} : ∀ {vs : List V} {as : List α}, as.all Dq.ok = true → Fa (Rp.sh K H) vs as → DpAll K H vs (as.map Dq.py)
  | [], [], _, _ => .nil
  | v :: vs, a :: as, h, ⟨x, y⟩ => by
    rw [List.all_cons, Bool.and_eq_true] at h
    exact .cons (Dq.dp h.1 x) (dqDp h.2 y)
  | [], _ :: _, _, x => x.elim
  | _ :: _, [], _, x => x.elim
theorem dqLay : ∀ {as : List α}, as.all Dq.ok = true → PyData.canLayAll0 (as.map Dq.py) = true
  | [], _ => by simp [PyData.canLayAll0]
  | a :: as, h => by
    rw [List.all_cons, Bool.and_eq_true] at h
    simp [PyData.canLayAll0, Dq.lay a h.1, dqLay h.2]
theorem dqDep : ∀ as : List α, PyData.depthAll (as.map Dq.py) ≤ Dq.dep α
  | [] => by simp [PyData.depthAll]
  | a :: as => by
    have h1 := Dq.deep a
    have h2 := dqDep as
    simp only [List.map_cons, PyData.depthAll]
    omega
theorem dqEqv : ∀ as bs : List α, as.all Dq.nb = true → bs.all Dq.nb = true → PyData.eqvAll (as.map Dq.py) (bs.map Dq.py) = decide (as = bs)
  | [], [], _, _ => by simp [PyData.eqvAll]
  | a :: as, b :: bs, h, h' => by
    rw [List.all_cons, Bool.and_eq_true] at h h'
    simp only [List.map_cons, PyData.eqvAll, Dq.eqv a b h.1 h'.1, dqEqv as bs h.2 h'.2]
    by_cases h1 : a = b <;> by_cases h2 : as = bs <;> simp [h1, h2]
  | [], b :: bs, _, _ => by simp [PyData.eqvAll]
  | a :: as, [], _, _ => by simp [PyData.eqvAll]
theorem dqRfl : ∀ as : List α, PyData.eqvAll (as.map Dq.py) (as.map Dq.py) = true
  | [] => by simp [PyData.eqvAll]
  | a :: as => by simp only [List.map_cons, PyData.eqvAll, Dq.rfl' a, dqRfl as, Bool.and_self]
def Dl.py : Dl α → PyData
  | .n => .none
  | .i k => .int k
  | .b y => .bool y
  | .s y => .str y
  | .l xs => .list (xs.map Dq.py)
  | .t xs => .tuple (xs.map Dq.py)
  | .d => .none
def Dl.ok : Dl α → Bool
  | .s y => PySem.PyData.strOk y
  | .l xs => xs.all Dq.ok
  | .t xs => xs.all Dq.ok
  | .d => false
  | _ => true
def Dl.nb : Dl α → Bool
  | .b _ => false
  | .l xs => xs.all Dq.nb
  | .t xs => xs.all Dq.nb
  | .d => false
  | _ => true
instance dqDl : Dq (Dl α) where
  py := Dl.py
  ok := Dl.ok
  nb := Dl.nb
  dep := Dq.dep α + 1
  dp := fun {K H v a} h r => by
    cases a with
    | n => cases r; exact .non
    | i k => cases r; exact .int _
    | b k => cases r; exact .bl _
    | s k => cases r; exact .str _
    | l xs =>
      obtain ⟨p, vs, h1, h2, h3⟩ := r
      subst h1
      exact .lst (SqL.of h2) (dqDp h h3)
    | t xs =>
      obtain ⟨p, vs, h1, h2, h3⟩ := r
      subst h1
      exact .tup h2 (dqDp h h3)
    | d => cases h
  lay := fun a h => by
    cases a with
    | n => rfl
    | i k => rfl
    | b k => rfl
    | s k =>
      have h : PySem.PyData.strOk k = true := h
      simpa [Dl.py, PyData.canLay0] using h
    | l xs => simpa [Dl.py, PyData.canLay0] using dqLay h
    | t xs => simpa [Dl.py, PyData.canLay0] using dqLay h
    | d => cases h
  deep := fun a => by
    cases a with
    | l xs => simpa [Dl.py, PyData.depth] using dqDep xs
    | t xs => simpa [Dl.py, PyData.depth] using dqDep xs
    | _ => simp [Dl.py, PyData.depth]
  eqv := fun a b h h' => by
    cases a with
    | l xs =>
      cases b with
      | l ys => simp only [Dl.py, PyData.eqv, dqEqv xs ys h h']; by_cases q : xs = ys <;> simp [q]
      | _ => first | exact (Bool.false_ne_true h').elim | simp [Dl.py, PyData.eqv]
    | t xs =>
      cases b with
      | t ys => simp only [Dl.py, PyData.eqv, dqEqv xs ys h h']; by_cases q : xs = ys <;> simp [q]
      | _ => first | exact (Bool.false_ne_true h').elim | simp [Dl.py, PyData.eqv]
    | i k =>
      cases b with
      | i m => simp only [Dl.py, PyData.eqv]; by_cases q : k = m <;> simp [q]
      | _ => first | exact (Bool.false_ne_true h').elim | simp [Dl.py, PyData.eqv]
    | s k =>
      cases b with
      | s m => simp only [Dl.py, PyData.eqv]; by_cases q : k = m <;> simp [q]
      | _ => first | exact (Bool.false_ne_true h').elim | simp [Dl.py, PyData.eqv]
    | n => cases b <;> first | exact (Bool.false_ne_true h').elim | simp [Dl.py, PyData.eqv]
    | b k => cases h
    | d => cases h
  rfl' := fun a => by
    cases a with
    | l xs => simp only [Dl.py, PyData.eqv, dqRfl xs]
    | t xs => simp only [Dl.py, PyData.eqv, dqRfl xs]
    | _ => simp [Dl.py, PyData.eqv]
end
/-- a == b, where that is told: both an empty dict, or neither, and the same, or neither with a truth value in it -/
def eqDl {α : Type} [Rp α] [DecidableEq α] [Dq α] (a b : Dl α) : M Bool := match a, b with
  | .d, .d => pure true
  | a, b => do gd (Dl.ok a && (Dl.ok b && (decide (a = b) || (Dl.nb a && Dl.nb b)))); pure (decide (a = b))
def neDl {α : Type} [Rp α] [DecidableEq α] [Dq α] (a b : Dl α) : M Bool := do gd (Dl.ok a && (Dl.ok b && (decide (a = b) || (Dl.nb a && Dl.nb b)))); pure (!decide (a = b))
def rEqX (K : PySem.W.Frag) : R2 := fun x y H Q => rEqD K x y H Q ∨ rEqDA x y H Q
theorem op_eqX {X : Cx} (hu : X.A.units + 64 < cLine) : OpR X (compareOp .Eq) (rEqX X.K) := by
  intro pins s σ H x y v u Q I rx ry h
  rcases h with h | h
  · exact op_eqD hu pins s σ H x y v u Q I rx ry h
  · exact op_eq_dictA (hu0 hu) pins s σ H x y v u Q I rx ry h
section
variable {X : Cx} {Γ : Ctx} {α β γ : Type} {a b e : Expr} {es : List Expr} {pos p p1 : Pos} {ta tb te : TE}
theorem dq_shaped [Rp α] [DecidableEq α] [Dq α] {a : α} (h : Dq.ok a = true) (hd : Dq.dep α ≤ 64) : SeqAt.shaped (Dq.py a) = true := by
  show ((Dq.py a).canLay0 && decide ((Dq.py a).depth ≤ 64)) = true
  rw [Bool.and_eq_true]
  exact ⟨Dq.lay a h, decide_eq_true (Nat.le_trans (Dq.deep a) hd)⟩
theorem dl_eqv [Rp α] [DecidableEq α] [Dq α] {a b : Dl α} (h : (decide (a = b) || (Dl.nb a && Dl.nb b)) = true) : PyData.eqv (Dl.py a) (Dl.py b) = decide (a = b) := by
  by_cases e : a = b
  · subst e
    rw [decide_eq_true rfl]
    exact Dq.rfl' (α := Dl α) a
  · rw [decide_eq_false e, Bool.false_or, Bool.and_eq_true] at h
    exact Dq.eqv (α := Dl α) a b h.1 h.2
theorem sr_eqX [Rp α] [DecidableEq α] [Dq α] {K : PySem.W.Frag} (hd : Dq.dep α + 1 ≤ 64) : SemR2 K (rEqX K) Ow.v (fun (a b : Dl α) => eqDl a b) := fun HF H v w a b c s ra rb hc Q k => by
  have main : ∀ {a b : Dl α}, Rp.sh K HF v a → Rp.sh K HF w b → (do gd (Dl.ok a && (Dl.ok b && (decide (a = b) || (Dl.nb a && Dl.nb b)))); pure (decide (a = b)) : M Bool) = .ok c → rEqX K v w H Q := fun {a b} ra rb hc => by
    obtain ⟨u, e1, hc⟩ := bind_ok hc
    cases pure_ok hc
    have e2 := gd_ok e1
    rw [Bool.and_eq_true, Bool.and_eq_true] at e2
    obtain ⟨o1, o2, o3⟩ := e2
    refine .inl ⟨_, _, Dq.dp (α := Dl α) o1 (Rp.mono s ra), Dq.dp (α := Dl α) o2 (Rp.mono s rb), dq_shaped (α := Dl α) o1 hd, dq_shaped (α := Dl α) o2 hd, ?_⟩
    rw [show PyData.eqv (Dq.py a) (Dq.py b) = decide (a = b) from dl_eqv o3]; exact k.flat s
  have hc : eqDl a b = .ok c := hc
  unfold eqDl at hc
  split at hc
  · cases pure_ok hc
    obtain ⟨p, h1, h2⟩ := (show ∃ p, v = .ref p ∧ HF p = some (.dK []) from ra)
    obtain ⟨q, h3, h4⟩ := (show ∃ p, w = .ref p ∧ HF p = some (.dK []) from rb)
    exact .inr ⟨p, q, [], [], h1, h3, s _ _ h2, s _ _ h4, rfl, fun p hp => (by cases hp), k.flat s⟩
  · exact main ra rb hc
theorem sr_neX [Rp α] [DecidableEq α] [Dq α] {K : PySem.W.Frag} (hd : Dq.dep α + 1 ≤ 64) : SemR2 K (rNeD K) Ow.v (fun (a b : Dl α) => neDl a b) := fun HF H v w a b c s ra rb hc Q k => by
  obtain ⟨u, e1, hc⟩ := bind_ok hc
  cases pure_ok hc
  have e2 := gd_ok e1
  rw [Bool.and_eq_true, Bool.and_eq_true] at e2
  obtain ⟨o1, o2, o3⟩ := e2
  refine ⟨_, _, Dq.dp (α := Dl α) o1 (Rp.mono s ra), Dq.dp (α := Dl α) o2 (Rp.mono s rb), dq_shaped (α := Dl α) o1 hd, dq_shaped (α := Dl α) o2 hd, ?_⟩
  rw [show PyData.eqv (Dq.py a) (Dq.py b) = decide (a = b) from dl_eqv o3]; exact k.flat s
theorem ec_eqX {K : PySem.W.Frag} [Rp α] [DecidableEq α] [Dq α] {ma mb : M (Dl α)} (hu : X.A.units + 64 < cLine) (ha : EX X Γ a Ow.v ma ta) (hb : EX X Γ b Ow.v mb tb) (hd : Dq.dep α + 1 ≤ 64 := by decide) (hK : X.K = K := by rfl) : EC X Γ .Eq a b (do let a ← ma; let b ← mb; eqDl a b) (rEqX K) ta tb := by
  subst hK
  exact ec_of (op_eqX hu) (sr_eqX hd) ha hb (nomark _)
theorem ec_neX {K : PySem.W.Frag} [Rp α] [DecidableEq α] [Dq α] {ma mb : M (Dl α)} (hu : X.A.units + 64 < cLine) (ha : EX X Γ a Ow.v ma ta) (hb : EX X Γ b Ow.v mb tb) (hd : Dq.dep α + 1 ≤ 64 := by decide) (hK : X.K = K := by rfl) : EC X Γ .NotEq a b (do let a ← ma; let b ← mb; neDl a b) (rNeD K) ta tb := by
  subst hK
  exact ec_of (op_neD hu) (sr_neX hd) ha hb (nomark _)
/-! ### told as a mixed thing; taken for what it is -/
theorem ex_cast [Rp α] [Rp β] {f : α → M β} (hf : ∀ {K H v x y}, f x = .ok y → Rp.sh K H v x → Rp.sh K H v y) {m : M α} (h : EX X Γ e Ow.v m te) : EX X Γ e Ow.v (do let a ← m; f a) te :=
  ⟨h.pe, fun HF0 G HF H σ g c hc Q k => by
    obtain ⟨x, e1, e2⟩ := bind_ok hc
    exact h.sem HF0 G HF H σ g _ e1 Q fun v HF' H' fp st r n f => k v HF' H' fp st ⟨hf e2 r.1, r.2⟩ n f⟩
theorem ex_dlN [Rp α] {m : M Unit} (h : EX X Γ e Ow.v m te) : EX X Γ e Ow.v (do let a ← m; (pure (Dl.n : Dl α) : M (Dl α))) te := ex_cast (f := fun _ => pure Dl.n) (fun e r => by cases pure_ok e; exact Fl.sh_iff.mp r) h
theorem ex_dlI [Rp α] {m : M Int} (h : EX X Γ e Ow.v m te) : EX X Γ e Ow.v (do let a ← m; (pure (Dl.i a : Dl α) : M (Dl α))) te := ex_cast (f := fun a => pure (Dl.i a)) (fun e r => by cases pure_ok e; exact Fl.sh_iff.mp r) h
theorem ex_dlB [Rp α] {m : M Bool} (h : EX X Γ e Ow.v m te) : EX X Γ e Ow.v (do let a ← m; (pure (Dl.b a : Dl α) : M (Dl α))) te := ex_cast (f := fun a => pure (Dl.b a)) (fun e r => by cases pure_ok e; exact Fl.sh_iff.mp r) h
theorem ex_dlS [Rp α] {m : M Str} (h : EX X Γ e Ow.v m te) : EX X Γ e Ow.v (do let a ← m; (pure (Dl.s a : Dl α) : M (Dl α))) te := ex_cast (f := fun a => pure (Dl.s a)) (fun e r => by cases pure_ok e; exact Fl.sh_iff.mp r) h
theorem ex_dlL [Rp α] {m : M (List α)} (h : EX X Γ e Ow.v m te) : EX X Γ e Ow.v (do let a ← m; (pure (Dl.l a : Dl α) : M (Dl α))) te := ex_cast (f := fun a => pure (Dl.l a)) (fun e r => by cases pure_ok e; exact r) h
def toL {α : Type} : Dl α → M (List α)
  | .l xs => pure xs
  | _ => no
def toI {α : Type} : Dl α → M Int
  | .i k => pure k
  | _ => no
theorem ex_toL [Rp α] {m : M (Dl α)} (h : EX X Γ e Ow.v m te) : EX X Γ e Ow.v (do let a ← m; toL a) te := ex_cast (fun {K H v x y} e r => by
  cases x with
  | l xs => cases pure_ok (show (pure xs : M (List α)) = .ok y from e); exact r
  | _ => cases e) h
theorem ex_toI [Rp α] {m : M (Dl α)} (h : EX X Γ e Ow.v m te) : EX X Γ e Ow.v (do let a ← m; toI a) te := ex_cast (fun {K H v x y} e r => by
  cases x with
  | i k => cases pure_ok (show (pure k : M Int) = .ok y from e); exact Fl.sh_iff.mpr r
  | _ => cases e) h
theorem fa_up [Rp α] [Rp β] {f : α → β} {K : PySem.W.Frag} {H : Hp} (hf : ∀ {v x}, Rp.sh K H v x → Rp.sh K H v (f x)) : ∀ {vs : List V} {as : List α}, Fa (Rp.sh K H) vs as → Fa (Rp.sh K H) vs (as.map f)
  | [], [], _ => True.intro
  | _ :: _, _ :: _, ⟨x, y⟩ => ⟨hf x, fa_up hf y⟩
  | [], _ :: _, x => x.elim
  | _ :: _, [], x => x.elim
/-- rows of mixed things, told as one -/
theorem ex_dlUp [Rp α] {m : M (List (List α))} (h : EX X Γ e Ow.v m te) : EX X Γ e Ow.v (do let a ← m; (pure (Dl.l (a.map Dl.l) : Dl (Dl α)) : M (Dl (Dl α)))) te := ex_cast (f := fun a : List (List α) => pure (Dl.l (a.map Dl.l))) (fun {K H v x y} e r => by
  cases pure_ok e
  obtain ⟨p, vs, h1, h2, h3⟩ := r
  exact ⟨p, vs, h1, h2, fa_up (f := fun r : List α => (Dl.l r : Dl α)) (fun h => h) h3⟩) h
/-- rows of numbers, told as one mixed thing -/
theorem ex_dlII [Rp α] {m : M (List (List Int))} (h : EX X Γ e Ow.v m te) : EX X Γ e Ow.v (do let a ← m; (pure (Dl.l (a.map fun r => Dl.l (r.map Dl.i)) : Dl (Dl (Dl α))) : M (Dl (Dl (Dl α))))) te := ex_cast (f := fun a : List (List Int) => pure (Dl.l (a.map fun r => Dl.l (r.map Dl.i)))) (fun {K H v x y} e r => by
  cases pure_ok e
  obtain ⟨p, vs, h1, h2, h3⟩ := r
  refine ⟨p, vs, h1, h2, fa_up (f := fun r : List Int => (Dl.l (r.map Dl.i) : Dl (Dl α))) (fun h => ?_) h3⟩
  obtain ⟨p, vs, h1, h2, h3⟩ := h
  exact ⟨p, vs, h1, h2, fa_up (f := fun k : Int => (Dl.i k : Dl α)) (fun h => Fl.sh_iff.mp h) h3⟩) h
/-! ### isinstance -/
def dlK {α : Type} : Dl α → String
  | .n => "NoneType"
  | .i _ => "int"
  | .b _ => "bool"
  | .s _ => "str"
  | .l _ => "list"
  | .t _ => "tuple"
  | .d => "dict"
theorem dl_ty [Rp α] {K : PySem.W.Frag} {H : Hp} {v : V} {x : Dl α} (h : Rp.sh K H v x) : TyX K H v (.type (dlK x)) := by
  cases x with
  | n => cases h; exact .base .non
  | i k => cases h; exact .base (.int _)
  | b k => cases h; exact .base (.bl _)
  | s k => cases h; exact .base (.str _)
  | l xs =>
    obtain ⟨p, vs, e, h, _⟩ := h
    subst e
    exact .base (.lst h)
  | t xs =>
    obtain ⟨p, vs, e, h, _⟩ := h
    subst e
    rcases h with (h | ⟨o, h⟩) | ⟨o, its, n, e, c, _⟩
    · exact .base (.tup h)
    · exact .fTuple h
    · exact .kTuple e c
  | d =>
    obtain ⟨p, e, h⟩ := h
    subst e
    exact .base (.dK h)
theorem ex_isDl {K : PySem.W.Frag} [Rp α] {m : M (Dl α)} {T : Str} {n : String} (hm : X.mg "isinstance" = none) (hmT : X.mg T = none) (hT : bootBuiltins T = some (.type n)) (h : EX X Γ e Ow.v m te) (hg : Gl X "isinstance" := by rfl) (hgT : Gl X T := by rfl) (hn : T ≠ "__name__" := by decide) (hdb : (T == ("__debug__" : Str)) = false := by decide)
    (h1 : starEach [e, .Name T p1] X.env = (false, eval e X.env) :: starEach [.Name T p1] X.env := by rfl) (h2 : starEach [.Name T p1] X.env = (false, eval (.Name T p1) X.env) :: starEach [] X.env := by rfl) (hpl : (backTo pos (starEach [.Name T p1] X.env)).any (·.1) = false := by rfl) (hK : X.K = K := by rfl) :
    EX X Γ (.Call (.Name "isinstance" p) [e, .Name T p1] [] pos) Ow.v (do let x ← m; ofO (kitB (dlK x) n)) (tCB (rIsi K) (tCons te (tCons (tC (.ty n)) tNil))) := by
  subst hK
  exact ⟨pe_callB call_isi hg hm (by decide +kernel) (pa_cons h.pe (pa_cons (pe_bltn (v := .ty n) hgT hmT hT rfl hn hdb) pa_nil h2) h1) (by decide) (by decide) h1 hpl, fun HF0 G HF H σ g c hc Q k => by
    obtain ⟨x, e1, hc⟩ := bind_ok hc
    refine h.sem HF0 G HF H σ g x e1 _ fun v HF1 H1 fp s1 r1 _ _ => ?_
    exact ⟨v, .ty n, .type (dlK x), .type n, c, rfl, .ty n, dl_ty (Rp.mono s1.sub r1.1), kit_ty (ofO_ok hc), (k.back s1).flat s1.sub⟩⟩
end
end Ty

/-! ## Ty92: own tables of mixed things -/
namespace Ty
open PySem PySem.Spec PyProof.Rows L2
/-- a thing that is held: a list of one's own, or whatever is shared -/
def Ow.dl {α : Type} [Rp α] : Ow (Dl α) where
  rep K HF H v x fp := match x with
    | .l xs => (Ow.l (Ow.v : Ow α)).rep K HF H v xs fp
    | x => (Ow.v : Ow (Dl α)).rep K HF H v x fp
  mono := fun {K HF HF' H H' v a fp} e k h => by
    cases a with
    | l xs => exact (Ow.l (Ow.v : Ow α)).mono e k h
    | _ => exact (Ow.v : Ow (Dl α)).mono e k h
  dom := fun {K HF H v a fp} h p hp => by
    cases a with
    | l xs => exact (Ow.l (Ow.v : Ow α)).dom h p hp
    | _ => exact (Ow.v : Ow (Dl α)).dom h p hp
  frz := fun {K HF HF' H v a fp} e k h => by
    cases a with
    | l xs => exact (Ow.l (Ow.v : Ow α)).frz e k h
    | _ => exact (Ow.v : Ow (Dl α)).frz e k h
theorem Rl.map2 {α β : Type} {R : V → α → List Addr → Prop} {R' : V → β → List Addr → Prop} {f : α → β} (h : ∀ v a fp, R v a fp → R' v (f a) fp) : ∀ {vs : List V} {as : List α} {fp : List Addr}, Rl R vs as fp → Rl R' vs (as.map f) fp
  | [], [], _, e => e
  | _ :: _, _ :: _, _, ⟨f1, f2, e, y, z⟩ => ⟨f1, f2, e, h _ _ _ y, Rl.map2 h z⟩
  | [], _ :: _, _, x => x.elim
  | _ :: _, [], _, x => x.elim
section
variable {X : Cx} {Γ : Ctx} {S L ρ α β γ A B S' : Type} [Rp ρ] {o : Ow ρ} {Γo : S → Ctx} {ΓL : L → Ctx} {a b e f : Expr} {es : List Expr} {pos p p1 p2 p3 apos cpos : Pos} {ta tb te tf : TE} {t : TA} {sts : List Stmt} {tr tr' : TS}
/-- a slot told otherwise -/
theorem ss_as [Rp α] [Rp β] (i : Nat) {u : Ow α} {u' : Ow β} {x : α} {y : β} {m : M (Ctl S L ρ)} (h : ∀ {K HF H v fp}, u.rep K HF H v x fp → u'.rep K HF H v y fp) (hr : SS X (put Γ i (.mk u' y)) sts Γo ΓL o m tr) (hl : look Γ i = .mk u x := by rfl) : SS X Γ sts Γo ΓL o m tr :=
  ⟨hr.pss, fun HF0 G HF H σ g c hc D kk => by
    obtain ⟨v, fo, hσ, hrep, nd, hfo, back⟩ := g.take hl
    have gg := back (u' := u') (b := y) (v' := v) (f' := fo) (H' := H) (Step.refl g.sub) (fun p w hp e => e) (h hrep) nd (fun p hp => .inl hp)
    rw [set_self hσ] at gg
    exact hr.sem HF0 G HF H σ gg c hc D kk⟩
theorem ss_set2R {K : PySem.W.Frag} [Rp α] (i : Nat) {as : List (List α)} {x : Str} {m : M α} {ma mb : M Int} {k : List (List α) → M (Ctl S L ρ)} (he : EX X Γ e Ow.v m te) (ha : EX X Γ a Ow.v ma ta) (hb : EX X Γ b Ow.v mb tb) (hr : ∀ l, SS X (put Γ i (.mk (Ow.l (Ow.l (Ow.v : Ow α))) l)) sts Γo ΓL o (k l) tr) (hl : look Γ i = .mk (Ow.l (Ow.l (Ow.v : Ow α))) as := by rfl) (hN : X.N[i]? = some x := by rfl) (hv : Vis X.env.scope x := by first | exact Or.inl rfl | exact Or.inr (Or.inl rfl) | exact Or.inr (Or.inr rfl)) (hd : (x == ("__debug__" : Str)) = false := by decide)
    (hcd : (x == ("__classdict__" : Str)) = false := by decide) (hK : X.K = K := by rfl)
    (hps : PE X e te → PG X (.Subscript (.Subscript (.Name x p) a p2) b p1) (gSub (tOp (rIxL K) (tVar i) ta) tb rSetL) → PS X (.Assign [.Subscript (.Subscript (.Name x p) a p2) b p1] e pos) (tAsg te (gSub (tOp (rIxL K) (tVar i) ta) tb rSetL)) := by exact fun h h' => ps_asg h h')
    (hpg : PE X (.Name x p) (tVar i) → PE X a ta → PE X b tb → PG X (.Subscript (.Subscript (.Name x p) a p2) b p1) (gSub (tOp (rIxL K) (tVar i) ta) tb rSetL) := by exact fun h h' h'' => pg_sub (pe_ix ix_list h h' (fun _ _ => rfl)) h'' set_list) :
    SS X Γ (.Assign [.Subscript (.Subscript (.Name x p) a p2) b p1] e pos :: sts) Γo ΓL o (do let a ← m; let b ← ma; let c ← mb; let l ← set2M as b c a; k l) (tSeq (tAsg te (gSub (tOp (rIxL K) (tVar i) ta) tb rSetL)) tr) := by
  subst hK
  exact ⟨pss_cons (hps he.pe (hpg (pe_var hN hv hd hcd) ha.pe hb.pe)) (hr []).pss, fun HF0 G HF H σ g c hc D kk => by
    obtain ⟨y, e1, hc⟩ := bind_ok hc
    obtain ⟨ix, e2, hc⟩ := bind_ok hc
    obtain ⟨iy, e3, hc⟩ := bind_ok hc
    obtain ⟨l, e4, hc⟩ := bind_ok hc
    obtain ⟨j, e5, e4⟩ := bind_ok e4
    obtain ⟨r, e6, e4⟩ := bind_ok e4
    obtain ⟨n, e7, e4⟩ := bind_ok e4
    have e8 := pure_ok e4
    subst e8
    have e5 := ofO_ok e5
    have e6 := ofO_ok e6
    have e7 := ofO_ok e7
    refine he.sem HF0 G HF H σ g y e1 _ fun v' HF1 H1 fp st1 r1 _ _ => ?_
    obtain ⟨p, vs, q, ws, fq, hσ, h3, hlen, hvq, _, _, _, _, _, _, _, _, _⟩ := g.take2 (u := Ow.v) hl (Step.refl g.sub) e6
    refine ⟨.ref p, hσ, ?_⟩
    refine ha.sem HF0 G HF1 H1 σ (g.step st1) ix e2 _ fun w2 HF2 H2 fp2 st2 r2 _ _ => ?_
    have st12 := st1.trans st2
    refine ⟨p, vs, ix, .ref q, rfl, r2.1, SqL.of (st12.exH _ _ h3), ?_, ?_⟩
    · unfold atI
      rw [hlen, e5]
      exact hvq
    refine hb.sem HF0 G HF2 H2 σ (g.step st12) iy e3 _ fun w3 HF3 H3 fp3 st3 r3 _ _ => ?_
    have st123 := st12.trans st3
    obtain ⟨p', vs', q', ws', fq', hσ', h3', _, hvq', hq1, hr1, nq, hnq, _, _, _, _, back⟩ := g.take2 (u := Ow.v) hl st123 e6
    rw [hσ] at hσ'
    cases hσ'
    rw [h3] at h3'
    cases h3'
    rw [hvq] at hvq'
    cases hvq'
    obtain ⟨hfa, hnil⟩ := Rl.toFa hr1
    refine ⟨q, ws', iy, n, rfl, r3.1, hq1, by rw [hr1.len]; exact e7, ?_⟩
    have gg := back (HF2 := HF3) (H2 := H3) (ws' := ws'.set n v') (r' := r.set n y) (fq' := []) (Step.refl st123.sub) (Rl.ofFa (Fa.set (Rp.mono (st2.exF.trans st3.exF) r1.1) n hfa)) List.nodup_nil (by simp) (by simp)
    exact (hr (as.set j (r.set n y))).sem HF0 G HF3 _ σ gg c hc D (kk.mono st123.exF)⟩
theorem ss_app2R {K : PySem.W.Frag} [Rp α] (i : Nat) {as : List (List α)} {x : Str} {m : M α} {ma : M Int} {k : List (List α) → M (Ctl S L ρ)} (ha : EX X Γ a Ow.v ma ta) (he : EX X Γ e Ow.v m te) (hr : ∀ l, SS X (put Γ i (.mk (Ow.l (Ow.l (Ow.v : Ow α))) l)) sts Γo ΓL o (k l) tr) (hl : look Γ i = .mk (Ow.l (Ow.l (Ow.v : Ow α))) as := by rfl) (hN : X.N[i]? = some x := by rfl) (hv : Vis X.env.scope x := by first | exact Or.inl rfl | exact Or.inr (Or.inl rfl) | exact Or.inr (Or.inr rfl)) (hd : (x == ("__debug__" : Str)) = false := by decide)
    (hcd : (x == ("__classdict__" : Str)) = false := by decide) (hK : X.K = K := by rfl)
    (hpe : ∀ {tt : TA}, PE X (.Name x p) (tVar i) → PE X a ta → PA X [e] tt → PE X (.Call (.Attribute (.Subscript (.Name x p) a p2) "append" apos) [e] [] cpos) (tBM K "list" rAppend (tOp (rIxL K) (tVar i) ta) tt) := by exact fun h h' h'' => pe_bm PySem.F.plainAttrs_list PySem.F.slot_list_append PySem.F.type_list_append mt_append (pe_ix ix_list h h' (fun _ _ => rfl)) h'')
    (h1 : starEach [e] X.env = (false, eval e X.env) :: starEach [] X.env := by rfl)
    (hs : swapsWith (.Call (.Attribute (.Subscript (.Name x p) a p2) "append" apos) [e] [] cpos) none pos.line X.env = pure false := by rfl) :
    SS X Γ (.Expr (.Call (.Attribute (.Subscript (.Name x p) a p2) "append" apos) [e] [] cpos) pos :: sts) Γo ΓL o (do let b ← ma; let a ← m; let l ← app2M as b a; k l) (tSeq (tDrop (tBM K "list" rAppend (tOp (rIxL K) (tVar i) ta) (tCons te tNil))) tr) := by
  subst hK
  exact ⟨pss_cons (ps_expr (hpe (pe_var hN hv hd hcd) ha.pe (pa_cons he.pe pa_nil h1)) hs) (hr []).pss, fun HF0 G HF H σ g c hc D kk => by
    obtain ⟨ix, e2, hc⟩ := bind_ok hc
    obtain ⟨y, e1, hc⟩ := bind_ok hc
    obtain ⟨l, e4, hc⟩ := bind_ok hc
    obtain ⟨j, e5, e4⟩ := bind_ok e4
    obtain ⟨r, e6, e4⟩ := bind_ok e4
    obtain ⟨n, e7, e4⟩ := bind_ok e4
    have e8 := pure_ok e4
    subst e8
    have e5 := ofO_ok e5
    have e6 := ofO_ok e6
    have e7 := gd_ok e7
    obtain ⟨p, vs, q, ws, fq, hσ, h3, hlen, hvq, hq0, _, _, _, _, _, _, _, _⟩ := g.take2 (u := Ow.v) hl (Step.refl g.sub) e6
    refine ⟨.ref p, hσ, ?_⟩
    refine ha.sem HF0 G HF H σ g ix e2 _ fun w2 HF1 H1 fp2 st1 r2 _ _ => ?_
    refine ⟨p, vs, ix, .ref q, rfl, r2.1, SqL.of (st1.exH _ _ h3), ?_, .inl ⟨rfl, ws, SqL.of (st1.exH _ _ hq0)⟩, ?_⟩
    · unfold atI
      rw [hlen, e5]
      exact hvq
    refine he.sem HF0 G HF1 H1 σ (g.step st1) y e1 _ fun v' HF2 H2 fp st2 r1 _ _ => ?_
    have st12 := st1.trans st2
    obtain ⟨p', vs', q', ws', fq', hσ', h3', _, hvq', hq1, hr1, nq, hnq, _, _, _, _, back⟩ := g.take2 (u := Ow.v) hl st12 e6
    rw [hσ] at hσ'
    cases hσ'
    rw [h3] at h3'
    cases h3'
    rw [hvq] at hvq'
    cases hvq'
    obtain ⟨hfa, hnil⟩ := Rl.toFa hr1
    refine ⟨q, ws', v', rfl, rfl, hq1, by rw [hr1.len]; exact of_decide_eq_true e7, ?_⟩
    have gg := back (HF2 := HF2) (H2 := H2) (ws' := ws' ++ [v']) (r' := r ++ [y]) (fq' := []) (Step.refl st12.sub) (Rl.ofFa (Fa.append hfa ⟨r1.1, True.intro⟩)) List.nodup_nil (by simp) (by simp)
    exact (hr (as.set j (r ++ [y]))).sem HF0 G HF2 _ σ gg c hc D (kk.mono st12.exF)⟩
/-! ### rows told as lists; lists told as rows -/
def allL {α : Type} : List (Dl α) → Option (List (List α))
  | [] => some []
  | .l xs :: r => (allL r).map (xs :: ·)
  | _ :: _ => none
theorem allL_eq {α : Type} : ∀ {as : List (Dl α)} {rs : List (List α)}, allL as = some rs → as = rs.map Dl.l
  | [], rs, h => by cases h; rfl
  | .l xs :: r, rs, h => by
    obtain ⟨q, h1, h2⟩ := Option.map_eq_some_iff.mp (show (allL r).map (xs :: ·) = some rs from h)
    subst h2
    rw [List.map_cons, allL_eq h1]
  | .n :: _, _, h => by cases h
  | .i _ :: _, _, h => by cases h
  | .b _ :: _, _, h => by cases h
  | .s _ :: _, _, h => by cases h
  | .t _ :: _, _, h => by cases h
  | .d :: _, _, h => by cases h
def toLL {α : Type} (as : List (Dl α)) : M (List (List α)) := ofO (allL as)
theorem Rl.unmap {α β : Type} {R : V → α → List Addr → Prop} {R' : V → β → List Addr → Prop} {f : α → β} (h : ∀ v a fp, R' v (f a) fp → R v a fp) : ∀ {vs : List V} {as : List α} {fp : List Addr}, Rl R' vs (as.map f) fp → Rl R vs as fp
  | [], [], _, e => e
  | _ :: _, _ :: _, _, ⟨f1, f2, e, y, z⟩ => ⟨f1, f2, e, h _ _ _ y, Rl.unmap h z⟩
  | [], _ :: _, _, x => x.elim
  | _ :: _, [], _, x => x.elim
theorem rep_up [Rp α] {K : PySem.W.Frag} {HF H : Hp} {v : V} {rs : List (List α)} {fp : List Addr} (h : (Ow.l (Ow.l (Ow.v : Ow α))).rep K HF H v rs fp) : (Ow.l (Ow.dl (α := α))).rep K HF H v (rs.map Dl.l) fp := by
  obtain ⟨p, vs, fq, h1, h2, h3, h4⟩ := h
  exact ⟨p, vs, fq, h1, h2, h3, Rl.map2 (f := Dl.l) (R' := (Ow.dl (α := α)).rep K HF H) (fun v a fp h => h) h4⟩
theorem rep_dn [Rp α] {K : PySem.W.Frag} {HF H : Hp} {v : V} {rs : List (List α)} {fp : List Addr} (h : (Ow.l (Ow.dl (α := α))).rep K HF H v (rs.map Dl.l) fp) : (Ow.l (Ow.l (Ow.v : Ow α))).rep K HF H v rs fp := by
  obtain ⟨p, vs, fq, h1, h2, h3, h4⟩ := h
  exact ⟨p, vs, fq, h1, h2, h3, Rl.unmap (f := Dl.l) (R' := (Ow.dl (α := α)).rep K HF H) (fun v a fp h => h) h4⟩
theorem rep_int [Rp α] {K : PySem.W.Frag} {HF H : Hp} {v : V} {rs : List (List Int)} {fp : List Addr} (h : (Ow.l (Ow.l (Ow.v : Ow Int))).rep K HF H v rs fp) : (Ow.l (Ow.dl (α := Dl α))).rep K HF H v (rs.map fun r => Dl.l (r.map Dl.i)) fp := by
  obtain ⟨p, vs, fq, h1, h2, h3, h4⟩ := h
  refine ⟨p, vs, fq, h1, h2, h3, Rl.map2 (f := fun r : List Int => (Dl.l (r.map Dl.i) : Dl (Dl α))) (R' := (Ow.dl (α := Dl α)).rep K HF H) (fun v a fp h => ?_) h4⟩
  obtain ⟨p, vs, fq, h1, h2, h3, h4⟩ := h
  exact ⟨p, vs, fq, h1, h2, h3, Rl.map2 (f := fun k : Int => (Dl.i k : Dl α)) (R' := (Ow.v : Ow (Dl α)).rep K HF H) (fun v a fp h => ⟨Fl.sh_iff.mp h.1, h.2⟩) h4⟩
theorem ss_asLL [Rp α] (i : Nat) {as : List (Dl α)} {k : List (List α) → M (Ctl S L ρ)} (hr : ∀ rs, SS X (put Γ i (.mk (Ow.l (Ow.l (Ow.v : Ow α))) rs)) sts Γo ΓL o (k rs) tr) (hl : look Γ i = .mk (Ow.l (Ow.dl (α := α))) as := by rfl) : SS X Γ sts Γo ΓL o (do let rs ← toLL as; k rs) tr :=
  ⟨(hr []).pss, fun HF0 G HF H σ g c hc D kk => by
    obtain ⟨rs, e1, hc1⟩ := bind_ok hc
    have e2 := allL_eq (ofO_ok e1)
    subst e2
    exact (ss_as i (fun h => rep_dn h) (hr rs) hl).sem HF0 G HF H σ g c hc1 D kk⟩
theorem ss_asUp [Rp α] (i : Nat) {rs : List (List α)} {m : M (Ctl S L ρ)} (hr : SS X (put Γ i (.mk (Ow.l (Ow.dl (α := α))) (rs.map Dl.l))) sts Γo ΓL o m tr) (hl : look Γ i = .mk (Ow.l (Ow.l (Ow.v : Ow α))) rs := by rfl) : SS X Γ sts Γo ΓL o m tr := ss_as i (fun h => rep_up h) hr hl
theorem ss_asInt [Rp α] (i : Nat) {rs : List (List Int)} {m : M (Ctl S L ρ)} (hr : SS X (put Γ i (.mk (Ow.l (Ow.dl (α := Dl α))) (rs.map fun r => Dl.l (r.map Dl.i)))) sts Γo ΓL o m tr) (hl : look Γ i = .mk (Ow.l (Ow.l (Ow.v : Ow Int))) rs := by rfl) : SS X Γ sts Γo ΓL o m tr := ss_as i (fun h => rep_int h) hr hl
/-- an expression over a slot told otherwise -/
theorem ex_asLL [Rp α] [Rp β] (i : Nat) {as : List (Dl α)} {w : Ow β} {m : List (List α) → M β} (hr : ∀ rs, EX X (put Γ i (.mk (Ow.l (Ow.l (Ow.v : Ow α))) rs)) e w (m rs) te) (hl : look Γ i = .mk (Ow.l (Ow.dl (α := α))) as := by rfl) : EX X Γ e w (do let rs ← toLL as; m rs) te :=
  ⟨(hr []).pe, fun HF0 G HF H σ g c hc Q k => by
    obtain ⟨rs, e1, hc1⟩ := bind_ok hc
    have e2 := allL_eq (ofO_ok e1)
    subst e2
    obtain ⟨v, fo, hσ, hrep, nd, hfo, back⟩ := g.take hl
    have gg := back (u' := Ow.l (Ow.l (Ow.v : Ow α))) (b := rs) (v' := v) (f' := fo) (H' := H) (Step.refl g.sub) (fun p w hp e => e) (rep_dn hrep) nd (fun p hp => .inl hp)
    rw [set_self hσ] at gg
    exact (hr rs).sem HF0 G HF H σ gg c hc1 Q k⟩
/-- x[a][b], x an own table -/
def ix2M {α : Type} (as : List (List α)) (i j : Int) : M α := do
  let n ← ofO (ixN as.length i)
  let r ← ofO as[n]?
  let k ← ofO (ixN r.length j)
  ofO r[k]?
theorem ex_ix2R {K : PySem.W.Frag} [Rp α] (i : Nat) {as : List (List α)} {x : Str} {ma mb : M Int} (ha : EX X Γ a Ow.v ma ta) (hb : EX X Γ b Ow.v mb tb) (hl : look Γ i = .mk (Ow.l (Ow.l (Ow.v : Ow α))) as := by rfl) (hN : X.N[i]? = some x := by rfl) (hv : Vis X.env.scope x := by first | exact Or.inl rfl | exact Or.inr (Or.inl rfl) | exact Or.inr (Or.inr rfl)) (hd : (x == ("__debug__" : Str)) = false := by decide)
    (hcd : (x == ("__classdict__" : Str)) = false := by decide) (hK : X.K = K := by rfl) (hs1 : NoSl a := by intro _ _; rfl) (hs2 : NoSl b := by intro _ _; rfl) :
    EX X Γ (.Subscript (.Subscript (.Name x p) a p2) b p1) Ow.v (do let i ← ma; let j ← mb; ix2M as i j) (tOp (rIxL K) (tOp (rIxL K) (tVar i) ta) tb) := by
  subst hK
  exact ⟨pe_ix ix_list (pe_ix ix_list (pe_var hN hv hd hcd) ha.pe hs1) hb.pe hs2, fun HF0 G HF H σ g c hc Q k => by
    obtain ⟨ix, e2, hc⟩ := bind_ok hc
    obtain ⟨iy, e3, hc⟩ := bind_ok hc
    obtain ⟨j, e5, hc⟩ := bind_ok hc
    obtain ⟨r, e6, hc⟩ := bind_ok hc
    obtain ⟨n, e7, hc⟩ := bind_ok hc
    have e5 := ofO_ok e5
    have e6 := ofO_ok e6
    have e7 := ofO_ok e7
    have e8 := ofO_ok hc
    obtain ⟨p, vs, q, ws, fq, hσ, h3, hlen, hvq, _, _, _, _, _, _, _, _, _⟩ := g.take2 (u := Ow.v) hl (Step.refl g.sub) e6
    refine ⟨.ref p, hσ, ?_⟩
    refine ha.sem HF0 G HF H σ g ix e2 _ fun w2 HF2 H2 fp2 st2 r2 _ _ => ?_
    refine ⟨p, vs, ix, .ref q, rfl, r2.1, SqL.of (st2.exH _ _ h3), ?_, ?_⟩
    · unfold atI
      rw [hlen, e5]
      exact hvq
    refine hb.sem HF0 G HF2 H2 σ (g.step st2) iy e3 _ fun w3 HF3 H3 fp3 st3 r3 _ _ => ?_
    have st23 := st2.trans st3
    obtain ⟨p', vs', q', ws', fq', hσ', h3', _, hvq', hq1, hr1, nq, hnq, _, _, _, _, back⟩ := g.take2 (u := Ow.v) hl st23 e6
    rw [hσ] at hσ'
    cases hσ'
    rw [h3] at h3'
    cases h3'
    rw [hvq] at hvq'
    cases hvq'
    obtain ⟨hfa, hnil⟩ := Rl.toFa hr1
    obtain ⟨z, hz, hrz⟩ := hfa.get' e8
    refine ⟨q, ws', iy, z, rfl, r3.1, SqL.of hq1, ?_, (k.back st23).shv st23.sub hrz⟩
    unfold atI
    rw [hr1.len, e7]
    exact hz⟩

/-- x[i].pop() -/
def pop2M {α : Type} (as : List (List α)) (k : Int) : M (List (List α)) := do
  let j ← ofO (ixN as.length k)
  let r ← ofO as[j]?
  gd (decide (0 < r.length))
  pure (as.set j r.dropLast)
theorem ss_pop2R {K : PySem.W.Frag} [Rp α] (i : Nat) {as : List (List α)} {x : Str} {ma : M Int} {k : List (List α) → M (Ctl S L ρ)} (ha : EX X Γ a Ow.v ma ta) (hr : ∀ l, SS X (put Γ i (.mk (Ow.l (Ow.l (Ow.v : Ow α))) l)) sts Γo ΓL o (k l) tr) (hl : look Γ i = .mk (Ow.l (Ow.l (Ow.v : Ow α))) as := by rfl) (hN : X.N[i]? = some x := by rfl) (hv : Vis X.env.scope x := by first | exact Or.inl rfl | exact Or.inr (Or.inl rfl) | exact Or.inr (Or.inr rfl)) (hd : (x == ("__debug__" : Str)) = false := by decide)
    (hcd : (x == ("__classdict__" : Str)) = false := by decide) (hK : X.K = K := by rfl)
    (hpe : PE X (.Name x p) (tVar i) → PE X a ta → PE X (.Call (.Attribute (.Subscript (.Name x p) a p2) "pop" apos) [] [] cpos) (tBM0 K "list" rPop (tOp (rIxL K) (tVar i) ta)) := by exact fun h h' => pe_bm0 PySem.F.plainAttrs_list PySem.F.slot_list_pop PySem.F.type_list_pop mt_pop (pe_ix ix_list h h' (fun _ _ => rfl)))
    (hs : swapsWith (.Call (.Attribute (.Subscript (.Name x p) a p2) "pop" apos) [] [] cpos) none pos.line X.env = pure false := by rfl) :
    SS X Γ (.Expr (.Call (.Attribute (.Subscript (.Name x p) a p2) "pop" apos) [] [] cpos) pos :: sts) Γo ΓL o (do let b ← ma; let l ← pop2M as b; k l) (tSeq (tDrop (tBM0 K "list" rPop (tOp (rIxL K) (tVar i) ta))) tr) := by
  subst hK
  exact ⟨pss_cons (ps_expr (hpe (pe_var hN hv hd hcd) ha.pe) hs) (hr []).pss, fun HF0 G HF H σ g c hc D kk => by
    obtain ⟨ix, e2, hc⟩ := bind_ok hc
    obtain ⟨l, e4, hc⟩ := bind_ok hc
    obtain ⟨j, e5, e4⟩ := bind_ok e4
    obtain ⟨r, e6, e4⟩ := bind_ok e4
    obtain ⟨n, e7, e4⟩ := bind_ok e4
    have e8 := pure_ok e4
    subst e8
    have e5 := ofO_ok e5
    have e6 := ofO_ok e6
    have e7 := of_decide_eq_true (gd_ok e7)
    obtain ⟨p, vs, q, ws, fq, hσ, h3, hlen, hvq, hq0, _, _, _, _, _, _, _, _⟩ := g.take2 (u := Ow.v) hl (Step.refl g.sub) e6
    refine ⟨.ref p, hσ, ?_⟩
    refine ha.sem HF0 G HF H σ g ix e2 _ fun w2 HF1 H1 fp2 st1 r2 _ _ => ?_
    obtain ⟨p', vs', q', ws', fq', hσ', h3', _, hvq', hq1, hr1, nq, hnq, _, _, _, _, back⟩ := g.take2 (u := Ow.v) hl st1 e6
    rw [hσ] at hσ'
    cases hσ'
    rw [h3] at h3'
    cases h3'
    rw [hvq] at hvq'
    cases hvq'
    have hwl := hr1.len
    obtain ⟨hfa, hnil⟩ := Rl.toFa hr1
    refine ⟨p, vs, ix, .ref q, rfl, r2.1, SqL.of (st1.exH _ _ h3), ?_, .inl ⟨rfl, ws', SqL.of hq1⟩, q, ws', ws'[ws'.length - 1], rfl, rfl, hq1, List.getElem?_eq_getElem (by omega), ?_⟩
    · unfold atI
      rw [hlen, e5]
      exact hvq
    obtain ⟨fq2, q1, q2, q3⟩ := hr1.dropLast
    obtain ⟨hfa2, hnil2⟩ := Rl.toFa q1
    have gg := back (HF2 := HF1) (H2 := H1) (ws' := ws'.dropLast) (r' := r.dropLast) (fq' := []) (Step.refl st1.sub) (Rl.ofFa hfa2) List.nodup_nil (by simp) (by simp)
    exact (hr (as.set j r.dropLast)).sem HF0 G HF1 _ σ gg c hc D (kk.mono st1.exF)⟩
/-- tuple(x[a]), x an own table -/
def tupRowM {α : Type} (as : List (List α)) (i : Int) : M (Dl α) := do
  let n ← ofO (ixN as.length i)
  let r ← ofO as[n]?
  pure (.t r)
theorem ex_tupRow {K : PySem.W.Frag} [Rp α] (i : Nat) {as : List (List α)} {x : Str} {ma : M Int} (hm : X.mg "tuple" = none) (ha : EX X Γ a Ow.v ma ta) (hl : look Γ i = .mk (Ow.l (Ow.l (Ow.v : Ow α))) as := by rfl) (hN : X.N[i]? = some x := by rfl) (hv : Vis X.env.scope x := by first | exact Or.inl rfl | exact Or.inr (Or.inl rfl) | exact Or.inr (Or.inr rfl)) (hd : (x == ("__debug__" : Str)) = false := by decide)
    (hcd : (x == ("__classdict__" : Str)) = false := by decide) (hg : Gl X "tuple" := by rfl) (hK : X.K = K := by rfl) (hs1 : NoSl a := by intro _ _; rfl) (na : starEach [.Subscript (.Name x p) a p2] X.env = (false, eval (.Subscript (.Name x p) a p2) X.env) :: starEach [] X.env := by rfl) :
    EX X Γ (.Call (.Name "tuple" p1) [.Subscript (.Name x p) a p2] [] pos) (Ow.dl (α := α)) (do let j ← ma; tupRowM as j) (tThen (tOp (rIxL K) (tVar i) ta) (kTup K)) := by
  subst hK
  exact ⟨pe_tupleOf hg hm (pe_ix ix_list (pe_var hN hv hd hcd) ha.pe hs1) na, fun HF0 G HF H σ g c hc Q k => by
    obtain ⟨ix, e2, hc⟩ := bind_ok hc
    obtain ⟨j, e5, hc⟩ := bind_ok hc
    obtain ⟨r, e6, hc⟩ := bind_ok hc
    have e8 := pure_ok hc
    subst e8
    have e5 := ofO_ok e5
    have e6 := ofO_ok e6
    obtain ⟨p, vs, q, ws, fq, hσ, h3, hlen, hvq, _, _, _, _, _, _, _, _, _⟩ := g.take2 (u := Ow.v) hl (Step.refl g.sub) e6
    refine ⟨.ref p, hσ, ?_⟩
    refine ha.sem HF0 G HF H σ g ix e2 _ fun w2 HF2 H2 fp2 st2 r2 _ _ => ?_
    obtain ⟨p', vs', q', ws', fq', hσ', h3', _, hvq', hq1, hr1, nq, hnq, _, _, _, _, back⟩ := g.take2 (u := Ow.v) hl st2 e6
    rw [hσ] at hσ'
    cases hσ'
    rw [h3] at h3'
    cases h3'
    rw [hvq] at hvq'
    cases hvq'
    obtain ⟨hfa, hnil⟩ := Rl.toFa hr1
    refine ⟨p, vs, ix, .ref q, rfl, r2.1, SqL.of (st2.exH _ _ h3), ?_, .inl ⟨q, ws', rfl, SqL.of hq1, fun z hz => ?_⟩⟩
    · unfold atI
      rw [hlen, e5]
      exact hvq
    have st := Step.shr (o := .tup ws') st2.sub hz
    exact (k.back st2) (.ref z) (upd HF2 z (.tup ws')) _ [] st ⟨⟨z, ws', rfl, .inl (.inl upd_same), Fa.mono (fun _ _ h => Rp.mono st.exF h) hfa⟩, rfl⟩ List.nodup_nil fun p hp => by cases hp⟩

/-- an own thing told otherwise -/
theorem ex_re [Rp α] [Rp β] {u : Ow α} {u' : Ow β} {g : α → β} {m : M α} (h : ∀ {K HF H v x fp}, u.rep K HF H v x fp → u'.rep K HF H v (g x) fp) (he : EX X Γ e u m te) : EX X Γ e u' (do let a ← m; pure (g a)) te :=
  ⟨he.pe, fun HF0 G HF H σ gg c hc Q k => by
    obtain ⟨x, e1, hc⟩ := bind_ok hc
    cases pure_ok hc
    exact he.sem HF0 G HF H σ gg x e1 Q fun v HF' H' fp st r n f => k v HF' H' fp st (h r) n f⟩
theorem ex_rowI [Rp α] {m : M (List Int)} (he : EX X Γ e (Ow.l (Ow.v : Ow Int)) m te) : EX X Γ e (Ow.dl (α := Dl α)) (do let a ← m; pure (Dl.l (a.map Dl.i))) te := ex_re (g := fun a : List Int => (Dl.l (a.map Dl.i) : Dl (Dl α))) (fun {K HF H v x fp} h => by
  obtain ⟨p, vs, fq, h1, h2, h3, h4⟩ := h
  exact ⟨p, vs, fq, h1, h2, h3, Rl.map2 (f := fun k : Int => (Dl.i k : Dl α)) (R' := (Ow.v : Ow (Dl α)).rep K HF H) (fun v a fp h => ⟨Fl.sh_iff.mp h.1, h.2⟩) h4⟩) he
/-! ### a def that takes its first argument over -/
def delF (H : Hp) (fp : List Addr) : Hp := fun p => if p ∈ fp then none else H p
theorem delF_same (H : Hp) (fp : List Addr) : Same (delF H fp) H := fun p o h => by
  unfold delF at h
  split at h
  · cases h
  · exact h
theorem delF_in {H : Hp} {fp : List Addr} {p : Addr} (h : p ∈ fp) : delF H fp p = none := if_pos h
theorem delF_out {H : Hp} {fp : List Addr} {p : Addr} (h : p ∉ fp) : delF H fp p = H p := if_neg h
def spO {A α ρ : Type} [Rp α] [Rp ρ] (K : PySem.W.Frag) (u : Ow α) (r : As A) (o : Ow ρ) (f : α → A → M ρ) : Sp := fun vs H Q _ =>
  ∃ HF x a c v ws fp, vs = v :: ws ∧ Same HF H ∧ u.rep K HF H v x fp ∧ fp.Nodup ∧ (∀ p ∈ fp, HF p = none) ∧ r.rep K HF ws a ∧ f x a = .ok c ∧ RetK K HF (delF H fp) o c Q
end
section
variable {P : Program} {w : World} {K : PySem.W.Frag} {mg : Str → Option Value} {base : Heap}
theorem fn_okO {A α ρ : Type} [Rp α] [Rp ρ] {x qual : Str} {params : Arguments} {bd : List Stmt} {scope : Scope} {dvs : List V} {kws : List (Str × V)} {f : Addr} {fd : FuncData} {N ps : List Str} {k : Nat} {u : Ow α} {r : As A} {o : Ow ρ} {m : α → A → M (Ctl Unit Empty ρ)} (F : FunD K x qual params bd scope dvs kws f fd) (S : FnScope N ps scope) (hn : r.n + 1 = ps.length) (hN : N.length = (r.n + 1) + (N.length - (r.n + 1)))
    (body : ∀ (cdv : Value) (A' : Around) (outer : List Env) (s : Shared) (H : Hp) (E : XK), Room k (A'.deeper (envOfC qual scope s.heap.objs.size f cdv)) → ∀ (x0 : α) (a : A), ∃ t : TS,
      SS (cxOf CX0 P w K mg base N qual scope f cdv A' outer s H E).nox (.mk u x0 :: (r.ctx a ++ List.replicate (N.length - (r.n + 1)) .un)) bd (fun (_ : Unit) => []) (fun (_ : Empty) => []) o (m x0 a) t)
    (ho : ∀ r R v H, R v H → o.out r R v H := by exact fun _ _ _ _ h => h) :
    FnOk P w K mg base CX0 (k + 1) f fd ps (spO K u r o fun x a => runC (m x a)) := by
  refine F.ok S (fun vs H Q E h => ?_) (fun cdv A' outer s H vs Q E hr h => ?_)
  · obtain ⟨HF, x, a, c, v, ws, fp, h1, h2, h3, h4, h5, h6, h7, h8⟩ := h
    rw [h1, List.length_cons, r.len h6, hn]
  · obtain ⟨HF, x, a, c, v, ws, fp, h1, h2, h3, h4, h5, h6, h7, h8⟩ := h
    subst h1
    obtain ⟨t, q⟩ := body cdv A' outer s H E hr x a
    refine ⟨t, q.pss.nox, ?_⟩
    obtain ⟨c', e1, h7⟩ := bind_ok h7
    have hl := r.len h6
    have hd := r.held (HF := HF) (H := H) (N.length - (r.n + 1)) h6
    have es : L2.start N (v :: ws) = some v :: (ws.map some ++ List.replicate (N.length - (r.n + 1)) none) := by unfold L2.start; rw [List.length_cons, hl]; rfl
    refine q.sem HF (delF H fp) HF H (L2.start N (v :: ws)) ⟨h2, Same.refl _, delF_same H fp, (fun p u a b => by rw [a] at b; cases b), fp, ?_, h4, fun p hp => ⟨h5 p hp, delF_in hp⟩⟩ c' e1 _ ?_
    · rw [es]
      exact ⟨fp, [], by simp, ⟨v, rfl, h3⟩, hd⟩
    cases c' with
    | nx s => cases h7
    | bk l => exact nomatch l
    | ct l => exact nomatch l
    | rt r' =>
      cases pure_ok (show (pure r' : M ρ) = .ok c from h7)
      exact fun v HF' H' fp a b c' d rr n ff => ho _ _ _ _ <| h8 v HF' H' fp ⟨b, c', a, d⟩ rr n fun p hp => ⟨(ff p hp).2, (ff p hp).1⟩
end
section
variable {X : Cx} {Γ : Ctx} {S L ρ α β γ A B S' : Type} [Rp ρ] {o : Ow ρ} {Γo : S → Ctx} {ΓL : L → Ctx} {a b e f : Expr} {es : List Expr} {pos p p1 p2 p3 apos cpos : Pos} {ta tb te tf : TE} {t : TA} {sts : List Stmt} {tr tr' : TS}
/-- return f(x, ..), x one's own thing, given away -/
theorem ss_retCallO {K : PySem.W.Frag} [Rp α] (i : Nat) {k : Nat} {f : Addr} {fd : FuncData} {ps : List Str} {g x : Str} {u : Ow α} {x0 : α} {r : As A} {fm : α → A → M ρ} {m : M A} (F : FnOk X.prog X.w X.K X.mg X.base CX0 k f fd ps (spO X.K u r o fm)) (hr : Room k X.A) (hm : X.mg g = some (.ref f)) (hk : PySem.W.keepIn X.K (.ref f) = true) (hb : Binds X.K fd ps [])
    (ha : EA X Γ es r m t) (hl : look Γ i = .mk u x0 := by rfl) (hN : X.N[i]? = some x := by rfl) (hv : Vis X.env.scope x := by first | exact Or.inl rfl | exact Or.inr (Or.inl rfl) | exact Or.inr (Or.inr rfl)) (hd : (x == ("__debug__" : Str)) = false := by decide) (hcd : (x == ("__classdict__" : Str)) = false := by decide)
    (hg : Gl X g := by rfl) (hdb : (g == ("__debug__" : Str)) = false := by decide) (he : starEach (.Name x p1 :: es) X.env = (false, eval (.Name x p1) X.env) :: starEach es X.env := by rfl) (hpl : (backTo cpos (starEach es X.env)).any (·.1) = false := by rfl) (hK : X.K = K := by rfl)
    (ho : ∀ r R v H, o.out r R v H → R v H := by exact fun _ _ _ _ h => h) :
    SS X Γ [.Return (some (.Call (.Name g p) (.Name x p1 :: es) [] cpos)) pos] Γo ΓL o (do let a ← m; let c ← fm x0 a; pure (.rt c)) (tRet (tCall (spO K u r o fm) [] E0 (tCons (tVar i) t))) := by
  subst hK
  exact ⟨pss_one (ps_ret (pe_call F hr hg hm hk hb .nil pass0 (pa_cons (pe_var hN hv hd hcd) ha.pa he) hdb he hpl)), fun HF0 G HF H σ g c hc D kk => by
    obtain ⟨y, e1, hc⟩ := bind_ok hc
    obtain ⟨z, e2, hc⟩ := bind_ok hc
    cases pure_ok hc
    obtain ⟨v, fo, hσ, hrep, nd, hfo, back⟩ := g.take hl
    refine ⟨v, hσ, ?_⟩
    refine ha.sem HF0 G HF H σ g y e1 _ fun vs HF1 H1 s1 r1 => ?_
    have g1 := g.step s1
    have hrep1 := u.mono s1.exF (fun p _ o e => s1.exH p o e) hrep
    have hfo1 : ∀ p ∈ fo, HF1 p = none ∧ G p = none := fun p hp => by
      obtain ⟨w, hw⟩ := u.dom hrep p hp
      exact ⟨s1.nn (hfo p hp).1 hw, (hfo p hp).2⟩
    show spO X.K u r o fm (v :: vs ++ []) H1 _ E0
    rw [List.append_nil]
    refine ⟨HF1, x0, y, z, v, vs, fo, rfl, s1.sub, hrep1, nd, fun p hp => (hfo1 p hp).1, r1, e2, fun v' HF2 H2 fp st rr n ff => ?_⟩
    have gG : Same G (delF H1 fo) := fun q w hq => by
      rw [delF_out (fun z => by rw [(hfo1 q z).2] at hq; cases hq)]
      exact g1.g0 q w hq
    refine ho _ _ _ _ <| kk v' HF2 H2 fp st.sub (g1.f0.trans st.exF) (gG.trans st.exH) (fun q w hq h0 => ?_) rr n fun q hq => ⟨(ff q hq).2, ?_⟩
    · cases hz : HF1 q with
      | some w' => exact g1.nf q w' hz h0
      | none =>
        have := st.new q w hq hz
        cases hG : G q with
        | none => rfl
        | some w' => rw [gG q w' hG] at this; cases this
    · have := (ff q hq).1
      cases hG : G q with
      | none => rfl
      | some w' => rw [gG q w' hG] at this; cases this⟩

theorem ex_tup0 [Rp α] {k} : EX X Γ (.Tuple [] k pos) Ow.v (pure (Dl.t [] : Dl α)) (tTup tNil) :=
  ⟨pe_tup pa_nil, fun HF0 G HF H σ g c hc Q kk => by
    cases pure_ok hc
    refine ⟨by show 0 ≤ sizeLine; omega, fun p hp => ?_⟩
    exact kk (.ref p) (upd HF p (.tup [])) _ [] (Step.shr (o := .tup []) g.sub hp) ⟨⟨p, [], rfl, .inl (.inl upd_same), True.intro⟩, rfl⟩ List.nodup_nil fun p hp => by cases hp⟩
theorem ex_dict0 [Rp α] : EX X Γ (.Dict [] [] pos) Ow.v (pure (Dl.d : Dl α)) tDNewK :=
  ⟨pe_dnewK, fun HF0 G HF H σ g c hc Q kk => by
    cases pure_ok hc
    intro p hp
    exact kk (.ref p) (upd HF p (.dK [])) _ [] (Step.shr (o := .dK []) g.sub hp) ⟨⟨p, rfl, upd_same⟩, rfl⟩ List.nodup_nil fun p hp => by cases hp⟩

end
end Ty


namespace Law
open PySem PySem.Spec PyProof.Rows L2 Ty
/-! ### the mirror -/
def mir_is_bit (p0 : (Dl (Dl Empty))) : M Bool := runC ((fun (ar : (Dl (Dl Empty)) × Unit) => (((bAnd ((pure ar.1) >>= fun x => ofO (kitB (dlK x) "int")) (bAnd (bNot ((pure ar.1) >>= fun x => ofO (kitB (dlK x) "bool"))) (chainM (fun a b => decide (a ≤ b)) (fun a b => decide (a ≤ b)) (pure (0 : Int)) ((pure ar.1) >>= fun a => toI a) (pure (1 : Int))))) >>= fun r => pure (.rt r)) : M (Ctl Unit Empty Bool))) (p0, ()))
def mir_is_table (p0 : (Dl (Dl (Dl (Dl Empty))))) : M Bool := runC ((fun (ar : (Dl (Dl (Dl (Dl Empty)))) × Unit) => (((bOr (bNot ((pure ar.1) >>= fun x => ofO (kitB (dlK x) "list"))) ((((pure ar.1) >>= fun a => toL a) >>= fun a => pure (a.length : Int)) >>= fun a => (pure (10 : Int)) >>= fun b => pure (decide (b < a)))) >>= fun x => if x then ((((pure false) >>= fun r => pure (.rt r)) : M (Ctl Empty Empty Bool)) >>= fun y => thenC y nofun) else (((pure ar.1) >>= fun a => toL a) >>= fun xs => loopM (S := Unit) (ρ := Bool) (fun (row1 : (Dl (Dl (Dl Empty)))) (s2 : Unit) => ((bOr (bNot ((pure row1) >>= fun x => ofO (kitB (dlK x) "list"))) (bOr ((((pure row1) >>= fun a => toL a) >>= fun a => pure (a.length : Int)) >>= fun a => (((pure ar.1) >>= fun a => toL a) >>= fun a => pure (a.length : Int)) >>= fun b => pure (!decide (a = b))) (bNot ((((pure row1) >>= fun a => toL a) >>= fun xs => compM xs (fun (one3 : (Dl (Dl Empty))) => (pure true)) (fun (one3 : (Dl (Dl Empty))) => (((pure one3) >>= fun a => (pure ()) >>= fun b => pure (a, b)) >>= fun a => mir_is_bit a.1))) >>= fun a => pure (a.all id))))) >>= fun x => if x then ((((pure false) >>= fun r => pure (.rt r)) : M (Ctl Empty Unit Bool)) >>= fun y => thenC y nofun) else (pure (.nx ())))) xs () >>= fun c => thenL c (fun (s2 : Unit) => (((pure ar.1) >>= fun a => ((((((pure ar.1) >>= fun a => toL a) >>= fun a => pure (a.length : Int)) >>= fun a => range1 a) >>= fun xs => compM xs (fun (i4 : Int) => (pure true)) (fun (i4 : Int) => (((pure ar.1) >>= fun a => toL a) >>= fun xs => compM xs (fun (row5 : (Dl (Dl (Dl Empty)))) => (pure true)) (fun (row5 : (Dl (Dl (Dl Empty)))) => (((pure row5) >>= fun a => toL a) >>= fun a => (pure i4) >>= fun b => atM a b))))) >>= fun a => pure (Dl.l (a.map Dl.l) : (Dl (Dl (Dl (Dl Empty)))))) >>= fun b => eqDl a b) >>= fun r => pure (.rt r))))) : M (Ctl Unit Empty Bool))) (p0, ()))
def mir_is_web (p0 : (Dl (Dl (Dl (Dl Empty))))) : M Bool := runC ((fun (ar : (Dl (Dl (Dl (Dl Empty)))) × Unit) => (((bAnd (((pure ar.1) >>= fun a => (pure ()) >>= fun b => pure (a, b)) >>= fun a => mir_is_table a.1) (((((pure ar.1) >>= fun a => toL a) >>= fun a => pure (enumL a)) >>= fun xs => compM xs (fun (i1 : (Int × (Dl (Dl (Dl Empty))))) => (pure true)) (fun (i1 : (Int × (Dl (Dl (Dl Empty))))) => ((((pure i1.2) >>= fun a => toL a) >>= fun a => (pure i1.1) >>= fun b => atM a b) >>= fun a => ((pure (0 : Int)) >>= fun a => pure (Dl.i a : (Dl (Dl Empty)))) >>= fun b => eqDl a b))) >>= fun a => pure (a.all id))) >>= fun r => pure (.rt r)) : M (Ctl Unit Empty Bool))) (p0, ()))
def mir__law_cell (p0 : Scr) (p1 : Int) : M Int := runC ((fun (ar : Scr × Int × Unit) => (((pure (0 : Int)) >>= fun (cell_here1 : Int) => (((pure ar.2.1) >>= fun a => ((pure ar.1) >>= fun a => pure (a.l.length : Int)) >>= fun b => pure (decide (a < b))) >>= fun x => ((if x then (((pure ar.1) >>= fun a => (pure ar.2.1) >>= fun b => atM a.l b) >>= fun (cell_here3 : Int) => (pure (.nx (cell_here3)))) else (pure (.nx (cell_here1)))) : M (Ctl (Int) Empty Int)) >>= fun y => thenC y (fun (s2 : (Int)) => ((((((pure s2) >>= fun a => pure (a % (2147483629 : Int))) >>= fun a => (((pure ar.2.1) >>= fun a => (pure (1 : Int)) >>= fun b => pure (a + b)) >>= fun b => pure ((104729 : Int) * b)) >>= fun b => pure (a + b)) >>= fun a => pure (a * (48271 : Int))) >>= fun a => pure (a % (2147483647 : Int))) >>= fun (mixed4 : Int) => (((((pure s2) >>= fun a => (pure (2147483629 : Int)) >>= fun b => divM a b) >>= fun a => pure (a * (2147483647 : Int))) >>= fun a => (((pure mixed4) >>= fun a => pure (a * (69621 : Int))) >>= fun a => pure (a % (2147483629 : Int))) >>= fun b => pure (a + b)) >>= fun r => pure (.rt r)))))) : M (Ctl Unit Empty Int))) (p0, p1, ()))
def mir__law_table (p0 : Scr) (p1 : Int) (p2 : Int) : M (List (List Int)) := runC ((fun (ar : Scr × Int × Int × Unit) => ((((((pure ar.1) >>= fun a => ((pure ar.2.1) >>= fun a => (pure ()) >>= fun b => pure (a, b)) >>= fun b => pure (a, b)) >>= fun a => mir__law_cell a.1 a.2.1) >>= fun a => ((pure ar.2.2.1) >>= fun a => (pure (1 : Int)) >>= fun b => pure (a + b)) >>= fun b => modM a b) >>= fun (size1 : Int) => (((pure (1 : Int)) >>= fun a => ((pure size1) >>= fun a => (((((pure ar.1) >>= fun a => ((pure ar.2.1) >>= fun a => (pure ()) >>= fun b => pure (a, b)) >>= fun b => pure (a, b)) >>= fun a => mir__law_cell a.1 a.2.1) >>= fun a => pure (a / (16 : Int))) >>= fun a => pure (a % (4 : Int))) >>= fun b => pure (a - b)) >>= fun b => pure (if b > a then b else a)) >>= fun (kinds2 : Int) => ((((pure size1) >>= fun a => range1 a) >>= fun xs => compM xs (fun (k3 : Int) => (pure true)) (fun (k3 : Int) => (((((pure ar.1) >>= fun a => (((pure ar.2.1) >>= fun a => (pure (1 : Int)) >>= fun b => pure (a + b)) >>= fun a => (pure ()) >>= fun b => pure (a, b)) >>= fun b => pure (a, b)) >>= fun a => mir__law_cell a.1 a.2.1) >>= fun a => ((pure k3) >>= fun a => (pure (1 : Int)) >>= fun b => pure (a + b)) >>= fun b => divM a b) >>= fun a => (pure kinds2) >>= fun b => modM a b))) >>= fun (kind4 : (List Int)) => (((((((pure ar.1) >>= fun a => ((pure ar.2.1) >>= fun a => (pure ()) >>= fun b => pure (a, b)) >>= fun b => pure (a, b)) >>= fun a => mir__law_cell a.1 a.2.1) >>= fun a => pure (a / (64 : Int))) >>= fun a => pure (a % (3 : Int))) >>= fun a => (pure (0 : Int)) >>= fun b => pure (decide (b < a))) >>= fun x => ((if x then ((((pure size1) >>= fun a => range1 a) >>= fun xs => compM xs (fun (k6 : Int) => (pure true)) (fun (k6 : Int) => ((pure k6) >>= fun a => (pure kinds2) >>= fun b => modM a b))) >>= fun (kind7 : (List Int)) => (pure (.nx (kind7)))) else (pure (.nx (kind4)))) : M (Ctl ((List Int)) Empty (List (List Int)))) >>= fun y => thenC y (fun (s5 : ((List Int))) => ((((pure kinds2) >>= fun a => range1 a) >>= fun xs => compM xs (fun (i8 : Int) => (pure true)) (fun (i8 : Int) => (((pure ar.1) >>= fun a => ((((pure ar.2.1) >>= fun a => (pure (2 : Int)) >>= fun b => pure (a + b)) >>= fun a => (pure i8) >>= fun b => pure (a + b)) >>= fun a => (pure ()) >>= fun b => pure (a, b)) >>= fun b => pure (a, b)) >>= fun a => mir__law_cell a.1 a.2.1))) >>= fun (bits9 : (List Int)) => (((((((pure ar.1) >>= fun a => ((pure ar.2.1) >>= fun a => (pure ()) >>= fun b => pure (a, b)) >>= fun b => pure (a, b)) >>= fun a => mir__law_cell a.1 a.2.1) >>= fun a => pure (a / (192 : Int))) >>= fun a => pure (a % (3 : Int))) >>= fun a => (pure (0 : Int)) >>= fun b => pure (decide (b < a))) >>= fun (free10 : Bool) => ((((pure kinds2) >>= fun a => range1 a) >>= fun xs => compM xs (fun (i11 : Int) => (pure true)) (fun (i11 : Int) => (((pure kinds2) >>= fun a => range1 a) >>= fun xs => compM xs (fun (j12 : Int) => (pure true)) (fun (j12 : Int) => ((((pure bits9) >>= fun a => ((pure i11) >>= fun a => (pure j12) >>= fun b => pure (if b > a then b else a)) >>= fun b => atM a b) >>= fun a => ((((pure i11) >>= fun a => (pure j12) >>= fun b => pure (if b < a then b else a)) >>= fun a => ((pure i11) >>= fun a => (pure j12) >>= fun b => pure (if b < a then b else a)) >>= fun b => mulM a b) >>= fun a => (pure (3 : Int)) >>= fun b => pure (a + b)) >>= fun b => divM a b) >>= fun a => pure (a % (2 : Int))))))) >>= fun (rows13 : (List (List Int))) => (((pure kinds2) >>= fun a => range1 a) >>= fun xs => loopM (S := ((List (List Int)))) (ρ := (List (List Int))) (fun (i14 : Int) (s15 : ((List (List Int)))) => (((((pure s15) >>= fun a => (pure i14) >>= fun b => atM a b) >>= fun a => (pure i14) >>= fun b => atM a b) >>= fun a => ((pure free10) >>= fun a => pure (if a then (1 : Int) else 0)) >>= fun b => mulM a b) >>= fun a => (pure i14) >>= fun b => (pure i14) >>= fun c => set2M s15 b c a >>= fun (rows16 : (List (List Int))) => (pure (.nx (rows16))))) xs (rows13) >>= fun c => thenL c (fun (s15 : ((List (List Int)))) => ((((pure size1) >>= fun a => range1 a) >>= fun xs => compM xs (fun (i17 : Int) => (pure true)) (fun (i17 : Int) => (((pure size1) >>= fun a => range1 a) >>= fun xs => compM xs (fun (j18 : Int) => (pure true)) (fun (j18 : Int) => (((pure s15) >>= fun a => ((pure s5) >>= fun a => (pure i17) >>= fun b => atM a b) >>= fun b => atM a b) >>= fun a => ((pure s5) >>= fun a => (pure j18) >>= fun b => atM a b) >>= fun b => atM a b))))) >>= fun r => pure (.rt r)))))))))))) : M (Ctl Unit Empty (List (List Int))))) (p0, p1, p2, ()))
def mir__law_spoilt (p0 : (List (List Int))) (p1 : Int) : M (Dl (Dl (Dl (Dl Empty)))) := runC ((fun (x0 : (List (List Int))) (ar : Int × Unit) => ((((pure x0) >>= fun a => pure (a.length : Int)) >>= fun (size1 : Int) => (((pure ar.1) >>= fun a => pure (a % (12 : Int))) >>= fun (how2 : Int) => ((((pure ar.1) >>= fun a => pure (a / (12 : Int))) >>= fun a => (pure size1) >>= fun b => modM a b) >>= fun (i3 : Int) => ((((pure ar.1) >>= fun a => pure (a / (120 : Int))) >>= fun a => (pure size1) >>= fun b => modM a b) >>= fun (j4 : Int) => (((pure how2) >>= fun a => (pure (6 : Int)) >>= fun b => pure (decide (a < b))) >>= fun x => ((if x then (toLL (x0.map fun r => (Dl.l (r.map Dl.i) : (Dl (Dl (Dl Empty))))) >>= fun (rs6 : (List (List (Dl (Dl Empty))))) => ((((((pure (2 : Int)) >>= fun a => pure (Dl.i a : (Dl (Dl Empty)))) >>= fun a => ((((pure (1 : Int)) >>= fun a => pure (-a)) >>= fun a => pure (Dl.i a : (Dl (Dl Empty)))) >>= fun a => (((pure true) >>= fun a => pure (Dl.b a : (Dl (Dl Empty)))) >>= fun a => ((pure () >>= fun a => pure (Dl.n : (Dl (Dl Empty)))) >>= fun a => (((pure ("1" : Str)) >>= fun a => pure (Dl.s a : (Dl (Dl Empty)))) >>= fun a => ((((((pure (1 : Int)) >>= fun a => pure (Dl.i a : (Dl Empty))) >>= fun a => (pure ([] : List (Dl Empty))) >>= fun b => pure (a :: b)) >>= fun a => lstM a) >>= fun a => pure (Dl.l a : (Dl (Dl Empty)))) >>= fun a => (pure ([] : List (Dl (Dl Empty)))) >>= fun b => pure (a :: b)) >>= fun b => pure (a :: b)) >>= fun b => pure (a :: b)) >>= fun b => pure (a :: b)) >>= fun b => pure (a :: b)) >>= fun b => pure (a :: b)) >>= fun a => lstM a) >>= fun a => (pure how2) >>= fun b => atM a b) >>= fun a => (pure i3) >>= fun b => (pure j4) >>= fun c => set2M rs6 b c a >>= fun (table_here7 : (List (List (Dl (Dl Empty))))) => (pure (.nx ((table_here7.map Dl.l)))))) else (pure (.nx ((x0.map fun r => (Dl.l (r.map Dl.i) : (Dl (Dl (Dl Empty))))))))) : M (Ctl ((List (Dl (Dl (Dl Empty))))) Empty (Dl (Dl (Dl (Dl Empty)))))) >>= fun y => thenC y (fun (s5 : ((List (Dl (Dl (Dl Empty)))))) => ((bAnd ((pure how2) >>= fun a => (pure (6 : Int)) >>= fun b => pure (decide (a = b))) ((pure i3) >>= fun a => (pure j4) >>= fun b => pure (!decide (a = b)))) >>= fun x => ((if x then (toLL s5 >>= fun (rs9 : (List (List (Dl (Dl Empty))))) => ((((pure (1 : Int)) >>= fun a => (((pure i3) >>= fun i => (pure j4) >>= fun j => ix2M rs9 i j) >>= fun a => toI a) >>= fun b => pure (a - b)) >>= fun a => pure (Dl.i a : (Dl (Dl Empty)))) >>= fun a => (pure i3) >>= fun b => (pure j4) >>= fun c => set2M rs9 b c a >>= fun (table_here10 : (List (List (Dl (Dl Empty))))) => (pure (.nx ((table_here10.map Dl.l)))))) else (pure (.nx (s5)))) : M (Ctl ((List (Dl (Dl (Dl Empty))))) Empty (Dl (Dl (Dl (Dl Empty)))))) >>= fun y => thenC y (fun (s8 : ((List (Dl (Dl (Dl Empty)))))) => (((pure how2) >>= fun a => (pure (7 : Int)) >>= fun b => pure (decide (a = b))) >>= fun x => ((if x then (toLL s8 >>= fun (rs12 : (List (List (Dl (Dl Empty))))) => ((pure i3) >>= fun b => ((pure (0 : Int)) >>= fun a => pure (Dl.i a : (Dl (Dl Empty)))) >>= fun a => app2M rs12 b a >>= fun (table_here13 : (List (List (Dl (Dl Empty))))) => (pure (.nx ((table_here13.map Dl.l)))))) else (pure (.nx (s8)))) : M (Ctl ((List (Dl (Dl (Dl Empty))))) Empty (Dl (Dl (Dl (Dl Empty)))))) >>= fun y => thenC y (fun (s11 : ((List (Dl (Dl (Dl Empty)))))) => (((pure how2) >>= fun a => (pure (8 : Int)) >>= fun b => pure (decide (a = b))) >>= fun x => ((if x then (toLL s11 >>= fun (rs15 : (List (List (Dl (Dl Empty))))) => ((pure i3) >>= fun b => pop2M rs15 b >>= fun (table_here16 : (List (List (Dl (Dl Empty))))) => (pure (.nx ((table_here16.map Dl.l)))))) else (pure (.nx (s11)))) : M (Ctl ((List (Dl (Dl (Dl Empty))))) Empty (Dl (Dl (Dl (Dl Empty)))))) >>= fun y => thenC y (fun (s14 : ((List (Dl (Dl (Dl Empty)))))) => (((pure how2) >>= fun a => (pure (9 : Int)) >>= fun b => pure (decide (a = b))) >>= fun x => ((if x then ((toLL s14 >>= fun (rs18 : (List (List (Dl (Dl Empty))))) => ((pure i3) >>= fun j => tupRowM rs18 j)) >>= fun a => (pure i3) >>= fun b => setM s14 b a >>= fun (table_here19 : (List (Dl (Dl (Dl Empty))))) => (pure (.nx (table_here19)))) else (pure (.nx (s14)))) : M (Ctl ((List (Dl (Dl (Dl Empty))))) Empty (Dl (Dl (Dl (Dl Empty)))))) >>= fun y => thenC y (fun (s17 : ((List (Dl (Dl (Dl Empty)))))) => (((pure how2) >>= fun a => (pure (10 : Int)) >>= fun b => pure (decide (a = b))) >>= fun x => ((if x then ((pure i3) >>= fun j => popAtM s17 j >>= fun q => (fun (table_here21 : (List (Dl (Dl (Dl Empty))))) => (pure (.nx (table_here21)))) q.2) else (pure (.nx (s17)))) : M (Ctl ((List (Dl (Dl (Dl Empty))))) Empty (Dl (Dl (Dl (Dl Empty)))))) >>= fun y => thenC y (fun (s20 : ((List (Dl (Dl (Dl Empty)))))) => (((pure how2) >>= fun a => (pure (11 : Int)) >>= fun b => pure (decide (a = b))) >>= fun x => ((if x then ((((((pure size1) >>= fun a => (pure (1 : Int)) >>= fun b => pure (a + b)) >>= fun a => range1 a) >>= fun xs => compM xs (fun (row23 : Int) => (pure true)) (fun (row23 : Int) => (pure (0 : Int)))) >>= fun a => pure (Dl.l (a.map Dl.i) : (Dl (Dl (Dl Empty))))) >>= fun a => appM s20 a >>= fun (table_here24 : (List (Dl (Dl (Dl Empty))))) => (pure (.nx (table_here24)))) else (pure (.nx (s20)))) : M (Ctl ((List (Dl (Dl (Dl Empty))))) Empty (Dl (Dl (Dl (Dl Empty)))))) >>= fun y => thenC y (fun (s22 : ((List (Dl (Dl (Dl Empty)))))) => (((pure s22) >>= fun a => pure (Dl.l a : (Dl (Dl (Dl (Dl Empty)))))) >>= fun r => pure (.rt r)))))))))))))))))))) : M (Ctl Unit Empty (Dl (Dl (Dl (Dl Empty))))))) p0 (p1, ()))
def mir__law_thing (p0 : Scr) : M (Dl (Dl (Dl (Dl Empty)))) := runC ((fun (ar : Scr × Unit) => (((((pure ar.1) >>= fun a => ((pure (0 : Int)) >>= fun a => ((pure (10 : Int)) >>= fun a => (pure ()) >>= fun b => pure (a, b)) >>= fun b => pure (a, b)) >>= fun b => pure (a, b)) >>= fun a => mir__law_table a.1 a.2.1 a.2.2.1) >>= fun (table_here1 : (List (List Int))) => (((((pure ar.1) >>= fun a => ((pure (14 : Int)) >>= fun a => (pure ()) >>= fun b => pure (a, b)) >>= fun b => pure (a, b)) >>= fun a => mir__law_cell a.1 a.2.1) >>= fun a => pure (a % (8 : Int))) >>= fun (kind2 : Int) => (((pure kind2) >>= fun a => (pure (0 : Int)) >>= fun b => pure (decide (a = b))) >>= fun x => if x then (((((((pure () >>= fun a => pure (Dl.n : (Dl (Dl (Dl (Dl Empty)))))) >>= fun a => (((pure (0 : Int)) >>= fun a => pure (Dl.i a : (Dl (Dl (Dl (Dl Empty)))))) >>= fun a => (((pure ("" : Str)) >>= fun a => pure (Dl.s a : (Dl (Dl (Dl (Dl Empty)))))) >>= fun a => (((pure ("01" : Str)) >>= fun a => pure (Dl.s a : (Dl (Dl (Dl (Dl Empty)))))) >>= fun a => ((pure (Dl.t [] : (Dl (Dl (Dl (Dl Empty)))))) >>= fun a => ((pure (Dl.d : (Dl (Dl (Dl (Dl Empty)))))) >>= fun a => ((((((pure (0 : Int)) >>= fun a => pure (Dl.i a : (Dl (Dl (Dl Empty))))) >>= fun a => (pure ([] : List (Dl (Dl (Dl Empty))))) >>= fun b => pure (a :: b)) >>= fun a => lstM a) >>= fun a => pure (Dl.l a : (Dl (Dl (Dl (Dl Empty)))))) >>= fun a => (((((((((pure (0 : Int)) >>= fun a => pure (Dl.i a : (Dl (Dl Empty)))) >>= fun a => (pure ([] : List (Dl (Dl Empty)))) >>= fun b => pure (a :: b)) >>= fun a => lstM a) >>= fun a => pure (Dl.l a : (Dl (Dl (Dl Empty))))) >>= fun a => (((pure (1 : Int)) >>= fun a => pure (Dl.i a : (Dl (Dl (Dl Empty))))) >>= fun a => (pure ([] : List (Dl (Dl (Dl Empty))))) >>= fun b => pure (a :: b)) >>= fun b => pure (a :: b)) >>= fun a => lstM a) >>= fun a => pure (Dl.l a : (Dl (Dl (Dl (Dl Empty)))))) >>= fun a => (pure ([] : List (Dl (Dl (Dl (Dl Empty)))))) >>= fun b => pure (a :: b)) >>= fun b => pure (a :: b)) >>= fun b => pure (a :: b)) >>= fun b => pure (a :: b)) >>= fun b => pure (a :: b)) >>= fun b => pure (a :: b)) >>= fun b => pure (a :: b)) >>= fun b => pure (a :: b)) >>= fun a => lstM a) >>= fun a => ((((pure ar.1) >>= fun a => ((pure (15 : Int)) >>= fun a => (pure ()) >>= fun b => pure (a, b)) >>= fun b => pure (a, b)) >>= fun a => mir__law_cell a.1 a.2.1) >>= fun a => pure (a % (8 : Int))) >>= fun b => atM a b) >>= fun r => pure (.rt r)) : M (Ctl Empty Empty (Dl (Dl (Dl (Dl Empty)))))) >>= fun y => thenC y nofun) else (((pure kind2) >>= fun a => (pure (1 : Int)) >>= fun b => pure (decide (a = b))) >>= fun x => if x then (((((((pure (11 : Int)) >>= fun a => range1 a) >>= fun xs => compM xs (fun (i3 : Int) => (pure true)) (fun (i3 : Int) => (((pure (11 : Int)) >>= fun a => range1 a) >>= fun xs => compM xs (fun (j4 : Int) => (pure true)) (fun (j4 : Int) => (pure (0 : Int)))))) >>= fun a => pure (Dl.l (a.map fun r => Dl.l (r.map Dl.i)) : (Dl (Dl (Dl (Dl Empty)))))) >>= fun r => pure (.rt r)) : M (Ctl Empty Empty (Dl (Dl (Dl (Dl Empty)))))) >>= fun y => thenC y nofun) else ((bOr ((pure kind2) >>= fun a => (pure (4 : Int)) >>= fun b => pure (decide (a < b))) (((pure table_here1) >>= fun a => pure (a.length : Int)) >>= fun a => (pure (0 : Int)) >>= fun b => pure (decide (a = b)))) >>= fun x => if x then (((((pure table_here1) >>= fun a => pure (Dl.l (a.map fun r => Dl.l (r.map Dl.i)) : (Dl (Dl (Dl (Dl Empty)))))) >>= fun r => pure (.rt r)) : M (Ctl Empty Empty (Dl (Dl (Dl (Dl Empty)))))) >>= fun y => thenC y nofun) else (((((pure ar.1) >>= fun a => ((pure (15 : Int)) >>= fun a => (pure ()) >>= fun b => pure (a, b)) >>= fun b => pure (a, b)) >>= fun a => mir__law_cell a.1 a.2.1) >>= fun a => (pure ()) >>= fun b => pure (a, b)) >>= fun a => mir__law_spoilt table_here1 a.1 >>= fun r => pure (.rt r))))))) : M (Ctl Unit Empty (Dl (Dl (Dl (Dl Empty))))))) (p0, ()))
def mir__law_due (p0 : (Dl (Dl (Dl (Dl Empty))))) (p1 : Bool) : M Bool := runC ((fun (ar : (Dl (Dl (Dl (Dl Empty)))) × Bool × Unit) => (((bOr (bNot ((pure ar.1) >>= fun x => ofO (kitB (dlK x) "list"))) ((((pure ar.1) >>= fun a => toL a) >>= fun a => pure (a.length : Int)) >>= fun a => (pure (10 : Int)) >>= fun b => pure (decide (b < a)))) >>= fun x => if x then ((((pure false) >>= fun r => pure (.rt r)) : M (Ctl Empty Empty Bool)) >>= fun y => thenC y nofun) else (((pure ar.1) >>= fun a => toL a) >>= fun xs => loopM (S := Unit) (ρ := Bool) (fun (row1 : (Dl (Dl (Dl Empty)))) (s2 : Unit) => ((bOr (bNot ((pure row1) >>= fun x => ofO (kitB (dlK x) "list"))) ((((pure row1) >>= fun a => toL a) >>= fun a => pure (a.length : Int)) >>= fun a => (((pure ar.1) >>= fun a => toL a) >>= fun a => pure (a.length : Int)) >>= fun b => pure (!decide (a = b)))) >>= fun x => if x then ((((pure false) >>= fun r => pure (.rt r)) : M (Ctl Empty Unit Bool)) >>= fun y => thenC y nofun) else ((bNot ((((pure row1) >>= fun a => toL a) >>= fun xs => compM xs (fun (one3 : (Dl (Dl Empty))) => (pure true)) (fun (one3 : (Dl (Dl Empty))) => (bAnd ((pure one3) >>= fun x => ofO (kitB (dlK x) "int")) (bNot ((pure one3) >>= fun x => ofO (kitB (dlK x) "bool")))))) >>= fun a => pure (a.all id))) >>= fun x => if x then ((((pure false) >>= fun r => pure (.rt r)) : M (Ctl Empty Unit Bool)) >>= fun y => thenC y nofun) else (((((pure row1) >>= fun a => toL a) >>= fun xs => compM xs (fun (one4 : (Dl (Dl Empty))) => (pure true)) (fun (one4 : (Dl (Dl Empty))) => (bOr (((pure one4) >>= fun a => toI a) >>= fun a => (pure (0 : Int)) >>= fun b => pure (decide (a < b))) (((pure one4) >>= fun a => toI a) >>= fun a => (pure (1 : Int)) >>= fun b => pure (decide (b < a)))))) >>= fun a => pure (a.any id)) >>= fun x => if x then ((((pure false) >>= fun r => pure (.rt r)) : M (Ctl Empty Unit Bool)) >>= fun y => thenC y nofun) else (pure (.nx ())))))) xs () >>= fun c => thenL c (fun (s2 : Unit) => (((((pure ar.1) >>= fun a => toL a) >>= fun a => pure (a.length : Int)) >>= fun a => range1 a) >>= fun xs => loopM (S := Unit) (ρ := Bool) (fun (i5 : Int) (s6 : Unit) => (((((pure i5) >>= fun a => range1 a) >>= fun xs => compM xs (fun (j7 : Int) => (pure true)) (fun (j7 : Int) => ((((((pure ar.1) >>= fun a => toL a) >>= fun a => (pure i5) >>= fun b => atM a b) >>= fun a => toL a) >>= fun a => (pure j7) >>= fun b => atM a b) >>= fun a => (((((pure ar.1) >>= fun a => toL a) >>= fun a => (pure j7) >>= fun b => atM a b) >>= fun a => toL a) >>= fun a => (pure i5) >>= fun b => atM a b) >>= fun b => neDl a b))) >>= fun a => pure (a.any id)) >>= fun x => if x then ((((pure false) >>= fun r => pure (.rt r)) : M (Ctl Empty Unit Bool)) >>= fun y => thenC y nofun) else ((bAnd (bNot (pure ar.2.1)) ((((((pure ar.1) >>= fun a => toL a) >>= fun a => (pure i5) >>= fun b => atM a b) >>= fun a => toL a) >>= fun a => (pure i5) >>= fun b => atM a b) >>= fun a => ((pure (1 : Int)) >>= fun a => pure (Dl.i a : (Dl (Dl Empty)))) >>= fun b => eqDl a b)) >>= fun x => if x then ((((pure false) >>= fun r => pure (.rt r)) : M (Ctl Empty Unit Bool)) >>= fun y => thenC y nofun) else (pure (.nx ()))))) xs () >>= fun c => thenL c (fun (s6 : Unit) => ((pure true) >>= fun r => pure (.rt r))))))) : M (Ctl Unit Empty Bool))) (p0, p1, ()))
def mir_law (p0 : Scr) : M Bool := runC ((fun (ar : Scr × Unit) => (((((pure ar.1) >>= fun a => (pure ()) >>= fun b => pure (a, b)) >>= fun a => mir__law_thing a.1) >>= fun (thing_here1 : (Dl (Dl (Dl (Dl Empty))))) => ((((((pure thing_here1) >>= fun a => (pure ()) >>= fun b => pure (a, b)) >>= fun a => mir_is_table a.1) >>= fun a => ((((pure thing_here1) >>= fun a => (pure ()) >>= fun b => pure (a, b)) >>= fun a => mir_is_web a.1) >>= fun a => (pure ([] : List Bool)) >>= fun b => pure (a :: b)) >>= fun b => pure (a :: b)) >>= fun a => lstM a) >>= fun (found2 : (List Bool)) => ((bNot (((pure found2) >>= fun xs => compM xs (fun (word3 : Bool) => (pure true)) (fun (word3 : Bool) => ((pure word3) >>= fun _ => pure true))) >>= fun a => pure (a.all id))) >>= fun x => if x then ((((pure false) >>= fun r => pure (.rt r)) : M (Ctl Empty Empty Bool)) >>= fun y => thenC y nofun) else ((bAnd ((pure found2) >>= fun a => (((((pure thing_here1) >>= fun a => ((pure true) >>= fun a => (pure ()) >>= fun b => pure (a, b)) >>= fun b => pure (a, b)) >>= fun a => mir__law_due a.1 a.2.1) >>= fun a => ((((pure thing_here1) >>= fun a => ((pure false) >>= fun a => (pure ()) >>= fun b => pure (a, b)) >>= fun b => pure (a, b)) >>= fun a => mir__law_due a.1 a.2.1) >>= fun a => (pure ([] : List Bool)) >>= fun b => pure (a :: b)) >>= fun b => pure (a :: b)) >>= fun a => lstM a) >>= fun b => eqM a b) ((pure thing_here1) >>= fun a => (((pure ar.1) >>= fun a => (pure ()) >>= fun b => pure (a, b)) >>= fun a => mir__law_thing a.1) >>= fun b => eqDl a b)) >>= fun r => pure (.rt r))))) : M (Ctl Unit Empty Bool))) (p0, ()))
/-! ### the text -/
def top (i : Nat) : Stmt := PySem.Challenge.pw_fourway_k23_what_is_a_table.main.body.getD i (.Pass ⟨0, 0, 0, 0⟩)
abbrev FnP (K : PySem.W.Frag) (x : Str) (st : Stmt) (f : Addr) (fd : FuncData) : Prop := FunD K x x (defArgs st) (defBody st) (defScope st) [] [] f fd
structure Txt (K : PySem.W.Frag) (mg : Str → Option Value) : Prop where
  n_all : mg "all" = none
  n_any : mg "any" = none
  n_bool : mg "bool" = none
  n_enumerate : mg "enumerate" = none
  n_int : mg "int" = none
  n_isinstance : mg "isinstance" = none
  n_len : mg "len" = none
  n_list : mg "list" = none
  n_max : mg "max" = none
  n_min : mg "min" = none
  n_range : mg "range" = none
  n_tuple : mg "tuple" = none
  g_MOST : ∃ t, mg "MOST" = some (.int (10 : Int) t)
section
variable {P : Program} {w : World} {K : PySem.W.Frag} {mg : Str → Option Value} {base : Heap}
set_option maxHeartbeats 4000000
abbrev s_is_bit : Stmt := top 2
theorem sc_is_bit : FnScope ["thing"] ["thing"] (defScope s_is_bit) := ⟨rfl, rfl, rfl, by decide +kernel, rfl, by decide +kernel, by decide +kernel⟩
abbrev sp_is_bit (K : PySem.W.Frag) : Sp := spF K (As.cons (α := (Dl (Dl Empty))) As.nil) (Ow.v : Ow Bool) (fun a => mir_is_bit a.1)
theorem ok0_is_bit (T : Txt K mg) {f : Addr} {fd : FuncData} (F : FnP K "is_bit" s_is_bit f fd)  : FnOk P w K mg base CX0 1 f fd ["thing"] (sp_is_bit K) := by
  refine fn_okD (r := (As.cons (α := (Dl (Dl Empty))) As.nil)) (o := Ow.v) (m := fun ar => ((bAnd ((pure ar.1) >>= fun x => ofO (kitB (dlK x) "int")) (bAnd (bNot ((pure ar.1) >>= fun x => ofO (kitB (dlK x) "bool"))) (chainM (fun a b => decide (a ≤ b)) (fun a b => decide (a ≤ b)) (pure (0 : Int)) ((pure ar.1) >>= fun a => toI a) (pure (1 : Int))))) >>= fun r => pure (.rt r))) F sc_is_bit rfl rfl (fun cdv A' outer s H E hr ar => ?_)
  exact ⟨_, (ss_ret (ex_and (ex_isDl (K := K) T.n_isinstance T.n_int boot_int (ex_var 0)) (ex_and (ex_not (ex_isDl (K := K) T.n_isinstance T.n_bool boot_bool (ex_var 0))) (ex_one (ex_chain (p := fun a b => decide (a ≤ b)) (q := fun a b => decide (a ≤ b)) op_le op_le ex_int (ex_toI (ex_var 0)) ex_int)))))⟩
theorem ok_is_bit (T : Txt K mg) {f : Addr} {fd : FuncData} (F : FnP K "is_bit" s_is_bit f fd) (hm : mg "is_bit" = some (.ref f))  : Has P w K mg base "is_bit" 1 ["thing"] (sp_is_bit K) :=
  ⟨f, fd, ok0_is_bit T F , hm, F.kp, F.bindsN fun _ _ _ _ _ _ us hl => match us, hl with | [_], _ => rfl⟩
abbrev s_is_table : Stmt := top 3
theorem sc_is_table : FnScope ["thing", "row", "i", "one"] ["thing"] (defScope s_is_table) := ⟨rfl, rfl, rfl, by decide +kernel, rfl, by decide +kernel, by decide +kernel⟩
abbrev sp_is_table (K : PySem.W.Frag) : Sp := spF K (As.cons (α := (Dl (Dl (Dl (Dl Empty))))) As.nil) (Ow.v : Ow Bool) (fun a => mir_is_table a.1)
theorem ok0_is_table (T : Txt K mg) {f : Addr} {fd : FuncData} (F : FnP K "is_table" s_is_table f fd) (H_is_bit : Has P w K mg base "is_bit" 1 ["thing"] (sp_is_bit K)) : FnOk P w K mg base CX0 2 f fd ["thing"] (sp_is_table K) := by
  obtain ⟨f_is_bit, fd_is_bit, F_is_bit, m_is_bit, k_is_bit, b_is_bit⟩ := H_is_bit
  refine fn_okD (r := (As.cons (α := (Dl (Dl (Dl (Dl Empty))))) As.nil)) (o := Ow.v) (m := fun ar => ((bOr (bNot ((pure ar.1) >>= fun x => ofO (kitB (dlK x) "list"))) ((((pure ar.1) >>= fun a => toL a) >>= fun a => pure (a.length : Int)) >>= fun a => (pure (10 : Int)) >>= fun b => pure (decide (b < a)))) >>= fun x => if x then ((((pure false) >>= fun r => pure (.rt r)) : M (Ctl Empty Empty Bool)) >>= fun y => thenC y nofun) else (((pure ar.1) >>= fun a => toL a) >>= fun xs => loopM (S := Unit) (ρ := Bool) (fun (row1 : (Dl (Dl (Dl Empty)))) (s2 : Unit) => ((bOr (bNot ((pure row1) >>= fun x => ofO (kitB (dlK x) "list"))) (bOr ((((pure row1) >>= fun a => toL a) >>= fun a => pure (a.length : Int)) >>= fun a => (((pure ar.1) >>= fun a => toL a) >>= fun a => pure (a.length : Int)) >>= fun b => pure (!decide (a = b))) (bNot ((((pure row1) >>= fun a => toL a) >>= fun xs => compM xs (fun (one3 : (Dl (Dl Empty))) => (pure true)) (fun (one3 : (Dl (Dl Empty))) => (((pure one3) >>= fun a => (pure ()) >>= fun b => pure (a, b)) >>= fun a => mir_is_bit a.1))) >>= fun a => pure (a.all id))))) >>= fun x => if x then ((((pure false) >>= fun r => pure (.rt r)) : M (Ctl Empty Unit Bool)) >>= fun y => thenC y nofun) else (pure (.nx ())))) xs () >>= fun c => thenL c (fun (s2 : Unit) => (((pure ar.1) >>= fun a => ((((((pure ar.1) >>= fun a => toL a) >>= fun a => pure (a.length : Int)) >>= fun a => range1 a) >>= fun xs => compM xs (fun (i4 : Int) => (pure true)) (fun (i4 : Int) => (((pure ar.1) >>= fun a => toL a) >>= fun xs => compM xs (fun (row5 : (Dl (Dl (Dl Empty)))) => (pure true)) (fun (row5 : (Dl (Dl (Dl Empty)))) => (((pure row5) >>= fun a => toL a) >>= fun a => (pure i4) >>= fun b => atM a b))))) >>= fun a => pure (Dl.l (a.map Dl.l) : (Dl (Dl (Dl (Dl Empty)))))) >>= fun b => eqDl a b) >>= fun r => pure (.rt r)))))) F sc_is_table rfl rfl (fun cdv A' outer s H E hr ar => ?_)
  have hr_is_bit := hr.mono (show 1 ≤ 1 by decide)
  exact ⟨_, (ss_ifR (ew_pt (ew_or (et_not (et_val (ex_isDl (K := K) T.n_isinstance T.n_list boot_list (ex_var 0)))) (ew_or1 (et_c (ec_gt (ex_lenL (K := K) T.n_len (ex_toL (ex_var 0))) (ex_gint T.g_MOST)))))) (ss_ret ex_bl) (ss_for (Γs := (fun (s2 : Unit) => [.mk Ow.v ar.1, .un, .un, .un])) () rfl PassesOwn.never (ei_list (K := K) (ex_toL (ex_var 0))) (.k (.w (.w (.w .n)))) (fun s2 row1 => (eg_name 1 sc_is_table.nd)) (fun s2 row1 => (ss_ifR (ew_pt (ew_or (et_not (et_val (ex_isDl (K := K) T.n_isinstance T.n_list boot_list (ex_var 1)))) (ew_or (et_c (ec_ne (ex_lenL (K := K) T.n_len (ex_toL (ex_var 1))) (ex_lenL (K := K) T.n_len (ex_toL (ex_var 0))))) (ew_or1 (et_not (et_val (ex_all (K := K) rfl T.n_all (ex_frz (ex_lc rfl sc_is_table.nd (ei_list (K := K) (ex_toL (ex_var 1))) (own := [("one", 3)]) (by kernel_rfl) rfl rfl (fun _ _ _ _ _ one3 => (eg_name 3 sc_is_table.nd)) (fun _ _ _ _ _ one3 => ef_nil) (fun _ _ _ _ _ one3 => (ex_call F_is_bit hr_is_bit m_is_bit k_is_bit b_is_bit (ea_cons (ex_var 3) ea_nil)))))))))))) (ss_ret ex_bl) (ss_nil () (.k (.w (.w (.w .n))))))) (fun s2 => (ss_ret (ex_c (ec_eqX (K := K) hr.units (ex_var 0) (ex_dlUp (ex_frz (ex_lc rfl sc_is_table.nd (ei_range1 T.n_range (ex_lenL (K := K) T.n_len (ex_toL (ex_var 0)))) (own := [("i", 2)]) (by kernel_rfl) rfl rfl (fun _ _ _ _ _ i4 => (eg_name 2 sc_is_table.nd)) (fun _ _ _ _ _ i4 => ef_nil) (fun _ _ _ _ _ i4 => (ex_lc rfl sc_is_table.nd (ei_list (K := K) (ex_toL (ex_var 0))) (own := [("row", 1)]) (by kernel_rfl) rfl rfl (fun _ _ _ _ _ row5 => (eg_name 1 sc_is_table.nd)) (fun _ _ _ _ _ row5 => ef_nil) (fun _ _ _ _ _ row5 => (ex_ixL (K := K) (ex_toL (ex_var 1)) (ex_var 2))))))))))))))⟩
theorem ok_is_table (T : Txt K mg) {f : Addr} {fd : FuncData} (F : FnP K "is_table" s_is_table f fd) (hm : mg "is_table" = some (.ref f)) (H_is_bit : Has P w K mg base "is_bit" 1 ["thing"] (sp_is_bit K)) : Has P w K mg base "is_table" 2 ["thing"] (sp_is_table K) :=
  ⟨f, fd, ok0_is_table T F H_is_bit, hm, F.kp, F.bindsN fun _ _ _ _ _ _ us hl => match us, hl with | [_], _ => rfl⟩
abbrev s_is_web : Stmt := top 4
theorem sc_is_web : FnScope ["thing", "i", "row"] ["thing"] (defScope s_is_web) := ⟨rfl, rfl, rfl, by decide +kernel, rfl, by decide +kernel, by decide +kernel⟩
abbrev sp_is_web (K : PySem.W.Frag) : Sp := spF K (As.cons (α := (Dl (Dl (Dl (Dl Empty))))) As.nil) (Ow.v : Ow Bool) (fun a => mir_is_web a.1)
theorem ok0_is_web (T : Txt K mg) {f : Addr} {fd : FuncData} (F : FnP K "is_web" s_is_web f fd) (H_is_table : Has P w K mg base "is_table" 2 ["thing"] (sp_is_table K)) : FnOk P w K mg base CX0 3 f fd ["thing"] (sp_is_web K) := by
  obtain ⟨f_is_table, fd_is_table, F_is_table, m_is_table, k_is_table, b_is_table⟩ := H_is_table
  refine fn_okD (r := (As.cons (α := (Dl (Dl (Dl (Dl Empty))))) As.nil)) (o := Ow.v) (m := fun ar => ((bAnd (((pure ar.1) >>= fun a => (pure ()) >>= fun b => pure (a, b)) >>= fun a => mir_is_table a.1) (((((pure ar.1) >>= fun a => toL a) >>= fun a => pure (enumL a)) >>= fun xs => compM xs (fun (i1 : (Int × (Dl (Dl (Dl Empty))))) => (pure true)) (fun (i1 : (Int × (Dl (Dl (Dl Empty))))) => ((((pure i1.2) >>= fun a => toL a) >>= fun a => (pure i1.1) >>= fun b => atM a b) >>= fun a => ((pure (0 : Int)) >>= fun a => pure (Dl.i a : (Dl (Dl Empty)))) >>= fun b => eqDl a b))) >>= fun a => pure (a.all id))) >>= fun r => pure (.rt r))) F sc_is_web rfl rfl (fun cdv A' outer s H E hr ar => ?_)
  have hr_is_table := hr.mono (show 2 ≤ 2 by decide)
  exact ⟨_, (ss_ret (ex_and (ex_call F_is_table hr_is_table m_is_table k_is_table b_is_table (ea_cons (ex_var 0) ea_nil)) (ex_one (ex_all (K := K) rfl T.n_all (ex_frz (ex_lc rfl sc_is_web.nd (ei_enum (K := K) T.n_enumerate (ex_toL (ex_var 0))) (own := [("i", 1), ("row", 2)]) (by kernel_rfl) rfl rfl (fun _ _ _ _ _ i1 => (eg_pair (K := K) rfl (eg_name 1 sc_is_web.nd) (eg_name 2 sc_is_web.nd))) (fun _ _ _ _ _ i1 => ef_nil) (fun _ _ _ _ _ i1 => (ex_c (ec_eqX (K := K) hr.units (ex_ixL (K := K) (ex_toL (ex_var 2)) (ex_var 1)) (ex_dlI (α := (Dl Empty)) ex_int))))))))))⟩
theorem ok_is_web (T : Txt K mg) {f : Addr} {fd : FuncData} (F : FnP K "is_web" s_is_web f fd) (hm : mg "is_web" = some (.ref f)) (H_is_table : Has P w K mg base "is_table" 2 ["thing"] (sp_is_table K)) : Has P w K mg base "is_web" 3 ["thing"] (sp_is_web K) :=
  ⟨f, fd, ok0_is_web T F H_is_table, hm, F.kp, F.bindsN fun _ _ _ _ _ _ us hl => match us, hl with | [_], _ => rfl⟩
abbrev s__law_cell : Stmt := top 6
theorem sc__law_cell : FnScope ["_law_script", "_law_k", "_law_cell_here", "_law_mixed"] ["_law_script", "_law_k"] (defScope s__law_cell) := ⟨rfl, rfl, rfl, by decide +kernel, rfl, by decide +kernel, by decide +kernel⟩
abbrev sp__law_cell (K : PySem.W.Frag) : Sp := spF K (As.cons (α := Scr) (As.cons (α := Int) As.nil)) (Ow.v : Ow Int) (fun a => mir__law_cell a.1 a.2.1)
theorem ok0__law_cell (T : Txt K mg) {f : Addr} {fd : FuncData} (F : FnP K "_law_cell" s__law_cell f fd)  : FnOk P w K mg base CX0 1 f fd ["_law_script", "_law_k"] (sp__law_cell K) := by
  refine fn_okD (r := (As.cons (α := Scr) (As.cons (α := Int) As.nil))) (o := Ow.v) (m := fun ar => ((pure (0 : Int)) >>= fun (cell_here1 : Int) => (((pure ar.2.1) >>= fun a => ((pure ar.1) >>= fun a => pure (a.l.length : Int)) >>= fun b => pure (decide (a < b))) >>= fun x => ((if x then (((pure ar.1) >>= fun a => (pure ar.2.1) >>= fun b => atM a.l b) >>= fun (cell_here3 : Int) => (pure (.nx (cell_here3)))) else (pure (.nx (cell_here1)))) : M (Ctl (Int) Empty Int)) >>= fun y => thenC y (fun (s2 : (Int)) => ((((((pure s2) >>= fun a => pure (a % (2147483629 : Int))) >>= fun a => (((pure ar.2.1) >>= fun a => (pure (1 : Int)) >>= fun b => pure (a + b)) >>= fun b => pure ((104729 : Int) * b)) >>= fun b => pure (a + b)) >>= fun a => pure (a * (48271 : Int))) >>= fun a => pure (a % (2147483647 : Int))) >>= fun (mixed4 : Int) => (((((pure s2) >>= fun a => (pure (2147483629 : Int)) >>= fun b => divM a b) >>= fun a => pure (a * (2147483647 : Int))) >>= fun a => (((pure mixed4) >>= fun a => pure (a * (69621 : Int))) >>= fun a => pure (a % (2147483629 : Int))) >>= fun b => pure (a + b)) >>= fun r => pure (.rt r))))))) F sc__law_cell rfl rfl (fun cdv A' outer s H E hr ar => ?_)
  exact ⟨_, (ss_asg 2 sc__law_cell.nd ex_int (fun cell_here1 => (ss_if (Γ1 := (fun (s2 : (Int)) => [.mk Ow.v ar.1, .mk Ow.v ar.2.1, .mk Ow.v (s2 : Int), .un])) (et_c (ec_lt (ex_var 1) (ex_lenScr (K := K) T.n_len (ex_var 0)))) (ss_asg 2 sc__law_cell.nd (ex_ixScr (K := K) (ex_var 0) (ex_var 1)) (fun cell_here3 => (ss_nil (cell_here3) (.k (.k (.k (.w .n))))))) (ss_nil (cell_here1) (.k (.k (.k (.w .n))))) (fun s2 => (ss_asg 3 sc__law_cell.nd (ex_modc (ex_mulc (ex_add (ex_modc (ex_var 2)) (ex_cmul (ex_add (ex_var 1) ex_int))))) (fun mixed4 => (ss_ret (ex_add (ex_mulc (ex_fdiv (ex_var 2) ex_int)) (ex_modc (ex_mulc (ex_var 3)))))))))))⟩
theorem ok__law_cell (T : Txt K mg) {f : Addr} {fd : FuncData} (F : FnP K "_law_cell" s__law_cell f fd) (hm : mg "_law_cell" = some (.ref f))  : Has P w K mg base "_law_cell" 1 ["_law_script", "_law_k"] (sp__law_cell K) :=
  ⟨f, fd, ok0__law_cell T F , hm, F.kp, F.bindsN fun _ _ _ _ _ _ us hl => match us, hl with | [_, _], _ => rfl⟩
abbrev s__law_table : Stmt := top 7
theorem sc__law_table : FnScope ["_law_script", "_law_at", "_law_most", "_law_size", "_law_kinds", "_law_kind", "_law_bits", "_law_free", "_law_rows", "_law_i", "_law_k", "_law_j"] ["_law_script", "_law_at", "_law_most"] (defScope s__law_table) := ⟨rfl, rfl, rfl, by decide +kernel, rfl, by decide +kernel, by decide +kernel⟩
abbrev sp__law_table (K : PySem.W.Frag) : Sp := spF K (As.cons (α := Scr) (As.cons (α := Int) (As.cons (α := Int) As.nil))) ((Ow.l (Ow.l Ow.v)) : Ow (List (List Int))) (fun a => mir__law_table a.1 a.2.1 a.2.2.1)
theorem ok0__law_table (T : Txt K mg) {f : Addr} {fd : FuncData} (F : FnP K "_law_table" s__law_table f fd) (H__law_cell : Has P w K mg base "_law_cell" 1 ["_law_script", "_law_k"] (sp__law_cell K)) : FnOk P w K mg base CX0 2 f fd ["_law_script", "_law_at", "_law_most"] (sp__law_table K) := by
  obtain ⟨f__law_cell, fd__law_cell, F__law_cell, m__law_cell, k__law_cell, b__law_cell⟩ := H__law_cell
  refine fn_okD (r := (As.cons (α := Scr) (As.cons (α := Int) (As.cons (α := Int) As.nil)))) (o := (Ow.l (Ow.l Ow.v))) (m := fun ar => (((((pure ar.1) >>= fun a => ((pure ar.2.1) >>= fun a => (pure ()) >>= fun b => pure (a, b)) >>= fun b => pure (a, b)) >>= fun a => mir__law_cell a.1 a.2.1) >>= fun a => ((pure ar.2.2.1) >>= fun a => (pure (1 : Int)) >>= fun b => pure (a + b)) >>= fun b => modM a b) >>= fun (size1 : Int) => (((pure (1 : Int)) >>= fun a => ((pure size1) >>= fun a => (((((pure ar.1) >>= fun a => ((pure ar.2.1) >>= fun a => (pure ()) >>= fun b => pure (a, b)) >>= fun b => pure (a, b)) >>= fun a => mir__law_cell a.1 a.2.1) >>= fun a => pure (a / (16 : Int))) >>= fun a => pure (a % (4 : Int))) >>= fun b => pure (a - b)) >>= fun b => pure (if b > a then b else a)) >>= fun (kinds2 : Int) => ((((pure size1) >>= fun a => range1 a) >>= fun xs => compM xs (fun (k3 : Int) => (pure true)) (fun (k3 : Int) => (((((pure ar.1) >>= fun a => (((pure ar.2.1) >>= fun a => (pure (1 : Int)) >>= fun b => pure (a + b)) >>= fun a => (pure ()) >>= fun b => pure (a, b)) >>= fun b => pure (a, b)) >>= fun a => mir__law_cell a.1 a.2.1) >>= fun a => ((pure k3) >>= fun a => (pure (1 : Int)) >>= fun b => pure (a + b)) >>= fun b => divM a b) >>= fun a => (pure kinds2) >>= fun b => modM a b))) >>= fun (kind4 : (List Int)) => (((((((pure ar.1) >>= fun a => ((pure ar.2.1) >>= fun a => (pure ()) >>= fun b => pure (a, b)) >>= fun b => pure (a, b)) >>= fun a => mir__law_cell a.1 a.2.1) >>= fun a => pure (a / (64 : Int))) >>= fun a => pure (a % (3 : Int))) >>= fun a => (pure (0 : Int)) >>= fun b => pure (decide (b < a))) >>= fun x => ((if x then ((((pure size1) >>= fun a => range1 a) >>= fun xs => compM xs (fun (k6 : Int) => (pure true)) (fun (k6 : Int) => ((pure k6) >>= fun a => (pure kinds2) >>= fun b => modM a b))) >>= fun (kind7 : (List Int)) => (pure (.nx (kind7)))) else (pure (.nx (kind4)))) : M (Ctl ((List Int)) Empty (List (List Int)))) >>= fun y => thenC y (fun (s5 : ((List Int))) => ((((pure kinds2) >>= fun a => range1 a) >>= fun xs => compM xs (fun (i8 : Int) => (pure true)) (fun (i8 : Int) => (((pure ar.1) >>= fun a => ((((pure ar.2.1) >>= fun a => (pure (2 : Int)) >>= fun b => pure (a + b)) >>= fun a => (pure i8) >>= fun b => pure (a + b)) >>= fun a => (pure ()) >>= fun b => pure (a, b)) >>= fun b => pure (a, b)) >>= fun a => mir__law_cell a.1 a.2.1))) >>= fun (bits9 : (List Int)) => (((((((pure ar.1) >>= fun a => ((pure ar.2.1) >>= fun a => (pure ()) >>= fun b => pure (a, b)) >>= fun b => pure (a, b)) >>= fun a => mir__law_cell a.1 a.2.1) >>= fun a => pure (a / (192 : Int))) >>= fun a => pure (a % (3 : Int))) >>= fun a => (pure (0 : Int)) >>= fun b => pure (decide (b < a))) >>= fun (free10 : Bool) => ((((pure kinds2) >>= fun a => range1 a) >>= fun xs => compM xs (fun (i11 : Int) => (pure true)) (fun (i11 : Int) => (((pure kinds2) >>= fun a => range1 a) >>= fun xs => compM xs (fun (j12 : Int) => (pure true)) (fun (j12 : Int) => ((((pure bits9) >>= fun a => ((pure i11) >>= fun a => (pure j12) >>= fun b => pure (if b > a then b else a)) >>= fun b => atM a b) >>= fun a => ((((pure i11) >>= fun a => (pure j12) >>= fun b => pure (if b < a then b else a)) >>= fun a => ((pure i11) >>= fun a => (pure j12) >>= fun b => pure (if b < a then b else a)) >>= fun b => mulM a b) >>= fun a => (pure (3 : Int)) >>= fun b => pure (a + b)) >>= fun b => divM a b) >>= fun a => pure (a % (2 : Int))))))) >>= fun (rows13 : (List (List Int))) => (((pure kinds2) >>= fun a => range1 a) >>= fun xs => loopM (S := ((List (List Int)))) (ρ := (List (List Int))) (fun (i14 : Int) (s15 : ((List (List Int)))) => (((((pure s15) >>= fun a => (pure i14) >>= fun b => atM a b) >>= fun a => (pure i14) >>= fun b => atM a b) >>= fun a => ((pure free10) >>= fun a => pure (if a then (1 : Int) else 0)) >>= fun b => mulM a b) >>= fun a => (pure i14) >>= fun b => (pure i14) >>= fun c => set2M s15 b c a >>= fun (rows16 : (List (List Int))) => (pure (.nx (rows16))))) xs (rows13) >>= fun c => thenL c (fun (s15 : ((List (List Int)))) => ((((pure size1) >>= fun a => range1 a) >>= fun xs => compM xs (fun (i17 : Int) => (pure true)) (fun (i17 : Int) => (((pure size1) >>= fun a => range1 a) >>= fun xs => compM xs (fun (j18 : Int) => (pure true)) (fun (j18 : Int) => (((pure s15) >>= fun a => ((pure s5) >>= fun a => (pure i17) >>= fun b => atM a b) >>= fun b => atM a b) >>= fun a => ((pure s5) >>= fun a => (pure j18) >>= fun b => atM a b) >>= fun b => atM a b))))) >>= fun r => pure (.rt r))))))))))))) F sc__law_table rfl rfl (fun cdv A' outer s H E hr ar => ?_)
  have hr__law_cell := hr.mono (show 1 ≤ 1 by decide)
  exact ⟨_, (ss_asg 3 sc__law_table.nd (ex_mod (ex_call F__law_cell hr__law_cell m__law_cell k__law_cell b__law_cell (ea_cons (ex_var 0) (ea_cons (ex_var 1) ea_nil))) (ex_add (ex_var 2) ex_int)) (fun size1 => (ss_asg 4 sc__law_table.nd (ex_max2 rfl T.n_max ex_int (ex_sub (ex_var 3) (ex_modc (ex_fdivc (ex_call F__law_cell hr__law_cell m__law_cell k__law_cell b__law_cell (ea_cons (ex_var 0) (ea_cons (ex_var 1) ea_nil))))))) (fun kinds2 => (ss_asg 5 sc__law_table.nd (ex_lc rfl sc__law_table.nd (ei_range1 T.n_range (ex_var 3)) (own := [("_law_k", 10)]) (by kernel_rfl) rfl rfl (fun _ _ _ _ _ k3 => (eg_name 10 sc__law_table.nd)) (fun _ _ _ _ _ k3 => ef_nil) (fun _ _ _ _ _ k3 => (ex_mod (ex_fdiv (ex_call F__law_cell hr__law_cell m__law_cell k__law_cell b__law_cell (ea_cons (ex_var 0) (ea_cons (ex_add (ex_var 1) ex_int) ea_nil))) (ex_add (ex_var 10) ex_int)) (ex_var 4)))) (fun kind4 => (ss_if (Γ1 := (fun (s5 : ((List Int))) => [.mk Ow.v ar.1, .mk Ow.v ar.2.1, .mk Ow.v ar.2.2.1, .mk Ow.v size1, .mk Ow.v kinds2, .mk (Ow.l Ow.v) (s5 : (List Int)), .un, .un, .un, .un, .un, .un])) (et_c (ec_gt (ex_modc (ex_fdivc (ex_call F__law_cell hr__law_cell m__law_cell k__law_cell b__law_cell (ea_cons (ex_var 0) (ea_cons (ex_var 1) ea_nil))))) ex_int)) (ss_asg 5 sc__law_table.nd (ex_lc rfl sc__law_table.nd (ei_range1 T.n_range (ex_var 3)) (own := [("_law_k", 10)]) (by kernel_rfl) rfl rfl (fun _ _ _ _ _ k6 => (eg_name 10 sc__law_table.nd)) (fun _ _ _ _ _ k6 => ef_nil) (fun _ _ _ _ _ k6 => (ex_mod (ex_var 10) (ex_var 4)))) (fun kind7 => (ss_nil (kind7) (.k (.k (.k (.k (.k (.k (.w (.w (.w (.w (.w (.w .n))))))))))))))) (ss_nil (kind4) (.k (.k (.k (.k (.k (.k (.w (.w (.w (.w (.w (.w .n))))))))))))) (fun s5 => (ss_asg 6 sc__law_table.nd (ex_lc rfl sc__law_table.nd (ei_range1 T.n_range (ex_var 4)) (own := [("_law_i", 9)]) (by kernel_rfl) rfl rfl (fun _ _ _ _ _ i8 => (eg_name 9 sc__law_table.nd)) (fun _ _ _ _ _ i8 => ef_nil) (fun _ _ _ _ _ i8 => (ex_call F__law_cell hr__law_cell m__law_cell k__law_cell b__law_cell (ea_cons (ex_var 0) (ea_cons (ex_add (ex_add (ex_var 1) ex_int) (ex_var 9)) ea_nil))))) (fun bits9 => (ss_asg 7 sc__law_table.nd (ex_c (ec_gt (ex_modc (ex_fdivc (ex_call F__law_cell hr__law_cell m__law_cell k__law_cell b__law_cell (ea_cons (ex_var 0) (ea_cons (ex_var 1) ea_nil))))) ex_int)) (fun free10 => (ss_asg 8 sc__law_table.nd (ex_view (ex_lc rfl sc__law_table.nd (ei_range1 T.n_range (ex_var 4)) (own := [("_law_i", 9)]) (by kernel_rfl) rfl rfl (fun _ _ _ _ _ i11 => (eg_name 9 sc__law_table.nd)) (fun _ _ _ _ _ i11 => ef_nil) (fun _ _ _ _ _ i11 => (ex_lc rfl sc__law_table.nd (ei_range1 T.n_range (ex_var 4)) (own := [("_law_j", 11)]) (by kernel_rfl) rfl rfl (fun _ _ _ _ _ j12 => (eg_name 11 sc__law_table.nd)) (fun _ _ _ _ _ j12 => ef_nil) (fun _ _ _ _ _ j12 => (ex_modc (ex_fdiv (ex_ixL (K := K) (ex_var 6) (ex_max2 rfl T.n_max (ex_var 9) (ex_var 11))) (ex_add (ex_mul (ex_min2 rfl T.n_min (ex_var 9) (ex_var 11)) (ex_min2 rfl T.n_min (ex_var 9) (ex_var 11))) ex_int)))))))) (fun rows13 => (ss_for (Γs := (fun (s15 : ((List (List Int)))) => [.mk Ow.v ar.1, .mk Ow.v ar.2.1, .mk Ow.v ar.2.2.1, .mk Ow.v size1, .mk Ow.v kinds2, .mk (Ow.l Ow.v) s5, .mk (Ow.l Ow.v) bits9, .mk Ow.v free10, .mk (Ow.l (Ow.l Ow.v)) (s15 : (List (List Int))), .un, .un, .un])) (rows13) rfl PassesOwn.never (ei_range1 T.n_range (ex_var 4)) (.k (.k (.k (.k (.k (.k (.k (.k (.k (.w (.w (.w .n)))))))))))) (fun s15 i14 => (eg_name 9 sc__law_table.nd)) (fun s15 i14 => (ss_set2 (K := K) 8 (ex_view (ex_mul (ex_ixL (K := K) (ex_ixL (K := K) (ex_var 8) (ex_var 9)) (ex_var 9)) (ex_intB T.n_int (ex_var 7)))) (ex_var 9) (ex_var 9) (fun rows16 => (ss_nil (rows16) (.k (.k (.k (.k (.k (.k (.k (.k (.k (.w (.w (.w .n)))))))))))))))) (fun s15 => (ss_ret (ex_view (ex_lc rfl sc__law_table.nd (ei_range1 T.n_range (ex_var 3)) (own := [("_law_i", 9)]) (by kernel_rfl) rfl rfl (fun _ _ _ _ _ i17 => (eg_name 9 sc__law_table.nd)) (fun _ _ _ _ _ i17 => ef_nil) (fun _ _ _ _ _ i17 => (ex_lc rfl sc__law_table.nd (ei_range1 T.n_range (ex_var 3)) (own := [("_law_j", 11)]) (by kernel_rfl) rfl rfl (fun _ _ _ _ _ j18 => (eg_name 11 sc__law_table.nd)) (fun _ _ _ _ _ j18 => ef_nil) (fun _ _ _ _ _ j18 => (ex_ixL (K := K) (ex_ixL (K := K) (ex_var 8) (ex_ixL (K := K) (ex_var 5) (ex_var 9))) (ex_ixL (K := K) (ex_var 5) (ex_var 11)))))))))))))))))))))))))⟩
theorem ok__law_table (T : Txt K mg) {f : Addr} {fd : FuncData} (F : FnP K "_law_table" s__law_table f fd) (hm : mg "_law_table" = some (.ref f)) (H__law_cell : Has P w K mg base "_law_cell" 1 ["_law_script", "_law_k"] (sp__law_cell K)) : Has P w K mg base "_law_table" 2 ["_law_script", "_law_at", "_law_most"] (sp__law_table K) :=
  ⟨f, fd, ok0__law_table T F H__law_cell, hm, F.kp, F.bindsN fun _ _ _ _ _ _ us hl => match us, hl with | [_, _, _], _ => rfl⟩
abbrev s__law_spoilt : Stmt := top 9
theorem sc__law_spoilt : FnScope ["_law_table_here", "_law_cell_here", "_law_size", "_law_how", "_law_i", "_law_j", "_law_row"] ["_law_table_here", "_law_cell_here"] (defScope s__law_spoilt) := ⟨rfl, rfl, rfl, by decide +kernel, rfl, by decide +kernel, by decide +kernel⟩
abbrev sp__law_spoilt (K : PySem.W.Frag) : Sp := spO K (Ow.l (Ow.l Ow.v)) (As.cons (α := Int) As.nil) (Ow.v : Ow (Dl (Dl (Dl (Dl Empty))))) (fun (x : (List (List Int))) (a : Int × Unit) => mir__law_spoilt x a.1)
theorem ok0__law_spoilt (T : Txt K mg) {f : Addr} {fd : FuncData} (F : FnP K "_law_spoilt" s__law_spoilt f fd)  : FnOk P w K mg base CX0 1 f fd ["_law_table_here", "_law_cell_here"] (sp__law_spoilt K) := by
  refine fn_okO (u := (Ow.l (Ow.l Ow.v))) (r := (As.cons (α := Int) As.nil)) (o := Ow.v) (m := fun x0 ar => (((pure x0) >>= fun a => pure (a.length : Int)) >>= fun (size1 : Int) => (((pure ar.1) >>= fun a => pure (a % (12 : Int))) >>= fun (how2 : Int) => ((((pure ar.1) >>= fun a => pure (a / (12 : Int))) >>= fun a => (pure size1) >>= fun b => modM a b) >>= fun (i3 : Int) => ((((pure ar.1) >>= fun a => pure (a / (120 : Int))) >>= fun a => (pure size1) >>= fun b => modM a b) >>= fun (j4 : Int) => (((pure how2) >>= fun a => (pure (6 : Int)) >>= fun b => pure (decide (a < b))) >>= fun x => ((if x then (toLL (x0.map fun r => (Dl.l (r.map Dl.i) : (Dl (Dl (Dl Empty))))) >>= fun (rs6 : (List (List (Dl (Dl Empty))))) => ((((((pure (2 : Int)) >>= fun a => pure (Dl.i a : (Dl (Dl Empty)))) >>= fun a => ((((pure (1 : Int)) >>= fun a => pure (-a)) >>= fun a => pure (Dl.i a : (Dl (Dl Empty)))) >>= fun a => (((pure true) >>= fun a => pure (Dl.b a : (Dl (Dl Empty)))) >>= fun a => ((pure () >>= fun a => pure (Dl.n : (Dl (Dl Empty)))) >>= fun a => (((pure ("1" : Str)) >>= fun a => pure (Dl.s a : (Dl (Dl Empty)))) >>= fun a => ((((((pure (1 : Int)) >>= fun a => pure (Dl.i a : (Dl Empty))) >>= fun a => (pure ([] : List (Dl Empty))) >>= fun b => pure (a :: b)) >>= fun a => lstM a) >>= fun a => pure (Dl.l a : (Dl (Dl Empty)))) >>= fun a => (pure ([] : List (Dl (Dl Empty)))) >>= fun b => pure (a :: b)) >>= fun b => pure (a :: b)) >>= fun b => pure (a :: b)) >>= fun b => pure (a :: b)) >>= fun b => pure (a :: b)) >>= fun b => pure (a :: b)) >>= fun a => lstM a) >>= fun a => (pure how2) >>= fun b => atM a b) >>= fun a => (pure i3) >>= fun b => (pure j4) >>= fun c => set2M rs6 b c a >>= fun (table_here7 : (List (List (Dl (Dl Empty))))) => (pure (.nx ((table_here7.map Dl.l)))))) else (pure (.nx ((x0.map fun r => (Dl.l (r.map Dl.i) : (Dl (Dl (Dl Empty))))))))) : M (Ctl ((List (Dl (Dl (Dl Empty))))) Empty (Dl (Dl (Dl (Dl Empty)))))) >>= fun y => thenC y (fun (s5 : ((List (Dl (Dl (Dl Empty)))))) => ((bAnd ((pure how2) >>= fun a => (pure (6 : Int)) >>= fun b => pure (decide (a = b))) ((pure i3) >>= fun a => (pure j4) >>= fun b => pure (!decide (a = b)))) >>= fun x => ((if x then (toLL s5 >>= fun (rs9 : (List (List (Dl (Dl Empty))))) => ((((pure (1 : Int)) >>= fun a => (((pure i3) >>= fun i => (pure j4) >>= fun j => ix2M rs9 i j) >>= fun a => toI a) >>= fun b => pure (a - b)) >>= fun a => pure (Dl.i a : (Dl (Dl Empty)))) >>= fun a => (pure i3) >>= fun b => (pure j4) >>= fun c => set2M rs9 b c a >>= fun (table_here10 : (List (List (Dl (Dl Empty))))) => (pure (.nx ((table_here10.map Dl.l)))))) else (pure (.nx (s5)))) : M (Ctl ((List (Dl (Dl (Dl Empty))))) Empty (Dl (Dl (Dl (Dl Empty)))))) >>= fun y => thenC y (fun (s8 : ((List (Dl (Dl (Dl Empty)))))) => (((pure how2) >>= fun a => (pure (7 : Int)) >>= fun b => pure (decide (a = b))) >>= fun x => ((if x then (toLL s8 >>= fun (rs12 : (List (List (Dl (Dl Empty))))) => ((pure i3) >>= fun b => ((pure (0 : Int)) >>= fun a => pure (Dl.i a : (Dl (Dl Empty)))) >>= fun a => app2M rs12 b a >>= fun (table_here13 : (List (List (Dl (Dl Empty))))) => (pure (.nx ((table_here13.map Dl.l)))))) else (pure (.nx (s8)))) : M (Ctl ((List (Dl (Dl (Dl Empty))))) Empty (Dl (Dl (Dl (Dl Empty)))))) >>= fun y => thenC y (fun (s11 : ((List (Dl (Dl (Dl Empty)))))) => (((pure how2) >>= fun a => (pure (8 : Int)) >>= fun b => pure (decide (a = b))) >>= fun x => ((if x then (toLL s11 >>= fun (rs15 : (List (List (Dl (Dl Empty))))) => ((pure i3) >>= fun b => pop2M rs15 b >>= fun (table_here16 : (List (List (Dl (Dl Empty))))) => (pure (.nx ((table_here16.map Dl.l)))))) else (pure (.nx (s11)))) : M (Ctl ((List (Dl (Dl (Dl Empty))))) Empty (Dl (Dl (Dl (Dl Empty)))))) >>= fun y => thenC y (fun (s14 : ((List (Dl (Dl (Dl Empty)))))) => (((pure how2) >>= fun a => (pure (9 : Int)) >>= fun b => pure (decide (a = b))) >>= fun x => ((if x then ((toLL s14 >>= fun (rs18 : (List (List (Dl (Dl Empty))))) => ((pure i3) >>= fun j => tupRowM rs18 j)) >>= fun a => (pure i3) >>= fun b => setM s14 b a >>= fun (table_here19 : (List (Dl (Dl (Dl Empty))))) => (pure (.nx (table_here19)))) else (pure (.nx (s14)))) : M (Ctl ((List (Dl (Dl (Dl Empty))))) Empty (Dl (Dl (Dl (Dl Empty)))))) >>= fun y => thenC y (fun (s17 : ((List (Dl (Dl (Dl Empty)))))) => (((pure how2) >>= fun a => (pure (10 : Int)) >>= fun b => pure (decide (a = b))) >>= fun x => ((if x then ((pure i3) >>= fun j => popAtM s17 j >>= fun q => (fun (table_here21 : (List (Dl (Dl (Dl Empty))))) => (pure (.nx (table_here21)))) q.2) else (pure (.nx (s17)))) : M (Ctl ((List (Dl (Dl (Dl Empty))))) Empty (Dl (Dl (Dl (Dl Empty)))))) >>= fun y => thenC y (fun (s20 : ((List (Dl (Dl (Dl Empty)))))) => (((pure how2) >>= fun a => (pure (11 : Int)) >>= fun b => pure (decide (a = b))) >>= fun x => ((if x then ((((((pure size1) >>= fun a => (pure (1 : Int)) >>= fun b => pure (a + b)) >>= fun a => range1 a) >>= fun xs => compM xs (fun (row23 : Int) => (pure true)) (fun (row23 : Int) => (pure (0 : Int)))) >>= fun a => pure (Dl.l (a.map Dl.i) : (Dl (Dl (Dl Empty))))) >>= fun a => appM s20 a >>= fun (table_here24 : (List (Dl (Dl (Dl Empty))))) => (pure (.nx (table_here24)))) else (pure (.nx (s20)))) : M (Ctl ((List (Dl (Dl (Dl Empty))))) Empty (Dl (Dl (Dl (Dl Empty)))))) >>= fun y => thenC y (fun (s22 : ((List (Dl (Dl (Dl Empty)))))) => (((pure s22) >>= fun a => pure (Dl.l a : (Dl (Dl (Dl (Dl Empty)))))) >>= fun r => pure (.rt r))))))))))))))))))))) F sc__law_spoilt rfl rfl (fun cdv A' outer s H E hr x0 ar => ?_)
  exact ⟨_, (ss_asg 2 sc__law_spoilt.nd (ex_view (ex_lenL (K := K) T.n_len (ex_var 0))) (fun size1 => (ss_asg 3 sc__law_spoilt.nd (ex_modc (ex_var 1)) (fun how2 => (ss_asg 4 sc__law_spoilt.nd (ex_mod (ex_fdivc (ex_var 1)) (ex_var 2)) (fun i3 => (ss_asg 5 sc__law_spoilt.nd (ex_mod (ex_fdivc (ex_var 1)) (ex_var 2)) (fun j4 => (ss_asInt (α := (Dl Empty)) 0 (ss_if (Γ1 := (fun (s5 : ((List (Dl (Dl (Dl Empty)))))) => [.mk (Ow.l (Ow.dl (α := (Dl (Dl Empty))))) (s5 : (List (Dl (Dl (Dl Empty))))), .mk Ow.v ar.1, .mk Ow.v size1, .mk Ow.v how2, .mk Ow.v i3, .mk Ow.v j4, .un])) (et_c (ec_lt (ex_var 3) ex_int)) (ss_asLL 0 (fun rs6 => (ss_set2R (K := K) 0 (ex_ixL (K := K) (ex_frz (ex_lst (el_cons (ex_dlI (α := (Dl Empty)) ex_int) (el_cons (ex_dlI (α := (Dl Empty)) (ex_neg ex_int)) (el_cons (ex_dlB (α := (Dl Empty)) ex_bl) (el_cons (ex_dlN (α := (Dl Empty)) ex_non) (el_cons (ex_dlS (α := (Dl Empty)) ex_str) (el_cons (ex_dlL (ex_frz (ex_lst (el_cons (ex_dlI (α := Empty) ex_int) (el_nil (o := Ow.v)))))) (el_nil (o := Ow.v)))))))))) (ex_var 3)) (ex_var 4) (ex_var 5) (fun table_here7 => (ss_asUp 0 (ss_nil ((table_here7.map Dl.l)) (.k (.k (.k (.k (.k (.k (.w .n))))))))))))) (ss_nil ((x0.map fun r => (Dl.l (r.map Dl.i) : (Dl (Dl (Dl Empty)))))) (.k (.k (.k (.k (.k (.k (.w .n)))))))) (fun s5 => (ss_if (Γ1 := (fun (s8 : ((List (Dl (Dl (Dl Empty)))))) => [.mk (Ow.l (Ow.dl (α := (Dl (Dl Empty))))) (s8 : (List (Dl (Dl (Dl Empty))))), .mk Ow.v ar.1, .mk Ow.v size1, .mk Ow.v how2, .mk Ow.v i3, .mk Ow.v j4, .un])) (ew_pt (ew_and (et_c (ec_eq (ex_var 3) ex_int)) (ew_and1 (et_c (ec_ne (ex_var 4) (ex_var 5)))))) (ss_asLL 0 (fun rs9 => (ss_set2R (K := K) 0 (ex_dlI (α := (Dl Empty)) (ex_sub ex_int (ex_toI (ex_ix2R (K := K) 0 (ex_var 4) (ex_var 5))))) (ex_var 4) (ex_var 5) (fun table_here10 => (ss_asUp 0 (ss_nil ((table_here10.map Dl.l)) (.k (.k (.k (.k (.k (.k (.w .n))))))))))))) (ss_nil (s5) (.k (.k (.k (.k (.k (.k (.w .n)))))))) (fun s8 => (ss_if (Γ1 := (fun (s11 : ((List (Dl (Dl (Dl Empty)))))) => [.mk (Ow.l (Ow.dl (α := (Dl (Dl Empty))))) (s11 : (List (Dl (Dl (Dl Empty))))), .mk Ow.v ar.1, .mk Ow.v size1, .mk Ow.v how2, .mk Ow.v i3, .mk Ow.v j4, .un])) (et_c (ec_eq (ex_var 3) ex_int)) (ss_asLL 0 (fun rs12 => (ss_app2R (K := K) 0 (ex_var 4) (ex_dlI (α := (Dl Empty)) ex_int) (fun table_here13 => (ss_asUp 0 (ss_nil ((table_here13.map Dl.l)) (.k (.k (.k (.k (.k (.k (.w .n))))))))))))) (ss_nil (s8) (.k (.k (.k (.k (.k (.k (.w .n)))))))) (fun s11 => (ss_if (Γ1 := (fun (s14 : ((List (Dl (Dl (Dl Empty)))))) => [.mk (Ow.l (Ow.dl (α := (Dl (Dl Empty))))) (s14 : (List (Dl (Dl (Dl Empty))))), .mk Ow.v ar.1, .mk Ow.v size1, .mk Ow.v how2, .mk Ow.v i3, .mk Ow.v j4, .un])) (et_c (ec_eq (ex_var 3) ex_int)) (ss_asLL 0 (fun rs15 => (ss_pop2R (K := K) 0 (ex_var 4) (fun table_here16 => (ss_asUp 0 (ss_nil ((table_here16.map Dl.l)) (.k (.k (.k (.k (.k (.k (.w .n))))))))))))) (ss_nil (s11) (.k (.k (.k (.k (.k (.k (.w .n)))))))) (fun s14 => (ss_if (Γ1 := (fun (s17 : ((List (Dl (Dl (Dl Empty)))))) => [.mk (Ow.l (Ow.dl (α := (Dl (Dl Empty))))) (s17 : (List (Dl (Dl (Dl Empty))))), .mk Ow.v ar.1, .mk Ow.v size1, .mk Ow.v how2, .mk Ow.v i3, .mk Ow.v j4, .un])) (et_c (ec_eq (ex_var 3) ex_int)) (ss_set 0 (ex_asLL 0 (fun rs18 => (ex_tupRow (K := K) 0 T.n_tuple (ex_var 4)))) (ex_var 4) (fun table_here19 => (ss_nil (table_here19) (.k (.k (.k (.k (.k (.k (.w .n)))))))))) (ss_nil (s14) (.k (.k (.k (.k (.k (.k (.w .n)))))))) (fun s17 => (ss_if (Γ1 := (fun (s20 : ((List (Dl (Dl (Dl Empty)))))) => [.mk (Ow.l (Ow.dl (α := (Dl (Dl Empty))))) (s20 : (List (Dl (Dl (Dl Empty))))), .mk Ow.v ar.1, .mk Ow.v size1, .mk Ow.v how2, .mk Ow.v i3, .mk Ow.v j4, .un])) (et_c (ec_eq (ex_var 3) ex_int)) (ss_popAtO (k := fun (table_here21 : (List (Dl (Dl (Dl Empty))))) => (pure (.nx (table_here21)))) 0 (ex_var 4) (fun table_here21 => (ss_nil (table_here21) (.k (.k (.k (.k (.k (.k (.w .n)))))))))) (ss_nil (s17) (.k (.k (.k (.k (.k (.k (.w .n)))))))) (fun s20 => (ss_if (Γ1 := (fun (s22 : ((List (Dl (Dl (Dl Empty)))))) => [.mk (Ow.l (Ow.dl (α := (Dl (Dl Empty))))) (s22 : (List (Dl (Dl (Dl Empty))))), .mk Ow.v ar.1, .mk Ow.v size1, .mk Ow.v how2, .mk Ow.v i3, .mk Ow.v j4, .un])) (et_c (ec_eq (ex_var 3) ex_int)) (ss_app 0 (ex_rowI (α := (Dl Empty)) (ex_lc rfl sc__law_spoilt.nd (ei_range1 T.n_range (ex_add (ex_var 2) ex_int)) (own := [("_law_row", 6)]) (by kernel_rfl) rfl rfl (fun _ _ _ _ _ row23 => (eg_name 6 sc__law_spoilt.nd)) (fun _ _ _ _ _ row23 => ef_nil) (fun _ _ _ _ _ row23 => ex_int))) (fun table_here24 => (ss_nil (table_here24) (.k (.k (.k (.k (.k (.k (.w .n)))))))))) (ss_nil (s20) (.k (.k (.k (.k (.k (.k (.w .n)))))))) (fun s22 => (ss_frz 0 rfl (ss_ret (ex_dlL (ex_var 0)))))))))))))))))))))))))))⟩
theorem ok__law_spoilt (T : Txt K mg) {f : Addr} {fd : FuncData} (F : FnP K "_law_spoilt" s__law_spoilt f fd) (hm : mg "_law_spoilt" = some (.ref f))  : Has P w K mg base "_law_spoilt" 1 ["_law_table_here", "_law_cell_here"] (sp__law_spoilt K) :=
  ⟨f, fd, ok0__law_spoilt T F , hm, F.kp, F.bindsN fun _ _ _ _ _ _ us hl => match us, hl with | [_, _], _ => rfl⟩
abbrev s__law_thing : Stmt := top 10
theorem sc__law_thing : FnScope ["_law_script", "_law_table_here", "_law_kind", "_law_i", "_law_j"] ["_law_script"] (defScope s__law_thing) := ⟨rfl, rfl, rfl, by decide +kernel, rfl, by decide +kernel, by decide +kernel⟩
abbrev sp__law_thing (K : PySem.W.Frag) : Sp := spF K (As.cons (α := Scr) As.nil) (Ow.v : Ow (Dl (Dl (Dl (Dl Empty))))) (fun a => mir__law_thing a.1)
theorem ok0__law_thing (T : Txt K mg) {f : Addr} {fd : FuncData} (F : FnP K "_law_thing" s__law_thing f fd) (H__law_table : Has P w K mg base "_law_table" 2 ["_law_script", "_law_at", "_law_most"] (sp__law_table K)) (H__law_cell : Has P w K mg base "_law_cell" 1 ["_law_script", "_law_k"] (sp__law_cell K)) (H__law_spoilt : Has P w K mg base "_law_spoilt" 1 ["_law_table_here", "_law_cell_here"] (sp__law_spoilt K)) : FnOk P w K mg base CX0 3 f fd ["_law_script"] (sp__law_thing K) := by
  obtain ⟨f__law_table, fd__law_table, F__law_table, m__law_table, k__law_table, b__law_table⟩ := H__law_table
  obtain ⟨f__law_cell, fd__law_cell, F__law_cell, m__law_cell, k__law_cell, b__law_cell⟩ := H__law_cell
  obtain ⟨f__law_spoilt, fd__law_spoilt, F__law_spoilt, m__law_spoilt, k__law_spoilt, b__law_spoilt⟩ := H__law_spoilt
  refine fn_okD (r := (As.cons (α := Scr) As.nil)) (o := Ow.v) (m := fun ar => ((((pure ar.1) >>= fun a => ((pure (0 : Int)) >>= fun a => ((pure (10 : Int)) >>= fun a => (pure ()) >>= fun b => pure (a, b)) >>= fun b => pure (a, b)) >>= fun b => pure (a, b)) >>= fun a => mir__law_table a.1 a.2.1 a.2.2.1) >>= fun (table_here1 : (List (List Int))) => (((((pure ar.1) >>= fun a => ((pure (14 : Int)) >>= fun a => (pure ()) >>= fun b => pure (a, b)) >>= fun b => pure (a, b)) >>= fun a => mir__law_cell a.1 a.2.1) >>= fun a => pure (a % (8 : Int))) >>= fun (kind2 : Int) => (((pure kind2) >>= fun a => (pure (0 : Int)) >>= fun b => pure (decide (a = b))) >>= fun x => if x then (((((((pure () >>= fun a => pure (Dl.n : (Dl (Dl (Dl (Dl Empty)))))) >>= fun a => (((pure (0 : Int)) >>= fun a => pure (Dl.i a : (Dl (Dl (Dl (Dl Empty)))))) >>= fun a => (((pure ("" : Str)) >>= fun a => pure (Dl.s a : (Dl (Dl (Dl (Dl Empty)))))) >>= fun a => (((pure ("01" : Str)) >>= fun a => pure (Dl.s a : (Dl (Dl (Dl (Dl Empty)))))) >>= fun a => ((pure (Dl.t [] : (Dl (Dl (Dl (Dl Empty)))))) >>= fun a => ((pure (Dl.d : (Dl (Dl (Dl (Dl Empty)))))) >>= fun a => ((((((pure (0 : Int)) >>= fun a => pure (Dl.i a : (Dl (Dl (Dl Empty))))) >>= fun a => (pure ([] : List (Dl (Dl (Dl Empty))))) >>= fun b => pure (a :: b)) >>= fun a => lstM a) >>= fun a => pure (Dl.l a : (Dl (Dl (Dl (Dl Empty)))))) >>= fun a => (((((((((pure (0 : Int)) >>= fun a => pure (Dl.i a : (Dl (Dl Empty)))) >>= fun a => (pure ([] : List (Dl (Dl Empty)))) >>= fun b => pure (a :: b)) >>= fun a => lstM a) >>= fun a => pure (Dl.l a : (Dl (Dl (Dl Empty))))) >>= fun a => (((pure (1 : Int)) >>= fun a => pure (Dl.i a : (Dl (Dl (Dl Empty))))) >>= fun a => (pure ([] : List (Dl (Dl (Dl Empty))))) >>= fun b => pure (a :: b)) >>= fun b => pure (a :: b)) >>= fun a => lstM a) >>= fun a => pure (Dl.l a : (Dl (Dl (Dl (Dl Empty)))))) >>= fun a => (pure ([] : List (Dl (Dl (Dl (Dl Empty)))))) >>= fun b => pure (a :: b)) >>= fun b => pure (a :: b)) >>= fun b => pure (a :: b)) >>= fun b => pure (a :: b)) >>= fun b => pure (a :: b)) >>= fun b => pure (a :: b)) >>= fun b => pure (a :: b)) >>= fun b => pure (a :: b)) >>= fun a => lstM a) >>= fun a => ((((pure ar.1) >>= fun a => ((pure (15 : Int)) >>= fun a => (pure ()) >>= fun b => pure (a, b)) >>= fun b => pure (a, b)) >>= fun a => mir__law_cell a.1 a.2.1) >>= fun a => pure (a % (8 : Int))) >>= fun b => atM a b) >>= fun r => pure (.rt r)) : M (Ctl Empty Empty (Dl (Dl (Dl (Dl Empty)))))) >>= fun y => thenC y nofun) else (((pure kind2) >>= fun a => (pure (1 : Int)) >>= fun b => pure (decide (a = b))) >>= fun x => if x then (((((((pure (11 : Int)) >>= fun a => range1 a) >>= fun xs => compM xs (fun (i3 : Int) => (pure true)) (fun (i3 : Int) => (((pure (11 : Int)) >>= fun a => range1 a) >>= fun xs => compM xs (fun (j4 : Int) => (pure true)) (fun (j4 : Int) => (pure (0 : Int)))))) >>= fun a => pure (Dl.l (a.map fun r => Dl.l (r.map Dl.i)) : (Dl (Dl (Dl (Dl Empty)))))) >>= fun r => pure (.rt r)) : M (Ctl Empty Empty (Dl (Dl (Dl (Dl Empty)))))) >>= fun y => thenC y nofun) else ((bOr ((pure kind2) >>= fun a => (pure (4 : Int)) >>= fun b => pure (decide (a < b))) (((pure table_here1) >>= fun a => pure (a.length : Int)) >>= fun a => (pure (0 : Int)) >>= fun b => pure (decide (a = b)))) >>= fun x => if x then (((((pure table_here1) >>= fun a => pure (Dl.l (a.map fun r => Dl.l (r.map Dl.i)) : (Dl (Dl (Dl (Dl Empty)))))) >>= fun r => pure (.rt r)) : M (Ctl Empty Empty (Dl (Dl (Dl (Dl Empty)))))) >>= fun y => thenC y nofun) else (((((pure ar.1) >>= fun a => ((pure (15 : Int)) >>= fun a => (pure ()) >>= fun b => pure (a, b)) >>= fun b => pure (a, b)) >>= fun a => mir__law_cell a.1 a.2.1) >>= fun a => (pure ()) >>= fun b => pure (a, b)) >>= fun a => mir__law_spoilt table_here1 a.1 >>= fun r => pure (.rt r)))))))) F sc__law_thing rfl rfl (fun cdv A' outer s H E hr ar => ?_)
  have hr__law_table := hr.mono (show 2 ≤ 2 by decide)
  have hr__law_cell := hr.mono (show 1 ≤ 2 by decide)
  have hr__law_spoilt := hr.mono (show 1 ≤ 2 by decide)
  exact ⟨_, (ss_asg 1 sc__law_thing.nd (ex_call F__law_table hr__law_table m__law_table k__law_table b__law_table (ea_cons (ex_var 0) (ea_cons ex_int (ea_cons ex_int ea_nil)))) (fun table_here1 => (ss_asg 2 sc__law_thing.nd (ex_modc (ex_call F__law_cell hr__law_cell m__law_cell k__law_cell b__law_cell (ea_cons (ex_var 0) (ea_cons ex_int ea_nil)))) (fun kind2 => (ss_ifR (et_c (ec_eq (ex_var 2) ex_int)) (ss_ret (ex_ixL (K := K) (ex_frz (ex_lst (el_cons (ex_dlN (α := (Dl (Dl (Dl Empty)))) ex_non) (el_cons (ex_dlI (α := (Dl (Dl (Dl Empty)))) ex_int) (el_cons (ex_dlS (α := (Dl (Dl (Dl Empty)))) ex_str) (el_cons (ex_dlS (α := (Dl (Dl (Dl Empty)))) ex_str) (el_cons (ex_tup0 (α := (Dl (Dl (Dl Empty))))) (el_cons (ex_dict0 (α := (Dl (Dl (Dl Empty))))) (el_cons (ex_dlL (ex_frz (ex_lst (el_cons (ex_dlI (α := (Dl (Dl Empty))) ex_int) (el_nil (o := Ow.v)))))) (el_cons (ex_dlL (ex_frz (ex_lst (el_cons (ex_dlL (ex_frz (ex_lst (el_cons (ex_dlI (α := (Dl Empty)) ex_int) (el_nil (o := Ow.v)))))) (el_cons (ex_dlI (α := (Dl (Dl Empty))) ex_int) (el_nil (o := Ow.v))))))) (el_nil (o := Ow.v)))))))))))) (ex_modc (ex_call F__law_cell hr__law_cell m__law_cell k__law_cell b__law_cell (ea_cons (ex_var 0) (ea_cons ex_int ea_nil)))))) (ss_ifR (et_c (ec_eq (ex_var 2) ex_int)) (ss_ret (ex_dlII (α := (Dl Empty)) (ex_frz (ex_lc rfl sc__law_thing.nd (ei_range1 T.n_range ex_int) (own := [("_law_i", 3)]) (by kernel_rfl) rfl rfl (fun _ _ _ _ _ i3 => (eg_name 3 sc__law_thing.nd)) (fun _ _ _ _ _ i3 => ef_nil) (fun _ _ _ _ _ i3 => (ex_lc rfl sc__law_thing.nd (ei_range1 T.n_range ex_int) (own := [("_law_j", 4)]) (by kernel_rfl) rfl rfl (fun _ _ _ _ _ j4 => (eg_name 4 sc__law_thing.nd)) (fun _ _ _ _ _ j4 => ef_nil) (fun _ _ _ _ _ j4 => ex_int))))))) (ss_ifR (et_view (ew_pt (ew_or (et_c (ec_lt (ex_var 2) ex_int)) (ew_or1 (et_c (ec_eq (ex_lenL (K := K) T.n_len (ex_var 1)) ex_int)))))) (ss_frz 1 rfl (ss_ret (ex_dlII (α := (Dl Empty)) (ex_var 1)))) (ss_retCallO (K := K) (r := (As.cons (α := Int) As.nil)) (u := (Ow.l (Ow.l Ow.v))) (x0 := table_here1) (fm := fun (x : (List (List Int))) a => mir__law_spoilt x a.1) 1 F__law_spoilt hr__law_spoilt m__law_spoilt k__law_spoilt b__law_spoilt (ea_cons (ex_call F__law_cell hr__law_cell m__law_cell k__law_cell b__law_cell (ea_cons (ex_var 0) (ea_cons ex_int ea_nil))) ea_nil)))))))))⟩
theorem ok__law_thing (T : Txt K mg) {f : Addr} {fd : FuncData} (F : FnP K "_law_thing" s__law_thing f fd) (hm : mg "_law_thing" = some (.ref f)) (H__law_table : Has P w K mg base "_law_table" 2 ["_law_script", "_law_at", "_law_most"] (sp__law_table K)) (H__law_cell : Has P w K mg base "_law_cell" 1 ["_law_script", "_law_k"] (sp__law_cell K)) (H__law_spoilt : Has P w K mg base "_law_spoilt" 1 ["_law_table_here", "_law_cell_here"] (sp__law_spoilt K)) : Has P w K mg base "_law_thing" 3 ["_law_script"] (sp__law_thing K) :=
  ⟨f, fd, ok0__law_thing T F H__law_table H__law_cell H__law_spoilt, hm, F.kp, F.bindsN fun _ _ _ _ _ _ us hl => match us, hl with | [_], _ => rfl⟩
abbrev s__law_due : Stmt := top 11
theorem sc__law_due : FnScope ["_law_thing_here", "_law_free", "_law_row", "_law_i", "_law_one", "_law_j"] ["_law_thing_here", "_law_free"] (defScope s__law_due) := ⟨rfl, rfl, rfl, by decide +kernel, rfl, by decide +kernel, by decide +kernel⟩
abbrev sp__law_due (K : PySem.W.Frag) : Sp := spF K (As.cons (α := (Dl (Dl (Dl (Dl Empty))))) (As.cons (α := Bool) As.nil)) (Ow.v : Ow Bool) (fun a => mir__law_due a.1 a.2.1)
theorem ok0__law_due (T : Txt K mg) {f : Addr} {fd : FuncData} (F : FnP K "_law_due" s__law_due f fd)  : FnOk P w K mg base CX0 1 f fd ["_law_thing_here", "_law_free"] (sp__law_due K) := by
  refine fn_okD (r := (As.cons (α := (Dl (Dl (Dl (Dl Empty))))) (As.cons (α := Bool) As.nil))) (o := Ow.v) (m := fun ar => ((bOr (bNot ((pure ar.1) >>= fun x => ofO (kitB (dlK x) "list"))) ((((pure ar.1) >>= fun a => toL a) >>= fun a => pure (a.length : Int)) >>= fun a => (pure (10 : Int)) >>= fun b => pure (decide (b < a)))) >>= fun x => if x then ((((pure false) >>= fun r => pure (.rt r)) : M (Ctl Empty Empty Bool)) >>= fun y => thenC y nofun) else (((pure ar.1) >>= fun a => toL a) >>= fun xs => loopM (S := Unit) (ρ := Bool) (fun (row1 : (Dl (Dl (Dl Empty)))) (s2 : Unit) => ((bOr (bNot ((pure row1) >>= fun x => ofO (kitB (dlK x) "list"))) ((((pure row1) >>= fun a => toL a) >>= fun a => pure (a.length : Int)) >>= fun a => (((pure ar.1) >>= fun a => toL a) >>= fun a => pure (a.length : Int)) >>= fun b => pure (!decide (a = b)))) >>= fun x => if x then ((((pure false) >>= fun r => pure (.rt r)) : M (Ctl Empty Unit Bool)) >>= fun y => thenC y nofun) else ((bNot ((((pure row1) >>= fun a => toL a) >>= fun xs => compM xs (fun (one3 : (Dl (Dl Empty))) => (pure true)) (fun (one3 : (Dl (Dl Empty))) => (bAnd ((pure one3) >>= fun x => ofO (kitB (dlK x) "int")) (bNot ((pure one3) >>= fun x => ofO (kitB (dlK x) "bool")))))) >>= fun a => pure (a.all id))) >>= fun x => if x then ((((pure false) >>= fun r => pure (.rt r)) : M (Ctl Empty Unit Bool)) >>= fun y => thenC y nofun) else (((((pure row1) >>= fun a => toL a) >>= fun xs => compM xs (fun (one4 : (Dl (Dl Empty))) => (pure true)) (fun (one4 : (Dl (Dl Empty))) => (bOr (((pure one4) >>= fun a => toI a) >>= fun a => (pure (0 : Int)) >>= fun b => pure (decide (a < b))) (((pure one4) >>= fun a => toI a) >>= fun a => (pure (1 : Int)) >>= fun b => pure (decide (b < a)))))) >>= fun a => pure (a.any id)) >>= fun x => if x then ((((pure false) >>= fun r => pure (.rt r)) : M (Ctl Empty Unit Bool)) >>= fun y => thenC y nofun) else (pure (.nx ())))))) xs () >>= fun c => thenL c (fun (s2 : Unit) => (((((pure ar.1) >>= fun a => toL a) >>= fun a => pure (a.length : Int)) >>= fun a => range1 a) >>= fun xs => loopM (S := Unit) (ρ := Bool) (fun (i5 : Int) (s6 : Unit) => (((((pure i5) >>= fun a => range1 a) >>= fun xs => compM xs (fun (j7 : Int) => (pure true)) (fun (j7 : Int) => ((((((pure ar.1) >>= fun a => toL a) >>= fun a => (pure i5) >>= fun b => atM a b) >>= fun a => toL a) >>= fun a => (pure j7) >>= fun b => atM a b) >>= fun a => (((((pure ar.1) >>= fun a => toL a) >>= fun a => (pure j7) >>= fun b => atM a b) >>= fun a => toL a) >>= fun a => (pure i5) >>= fun b => atM a b) >>= fun b => neDl a b))) >>= fun a => pure (a.any id)) >>= fun x => if x then ((((pure false) >>= fun r => pure (.rt r)) : M (Ctl Empty Unit Bool)) >>= fun y => thenC y nofun) else ((bAnd (bNot (pure ar.2.1)) ((((((pure ar.1) >>= fun a => toL a) >>= fun a => (pure i5) >>= fun b => atM a b) >>= fun a => toL a) >>= fun a => (pure i5) >>= fun b => atM a b) >>= fun a => ((pure (1 : Int)) >>= fun a => pure (Dl.i a : (Dl (Dl Empty)))) >>= fun b => eqDl a b)) >>= fun x => if x then ((((pure false) >>= fun r => pure (.rt r)) : M (Ctl Empty Unit Bool)) >>= fun y => thenC y nofun) else (pure (.nx ()))))) xs () >>= fun c => thenL c (fun (s6 : Unit) => ((pure true) >>= fun r => pure (.rt r)))))))) F sc__law_due rfl rfl (fun cdv A' outer s H E hr ar => ?_)
  exact ⟨_, (ss_ifR (ew_pt (ew_or (et_not (et_val (ex_isDl (K := K) T.n_isinstance T.n_list boot_list (ex_var 0)))) (ew_or1 (et_c (ec_gt (ex_lenL (K := K) T.n_len (ex_toL (ex_var 0))) ex_int))))) (ss_ret ex_bl) (ss_for (Γs := (fun (s2 : Unit) => [.mk Ow.v ar.1, .mk Ow.v ar.2.1, .un, .un, .un, .un])) () rfl PassesOwn.never (ei_list (K := K) (ex_toL (ex_var 0))) (.k (.k (.w (.w (.w (.w .n)))))) (fun s2 row1 => (eg_name 2 sc__law_due.nd)) (fun s2 row1 => (ss_ifR (ew_pt (ew_or (et_not (et_val (ex_isDl (K := K) T.n_isinstance T.n_list boot_list (ex_var 2)))) (ew_or1 (et_c (ec_ne (ex_lenL (K := K) T.n_len (ex_toL (ex_var 2))) (ex_lenL (K := K) T.n_len (ex_toL (ex_var 0)))))))) (ss_ret ex_bl) (ss_ifR (et_not (et_val (ex_all (K := K) rfl T.n_all (ex_frz (ex_lc rfl sc__law_due.nd (ei_list (K := K) (ex_toL (ex_var 2))) (own := [("_law_one", 4)]) (by kernel_rfl) rfl rfl (fun _ _ _ _ _ one3 => (eg_name 4 sc__law_due.nd)) (fun _ _ _ _ _ one3 => ef_nil) (fun _ _ _ _ _ one3 => (ex_and (ex_isDl (K := K) T.n_isinstance T.n_int boot_int (ex_var 4)) (ex_one (ex_not (ex_isDl (K := K) T.n_isinstance T.n_bool boot_bool (ex_var 4))))))))))) (ss_ret ex_bl) (ss_ifR (et_val (ex_any (K := K) rfl T.n_any (ex_frz (ex_lc rfl sc__law_due.nd (ei_list (K := K) (ex_toL (ex_var 2))) (own := [("_law_one", 4)]) (by kernel_rfl) rfl rfl (fun _ _ _ _ _ one4 => (eg_name 4 sc__law_due.nd)) (fun _ _ _ _ _ one4 => ef_nil) (fun _ _ _ _ _ one4 => (ex_or (ex_c (ec_lt (ex_toI (ex_var 4)) ex_int)) (ex_one (ex_c (ec_gt (ex_toI (ex_var 4)) ex_int))))))))) (ss_ret ex_bl) (ss_nil () (.k (.k (.w (.w (.w (.w .n))))))))))) (fun s2 => (ss_for (Γs := (fun (s6 : Unit) => [.mk Ow.v ar.1, .mk Ow.v ar.2.1, .un, .un, .un, .un])) () rfl PassesOwn.never (ei_range1 T.n_range (ex_lenL (K := K) T.n_len (ex_toL (ex_var 0)))) (.k (.k (.w (.w (.w (.w .n)))))) (fun s6 i5 => (eg_name 3 sc__law_due.nd)) (fun s6 i5 => (ss_ifR (et_val (ex_any (K := K) rfl T.n_any (ex_frz (ex_lc rfl sc__law_due.nd (ei_range1 T.n_range (ex_var 3)) (own := [("_law_j", 5)]) (by kernel_rfl) rfl rfl (fun _ _ _ _ _ j7 => (eg_name 5 sc__law_due.nd)) (fun _ _ _ _ _ j7 => ef_nil) (fun _ _ _ _ _ j7 => (ex_c (ec_neX (K := K) hr.units (ex_ixL (K := K) (ex_toL (ex_ixL (K := K) (ex_toL (ex_var 0)) (ex_var 3))) (ex_var 5)) (ex_ixL (K := K) (ex_toL (ex_ixL (K := K) (ex_toL (ex_var 0)) (ex_var 5))) (ex_var 3))))))))) (ss_ret ex_bl) (ss_ifR (ew_pt (ew_and (et_not (et_val (ex_var 1))) (ew_and1 (et_c (ec_eqX (K := K) hr.units (ex_ixL (K := K) (ex_toL (ex_ixL (K := K) (ex_toL (ex_var 0)) (ex_var 3))) (ex_var 3)) (ex_dlI (α := (Dl Empty)) ex_int)))))) (ss_ret ex_bl) (ss_nil () (.k (.k (.w (.w (.w (.w .n)))))))))) (fun s6 => (ss_ret ex_bl))))))⟩
theorem ok__law_due (T : Txt K mg) {f : Addr} {fd : FuncData} (F : FnP K "_law_due" s__law_due f fd) (hm : mg "_law_due" = some (.ref f))  : Has P w K mg base "_law_due" 1 ["_law_thing_here", "_law_free"] (sp__law_due K) :=
  ⟨f, fd, ok0__law_due T F , hm, F.kp, F.bindsN fun _ _ _ _ _ _ us hl => match us, hl with | [_, _], _ => rfl⟩
abbrev s_law : Stmt := top 12
theorem sc_law : FnScope ["_law_script", "_law_thing_here", "_law_found", "_law_word"] ["_law_script"] (defScope s_law) := ⟨rfl, rfl, rfl, by decide +kernel, rfl, by decide +kernel, by decide +kernel⟩
abbrev sp_law (K : PySem.W.Frag) : Sp := spF K (As.cons (α := Scr) As.nil) (Ow.v : Ow Bool) (fun a => mir_law a.1)
theorem ok0_law (T : Txt K mg) {f : Addr} {fd : FuncData} (F : FnP K "law" s_law f fd) (H__law_thing : Has P w K mg base "_law_thing" 3 ["_law_script"] (sp__law_thing K)) (H_is_table : Has P w K mg base "is_table" 2 ["thing"] (sp_is_table K)) (H_is_web : Has P w K mg base "is_web" 3 ["thing"] (sp_is_web K)) (H__law_due : Has P w K mg base "_law_due" 1 ["_law_thing_here", "_law_free"] (sp__law_due K)) : FnOk P w K mg base CX0 4 f fd ["_law_script"] (sp_law K) := by
  obtain ⟨f__law_thing, fd__law_thing, F__law_thing, m__law_thing, k__law_thing, b__law_thing⟩ := H__law_thing
  obtain ⟨f_is_table, fd_is_table, F_is_table, m_is_table, k_is_table, b_is_table⟩ := H_is_table
  obtain ⟨f_is_web, fd_is_web, F_is_web, m_is_web, k_is_web, b_is_web⟩ := H_is_web
  obtain ⟨f__law_due, fd__law_due, F__law_due, m__law_due, k__law_due, b__law_due⟩ := H__law_due
  refine fn_okD (r := (As.cons (α := Scr) As.nil)) (o := Ow.v) (m := fun ar => ((((pure ar.1) >>= fun a => (pure ()) >>= fun b => pure (a, b)) >>= fun a => mir__law_thing a.1) >>= fun (thing_here1 : (Dl (Dl (Dl (Dl Empty))))) => ((((((pure thing_here1) >>= fun a => (pure ()) >>= fun b => pure (a, b)) >>= fun a => mir_is_table a.1) >>= fun a => ((((pure thing_here1) >>= fun a => (pure ()) >>= fun b => pure (a, b)) >>= fun a => mir_is_web a.1) >>= fun a => (pure ([] : List Bool)) >>= fun b => pure (a :: b)) >>= fun b => pure (a :: b)) >>= fun a => lstM a) >>= fun (found2 : (List Bool)) => ((bNot (((pure found2) >>= fun xs => compM xs (fun (word3 : Bool) => (pure true)) (fun (word3 : Bool) => ((pure word3) >>= fun _ => pure true))) >>= fun a => pure (a.all id))) >>= fun x => if x then ((((pure false) >>= fun r => pure (.rt r)) : M (Ctl Empty Empty Bool)) >>= fun y => thenC y nofun) else ((bAnd ((pure found2) >>= fun a => (((((pure thing_here1) >>= fun a => ((pure true) >>= fun a => (pure ()) >>= fun b => pure (a, b)) >>= fun b => pure (a, b)) >>= fun a => mir__law_due a.1 a.2.1) >>= fun a => ((((pure thing_here1) >>= fun a => ((pure false) >>= fun a => (pure ()) >>= fun b => pure (a, b)) >>= fun b => pure (a, b)) >>= fun a => mir__law_due a.1 a.2.1) >>= fun a => (pure ([] : List Bool)) >>= fun b => pure (a :: b)) >>= fun b => pure (a :: b)) >>= fun a => lstM a) >>= fun b => eqM a b) ((pure thing_here1) >>= fun a => (((pure ar.1) >>= fun a => (pure ()) >>= fun b => pure (a, b)) >>= fun a => mir__law_thing a.1) >>= fun b => eqDl a b)) >>= fun r => pure (.rt r)))))) F sc_law rfl rfl (fun cdv A' outer s H E hr ar => ?_)
  have hr__law_thing := hr.mono (show 3 ≤ 3 by decide)
  have hr_is_table := hr.mono (show 2 ≤ 3 by decide)
  have hr_is_web := hr.mono (show 3 ≤ 3 by decide)
  have hr__law_due := hr.mono (show 1 ≤ 3 by decide)
  exact ⟨_, (ss_asg 1 sc_law.nd (ex_call F__law_thing hr__law_thing m__law_thing k__law_thing b__law_thing (ea_cons (ex_var 0) ea_nil)) (fun thing_here1 => (ss_asg 2 sc_law.nd (ex_lst (el_cons (ex_call F_is_table hr_is_table m_is_table k_is_table b_is_table (ea_cons (ex_var 1) ea_nil)) (el_cons (ex_call F_is_web hr_is_web m_is_web k_is_web b_is_web (ea_cons (ex_var 1) ea_nil)) (el_nil (o := Ow.v))))) (fun found2 => (ss_ifR (et_view (et_not (et_val (ex_all (K := K) rfl T.n_all (ex_frz (ex_lc rfl sc_law.nd (ei_list (K := K) (ex_var 2)) (own := [("_law_word", 3)]) (by kernel_rfl) rfl rfl (fun _ _ _ _ _ word3 => (eg_name 3 sc_law.nd)) (fun _ _ _ _ _ word3 => ef_nil) (fun _ _ _ _ _ word3 => (ex_isi (K := K) T.n_isinstance T.n_bool boot_bool (ex_var 3) (by decide +kernel))))))))) (ss_ret ex_bl) (ss_ret (ex_view (ex_and (ex_c (ec_eqD (K := K) hr.units (ex_var 2) (ex_frz (ex_lst (el_cons (ex_call F__law_due hr__law_due m__law_due k__law_due b__law_due (ea_cons (ex_var 1) (ea_cons ex_bl ea_nil))) (el_cons (ex_call F__law_due hr__law_due m__law_due k__law_due b__law_due (ea_cons (ex_var 1) (ea_cons ex_bl ea_nil))) (el_nil (o := Ow.v)))))))) (ex_one (ex_c (ec_eqX (K := K) hr.units (ex_var 1) (ex_call F__law_thing hr__law_thing m__law_thing k__law_thing b__law_thing (ea_cons (ex_var 0) ea_nil)))))))))))))⟩
end
/-! ### the head -/
def d_is_bit : He.DefD := ⟨("is_bit", none), "is_bit", "is_bit", defArgs s_is_bit, defBody s_is_bit, defScope s_is_bit, [], []⟩
def d_is_table : He.DefD := ⟨("is_table", none), "is_table", "is_table", defArgs s_is_table, defBody s_is_table, defScope s_is_table, [], []⟩
def d_is_web : He.DefD := ⟨("is_web", none), "is_web", "is_web", defArgs s_is_web, defBody s_is_web, defScope s_is_web, [], []⟩
def d__law_cell : He.DefD := ⟨("_law_cell", none), "_law_cell", "_law_cell", defArgs s__law_cell, defBody s__law_cell, defScope s__law_cell, [], []⟩
def d__law_table : He.DefD := ⟨("_law_table", none), "_law_table", "_law_table", defArgs s__law_table, defBody s__law_table, defScope s__law_table, [], []⟩
def d__law_spoilt : He.DefD := ⟨("_law_spoilt", none), "_law_spoilt", "_law_spoilt", defArgs s__law_spoilt, defBody s__law_spoilt, defScope s__law_spoilt, [], []⟩
def d__law_thing : He.DefD := ⟨("_law_thing", none), "_law_thing", "_law_thing", defArgs s__law_thing, defBody s__law_thing, defScope s__law_thing, [], []⟩
def d__law_due : He.DefD := ⟨("_law_due", none), "_law_due", "_law_due", defArgs s__law_due, defBody s__law_due, defScope s__law_due, [], []⟩
def d_law : He.DefD := ⟨("law", none), "law", "law", defArgs s_law, defBody s_law, defScope s_law, [], []⟩
def fn : List He.DefD := [d_is_bit, d_is_table, d_is_web, d__law_cell, d__law_table, d__law_spoilt, d__law_thing, d__law_due, d_law]
def fa : List He.Fa := [.glo "is_bit", .glo "is_table", .glo "is_web", .glo "_law_cell", .glo "_law_table", .glo "_law_spoilt", .glo "_law_thing", .glo "_law_due", .glo "law", .free "all", .free "any", .free "bool", .free "enumerate", .free "int", .free "isinstance", .free "len", .free "list", .free "max", .free "min", .free "range", .free "tuple", .int "MOST" (10 : Int)]
abbrev R : PySem.W.OpenRow := PySem.W.OpenLaw.row PySem.Challenge.rw_fourway_k23_what_is_a_table
abbrev hk : PySem.W.Hook := He.hookD 4 fa fn
def ob (s : PySem.W.SharedT) : He.AlD := He.obsDG 4 fa fn (HandSHeadRun.getT s)
theorem ob_eq (s : PySem.W.SharedT) : ob s = hk.obs s.abs := He.obsDG_eq (HandSHeadRun.getT_eq s)
theorem run (w : World) : HandSHeadRun.RunEq R (PySem.W.view R.prog [12]) hk ob 4000 ((["MOST", "is_bit", "is_table", "is_web", "_law_cell", "_law_table", "_law_copy", "_law_spoilt", "_law_thing", "_law_due"] : List PySem.Str)) w := by
  intro os
  kernel_rfl
theorem facts {P : Program} {w : World} {K : PySem.W.Frag} {h : Heap} {mg : Str → Option Value} {f : Addr} (X : K.In h) (G : h.Ns mainGlobals mg) (hfa : mg ("law" : Str) = some (.ref f)) (c : He.SaysD fa fn K) :
    ∃ fd : FuncData, (∀ (s : Shared) (v : Value), BindsTo s fd ⟨[v], []⟩ [("_law_script", v)]) ∧ ∀ base : Heap, K.In base → base.Ns mainGlobals mg → FnOk P w K mg base CX0 4 f fd ["_law_script"] (sp_law K) := by
  obtain ⟨fd_is_bit, F_is_bit⟩ := c.def_ 0 (d := d_is_bit) rfl
  obtain ⟨fd_is_table, F_is_table⟩ := c.def_ 1 (d := d_is_table) rfl
  obtain ⟨fd_is_web, F_is_web⟩ := c.def_ 2 (d := d_is_web) rfl
  obtain ⟨fd__law_cell, F__law_cell⟩ := c.def_ 3 (d := d__law_cell) rfl
  obtain ⟨fd__law_table, F__law_table⟩ := c.def_ 4 (d := d__law_table) rfl
  obtain ⟨fd__law_spoilt, F__law_spoilt⟩ := c.def_ 5 (d := d__law_spoilt) rfl
  obtain ⟨fd__law_thing, F__law_thing⟩ := c.def_ 6 (d := d__law_thing) rfl
  obtain ⟨fd__law_due, F__law_due⟩ := c.def_ 7 (d := d__law_due) rfl
  obtain ⟨fd_law, F_law⟩ := c.def_ 8 (d := d_law) rfl
  have m_is_bit := He.glo_ok X G (c.fact 0 (f := .glo "is_bit") rfl)
  have m_is_table := He.glo_ok X G (c.fact 1 (f := .glo "is_table") rfl)
  have m_is_web := He.glo_ok X G (c.fact 2 (f := .glo "is_web") rfl)
  have m__law_cell := He.glo_ok X G (c.fact 3 (f := .glo "_law_cell") rfl)
  have m__law_table := He.glo_ok X G (c.fact 4 (f := .glo "_law_table") rfl)
  have m__law_spoilt := He.glo_ok X G (c.fact 5 (f := .glo "_law_spoilt") rfl)
  have m__law_thing := He.glo_ok X G (c.fact 6 (f := .glo "_law_thing") rfl)
  have m__law_due := He.glo_ok X G (c.fact 7 (f := .glo "_law_due") rfl)
  have m_law := He.glo_ok X G (c.fact 8 (f := .glo "law") rfl)
  have T : Txt K mg := ⟨He.free_ok X G (c.fact 9 (f := .free "all") rfl), He.free_ok X G (c.fact 10 (f := .free "any") rfl), He.free_ok X G (c.fact 11 (f := .free "bool") rfl), He.free_ok X G (c.fact 12 (f := .free "enumerate") rfl), He.free_ok X G (c.fact 13 (f := .free "int") rfl), He.free_ok X G (c.fact 14 (f := .free "isinstance") rfl), He.free_ok X G (c.fact 15 (f := .free "len") rfl), He.free_ok X G (c.fact 16 (f := .free "list") rfl), He.free_ok X G (c.fact 17 (f := .free "max") rfl), He.free_ok X G (c.fact 18 (f := .free "min") rfl), He.free_ok X G (c.fact 19 (f := .free "range") rfl), He.free_ok X G (c.fact 20 (f := .free "tuple") rfl), He.int_ok X G (c.fact 21 (f := .int "MOST" (10 : Int)) rfl)⟩
  have e := hfa.symm.trans m_law
  cases e
  refine ⟨fd_law, fun s v => FunD.bindsA (ps := ["_law_script"]) F_law (fun _ _ _ _ _ _ us hl => match us, hl with | [_], _ => rfl) s [v] rfl, fun base _ _ => ?_⟩
  have H_is_bit : Has P w K mg base "is_bit" 1 ["thing"] (sp_is_bit K) := ok_is_bit T F_is_bit m_is_bit 
  have H_is_table : Has P w K mg base "is_table" 2 ["thing"] (sp_is_table K) := ok_is_table T F_is_table m_is_table H_is_bit
  have H_is_web : Has P w K mg base "is_web" 3 ["thing"] (sp_is_web K) := ok_is_web T F_is_web m_is_web H_is_table
  have H__law_cell : Has P w K mg base "_law_cell" 1 ["_law_script", "_law_k"] (sp__law_cell K) := ok__law_cell T F__law_cell m__law_cell 
  have H__law_table : Has P w K mg base "_law_table" 2 ["_law_script", "_law_at", "_law_most"] (sp__law_table K) := ok__law_table T F__law_table m__law_table H__law_cell
  have H__law_spoilt : Has P w K mg base "_law_spoilt" 1 ["_law_table_here", "_law_cell_here"] (sp__law_spoilt K) := ok__law_spoilt T F__law_spoilt m__law_spoilt 
  have H__law_thing : Has P w K mg base "_law_thing" 3 ["_law_script"] (sp__law_thing K) := ok__law_thing T F__law_thing m__law_thing H__law_table H__law_cell H__law_spoilt
  have H__law_due : Has P w K mg base "_law_due" 1 ["_law_thing_here", "_law_free"] (sp__law_due K) := ok__law_due T F__law_due m__law_due 
  exact ok0_law T F_law H__law_thing H_is_table H_is_web H__law_due
end Law

/-! ## LGcellT: cells -/
namespace Law
open PySem Ty
theorem cell_ok (s : Scr) (k : Int) (h0 : 0 ≤ k) : Ev (mir__law_cell s k) fun _ => True := by
  unfold mir__law_cell
  simp only [pureB]
  refine Ev.run (Ev.bind (P := fun c => ∃ v : Int, c = .nx v) (Ev.bif (fun hc => ?_) fun hc => ⟨_, rfl, _, rfl⟩) ?_)
  · rw [atM_ok h0 (of_decide_eq_true hc)]
    exact ⟨_, rfl, _, rfl⟩
  · rintro _ ⟨v, rfl⟩
    simp only [thenCn]
    rw [divM_s (by omega) (by omega)]
    exact Ev.ok ⟨_, rfl, True.intro⟩
end Law

/-! ## LGtabM: drawn tables -/
namespace Law
open PySem Ty
/-- a table: as it reads across, of bits -/
def Sy (n : Nat) (f : Nat → Nat → Int) : Prop := (∀ i j, i < n → j < n → f i j = f j i) ∧ ∀ i j, i < n → j < n → f i j = 0 ∨ f i j = 1
theorem bit2 (x : Int) : x % 2 = 0 ∨ x % 2 = 1 := by omega
theorem table_ok (s : Scr) (at' : Int) (h0 : 0 ≤ at') {mx : Int} (m0 : 0 ≤ mx) (m1 : mx ≤ 10) : Ev (mir__law_table s at' mx) fun W => ∃ n f, n ≤ 10 ∧ W = tab n f ∧ Sy n f := by
  unfold mir__law_table
  simp only [pureB, bindA]
  refine Ev.run (Ev.bind (cell_ok s at' h0) fun c0 hc0 => ?_)
  rw [modM_ok (by omega)]
  simp only [okB, pureB]
  have hn0 : 0 ≤ c0 % (mx + 1) ∧ c0 % (mx + 1) ≤ 10 := ⟨Int.emod_nonneg _ (by omega), by have := Int.emod_lt_of_pos c0 (show 0 < mx + 1 by omega); omega⟩
  generalize c0 % (mx + 1) = n at hn0
  refine Ev.bind (cell_ok s at' h0) fun c1 hc1 => ?_
  have hk0 : 1 ≤ (if n - c1 / 16 % 4 > 1 then n - c1 / 16 % 4 else 1) ∧ (if n - c1 / 16 % 4 > 1 then n - c1 / 16 % 4 else 1) ≤ 10 := by split <;> omega
  generalize (if n - c1 / 16 % 4 > 1 then n - c1 / 16 % 4 else 1) = m at hk0
  rw [range1_ok (by omega) (by omega), range1_ok (by omega) (by omega)]
  simp only [okB, pureB]
  refine Ev.bind (Ev.compR (fun k (b : Int) => 0 ≤ b ∧ b < m) (by omega) fun k hk => ?_) ?_
  · refine Ev.bind (cell_ok s (at' + 1) (by omega)) fun c2 hc2 => ?_
    rw [divM_s (by omega) (by omega)]
    simp only [okB, pureB]
    rw [modM_ok (by omega)]
    exact ⟨_, rfl, Int.emod_nonneg _ (by omega), Int.emod_lt_of_pos _ (by omega)⟩
  rintro _ ⟨g, rfl, hg⟩
  refine Ev.bind (cell_ok s at' h0) fun c3 hc3 => ?_
  refine Ev.bind (P := fun c => ∃ g, c = .nx (row n.toNat g) ∧ ∀ k : Nat, (k : Int) < n → 0 ≤ g k ∧ g k < m) (Ev.bif (fun hc => ?_) fun hc => ⟨_, rfl, g, rfl, hg⟩) ?_
  · refine Ev.bind (Ev.compR (fun k (b : Int) => 0 ≤ b ∧ b < m) (by omega) fun k hk => ?_) ?_
    · rw [modM_ok (by omega)]
      exact ⟨_, rfl, Int.emod_nonneg _ (by omega), Int.emod_lt_of_pos _ (by omega)⟩
    · rintro _ ⟨g, rfl, hg⟩
      exact ⟨_, rfl, g, rfl, hg⟩
  clear hg g
  rintro _ ⟨g, rfl, hg⟩
  simp only [thenCn]
  refine Ev.bind (Ev.compR (fun _ (_ : Int) => True) (by omega) fun k hk => cell_ok s _ (by omega)) ?_
  rintro _ ⟨bt, rfl, -⟩
  refine Ev.bind (cell_ok s at' h0) fun c4 hc4 => ?_
  rw [comp_row (fun i => row m.toNat fun j => bt (if j > i then j else i) / (((if j < i then j else i : Nat) : Int) * ((if j < i then j else i : Nat) : Int) + 3) % 2) (by omega) (fun i hi => by
    rw [comp_row (fun j => bt (if j > i then j else i) / (((if j < i then j else i : Nat) : Int) * ((if j < i then j else i : Nat) : Int) + 3) % 2) (by omega) (fun j hj => ?_)]
    have e1 : (if (j : Int) > (i : Int) then (j : Int) else (i : Int)) = ((if j > i then j else i : Nat) : Int) := by split <;> split <;> omega
    have e2 : (if (j : Int) < (i : Int) then (j : Int) else (i : Int)) = ((if j < i then j else i : Nat) : Int) := by split <;> split <;> omega
    have b1 : (if j > i then j else i : Nat) < m.toNat := by split <;> omega
    have b2 : (if j < i then j else i : Nat) < 10 := by split <;> omega
    rw [e1, e2, atM_rowN b1]
    simp only [okB, pureB]
    generalize (if j < i then j else i : Nat) = q at b2
    rw [mulM_ok (mulB_l (by omega) (by omega))]
    simp only [okB, pureB]
    have hq : (q : Int) * q ≤ 9 * 9 := Int.mul_le_mul (by omega) (by omega) (by omega) (by omega)
    have hq0 : 0 ≤ (q : Int) * q := Int.mul_nonneg (by omega) (by omega)
    rw [divM_s (by omega) (by omega)]
    rfl)]
  simp only [okB, pureB]
  refine Ev.loopN (fun _ W => ∃ f, W = tab m.toNat f ∧ Sy m.toNat f) ⟨_, rfl, fun i j hi hj => ?_, fun i j hi hj => bit2 _⟩ ?_ ?_
  · have e1 : (if j > i then j else i : Nat) = (if i > j then i else j : Nat) := by split <;> split <;> omega
    have e2 : (if j < i then j else i : Nat) = (if i < j then i else j : Nat) := by split <;> split <;> omega
    simp only []
    rw [e1, e2]
  · rintro i W hi ⟨f, rfl, hf⟩
    rw [atM_tabN (by omega)]
    simp only [okB, pureB]
    rw [atM_rowN (by omega)]
    simp only [okB, pureB]
    have hb := hf.2 i i (by omega) (by omega)
    rw [mulM_ok (mulB_l (by omega) (by omega))]
    simp only [okB, pureB]
    rw [set2M_tab (by omega) (by omega) (by omega) (by omega)]
    refine Ev.ok ⟨_, rfl, _, rfl, fun a b ha hb => ?_, fun a b ha hb => ?_⟩
    · have := hf.1 a b ha hb
      simp only [Int.toNat_natCast]
      by_cases h : a = i ∧ b = i
      · rw [if_pos h, if_pos (show b = i ∧ a = i from ⟨h.2, h.1⟩)]
      · rw [if_neg h, if_neg (show ¬ (b = i ∧ a = i) from fun z => h ⟨z.2, z.1⟩)]; exact this
    · have := hf.2 a b ha hb
      simp only [Int.toNat_natCast]
      split
      · rename_i hb' _
        generalize (decide ((0:Int) < c4 / 192 % 3)) = q
        cases q <;> simp <;> omega
      · exact this
  · rintro W ⟨f, rfl, hf⟩
    have hg' : ∀ k, k < n.toNat → (g k).toNat < m.toNat := fun k hk => by have := hg k (by omega); omega
    rw [comp_row (fun i => row n.toNat fun j => f (g i).toNat (g j).toNat) (by omega) (fun i hi => by
      rw [comp_row (fun j => f (g i).toNat (g j).toNat) (by omega) (fun j hj => ?_)]
      have h1 := hg i hi
      have h2 := hg j hj
      rw [atM_rowN (by omega), atM_rowN (by omega)]
      simp only [okB, pureB]
      rw [atM_tab h1.1 (by omega)]
      simp only [okB, pureB]
      rw [atM_row h2.1 (by omega)])]
    exact ⟨_, rfl, _, rfl, n.toNat, _, by omega, rfl, fun i j hi hj => hf.1 _ _ (hg' i hi) (hg' j hj), fun i j hi hj => hf.2 _ _ (hg' i hi) (hg' j hj)⟩
end Law

/-! ## LGwhat: what is a table (k23) -/
namespace Law
open PySem PySem.Spec PyProof.Rows L2 Ty
abbrev M0 := Dl Empty
abbrev M1 := Dl M0
abbrev M2 := Dl M1
abbrev M3 := Dl M2
def bitB : M1 → Bool
  | .i k => decide (0 ≤ k) && decide (k ≤ 1)
  | _ => false
def intB : M1 → Bool
  | .i _ => true
  | _ => false
theorem isbit_ok (x : M1) : mir_is_bit x = .ok (bitB x) := by
  cases x with
  | i k =>
    show runC ((chainM (fun a b => decide (a ≤ b)) (fun a b => decide (a ≤ b)) (pure (0 : Int)) ((pure (Dl.i k : M1)) >>= fun a => toI a) (pure (1 : Int))) >>= fun r => (pure (.rt r) : M (Ctl Unit Empty Bool))) = _
    unfold chainM
    by_cases h : (0 : Int) ≤ k
    · simp only [pureB, toI, okB, pureE, decide_eq_true h, if_true, bitB, Bool.true_and]; rfl
    · simp only [pureB, toI, okB, pureE, decide_eq_false h, bitB, Bool.false_and]; rfl
  | _ => rfl
theorem isint_ok (x : M1) : bAnd ((pure x) >>= fun x => ofO (kitB (dlK x) "int")) (bNot ((pure x) >>= fun x => ofO (kitB (dlK x) "bool"))) = .ok (intB x) := by
  cases x <;> rfl
def rowB (n : Nat) : M2 → Bool
  | .l xs => decide (xs.length = n) && xs.all bitB
  | _ => false
def itm : M2 → Nat → M1
  | .l xs, i => xs.getD i .n
  | _, _ => .n
def rowsB (rs : List M2) : Bool := decide (rs.length ≤ 10) && rs.all (rowB rs.length)
def tb (n : Nat) (f : Nat → Nat → Int) : List M2 := row n fun i => .l (row n fun j => .i (f i j))
theorem tb_len (n : Nat) (f : Nat → Nat → Int) : (tb n f).length = n := row_len _ _
theorem bitB_i {x : M1} (h : bitB x = true) : ∃ k : Int, x = .i k ∧ (k = 0 ∨ k = 1) := by
  cases x with
  | i k =>
    unfold bitB at h
    rw [Bool.and_eq_true] at h
    have h1 := of_decide_eq_true h.1
    have h2 := of_decide_eq_true h.2
    exact ⟨k, rfl, by omega⟩
  | _ => cases h
def toK : M1 → Int
  | .i k => k
  | _ => 0
theorem rows_tab {rs : List M2} (h : rowsB rs = true) : ∃ f, (∀ i j, i < rs.length → j < rs.length → f i j = 0 ∨ f i j = 1) ∧ rs = tb rs.length f := by
  unfold rowsB at h
  rw [Bool.and_eq_true, List.all_eq_true] at h
  have key : ∀ i, i < rs.length → ∃ xs, rs[i]? = some (.l xs) ∧ xs.length = rs.length ∧ ∀ x ∈ xs, bitB x = true := fun i hi => by
    have q := h.2 rs[i] (List.getElem_mem _)
    cases e : rs[i] with
    | l xs =>
      rw [e] at q
      unfold rowB at q
      rw [Bool.and_eq_true, List.all_eq_true] at q
      exact ⟨xs, by rw [List.getElem?_eq_getElem hi, e], of_decide_eq_true q.1, q.2⟩
    | _ => rw [e] at q; cases q
  have item : ∀ i j, i < rs.length → j < rs.length → ∃ k : Int, itm (rs.getD i .n) j = .i k ∧ (k = 0 ∨ k = 1) := fun i j hi hj => by
    obtain ⟨xs, e1, e2, e3⟩ := key i hi
    obtain ⟨k, e4, e5⟩ := bitB_i (e3 (xs[j]'(by omega)) (List.getElem_mem _))
    refine ⟨k, ?_, e5⟩
    rw [List.getD_eq_getElem?_getD, e1]
    show xs.getD j .n = _
    rw [List.getD_eq_getElem?_getD, List.getElem?_eq_getElem (by omega), ← e4]
    rfl
  refine ⟨fun i j => toK (itm (rs.getD i .n) j), fun i j hi hj => ?_, row_ext rfl fun i hi => ?_⟩
  · obtain ⟨k, e1, e2⟩ := item i j hi hj
    simp only []
    rw [e1]
    exact e2
  · obtain ⟨xs, e1, e2, e3⟩ := key i hi
    rw [e1]
    congr 2
    refine row_ext e2 fun j hj => ?_
    obtain ⟨k, e4, e5⟩ := bitB_i (e3 (xs[j]'(by omega)) (List.getElem_mem _))
    rw [List.getElem?_eq_getElem (by omega), e4]
    congr 2
    show k = toK (itm (rs.getD i .n) j)
    rw [List.getD_eq_getElem?_getD, e1]
    show k = toK (xs.getD j .n)
    rw [List.getD_eq_getElem?_getD, List.getElem?_eq_getElem (by omega)]
    show k = toK xs[j]
    rw [e4]
    rfl
theorem tb_rows {n : Nat} {f : Nat → Nat → Int} (hn : n ≤ 10) (hf : ∀ i j, i < n → j < n → f i j = 0 ∨ f i j = 1) : rowsB (tb n f) = true := by
  unfold rowsB
  rw [Bool.and_eq_true, List.all_eq_true, tb_len]
  refine ⟨decide_eq_true hn, fun x hx => ?_⟩
  unfold tb row at hx
  obtain ⟨i, hi, rfl⟩ := List.mem_map.mp hx
  have hi := List.mem_range.mp hi
  unfold rowB
  rw [Bool.and_eq_true, List.all_eq_true]
  refine ⟨decide_eq_true (row_len _ _), fun y hy => ?_⟩
  unfold row at hy
  obtain ⟨j, hj, rfl⟩ := List.mem_map.mp hy
  have hj := List.mem_range.mp hj
  unfold bitB
  rw [Bool.and_eq_true]
  rcases hf i j hi hj with e | e <;> rw [e] <;> exact ⟨rfl, rfl⟩
theorem loop_chk {α ρ : Type} {f : α → Unit → M (Ctl Unit Unit ρ)} (p : α → Bool) (v : ρ) : ∀ {xs : List α}, (∀ x ∈ xs, f x () = .ok (if p x then .nx () else .rt v)) → loopM f xs () = .ok (if xs.all p then .inl () else .inr v)
  | [], _ => rfl
  | x :: xs, h => by
    unfold loopM
    rw [h x (by simp), List.all_cons]
    cases hp : p x with
    | true => exact loop_chk p v fun y hy => h y (by simp [hy])
    | false => rfl
theorem ltest (rs : List M2) : bOr (bNot ((pure (Dl.l rs : M3)) >>= fun x => ofO (kitB (dlK x) "list"))) ((((pure (Dl.l rs : M3)) >>= fun a => toL a) >>= fun a => pure (a.length : Int)) >>= fun a => (pure (10 : Int)) >>= fun b => pure (decide (b < a))) = .ok (!decide (rs.length ≤ 10)) := by
  show (Except.ok (decide ((10 : Int) < (rs.length : Int))) : M Bool) = _
  by_cases h : rs.length ≤ 10
  · rw [decide_eq_true h, decide_eq_false (by omega)]; rfl
  · rw [decide_eq_false h, decide_eq_true (by omega)]; rfl
theorem toLl (rs : List M2) : ((pure (Dl.l rs : M3)) >>= fun a => toL a) = .ok rs := rfl
theorem isrow_ok {n : Nat} (hn : n ≤ 10) (rs : List M2) (hl : rs.length = n) (r : M2) : bOr (bNot ((pure r) >>= fun x => ofO (kitB (dlK x) "list"))) (bOr ((((pure r) >>= fun a => toL a) >>= fun a => pure (a.length : Int)) >>= fun a => (((pure (Dl.l rs : M3)) >>= fun a => toL a) >>= fun a => pure (a.length : Int)) >>= fun b => pure (!decide (a = b))) (bNot ((((pure r) >>= fun a => toL a) >>= fun xs => compM xs (fun (one3 : (Dl (Dl Empty))) => (pure true)) (fun (one3 : (Dl (Dl Empty))) => (((pure one3) >>= fun a => (pure ()) >>= fun b => pure (a, b)) >>= fun a => mir_is_bit a.1))) >>= fun a => pure (a.all id)))) = .ok (!rowB n r) := by
  cases r with
  | l xs =>
    show (bOr (.ok (!decide ((xs.length : Int) = (rs.length : Int)))) (bNot (compM xs (fun _ => pure true) (fun (one3 : (Dl (Dl Empty))) => mir_is_bit one3) >>= fun a => pure (a.all id)))) = .ok (!(decide (xs.length = n) && xs.all bitB))
    by_cases h : xs.length = n
    · rw [decide_eq_true h, decide_eq_true (by omega), compM_map bitB (by omega) fun x _ => isbit_ok x]
      show (Except.ok (!(xs.map bitB).all id) : M Bool) = _
      rw [List.all_map]
      rfl
    · rw [decide_eq_false h, decide_eq_false (by omega)]
      rfl
  | _ => rfl
theorem thenIf {ρ : Type} (b : Bool) (v : ρ) : ((.ok (!b) : M Bool) >>= fun x => if x then ((((pure v) >>= fun r => pure (.rt r)) : M (Ctl Empty Unit ρ)) >>= fun y => thenC y nofun) else (pure (.nx ()))) = (.ok (if b then .nx () else .rt v) : M (Ctl Unit Unit ρ)) := by
  cases b <;> rfl
theorem isT_bad {x : M3} (h : ∀ rs, x = .l rs → rowsB rs = false) : mir_is_table x = .ok false := by
  cases x with
  | l rs =>
    have hb := h rs rfl
    unfold rowsB at hb
    unfold mir_is_table
    simp only []
    rw [ltest]
    by_cases hl : rs.length ≤ 10
    · rw [decide_eq_true hl, Bool.true_and] at hb
      rw [decide_eq_true hl]
      simp only [okB, Bool.not_true, Bool.false_eq_true, if_false]
      rw [toLl]
      simp only [okB]
      rw [loop_chk (rowB rs.length) false fun r _ => by exact (congrArg (fun m => m >>= _) (isrow_ok hl rs rfl r)).trans (thenIf _ _)]
      rw [hb]
      rfl
    · rw [decide_eq_false hl]
      rfl
  | _ => rfl
theorem stages {A B C : M Bool} {a b c : Bool} (hA : A = .ok a) (hB : a = false → B = .ok b) (hC : a = false → b = false → C = .ok c) : (A >>= fun x => if x then ((((pure false) >>= fun r => pure (.rt r)) : M (Ctl Empty Unit Bool)) >>= fun y => thenC y nofun) else (B >>= fun x => if x then ((((pure false) >>= fun r => pure (.rt r)) : M (Ctl Empty Unit Bool)) >>= fun y => thenC y nofun) else (C >>= fun x => if x then ((((pure false) >>= fun r => pure (.rt r)) : M (Ctl Empty Unit Bool)) >>= fun y => thenC y nofun) else (pure (.nx ()))))) = (.ok (if !a && (!b && !c) then .nx () else .rt false) : M (Ctl Unit Unit Bool)) := by
  rw [hA]
  cases a with
  | true => rfl
  | false =>
    rw [hB rfl]
    cases b with
    | true => rfl
    | false =>
      rw [hC rfl rfl]
      cases c <;> rfl
theorem outB (x : M1) (h : intB x = true) : bOr (((pure x) >>= fun a => toI a) >>= fun a => (pure (0 : Int)) >>= fun b => pure (decide (a < b))) (((pure x) >>= fun a => toI a) >>= fun a => (pure (1 : Int)) >>= fun b => pure (decide (b < a))) = .ok (!bitB x) := by
  cases x with
  | i k =>
    show (if decide (k < 0) then pure true else pure (decide (1 < k)) : M Bool) = .ok (!(decide (0 ≤ k) && decide (k ≤ 1)))
    by_cases h1 : k < 0
    · rw [decide_eq_true h1, decide_eq_false (show ¬ 0 ≤ k by omega)]; rfl
    · rw [decide_eq_false h1, decide_eq_true (show 0 ≤ k by omega)]
      by_cases h2 : k ≤ 1
      · rw [decide_eq_true h2, decide_eq_false (show ¬ 1 < k by omega)]; rfl
      · rw [decide_eq_false h2, decide_eq_true (show 1 < k by omega)]; rfl
  | _ => cases h
theorem due1_ok {n : Nat} (hn : n ≤ 10) (rs : List M2) (hl : rs.length = n) (r : M2) : (bOr (bNot ((pure r) >>= fun x => ofO (kitB (dlK x) "list"))) ((((pure r) >>= fun a => toL a) >>= fun a => pure (a.length : Int)) >>= fun a => (((pure (Dl.l rs : M3)) >>= fun a => toL a) >>= fun a => pure (a.length : Int)) >>= fun b => pure (!decide (a = b)))) >>= (fun x => if x then ((((pure false) >>= fun r => pure (.rt r)) : M (Ctl Empty Unit Bool)) >>= fun y => thenC y nofun) else ((bNot ((((pure r) >>= fun a => toL a) >>= fun xs => compM xs (fun (one3 : (Dl (Dl Empty))) => (pure true)) (fun (one3 : (Dl (Dl Empty))) => (bAnd ((pure one3) >>= fun x => ofO (kitB (dlK x) "int")) (bNot ((pure one3) >>= fun x => ofO (kitB (dlK x) "bool")))))) >>= fun a => pure (a.all id))) >>= fun x => if x then ((((pure false) >>= fun r => pure (.rt r)) : M (Ctl Empty Unit Bool)) >>= fun y => thenC y nofun) else (((((pure r) >>= fun a => toL a) >>= fun xs => compM xs (fun (one4 : (Dl (Dl Empty))) => (pure true)) (fun (one4 : (Dl (Dl Empty))) => (bOr (((pure one4) >>= fun a => toI a) >>= fun a => (pure (0 : Int)) >>= fun b => pure (decide (a < b))) (((pure one4) >>= fun a => toI a) >>= fun a => (pure (1 : Int)) >>= fun b => pure (decide (b < a)))))) >>= fun a => pure (a.any id)) >>= fun x => if x then ((((pure false) >>= fun r => pure (.rt r)) : M (Ctl Empty Unit Bool)) >>= fun y => thenC y nofun) else (pure (.nx ()))))) = (.ok (if rowB n r then .nx () else .rt false) : M (Ctl Unit Unit Bool)) := by
  cases r with
  | l xs =>
    refine (stages (a := !decide (xs.length = n)) (b := !xs.all intB) (c := !xs.all bitB) ?_ (fun h => ?_) (fun h h2 => ?_)).trans ?_
    · show (Except.ok (!decide ((xs.length : Int) = (rs.length : Int))) : M Bool) = _
      by_cases h : xs.length = n
      · rw [decide_eq_true h, decide_eq_true (show (xs.length : Int) = (rs.length : Int) by omega)]
      · rw [decide_eq_false h, decide_eq_false (show ¬ (xs.length : Int) = (rs.length : Int) by omega)]
    · have h : xs.length = n := by simpa using h
      show bNot (compM xs (fun _ => pure true) (fun (one3 : (Dl (Dl Empty))) => (bAnd ((pure one3) >>= fun x => ofO (kitB (dlK x) "int")) (bNot ((pure one3) >>= fun x => ofO (kitB (dlK x) "bool"))))) >>= fun a => pure (a.all id)) = _
      rw [compM_map intB (by omega) fun x _ => isint_ok x]
      show (Except.ok (!(xs.map intB).all id) : M Bool) = _
      rw [List.all_map]
      rfl
    · have h : xs.length = n := by simpa using h
      have h2 : xs.all intB = true := by simpa using h2
      show (compM xs (fun _ => pure true) (fun (one4 : (Dl (Dl Empty))) => (bOr (((pure one4) >>= fun a => toI a) >>= fun a => (pure (0 : Int)) >>= fun b => pure (decide (a < b))) (((pure one4) >>= fun a => toI a) >>= fun a => (pure (1 : Int)) >>= fun b => pure (decide (b < a))))) >>= fun a => pure (a.any id)) = _
      rw [compM_map (fun x => !bitB x) (by omega) fun x hx => outB x (List.all_eq_true.mp h2 x hx)]
      show (Except.ok ((xs.map fun x => !bitB x).any id) : M Bool) = _
      rw [List.any_map, List.not_all_eq_any_not]
      rfl
    · have e : (!!decide (xs.length = n) && (!!xs.all intB && !!xs.all bitB)) = rowB n (.l xs) := by
        show _ = (decide (xs.length = n) && xs.all bitB)
        rw [Bool.not_not, Bool.not_not, Bool.not_not]
        cases q : xs.all bitB with
        | false => simp
        | true =>
          rw [show xs.all intB = true from List.all_eq_true.mpr fun x hx => by
            obtain ⟨k, e1, _⟩ := bitB_i (List.all_eq_true.mp q x hx)
            rw [e1]; rfl]
          simp
      rw [e]
  | _ => rfl
theorem due_bad {x : M3} (h : ∀ rs, x = .l rs → rowsB rs = false) (b : Bool) : mir__law_due x b = .ok false := by
  cases x with
  | l rs =>
    have hb := h rs rfl
    unfold rowsB at hb
    unfold mir__law_due
    simp only []
    rw [ltest]
    by_cases hl : rs.length ≤ 10
    · rw [decide_eq_true hl, Bool.true_and] at hb
      rw [decide_eq_true hl]
      simp only [okB, Bool.not_true, Bool.false_eq_true, if_false]
      rw [toLl]
      simp only [okB]
      rw [loop_chk (rowB rs.length) false fun r _ => by exact due1_ok hl rs rfl r]
      rw [hb]
      rfl
    · rw [decide_eq_false hl]
      rfl
  | _ => rfl
theorem isW_bad {x : M3} (h : ∀ rs, x = .l rs → rowsB rs = false) : mir_is_web x = .ok false := by
  unfold mir_is_web
  simp only [pureB]
  rw [isT_bad h]
  rfl
/-! ### tables of bits -/
def sym (n : Nat) (f : Nat → Nat → Int) : Bool := (List.range n).all fun i => (List.range i).all fun j => decide (f i j = f j i)
def dg (n : Nat) (f : Nat → Nat → Int) : Bool := (List.range n).all fun i => decide (f i i = 0)
theorem sym_iff {n : Nat} {f : Nat → Nat → Int} : sym n f = true ↔ ∀ i j, i < n → j < n → f i j = f j i := by
  unfold sym
  simp only [List.all_eq_true, List.mem_range, decide_eq_true_eq]
  constructor
  · intro h i j hi hj
    rcases Nat.lt_trichotomy j i with q | q | q
    · exact h i hi j q
    · rw [q]
    · exact (h j hj i q).symm
  · exact fun h i hi j hj => h i j hi (by omega)
theorem atM_tb {n : Nat} {f : Nat → Nat → Int} {i : Int} (h0 : 0 ≤ i) (h1 : i < n) : atM (tb n f) i = .ok (.l (row n fun j => .i (f i.toNat j))) := atM_row h0 h1
theorem tb_ok (n : Nat) (f : Nat → Nat → Int) : Dl.ok (Dl.l (tb n f) : M3) = true := by
  show (tb n f).all Dl.ok = true
  rw [List.all_eq_true]
  intro x hx
  obtain ⟨i, _, rfl⟩ := List.mem_map.mp hx
  show (row n fun j => (Dl.i (f i j) : M1)).all Dl.ok = true
  rw [List.all_eq_true]
  intro y hy
  obtain ⟨j, _, rfl⟩ := List.mem_map.mp hy
  rfl
theorem tb_nb (n : Nat) (f : Nat → Nat → Int) : Dl.nb (Dl.l (tb n f) : M3) = true := by
  show (tb n f).all Dl.nb = true
  rw [List.all_eq_true]
  intro x hx
  obtain ⟨i, _, rfl⟩ := List.mem_map.mp hx
  show (row n fun j => (Dl.i (f i j) : M1)).all Dl.nb = true
  rw [List.all_eq_true]
  intro y hy
  obtain ⟨j, _, rfl⟩ := List.mem_map.mp hy
  rfl
theorem tb_eq {n : Nat} {f g : Nat → Nat → Int} : tb n f = tb n g ↔ ∀ i j, i < n → j < n → f i j = g i j := by
  constructor
  · intro h i j hi hj
    have h1 := row_inj h hi
    simp only [Dl.l.injEq] at h1
    have h2 := row_inj h1 hj
    simpa using h2
  · exact fun h => row_congr fun i hi => by rw [row_congr fun j hj => by rw [h i j hi hj]]
theorem eqT (n : Nat) (f g : Nat → Nat → Int) : eqDl (Dl.l (tb n f) : M3) (Dl.l (tb n g)) = .ok (decide (tb n f = tb n g)) := by
  show (do gd (Dl.ok (Dl.l (tb n f) : M3) && (Dl.ok (Dl.l (tb n g) : M3) && (decide ((Dl.l (tb n f) : M3) = .l (tb n g)) || (Dl.nb (Dl.l (tb n f) : M3) && Dl.nb (Dl.l (tb n g) : M3))))); pure (decide ((Dl.l (tb n f) : M3) = .l (tb n g))) : M Bool) = _
  rw [tb_ok, tb_ok, tb_nb, tb_nb]
  simp only [Bool.and_self, Bool.or_true, gdT, okB, Dl.l.injEq]
  rfl
theorem isT_ok {n : Nat} {f : Nat → Nat → Int} (hn : n ≤ 10) (hf : ∀ i j, i < n → j < n → f i j = 0 ∨ f i j = 1) : mir_is_table (.l (tb n f)) = .ok (sym n f) := by
  have hb := tb_rows hn hf
  unfold rowsB at hb
  rw [Bool.and_eq_true] at hb
  have hl := of_decide_eq_true hb.1
  unfold mir_is_table
  simp only []
  rw [ltest, decide_eq_true hl]
  simp only [okB, Bool.not_true, Bool.false_eq_true, if_false]
  rw [toLl]
  simp only [okB]
  rw [loop_chk (rowB (tb n f).length) false fun r _ => by exact (congrArg (fun m => m >>= _) (isrow_ok hl (tb n f) rfl r)).trans (thenIf _ _)]
  rw [hb.2]
  simp only [if_true, okB, thenLi, pureB]
  rw [tb_len, range1_ok (by omega) (by omega)]
  simp only [okB]
  rw [comp_row (fun i => row n fun k => (.i (f k i) : M1)) (by omega) fun i hi => by
    unfold tb
    exact comp_rows (fun k => (.i (f k i) : M1)) (by omega) fun k hk => atM_rowN (by omega)]
  simp only [okB]
  rw [show (row ((n : Int)).toNat fun i => row n fun k => (.i (f k i) : M1)).map Dl.l = tb n (fun i k => f k i) from by unfold tb row; rw [List.map_map]; rfl]
  simp only [pureB]
  rw [eqT]
  show (Except.ok _ : M Bool) = .ok _
  congr 1
  rw [Bool.eq_iff_iff, decide_eq_true_iff, tb_eq, sym_iff]
theorem all_row {α : Type} {n : Nat} {g : Nat → α} {p : α → Bool} : (row n g).all p = (List.range n).all fun i => p (g i) := by unfold row; rw [List.all_map]; rfl
theorem any_row {α : Type} {n : Nat} {g : Nat → α} {p : α → Bool} : (row n g).any p = (List.range n).any fun i => p (g i) := by unfold row; rw [List.any_map]; rfl
theorem eqI (a b : Int) : eqDl (Dl.i a : M1) (.i b) = .ok (decide (a = b)) := by
  show (do gd (true && (true && (decide ((Dl.i a : M1) = .i b) || (true && true)))); pure (decide ((Dl.i a : M1) = .i b)) : M Bool) = _
  simp only [Bool.and_self, Bool.or_true, gdT, okB, Dl.i.injEq]
  rfl
theorem neI (a b : Int) : neDl (Dl.i a : M1) (.i b) = .ok (!decide (a = b)) := by
  show (do gd (true && (true && (decide ((Dl.i a : M1) = .i b) || (true && true)))); pure (!decide ((Dl.i a : M1) = .i b)) : M Bool) = _
  simp only [Bool.and_self, Bool.or_true, gdT, okB, Dl.i.injEq]
  rfl
theorem isW_ok {n : Nat} {f : Nat → Nat → Int} (hn : n ≤ 10) (hf : ∀ i j, i < n → j < n → f i j = 0 ∨ f i j = 1) : mir_is_web (.l (tb n f)) = .ok (sym n f && dg n f) := by
  unfold mir_is_web
  simp only [pureB]
  rw [isT_ok hn hf]
  cases sym n f with
  | false => rfl
  | true =>
    simp only [bAnd, okB, if_true]
    rw [show toL (Dl.l (tb n f) : M3) = .ok (tb n f) from rfl]
    simp only [okB]
    rw [show enumL (tb n f) = row n fun i => ((i : Int), (.l (row n fun j => (.i (f i j) : M1)) : M2)) from row_ext (by unfold enumL; rw [List.length_map, List.length_zipIdx, tb_len]) fun i hi => by
      unfold enumL
      rw [List.getElem?_map, List.getElem?_zipIdx]
      unfold tb
      rw [row_get hi]
      simp]
    simp only [pureB]
    rw [comp_rows (n := n) (r := fun i => ((i : Int), (.l (row n fun j => (.i (f i j) : M1)) : M2))) (fun i => decide (f i i = 0)) (by omega) fun k hk => by
      show (atM (row n fun j => (.i (f k j) : M1)) (k : Int) >>= fun a => eqDl a (.i 0)) = _
      rw [atM_rowN hk, okB, eqI]]
    simp only [okB, all_row]
    rfl
def pk (f : Nat → Nat → Int) (b : Bool) (k : Nat) : Bool := (List.range k).all (fun j => decide (f k j = f j k)) && (b || decide (f k k = 0))
theorem due_ok {n : Nat} {f : Nat → Nat → Int} (hn : n ≤ 10) (hf : ∀ i j, i < n → j < n → f i j = 0 ∨ f i j = 1) (b : Bool) : mir__law_due (.l (tb n f)) b = .ok (sym n f && (b || dg n f)) := by
  have hb := tb_rows hn hf
  unfold rowsB at hb
  rw [Bool.and_eq_true] at hb
  have hl := of_decide_eq_true hb.1
  unfold mir__law_due
  simp only []
  rw [ltest, decide_eq_true hl]
  simp only [okB, Bool.not_true, Bool.false_eq_true, if_false]
  rw [toLl]
  simp only [okB]
  rw [loop_chk (rowB (tb n f).length) false fun r _ => by exact due1_ok hl (tb n f) rfl r]
  rw [hb.2]
  simp only [if_true, okB, thenLi, pureB]
  rw [tb_len, range1_ok (by omega) (by omega)]
  simp only [okB]
  have hr : rangeL 0 (n : Int) = row n fun i => (i : Int) := by
    unfold rangeL row
    rw [show ((n : Int) - 0).toNat = n by omega]
    exact List.map_congr_left fun i _ => by simp
  rw [hr]
  rw [loop_chk (fun i : Int => pk f b i.toNat) false fun i hi => ?_]
  · have e : ((List.range n).all fun i => (List.range i).all (fun j => decide (f i j = f j i)) && (b || decide (f i i = 0))) = (sym n f && (b || dg n f)) := by
      unfold sym dg
      rw [Bool.eq_iff_iff]
      cases b <;> simp only [List.all_eq_true, Bool.and_eq_true, Bool.or_eq_true, Bool.true_or, Bool.false_or, and_true] <;> grind
    have e2 : ((row n fun i : Nat => (i : Int)).all fun i : Int => pk f b i.toNat) = (sym n f && (b || dg n f)) := by
      rw [all_row, ← e]
      simp only [Int.toNat_natCast]
      rfl
    rw [e2]
    cases (sym n f && (b || dg n f)) <;> rfl
  · unfold row at hi
    obtain ⟨k, hk, rfl⟩ := List.mem_map.mp hi
    have hk := List.mem_range.mp hk
    rw [show pk f b ((k : Int)).toNat = pk f b k from by rw [Int.toNat_natCast]]
    rw [range1_ok (by omega) (by omega)]
    simp only [okB]
    rw [comp_row (fun j => !decide (f k j = f j k)) (by omega) fun j hj => by
      rw [atM_tb (by omega) (by omega), atM_tb (by omega) (by omega)]
      simp only [okB, toL, pureE]
      rw [atM_rowN (by omega), atM_rowN (by omega)]
      simp only [okB, Int.toNat_natCast]
      exact neI _ _]
    simp only [okB, any_row, Int.toNat_natCast]
    rw [show ((List.range k).any fun i => id (!decide (f k i = f i k))) = !((List.range k).all fun j => decide (f k j = f j k)) from by rw [List.not_all_eq_any_not]; rfl]
    unfold pk
    generalize (List.range k).all (fun j => decide (f k j = f j k)) = A
    cases A with
    | false => rfl
    | true =>
      cases b with
      | true => rfl
      | false =>
        simp only [bAnd, bNot, pureB, Bool.not_true, Bool.not_false, Bool.false_eq_true, if_false, if_true, Bool.true_and, Bool.false_or]
        rw [atM_tb (by omega) (by omega)]
        simp only [okB, toL, pureE]
        rw [atM_rowN (by omega)]
        simp only [okB, Int.toNat_natCast]
        rw [eqI]
        rcases hf k k hk hk with e | e <;> rw [e] <;> rfl
end Law

/-! ## k23: the law -/
namespace Law
open PySem PySem.Spec PyProof.Rows L2 Ty
theorem toLL_map : ∀ rs : List (List M1), allL (rs.map Dl.l) = some rs
  | [] => rfl
  | r :: rs => by
    show (allL (rs.map Dl.l)).map (r :: ·) = _
    rw [toLL_map rs]; rfl
theorem toLL_ok (rs : List (List M1)) : toLL (rs.map Dl.l) = .ok rs := by
  unfold toLL
  rw [toLL_map]; rfl
/-- a table under way -/
def I1 (n : Nat) (rs : List (List M1)) : Prop := rs.length = n ∧ ∀ r ∈ rs, n ≤ r.length ∧ r.length ≤ n + 1 ∧ ∀ x ∈ r, Dl.ok x = true
def Ij (rs : List (List M1)) : Prop := ∀ r ∈ rs, ∀ x ∈ r, ∃ k, x = .i k
theorem I1.set {n : Nat} {rs : List (List M1)} (h : I1 n rs) (i : Nat) {r' : List M1} (h1 : n ≤ r'.length) (h2 : r'.length ≤ n + 1) (h3 : ∀ x ∈ r', Dl.ok x = true) : I1 n (rs.set i r') :=
  ⟨by rw [List.length_set]; exact h.1, fun r hr => by
    rcases List.mem_or_eq_of_mem_set hr with q | q
    · exact h.2 r q
    · subst q; exact ⟨h1, h2, h3⟩⟩
theorem I1.get {n : Nat} {rs : List (List M1)} (h : I1 n rs) {i : Int} (h0 : 0 ≤ i) (h1 : i < n) : ∃ r, rs[i.toNat]? = some r ∧ L2.ixN rs.length i = some i.toNat ∧ r ∈ rs := by
  have hi : i.toNat < rs.length := by rw [h.1]; omega
  exact ⟨rs[i.toNat], List.getElem?_eq_getElem hi, ixN_ok h0 (by rw [h.1]; exact h1), List.getElem_mem _⟩
theorem I1.set2 {n : Nat} {rs : List (List M1)} (h : I1 n rs) {i j : Int} {a : M1} (h0 : 0 ≤ i) (h1 : i < n) (j0 : 0 ≤ j) (j1 : j < n) (ha : Dl.ok a = true) : ∃ rs', set2M rs i j a = .ok rs' ∧ I1 n rs' := by
  obtain ⟨r, e1, e2, e3⟩ := h.get h0 h1
  obtain ⟨q1, q2, q3⟩ := h.2 r e3
  refine ⟨rs.set i.toNat (r.set j.toNat a), ?_, h.set _ (by rw [List.length_set]; exact q1) (by rw [List.length_set]; exact q2) fun x hx => ?_⟩
  · unfold set2M
    rw [e2]
    simp only [ofOs, okB]
    rw [e1]
    simp only [ofOs, okB]
    rw [ixN_ok j0 (by omega)]
    rfl
  · rcases List.mem_or_eq_of_mem_set hx with q | q
    · exact q3 x q
    · subst q; exact ha
def I2 (n : Nat) (rs : List (List M1)) : Prop := rs.length = n ∧ ∀ r ∈ rs, n ≤ r.length ∧ ∀ x ∈ r, Dl.ok x = true
theorem I1.two {n : Nat} {rs : List (List M1)} (h : I1 n rs) : I2 n rs := ⟨h.1, fun r hr => ⟨(h.2 r hr).1, (h.2 r hr).2.2⟩⟩
theorem I2.get {n : Nat} {rs : List (List M1)} (h : I2 n rs) {i : Int} (h0 : 0 ≤ i) (h1 : i < n) : ∃ r, rs[i.toNat]? = some r ∧ L2.ixN rs.length i = some i.toNat ∧ r ∈ rs := by
  have hi : i.toNat < rs.length := by rw [h.1]; omega
  exact ⟨rs[i.toNat], List.getElem?_eq_getElem hi, ixN_ok h0 (by rw [h.1]; exact h1), List.getElem_mem _⟩
theorem I1.app {n : Nat} {rs : List (List M1)} (h : I1 n rs) {i : Int} (h0 : 0 ≤ i) (h1 : i < n) (hn : n ≤ 10) : ∃ rs', app2M rs i (.i 0) = .ok rs' ∧ I2 n rs' := by
  obtain ⟨r, e1, e2, e3⟩ := h.get h0 h1
  obtain ⟨q1, q2, q3⟩ := h.2 r e3
  have e4 : rs.getD i.toNat [] = r := by rw [List.getD_eq_getElem?_getD, e1]; rfl
  refine ⟨_, app2M_ok h0 (by rw [h.1]; exact h1) (by rw [e4]; omega), by rw [List.length_set]; exact h.1, fun y hy => ?_⟩
  rcases List.mem_or_eq_of_mem_set hy with q | q
  · exact ⟨(h.2 y q).1, (h.2 y q).2.2⟩
  · subst q
    rw [e4]
    refine ⟨by rw [List.length_append]; omega, fun x hx => ?_⟩
    rcases List.mem_append.mp hx with z | z
    · exact q3 x z
    · rw [List.mem_singleton.mp z]; rfl
theorem spoilt_ok {n : Nat} {f : Nat → Nat → Int} (h1 : 1 ≤ n) (hn : n ≤ 10) (c : Int) : Ev (mir__law_spoilt (tab n f) c) fun x => Dl.ok x = true := by
  unfold mir__law_spoilt
  simp only [pureB, bindA, tab_len]
  rw [modM_ok (by omega)]
  simp only [okB]
  rw [modM_ok (by omega)]
  simp only [okB]
  have hi : 0 ≤ c / 12 % (n : Int) ∧ c / 12 % (n : Int) < n := ⟨Int.emod_nonneg _ (by omega), Int.emod_lt_of_pos _ (by omega)⟩
  have hj : 0 ≤ c / 120 % (n : Int) ∧ c / 120 % (n : Int) < n := ⟨Int.emod_nonneg _ (by omega), Int.emod_lt_of_pos _ (by omega)⟩
  have hw : 0 ≤ c % 12 ∧ c % 12 < 12 := ⟨Int.emod_nonneg _ (by omega), Int.emod_lt_of_pos _ (by omega)⟩
  generalize c / 12 % (n : Int) = i at hi
  generalize c / 120 % (n : Int) = j at hj
  generalize c % 12 = w at hw
  have e0 : ((tab n f).map fun r => (Dl.l (r.map Dl.i) : M2)) = (row n fun a => row n fun b => (Dl.i (f a b) : M1)).map Dl.l := by
    unfold tab row
    rw [List.map_map, List.map_map]
    refine List.map_congr_left fun a _ => ?_
    show Dl.l (((List.range n).map (f a)).map Dl.i) = Dl.l ((List.range n).map fun b => (Dl.i (f a b) : M1))
    rw [List.map_map]
    rfl
  rw [e0]
  have I0 : I1 n (row n fun a => row n fun b => (Dl.i (f a b) : M1)) := ⟨row_len _ _, fun r hr => by
    unfold row at hr
    obtain ⟨a, _, rfl⟩ := List.mem_map.mp hr
    refine ⟨by simp, by simp, fun x hx => ?_⟩
    obtain ⟨b, _, rfl⟩ := List.mem_map.mp hx
    rfl⟩
  have J0 : Ij (row n fun a => row n fun b => (Dl.i (f a b) : M1)) := fun r hr x hx => by
    unfold row at hr
    obtain ⟨a, _, rfl⟩ := List.mem_map.mp hr
    obtain ⟨b, _, rfl⟩ := List.mem_map.mp hx
    exact ⟨_, rfl⟩
  generalize (row n fun a => row n fun b => (Dl.i (f a b) : M1)) = rs at I0 J0
  refine Ev.run ?_
  refine Ev.bind (P := fun y => ∃ rs : List (List M1), y = .nx (rs.map Dl.l) ∧ I1 n rs ∧ (¬ w < 6 → Ij rs)) (Ev.bif (fun hc => ?_) fun hc => ⟨_, rfl, rs, rfl, I0, fun _ => J0⟩) ?_
  · have hc := of_decide_eq_true hc
    rw [toLL_ok]
    simp only [okB]
    rw [lstM_ok (by simp)]
    simp only [okB]
    rw [lstM_ok (by simp)]
    simp only [okB]
    rw [atM_ok hw.1 (by simp; omega)]
    simp only [okB]
    have ha : Dl.ok (([Dl.i 2, Dl.i (-1), Dl.b true, Dl.n, Dl.s "1", Dl.l [Dl.i 1]] : List M1).getD w.toNat default) = true := by
      obtain ⟨k, rfl⟩ := Int.eq_ofNat_of_zero_le hw.1
      have : k < 6 := by omega
      match k, this with
      | 0, _ => rfl
      | 1, _ => rfl
      | 2, _ => rfl
      | 3, _ => rfl
      | 4, _ => decide +kernel
      | 5, _ => rfl
    obtain ⟨rs', e, h⟩ := I0.set2 hi.1 hi.2 hj.1 hj.2 ha
    rw [e]
    exact ⟨_, rfl, rs', rfl, h, fun q => absurd hc q⟩
  clear I0 J0 e0 rs
  rintro _ ⟨rs, rfl, I0, J0⟩
  simp only [thenCn]
  -- the sixth way
  have key : bAnd (.ok (decide (w = 6))) (.ok (!decide (i = j))) = .ok (decide (w = 6) && !decide (i = j)) := by cases decide (w = 6) <;> rfl
  simp only [pureE] at *
  rw [key]
  simp only [okB]
  refine Ev.bind (P := fun y => ∃ rs : List (List M1), y = .nx (rs.map Dl.l) ∧ I1 n rs) (Ev.bif (fun hc => ?_) fun hc => ⟨_, rfl, rs, rfl, I0⟩) ?_
  · rw [Bool.and_eq_true] at hc
    have hc := of_decide_eq_true hc.1
    have J0 := J0 (by omega)
    rw [toLL_ok]
    simp only [okB]
    obtain ⟨r, e1, e2, e3⟩ := I0.get hi.1 hi.2
    have hl := (I0.2 r e3).1
    have hjl : j.toNat < r.length := by omega
    obtain ⟨k, e4⟩ := J0 r e3 (r[j.toNat]) (List.getElem_mem _)
    have e5 : ix2M rs i j = .ok (.i k) := by
      unfold ix2M
      rw [e2]
      simp only [ofOs, okB]
      rw [e1]
      simp only [ofOs, okB]
      rw [ixN_ok hj.1 (by omega)]
      simp only [ofOs, okB]
      rw [List.getElem?_eq_getElem hjl, e4]
      rfl
    rw [e5]
    simp only [okB, toL, toI, pureE]
    obtain ⟨rs', e, h⟩ := I0.set2 (a := Dl.i (1 - k)) hi.1 hi.2 hj.1 hj.2 rfl
    rw [e]
    exact ⟨_, rfl, rs', rfl, h⟩
  clear I0 J0 rs
  rintro _ ⟨rs, rfl, I0⟩
  simp only [thenCn]
  refine Ev.bind (P := fun y => ∃ rs : List (List M1), y = .nx (rs.map Dl.l) ∧ I2 n rs) (Ev.bif (fun hc => ?_) fun hc => ⟨_, rfl, rs, rfl, I0.two⟩) ?_
  · rw [toLL_ok]
    simp only [okB]
    obtain ⟨rs', e, h⟩ := I0.app hi.1 hi.2 hn
    rw [e]
    exact ⟨_, rfl, rs', rfl, h⟩
  rintro _ ⟨rs, rfl, I0⟩
  simp only [thenCn]
  refine Ev.bind (P := fun y => ∃ rs : List (List M1), y = .nx (rs.map Dl.l) ∧ rs.length = n ∧ ∀ r ∈ rs, ∀ x ∈ r, Dl.ok x = true) (Ev.bif (fun hc => ?_) fun hc => ⟨_, rfl, rs, rfl, I0.1, fun r hr => (I0.2 r hr).2⟩) ?_
  · rw [toLL_ok]
    simp only [okB]
    obtain ⟨r, e1, e2, e3⟩ := I0.get hi.1 hi.2
    have hl := (I0.2 r e3).1
    have e : pop2M rs i = .ok (rs.set i.toNat r.dropLast) := by
      unfold pop2M
      rw [e2]
      simp only [ofOs, okB]
      rw [e1]
      simp only [ofOs, okB]
      rw [decide_eq_true (show 0 < r.length by omega)]
      rfl
    rw [e]
    refine ⟨_, rfl, _, rfl, by rw [List.length_set]; exact I0.1, fun q hq => ?_⟩
    rcases List.mem_or_eq_of_mem_set hq with z | z
    · exact (I0.2 q z).2
    · subst z
      exact fun x hx => (I0.2 r e3).2 x (List.dropLast_subset _ hx)
  clear I0 rs
  rintro _ ⟨rs, rfl, hl, ho⟩
  simp only [thenCn]
  have hok : ∀ x ∈ (rs.map Dl.l : List M2), Dl.ok x = true := fun x hx => by
    obtain ⟨r, hr, rfl⟩ := List.mem_map.mp hx
    show r.all Dl.ok = true
    exact List.all_eq_true.mpr fun y hy => ho r hr y hy
  refine Ev.bind (P := fun y => ∃ T : List M2, y = .nx T ∧ T.length = n ∧ ∀ x ∈ T, Dl.ok x = true) (Ev.bif (fun hc => ?_) fun hc => ⟨_, rfl, _, rfl, by rw [List.length_map]; exact hl, hok⟩) ?_
  · rw [toLL_ok]
    simp only [okB]
    have hil : i.toNat < rs.length := by omega
    have e : tupRowM rs i = .ok (.t rs[i.toNat]) := by
      unfold tupRowM
      rw [ixN_ok hi.1 (by omega)]
      simp only [ofOs, okB]
      rw [List.getElem?_eq_getElem hil]
      rfl
    rw [e]
    simp only [okB]
    unfold setM
    rw [ixN_ok hi.1 (by rw [List.length_map]; omega)]
    refine ⟨_, rfl, _, rfl, by rw [List.length_set, List.length_map]; exact hl, fun x hx => ?_⟩
    rcases List.mem_or_eq_of_mem_set hx with z | z
    · exact hok x z
    · subst z
      show (rs[i.toNat]).all Dl.ok = true
      exact List.all_eq_true.mpr fun y hy => ho _ (List.getElem_mem _) y hy
  clear hok ho hl rs
  rintro _ ⟨T, rfl, hl, ho⟩
  simp only [thenCn]
  refine Ev.bind (P := fun y => ∃ T : List M2, y = .nx T ∧ T.length ≤ n ∧ ∀ x ∈ T, Dl.ok x = true) (Ev.bif (fun hc => ?_) fun hc => ⟨_, rfl, _, rfl, by omega, ho⟩) ?_
  · rw [popAtM_ok hi.1 (by omega) (by omega)]
    simp only [okB]
    exact ⟨_, rfl, _, rfl, by rw [List.length_eraseIdx]; split <;> omega, fun x hx => ho x (List.mem_of_mem_eraseIdx hx)⟩
  clear ho hl T
  rintro _ ⟨T, rfl, hl, ho⟩
  simp only [thenCn]
  refine Ev.bind (P := fun y => ∃ T : List M2, y = .nx T ∧ ∀ x ∈ T, Dl.ok x = true) (Ev.bif (fun hc => ?_) fun hc => ⟨_, rfl, _, rfl, ho⟩) ?_
  · rw [range1_ok (by omega) (by omega)]
    simp only [okB]
    refine Ev.bind (P := fun a => a = row ((n : Int) + 1).toNat fun _ => (0 : Int)) ⟨_, comp_row (m := (n : Int) + 1) (fun _ => (0 : Int)) (by omega) fun _ _ => rfl, rfl⟩ ?_
    rintro _ rfl
    rw [appM_ok (by omega)]
    refine ⟨_, rfl, _, rfl, fun x hx => ?_⟩
    rcases List.mem_append.mp hx with z | z
    · exact ho x z
    · rw [List.mem_singleton.mp z]
      show ((row _ fun _ => (0 : Int)).map (Dl.i : Int → M1)).all Dl.ok = true
      exact List.all_eq_true.mpr fun y hy => by
        obtain ⟨k, _, rfl⟩ := List.mem_map.mp hy
        rfl
  clear ho hl T
  rintro _ ⟨T, rfl, ho⟩
  exact ⟨_, rfl, _, rfl, List.all_eq_true.mpr ho⟩
/-- what is drawn is equal to itself -/
theorem ints_ok (W : List (List Int)) : Dl.ok (Dl.l (W.map fun r => Dl.l (r.map Dl.i)) : M3) = true := by
  show (W.map fun r => (Dl.l (r.map Dl.i) : M2)).all Dl.ok = true
  refine List.all_eq_true.mpr fun x hx => ?_
  obtain ⟨r, _, rfl⟩ := List.mem_map.mp hx
  show (r.map (Dl.i : Int → M1)).all Dl.ok = true
  refine List.all_eq_true.mpr fun y hy => ?_
  obtain ⟨k, _, rfl⟩ := List.mem_map.mp hy
  rfl
theorem thing_ok (s : Scr) : Ev (mir__law_thing s) fun x => x = .d ∨ Dl.ok x = true := by
  unfold mir__law_thing
  simp only [pureB, bindA]
  refine Ev.run (Ev.bind (table_ok s 0 (by omega) (mx := 10) (by omega) (by omega)) ?_)
  rintro _ ⟨n, f, hn, rfl, hS⟩
  refine Ev.bind (cell_ok s 14 (by omega)) fun c1 _ => ?_
  refine Ev.bif (fun hc => ?_) fun hc => ?_
  · rw [lstM_ok (by simp)]
    simp only [okB]
    rw [lstM_ok (by simp)]
    simp only [okB]
    rw [lstM_ok (by simp)]
    simp only [okB]
    rw [lstM_ok (by simp)]
    simp only [okB]
    refine Ev.bind (cell_ok s 15 (by omega)) fun c2 _ => ?_
    have hw : 0 ≤ c2 % 8 ∧ c2 % 8 < 8 := ⟨Int.emod_nonneg _ (by omega), Int.emod_lt_of_pos _ (by omega)⟩
    generalize c2 % 8 = w at hw
    rw [atM_ok hw.1 (by simp; omega)]
    refine Ev.ok ⟨_, rfl, ?_⟩
    obtain ⟨k, rfl⟩ := Int.eq_ofNat_of_zero_le hw.1
    have : k < 8 := by omega
    match k, this with
    | 0, _ => exact .inr rfl
    | 1, _ => exact .inr rfl
    | 2, _ => exact .inr (by decide +kernel)
    | 3, _ => exact .inr (by decide +kernel)
    | 4, _ => exact .inr rfl
    | 5, _ => exact .inl rfl
    | 6, _ => exact .inr rfl
    | 7, _ => exact .inr rfl
  · refine Ev.bif (fun hc => ?_) fun hc => ?_
    · rw [range1_ok (by omega) (by omega)]
      simp only [okB]
      rw [comp_row (m := 11) (fun _ => row 11 fun _ => (0 : Int)) (by omega) fun k hk => comp_row (m := 11) (fun _ => (0 : Int)) (by omega) fun _ _ => rfl]
      exact ⟨_, rfl, _, rfl, .inr (ints_ok _)⟩
    · rw [tab_len]
      have e : bOr (pure (decide (c1 % 8 < 4))) (pure (decide ((n : Int) = 0))) = .ok (decide (c1 % 8 < 4) || decide ((n : Int) = 0)) := by cases decide (c1 % 8 < 4) <;> rfl
      rw [e]
      simp only [okB]
      refine Ev.bif (fun hc => ?_) fun hc => ?_
      · exact ⟨_, rfl, _, rfl, .inr (ints_ok _)⟩
      · rw [Bool.or_eq_false_iff] at hc
        have hc := of_decide_eq_false hc.2
        refine Ev.bind (cell_ok s 15 (by omega)) fun c2 _ => ?_
        refine Ev.bind (spoilt_ok (by omega) hn c2) fun x hx => ?_
        exact ⟨_, rfl, _, rfl, .inr hx⟩
theorem law_true (ns : List Int) (hl : ns.length ≤ 63) : mir_law ⟨ns⟩ = .ok true := by
  obtain ⟨x, e, hx⟩ := thing_ok ⟨ns⟩
  unfold mir_law
  simp only [pureB, bindA]
  rw [e]
  simp only [okB]
  have hself : eqDl x x = .ok true := by
    rcases hx with q | q
    · subst q; rfl
    · unfold eqDl
      split
      · rfl
      · rw [q, decide_eq_true rfl]; rfl
  have fin : ∃ a b : Bool, mir_is_table x = .ok a ∧ mir_is_web x = .ok b ∧ mir__law_due x true = .ok a ∧ mir__law_due x false = .ok b := by
    by_cases h : ∃ rs, x = .l rs ∧ rowsB rs = true
    · obtain ⟨rs, rfl, h⟩ := h
      obtain ⟨f, hf, e1⟩ := rows_tab h
      have hn : rs.length ≤ 10 := by
        unfold rowsB at h
        rw [Bool.and_eq_true] at h
        exact of_decide_eq_true h.1
      generalize rs.length = n at hf e1 hn
      subst e1
      exact ⟨_, _, isT_ok hn hf, isW_ok hn hf, by rw [due_ok hn hf, Bool.true_or, Bool.and_true], by rw [due_ok hn hf, Bool.false_or]⟩
    · have h' : ∀ rs, x = .l rs → rowsB rs = false := fun rs e => by
        cases q : rowsB rs with
        | false => rfl
        | true => exact absurd ⟨rs, e, q⟩ h
      exact ⟨_, _, isT_bad h', isW_bad h', due_bad h' _, due_bad h' _⟩
  obtain ⟨a, b, e1, e2, e3, e4⟩ := fin
  rw [e1, e2, e3, e4]
  simp only [okB]
  rw [lstM_ok (by simp)]
  simp only [okB]
  rw [hself]
  rw [show compM [a, b] (fun _ => pure true) (fun _ => (pure true : M Bool)) = .ok [true, true] from compM_map (fun _ => true) (by simp) fun _ _ => rfl]
  cases a <;> cases b <;> rfl
end Law

open PySem PySem.W PySem.Calls PyProof.Rows
set_option maxRecDepth 100000 in
set_option maxHeartbeats 0 in
theorem PySem.Challenge.cw_fourway_k23_what_is_a_table_holds : PySem.Challenge.rw_fourway_k23_what_is_a_table.Holds := by
  w_on; o_law
  refine HandSHeadRun.head_any (r := OpenLaw.row PySem.Challenge.rw_fourway_k23_what_is_a_table) (q := view (OpenLaw.row PySem.Challenge.rw_fourway_k23_what_is_a_table).prog [12]) (H := Law.hk) (ob := Law.ob) (M := 4000) (loose := (["MOST", "is_bit", "is_table", "is_web", "_law_cell", "_law_table", "_law_copy", "_law_spoilt", "_law_thing", "_law_due"] : List PySem.Str)) (d := HandSHeadRun.topDef (OpenLaw.row PySem.Challenge.rw_fourway_k23_what_is_a_table).prog 12) (kwd := []) Law.ob_eq
    (by kernel_rfl) (fun s => by kernel_rfl) Law.run (by kernel_rfl) (by kernel_rfl) (by kernel_rfl) (by rfl) (by first | assumption | decide +kernel) (by decide +kernel) ⟨rfl, rfl, rfl, rfl, rfl, by decide +kernel⟩ ?hw ?hc
  case hw => w_witness2
  case hc =>
    refine L2.walk_ofE (l := PySem.Challenge.rw_fourway_k23_what_is_a_table) (n := 63) (k := 4) (x := "_law_script") (CX := L2.CX0) rfl (by decide) (by kernel_rfl) ⟨rfl, by decide, by decide⟩ ?F (fun _ _ _ _ z => z)
    intro w mg fa h Y G hmg0
    obtain ⟨K, KX, c⟩ := Y
    have hmg : mg ("law" : PySem.Str) = some (.ref fa) := by
      have e : (HandSHeadRun.topDef (OpenLaw.row PySem.Challenge.rw_fourway_k23_what_is_a_table).prog 12).name = ("law" : PySem.Str) := by kernel_rfl
      rw [← e]
      exact hmg0
    obtain ⟨fd, hb, hF⟩ := Law.facts (P := (PySem.Challenge.rw_fourway_k23_what_is_a_table).prog) (w := w) KX G hmg c
    exact ⟨K, fd, Law.sp_law K, KX, hb, fun H a ns hl _ hS => Ty.law_start (Law.law_true ns hl) hS, hF⟩

